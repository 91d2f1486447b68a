import PyProof.Rows.All
import Wide.All
import OpenK.AllK
import Wide.FinOn
import HandS.ForMost
import HandS.TupAny
import HandS.ForExc
import HandS.Defaults
import HandS.IsInst
import HandS.Deep
import HandS.Style
import HandS.More
import HandS.Conv
import HandS.RaiseMore
import KE.KDictPairs
import KE.KDictZip
import HandS.Exc
import HandS.ExcOwn
import HandS.ExcIs
import HandS.CallSlots
import HandS.Comp
import HandS.Iter
import HandS.Zip
import HandS.Lambda
import HandS.HeadWalk
import PyProof.Draws
import PyProof.EnumMake
import HandS.TryOnly
import HandS.Words
import HandS.Small
import HandS.WordsExc
import HandS.Head0
import HandS.Head1
import HandS.Head2
import HandS.HeadEnd
import HandS.HeadHook1
import HandS.HeadHook2
import PyProof.ExcBaseAll.ValueError
import KE.KStateDown
import PySem.Challenge.RW_lateshelf_k57_fences_put_in
section
set_option Elab.async false
set_option linter.all false
/-! LS, part 1: data by value, a small language, its evaluator. Plain Lean: no heap of the machine in sight. -/
namespace LS
open PySem

/-- data: what stands still is by value; a thing that is still changed is `ref n`, the n-th of the store -/
inductive D where
  | non | bl (b : Bool) | int (i : Int) | str (s : Str)
  | tup (xs : List D) | lst (xs : List D) | dic (ks vs : List D)
  | ins (c : Nat) (fs : List Nat) (vs : List D) | exc (c : Nat) (fs : List Nat) (vs : List D)
  | scr (ns : List Int) | ref (n : Nat)

mutual
/-- no reference within -/
def D.nr : D → Bool
  | .non => true | .bl _ => true | .int _ => true | .str _ => true | .scr _ => true
  | .tup xs => D.nrs xs | .lst xs => D.nrs xs | .dic ks vs => D.nrs ks && D.nrs vs
  | .ins _ _ vs => D.nrs vs | .exc _ _ vs => D.nrs vs
  | .ref _ => false
def D.nrs : List D → Bool
  | [] => true
  | x :: xs => D.nr x && D.nrs xs
end

mutual
/-- may be compared: none, truths, numbers, texts, lists and tuples of such, nested at most k deep -/
def D.fit : Nat → D → Bool
  | _, .non => true | _, .bl _ => true | _, .int _ => true | _, .str _ => true
  | k + 1, .tup xs => D.fits k xs
  | k + 1, .lst xs => D.fits k xs
  | _, _ => false
def D.fits : Nat → List D → Bool
  | _, [] => true
  | k, x :: xs => D.fit k x && D.fits k xs
end

mutual
/-- == -/
def D.eqb : D → D → Bool
  | .non, .non => true
  | .bl a, .bl b => a == b
  | .bl a, .int j => (if a then 1 else 0) == j
  | .int i, .bl b => i == (if b then 1 else 0)
  | .int i, .int j => i == j
  | .str x, .str y => x == y
  | .lst xs, .lst ys => D.eqbs xs ys
  | .tup xs, .tup ys => D.eqbs xs ys
  | _, _ => false
def D.eqbs : List D → List D → Bool
  | [], [] => true
  | x :: xs, y :: ys => D.eqb x y && D.eqbs xs ys
  | _, _ => false
end

def D.isN : D → Bool | .non => true | _ => false
/-- what is changed -/
inductive Ent where
  | lst (xs : List D) | dic (ks vs : List D) | ins (c : Nat) (fs : List Nat) (vs : List D) | fz (d : D)
abbrev Sto := List Ent

/-- an evaluation's end: a value, an exception (its class, its fields), or none that is told -/
inductive Rs (α : Type) where
  | ok (a : α) (st : Sto) | ex (c : Nat) (fs : List Nat) (vs : List D) (st : Sto) | no

def Rs.bind {α β : Type} (r : Rs α) (k : α → Sto → Rs β) : Rs β := match r with
  | .ok a st => k a st
  | .ex c fs vs st => .ex c fs vs st
  | .no => .no
@[simp] theorem Rs.bind_ok {α β : Type} (a : α) (st : Sto) (k : α → Sto → Rs β) : (Rs.ok a st).bind k = k a st := rfl
@[simp] theorem Rs.bind_ex {α β : Type} (c fs vs) (st : Sto) (k : α → Sto → Rs β) : (Rs.ex c fs vs st : Rs α).bind k = .ex c fs vs st := rfl
@[simp] theorem Rs.bind_no {α β : Type} (k : α → Sto → Rs β) : (Rs.no : Rs α).bind k = .no := rfl

/-! ### names of things -/
inductive Bop where | add | sub | mul | fdiv | mod | pow deriving DecidableEq
inductive Cop where | eq | ne | lt | le | gt | ge | inn | nin deriving DecidableEq
inductive Ty where | int | bool | str | tuple | list | verr | cls (c : Nat) deriving DecidableEq
inductive Bf where | len | list | tuple | sorted | dict | all | any | sum | max | min | max2 | min2 | str deriving DecidableEq
inductive Bm where | append | extend | index | count | get | copy | join | pop | popAt deriving DecidableEq

/-- expressions. Behind a for: rng, enum, zip, rvd, or any other. nil: a slice's part that is left out -/
inductive Ex where
  | nil | k (d : D) | v (i : Nat)
  | bin (o : Bop) (a b : Ex) | cmp (o : Cop) (a b : Ex) | chain (o o' : Cop) (a b c : Ex)
  | isN (a : Ex) | notN (a : Ex) | and (a b : Ex) | or (a b : Ex) | not (a : Ex) | ite (t a b : Ex)
  | tup (es : List Ex) | lst (lv : Bool) (es : List Ex) | edic (lv : Bool)
  | fld (e : Ex) (f : Nat) | ix (a b : Ex) | sl (a lo hi : Ex) | rev (a : Ex)
  | call (f : Nat) (es : List Ex) | new (c : Nat) (lv : Bool) (es : List Ex) | mth (e : Ex) (m : Nat) (es : List Ex)
  | bf (b : Bf) (lv : Bool) (es : List Ex) | bm (b : Bm) (e : Ex) (es : List Ex) | isa (e : Ex) (cs : List Ty)
  | lc (lv : Bool) (elt : Ex) (own tg : List Nat) (tt : Bool) (it : Ex) (c : Ex)
  | rng (es : List Ex) | enum (e : Ex) | zip (a b : Ex) | rvd (e : Ex)

/-- statements. A target list tg with tt = false is one name, with tt = true a tuple of names -/
inductive Sx where
  | ex (e : Ex) | set (i : Nat) (e : Ex) | setT (is : List Nat) (e : Ex) | par (i j : Nat) (a b : Ex)
  | setF (o : Ex) (f : Nat) (e : Ex) | setI (o i e : Ex) | aug (i : Nat) (o : Bop) (e : Ex)
  | ret (e : Ex) | iff (t : Ex) (a b : List Sx) | for (tg : List Nat) (tt : Bool) (it : Ex) (b : List Sx) | whl (t : Ex) (b : List Sx)
  | brk | cnt | pass | rais (c : Nat) | tryK (b : Sx) (c : Nat) (i : Nat) (d : D) | tryE (b : Sx) (c : Nat) (n i : Nat)

inductive Fl where | nx (ρ : List (Option D)) | bk (ρ : List (Option D)) | ct (ρ : List (Option D)) | rt (d : D)

/-- a def: how many parameters, how many slots, whether its own things are let go at its end, its body -/
structure Fn where
  np : Nat
  ns : Nat
  tr : Bool
  body : List Sx
/-- a class: its methods, its __init__ -/
structure Cl where
  mth : List (Nat × Nat)
  ini : Option Nat
structure Tb where
  fns : List Fn
  cls : List Cl
  /-- class c is d or stands under it -/
  sub : Nat → Nat → Bool
  /-- the class stands under ValueError -/
  exc : Nat → Bool

/-! ### helpers -/
def SZ : Nat := 16777216
def view (st : Sto) : D → D
  | .ref n => match st[n]? with
    | some (.lst xs) => .lst xs
    | some (.dic ks vs) => .dic ks vs
    | some (.ins c fs vs) => .ins c fs vs
    | some (.fz d) => d
    | none => .ref n
  | d => d
def lkp : List Nat → List D → Nat → Option D
  | f :: fs, v :: vs, g => if f = g then some v else lkp fs vs g
  | _, _, _ => none
def putf : List Nat → List D → Nat → D → List Nat × List D
  | f :: fs, v :: vs, g, d => if f = g then (f :: fs, d :: vs) else ((f :: (putf fs vs g d).1), (v :: (putf fs vs g d).2))
  | _, _, g, d => ([g], [d])
def lkd : List D → List D → D → Option D
  | k :: ks, v :: vs, g => if D.eqb k g then some v else lkd ks vs g
  | _, _, _ => none
def repd : List D → List D → D → D → List D
  | k :: ks, v :: vs, g, d => (if D.eqb k g then d else v) :: repd ks vs g d
  | _, _, _, _ => []
def putd (ks vs : List D) (g d : D) : List D × List D := if (lkd ks vs g).isSome then (ks, repd ks vs g d) else (ks ++ [g], vs ++ [d])
/-- a key: a whole number or a text -/
def isKey : D → Bool | .int _ => true | .str _ => true | _ => false
/-- the place that an index means -/
def plc (n : Nat) (i : Int) : Option Nat := if 0 ≤ i then (if i < n then some i.toNat else none) else if -(n : Int) ≤ i then some (i + n).toNat else none
/-- an entry is written: what stood ahead of the base holds no references of behind -/
def liveE : Option Ent → Bool
  | some (.fz _) => false
  | some _ => true
  | none => false
def wr (b : Nat) (st : Sto) (n : Nat) (e : Ent) (ok : Bool) : Option Sto := if liveE st[n]? && (b ≤ n || ok) then some (st.set n e) else none
def mkL (lv : Bool) (xs : List D) (st : Sto) : Rs D := if lv then .ok (.ref st.length) (st ++ [.lst xs]) else .ok (.lst xs) st
def mkD (lv : Bool) (ks vs : List D) (st : Sto) : Rs D := if lv then .ok (.ref st.length) (st ++ [.dic ks vs]) else .ok (.dic ks vs) st
def pur {α : Type} (o : Option α) (st : Sto) : Rs α := match o with | some a => .ok a st | none => .no
@[simp] theorem pur_some {α : Type} (a : α) (st : Sto) : pur (some a) st = .ok a st := rfl
@[simp] theorem pur_none {α : Type} (st : Sto) : pur (none : Option α) st = .no := rfl

/-- texts, sign by sign -/
def sgn (c : Nat) : D := .str ⟨#[c]⟩
def signs (s : Str) : List D := s.cps.toList.map sgn

/-! ### operators -/
def bop (o : Bop) (a c : D) : Option D := match o, a, c with
  | .add, .int i, .int j => some (.int (i + j))
  | .add, .str x, .str y => if x.length + y.length ≤ SZ then some (.str (x ++ y)) else none
  | .add, .tup xs, .tup ys => if xs.length + ys.length ≤ SZ then some (.tup (xs ++ ys)) else none
  | .add, .lst xs, .lst ys => if xs.length + ys.length ≤ SZ then some (.lst (xs ++ ys)) else none
  | .sub, .int i, .int j => some (.int (i - j))
  | .mul, .int i, .int j => if -(2 ^ 64) < j ∧ j < 2 ^ 64 then some (.int (i * j)) else none
  | .fdiv, .int i, .int j => if 0 < j ∧ j < 1073741824 then some (.int (i / j)) else none
  | .mod, .int i, .int j => if 0 < j then some (.int (i % j)) else none
  | .pow, .int i, .int j => if 0 ≤ j ∧ j ≤ 1000 ∧ i.natAbs < 2 ^ 64 then some (.int (i ^ j.toNat)) else none
  | _, _, _ => none
/-- `v in w` -/
def isin (a c : D) : Option Bool := match c with
  | .lst xs => if D.fit 20 a && D.fits 20 xs then some (xs.any fun z => D.eqb z a) else none
  | .dic ks vs => if isKey a then some (lkd ks vs a).isSome else none
  | .str y => (match a with | .str x => (match x.cps.toList with | [c] => some (y.cps.toList.contains c) | _ => none) | _ => none)
  | _ => none
def cop (o : Cop) (a c : D) : Option Bool := match o with
  | .eq => if D.fit 20 a && D.fit 20 c then some (D.eqb a c) else none
  | .ne => if D.fit 20 a && D.fit 20 c then some (!D.eqb a c) else none
  | .lt => (match a, c with | .int i, .int j => some (decide (i < j)) | _, _ => none)
  | .le => (match a, c with | .int i, .int j => some (decide (i ≤ j)) | _, _ => none)
  | .gt => (match a, c with | .int i, .int j => some (decide (j < i)) | _, _ => none)
  | .ge => (match a, c with | .int i, .int j => some (decide (j ≤ i)) | _, _ => none)
  | .inn => isin a c
  | .nin => (isin a c).map fun b => !b
def index (a c : D) : Option D := match a, c with
  | .tup xs, .int i => (plc xs.length i).bind fun j => xs[j]?
  | .lst xs, .int i => (plc xs.length i).bind fun j => xs[j]?
  | .scr ns, .int i => (plc ns.length i).bind fun j => (ns[j]?).map .int
  | .str x, .int i => if x.length ≤ SZ then (plc x.cps.toList.length i).bind fun j => (x.cps.toList[j]?).map sgn else none
  | .dic ks vs, k => if isKey k then lkd ks vs k else none
  | _, _ => none
/-- a slice's part -/
def part : D → Option (Option Int) | .non => some none | .int i => some (some i) | _ => none
def six (n d : Nat) : Option Int → Nat | none => d | some v => if v < 0 then (v + (n : Int)).toNat else min v.toNat n
def cut {α : Type} (xs : List α) (lo hi : Option Int) : List α := (xs.drop (six xs.length 0 lo)).take (six xs.length xs.length hi - six xs.length 0 lo)
def slice (a : D) (lo hi : Option Int) : Option D := match a with
  | .tup xs => some (.tup (cut xs lo hi))
  | .lst xs => some (.lst (cut xs lo hi))
  | .str x => if x.length ≤ SZ then some (.str ⟨(cut x.cps.toList lo hi).toArray⟩) else none
  | _ => none

/-! ### built-ins -/
def intsOf : List D → Option (List Int)
  | [] => some []
  | .int i :: xs => (intsOf xs).map fun r => i :: r
  | _ => none
def boolsOf : List D → Option (List Bool)
  | [] => some []
  | .bl i :: xs => (boolsOf xs).map fun r => i :: r
  | _ => none
def strsOf : List D → Option (List Str)
  | [] => some []
  | .str i :: xs => (strsOf xs).map fun r => i :: r
  | _ => none
def prs : List D → Option (List D × List D)
  | [] => some ([], [])
  | .tup [k, v] :: xs => if isKey k then (prs xs).map fun r => (k :: r.1, v :: r.2) else none
  | _ => none
def merge : List D × List D → List D → List D → List D × List D
  | acc, k :: ks, v :: vs => merge (putd acc.1 acc.2 k v) ks vs
  | acc, _, _ => acc
def maxI : List Int → Option Int
  | [] => none
  | [x] => some x
  | x :: xs => (maxI xs).map fun m => max x m
def minI : List Int → Option Int
  | [] => none
  | [x] => some x
  | x :: xs => (minI xs).map fun m => min x m
/-- texts by their signs -/
def insS (x : Str) : List Str → List Str
  | [] => [x]
  | y :: ys => if y.cps.toList < x.cps.toList then y :: insS x ys else x :: y :: ys
def sortS : List Str → List Str
  | [] => []
  | x :: xs => insS x (sortS xs)
def joinS (sep : Str) : List Str → Str
  | [] => ⟨#[]⟩
  | [x] => x
  | x :: xs => x ++ (sep ++ joinS sep xs)
def bfn (b : Bf) (lv : Bool) (ds : List D) (st : Sto) : Rs D := match b, ds with
  | .len, [.str x] => if x.length ≤ SZ then .ok (.int x.length) st else .no
  | .len, [.tup xs] => .ok (.int xs.length) st
  | .len, [.lst xs] => .ok (.int xs.length) st
  | .len, [.scr xs] => .ok (.int xs.length) st
  | .len, [.dic ks vs] => .ok (.int ks.length) st
  | .list, [.lst xs] => mkL lv xs st
  | .list, [.tup xs] => mkL lv xs st
  | .tuple, [.lst xs] => .ok (.tup xs) st
  | .tuple, [.tup xs] => .ok (.tup xs) st
  | .sorted, [.dic ks vs] => (match strsOf ks with | some ss => if ss.length < 64 then mkL lv ((sortS ss).map .str) st else .no | none => .no)
  | .dict, [.tup xs] => (match prs xs with | some (ks, vs) => mkD lv (merge ([], []) ks vs).1 (merge ([], []) ks vs).2 st | none => .no)
  | .dict, [.lst xs] => (match prs xs with | some (ks, vs) => mkD lv (merge ([], []) ks vs).1 (merge ([], []) ks vs).2 st | none => .no)
  | .all, [.lst xs] => pur ((boolsOf xs).map fun bs => .bl (bs.all id)) st
  | .any, [.lst xs] => pur ((boolsOf xs).map fun bs => .bl (bs.any id)) st
  | .sum, [.lst xs] => pur ((intsOf xs).map fun bs => .int bs.sum) st
  | .max, [.lst xs] => pur (((intsOf xs).bind maxI).map .int) st
  | .min, [.lst xs] => pur (((intsOf xs).bind minI).map .int) st
  | .max2, [.int i, .int j] => .ok (.int (max i j)) st
  | .min2, [.int i, .int j] => .ok (.int (min i j)) st
  | .str, [.int i] => if i.natAbs < 10 ^ 100 then .ok (.str (toString i)) st else .no
  | .str, [.str x] => .ok (.str x) st
  | _, _ => .no
/-- methods of built-in types; o: the thing itself (perhaps a reference), a: what it is -/
def bmt (b : Bm) (base : Nat) (o a : D) (ds : List D) (st : Sto) : Rs D := match b, o, a, ds with
  | .append, .ref n, .lst xs, [d] => if xs.length < SZ then (pur (wr base st n (.lst (xs ++ [d])) (D.nr d)) st).bind fun s _ => .ok .non s else .no
  | .index, _, .lst xs, [d] => if D.fit 20 d && D.fits 20 xs then pur ((xs.findIdx? fun z => D.eqb z d).map fun j => .int (j : Nat)) st else .no
  | .count, _, .lst xs, [.bl d] => (match boolsOf xs with | some bs => .ok (.int ((bs.filter fun z => z == d).length : Nat)) st | none => .no)
  | .join, _, .str x, [.lst xs] => (match strsOf xs with | some ss => if (ss.map (·.length)).sum + ss.length * x.length ≤ SZ then .ok (.str (joinS x ss)) st else .no | none => .no)
  | _, _, _, _ => .no

/-- of which built-in type the thing is whose method is called -/
inductive BT where | list | str deriving DecidableEq
def recv (b : Bm) (a : D) : Option BT := match b, a with
  | .append, .lst _ => some .list | .index, .lst _ => some .list | .count, .lst _ => some .list | .join, .str _ => some .str
  | _, _ => none
/-- the class c is a plain one -/
def plain (T : Tb) (c : Nat) : Bool := (T.cls[c]?).isSome && !T.exc c
/-- e may be raised, c be caught -/
def excB (T : Tb) (e c : Nat) : Bool := (T.cls[e]?).isSome && T.exc e && ((T.cls[c]?).isSome && T.exc c)
/-- what kind of thing it is -/
inductive Kd where | non | bl | int | str | tup | lst | own (c : Nat)
def kdOf (T : Tb) : D → Option Kd
  | .non => some .non | .bl _ => some .bl | .int _ => some .int | .str _ => some .str | .tup _ => some .tup | .lst _ => some .lst
  | .ins c _ _ => if plain T c then some (.own c) else none
  | .exc c _ _ => if (T.cls[c]?).isSome && T.exc c then some (.own c) else none
  | _ => none
def kdIs (T : Tb) (k : Kd) : Ty → Option Bool
  | .int => some (match k with | .bl => true | .int => true | _ => false)
  | .bool => some (match k with | .bl => true | _ => false)
  | .str => some (match k with | .str => true | _ => false)
  | .tuple => some (match k with | .tup => true | _ => false)
  | .list => some (match k with | .lst => true | _ => false)
  | .verr => match k with | .own c => if T.exc c then some true else none | _ => none
  | .cls e => if (T.cls[e]?).isSome then some (match k with | .own c => T.sub c e | _ => false) else none
def isAny (T : Tb) (k : Kd) : List Ty → Option Bool
  | [] => some false
  | t :: ts => (kdIs T k t).bind fun b => if b then some true else isAny T k ts

/-! ### what a for walks -/
def rngL (lo : Int) (n : Nat) : List D := (List.range n).map fun i => .int (lo + (i : Nat))
def inB (i : Int) : Bool := decide (-(2 ^ 62) ≤ i) && decide (i < 2 ^ 62)
def enumL : Nat → List D → List D
  | _, [] => []
  | i, x :: xs => .tup [.int (i : Nat), x] :: enumL (i + 1) xs
def zipL : List D → List D → List D
  | x :: xs, y :: ys => .tup [x, y] :: zipL xs ys
  | _, _ => []
def seqOf : D → Option (List D)
  | .lst xs => some xs
  | .tup xs => some xs
  | _ => none
def lstOf : D → Option (List D)
  | .lst xs => some xs
  | _ => none
/-- by value alone: what is still changed is not walked -/
def still (st : Sto) : D → D
  | .ref n => match st[n]? with | some (.fz d) => d | _ => .ref n
  | d => d
def walkOf : D → Option (List D)
  | .lst xs => some xs
  | .tup xs => some xs
  | .str x => some (signs x)
  | _ => none
def rngOf : List D → Option (List D)
  | [.int j] => if inB j then some (rngL 0 j.toNat) else none
  | [.int i, .int j] => if inB i && inB j then some (rngL i (j - i).toNat) else none
  | _ => none

/-! ### slots -/
abbrev Env := List (Option D)
def wipeE (ρ : Env) : List Nat → Env
  | [] => ρ
  | i :: is => (wipeE ρ is).set i none
/-- targets are given their values -/
def setN (ρ : Env) : List Nat → List D → Env
  | i :: is, d :: ds => setN (ρ.set i (some d)) is ds
  | _, _ => ρ
def target (ρ : Env) (tg : List Nat) (tt : Bool) (d : D) : Option Env := if tt then (match d with
    | .tup ds => if ds.length = tg.length then some (setN ρ tg ds) else none
    | _ => none) else (match tg with | [i] => some (ρ.set i (some d)) | _ => none)
def lcL (f : D → Sto → Rs (Option D)) : List D → List D → Sto → Rs (List D)
  | [], acc, st => .ok acc st
  | x :: xs, acc, st => (f x st).bind fun o s => match o with
    | none => lcL f xs acc s
    | some d => if acc.length < SZ then lcL f xs (acc ++ [d]) s else .no
/-- an exception isn't carried out of a comprehension -/
def Rs.noex {α : Type} : Rs α → Rs α
  | .ok a st => .ok a st
  | _ => .no
@[simp] theorem Rs.noex_ok {α : Type} (a : α) (st : Sto) : (Rs.ok a st).noex = .ok a st := rfl
def asB : D → Option Bool | .bl b => some b | _ => none
@[simp] theorem asB_bl (b : Bool) : asB (.bl b) = some b := rfl

/-! ### freezing: what stood in the store is by value from now on -/
def freeze (b : Nat) : Nat → D → Sto → Rs D
  | k + 1, .ref n, st => (match st[n]? with
    | some (.fz d) => .ok d st
    | some (.lst xs) => (frz1 k xs st).bind fun ys s => (match wr b s n (.fz (.lst ys)) (D.nrs ys) with | some s' => .ok (.lst ys) s' | none => .no)
    | some (.dic ks vs) => (frz1 k vs st).bind fun ys s => (match wr b s n (.fz (.dic ks ys)) (D.nrs ks && D.nrs ys) with | some s' => .ok (.dic ks ys) s' | none => .no)
    | some (.ins c fs vs) => (frz1 k vs st).bind fun ys s => (match wr b s n (.fz (.ins c fs ys)) (D.nrs ys) with | some s' => .ok (.ins c fs ys) s' | none => .no)
    | none => .no)
  | 0, .ref n, st => .no
  | _, d, st => .ok d st
where frz1 (k : Nat) : List D → Sto → Rs (List D)
  | [], st => .ok [] st
  | x :: xs, st => (freeze b k x st).bind fun y s => (frz1 k xs s).bind fun ys s' => .ok (y :: ys) s'


/-- it has a value -/
def isVal : Ex → Bool | .nil => false | .rng _ => false | .enum _ => false | .zip _ _ => false | .rvd _ => false | _ => true
/-! ### the evaluator. C: the calls of defs (f, arguments); b: the base: what stood in the store ahead of this def's own things -/
section
variable (T : Tb) (C : Nat → List D → Sto → Rs D) (b : Nat)
/-- what a def that lets its own things go has made -/
def isTr (f : Nat) : Bool := match T.fns[f]? with | some fn => fn.tr | none => false
/-- a class is called: its fields are set by its __init__. A still one (lv = false) is taken out of the store again -/
def mkEnd (f : Nat) (lv : Bool) (n0 : Nat) (s : Sto) : Rs D := if lv then .ok (.ref n0) s else (match isTr T f, s[n0]? with
      | true, some (.ins c' fs vs) => if D.nrs vs then .ok (.ins c' fs vs) (s.take n0) else .no
      | _, _ => .no)
def mkNew (c : Nat) (lv : Bool) (ds : List D) (st : Sto) : Rs D := match T.cls[c]? with
  | some cl => (match cl.ini with
    | some f => (C f (.ref st.length :: ds) (st ++ [.ins c [] []])).bind fun r s => if D.isN r then mkEnd T f lv st.length s else .no
    | none => if ds.isEmpty then (if lv then .ok (.ref st.length) (st ++ [.ins c [] []]) else .ok (.ins c [] []) st) else .no)
  | none => .no
def fldOf (a : D) (f : Nat) : Option D := match a with
  | .ins c fs vs => if plain T c then lkp fs vs f else none
  | _ => none
def mthOf (a : D) (m : Nat) : Option Nat := match a with
  | .ins c _ _ => if plain T c then (T.cls[c]?).bind fun cl => cl.mth.lookup m else none
  | _ => none
mutual
def ev (ρ : Env) : Ex → Sto → Rs D
  | .k d, st => .ok d st
  | .v i, st => (match ρ[i]? with | some (some d) => .ok d st | _ => .no)
  | .bin o x y, st => (ev ρ x st).bind fun a s => (ev ρ y s).bind fun c s' => pur (bop o (view s' a) (view s' c)) s'
  | .cmp o x y, st => (ev ρ x st).bind fun a s => (ev ρ y s).bind fun c s' => pur ((cop o (view s' a) (view s' c)).map .bl) s'
  | .chain o o' x y z, st => (ev ρ x st).bind fun a s => (ev ρ y s).bind fun c s' => (match cop o (view s' a) (view s' c) with
      | some true => (ev ρ z s').bind fun d s2 => pur ((cop o' (view s2 c) (view s2 d)).map .bl) s2
      | some false => .ok (.bl false) s'
      | none => .no)
  | .isN x, st => (ev ρ x st).bind fun a s => .ok (.bl (D.isN a)) s
  | .notN x, st => (ev ρ x st).bind fun a s => .ok (.bl (!D.isN a)) s
  | .and x y, st => (ev ρ x st).bind fun a s => (match a with
      | .bl true => (ev ρ y s).bind fun c s' => (match c with | .bl _ => .ok c s' | _ => .no)
      | .bl false => .ok (.bl false) s
      | _ => .no)
  | .or x y, st => (ev ρ x st).bind fun a s => (match a with
      | .bl true => .ok (.bl true) s
      | .bl false => (ev ρ y s).bind fun c s' => (match c with | .bl _ => .ok c s' | _ => .no)
      | _ => .no)
  | .not x, st => (ev ρ x st).bind fun a s => (match a with | .bl k => .ok (.bl (!k)) s | _ => .no)
  | .ite t x y, st => (ev ρ t st).bind fun a s => (match a with
      | .bl true => ev ρ x s
      | .bl false => ev ρ y s
      | _ => .no)
  | .tup es, st => (evs ρ es st).bind fun ds s => if ds.length ≤ SZ then .ok (.tup ds) s else .no
  | .lst lv es, st => (evs ρ es st).bind fun ds s => if ds.length ≤ SZ then mkL lv ds s else .no
  | .edic lv, st => mkD lv [] [] st
  | .fld e f, st => (ev ρ e st).bind fun a s => pur (fldOf T (view s a) f) s
  | .ix x y, st => (ev ρ x st).bind fun a s => (ev ρ y s).bind fun c s' => pur (index (view s' a) c) s'
  | .sl x lo hi, st => (ev ρ x st).bind fun a s => (evo ρ lo s).bind fun l s1 => (evo ρ hi s1).bind fun h s2 => pur (slice (view s2 a) l h) s2
  | .rev x, st => (ev ρ x st).bind fun a s => (match view s a with | .lst xs => .ok (.lst xs.reverse) s | _ => .no)
  | .call f es, st => (evs ρ es st).bind fun ds s => C f ds s
  | .new c lv es, st => (evs ρ es st).bind fun ds s => mkNew T C c lv ds s
  | .mth e m es, st => (ev ρ e st).bind fun a s => (match mthOf T (view s a) m with
      | some f => (evs ρ es s).bind fun ds s' => C f (a :: ds) s'
      | none => .no)
  | .bf k lv es, st => (evs ρ es st).bind fun ds s => bfn k lv (ds.map (view s)) s
  | .bm k e es, st => (ev ρ e st).bind fun a s => (match recv k (view s a) with
      | some _ => (evs ρ es s).bind fun ds s' => bmt k b a (view s' a) ds s'
      | none => .no)
  | .isa e ts, st => (ev ρ e st).bind fun a s => pur (((kdOf T (view s a)).bind fun k => isAny T k ts).map .bl) s
  | .lc lv elt own tg tt it c, st => (wk ρ it st).bind fun ds s => (lcL (fun d s1 => match target (wipeE ρ own) tg tt d with
      | some ρ' => (ev ρ' c s1).noex.bind fun k s2 => (match k with
        | .bl true => (ev ρ' elt s2).noex.bind fun r s3 => .ok (some r) s3
        | .bl false => .ok none s2
        | _ => .no)
      | none => .no) ds [] s).bind fun rs s' => mkL lv rs s'
  | _, _ => .no
def evs (ρ : Env) : List Ex → Sto → Rs (List D)
  | [], st => .ok [] st
  | e :: es, st => (ev ρ e st).bind fun d s => (evs ρ es s).bind fun ds s' => .ok (d :: ds) s'
/-- a slice's part -/
def evo (ρ : Env) : Ex → Sto → Rs (Option Int)
  | .nil, st => .ok none st
  | e, st => (ev ρ e st).bind fun d s => (match d with | .int i => .ok (some i) s | _ => .no)
/-- what is walked -/
def wk (ρ : Env) : Ex → Sto → Rs (List D)
  | .rng es, st => (evs ρ es st).bind fun ds s => pur (rngOf ds) s
  | .enum e, st => (ev ρ e st).bind fun a s => pur ((seqOf (still s a)).map (enumL 0)) s
  | .zip x y, st => (ev ρ x st).bind fun a s => (ev ρ y s).bind fun c s' => pur ((lstOf (still s' a)).bind fun xs => (lstOf (still s' c)).map fun ys => zipL xs ys) s'
  | .rvd e, st => (ev ρ e st).bind fun a s => pur ((lstOf (still s a)).map fun xs => xs.reverse) s
  | e, st => (ev ρ e st).bind fun a s => pur (walkOf (still s a)) s
end
/-- a for's turns -/
def forL (f : D → Env → Sto → Rs Fl) : List D → Env → Sto → Rs Fl
  | [], ρ, st => .ok (.nx ρ) st
  | x :: xs, ρ, st => (f x ρ st).bind fun r s => (match r with
    | .nx ρ' => forL f xs ρ' s
    | .ct ρ' => forL f xs ρ' s
    | .bk ρ' => .ok (.nx ρ') s
    | .rt d => .ok (.rt d) s)
/-- a while's turns, at most so many -/
def whL (t : Env → Sto → Rs D) (f : Env → Sto → Rs Fl) : Nat → Env → Sto → Rs Fl
  | 0, _, _ => .no
  | w + 1, ρ, st => (t ρ st).bind fun a s => (match a with
    | .bl true => (f ρ s).bind fun r s' => (match r with
      | .nx ρ' => whL t f w ρ' s'
      | .ct ρ' => whL t f w ρ' s'
      | .bk ρ' => .ok (.nx ρ') s'
      | .rt d => .ok (.rt d) s')
    | .bl false => .ok (.nx ρ) s
    | _ => .no)
def stI (o i d : D) (st : Sto) : Option Sto := match o, view st o with
  | .ref n, .lst xs => (match i with
    | .int k => (plc xs.length k).bind fun j => wr b st n (.lst (xs.set j d)) (D.nr d)
    | _ => none)
  | .ref n, .dic ks vs => if isKey i && decide (ks.length < SZ) then wr b st n (.dic (putd ks vs i d).1 (putd ks vs i d).2) (D.nr i && D.nr d) else none
  | _, _ => none
def stF (o : D) (f : Nat) (d : D) (st : Sto) : Option Sto := match o, view st o with
  | .ref n, .ins c fs vs => if fs.length < 900 && plain T c then wr b st n (.ins c (putf fs vs f d).1 (putf fs vs f d).2) (D.nr d) else none
  | _, _ => none
mutual
def xs (w : Nat) : Sx → Env → Sto → Rs Fl
  | .ex e, ρ, st => (ev T C b ρ e st).bind fun _ s => .ok (.nx ρ) s
  | .set i e, ρ, st => (ev T C b ρ e st).bind fun d s => .ok (.nx (ρ.set i (some d))) s
  | .setT is e, ρ, st => (ev T C b ρ e st).bind fun d s => pur ((target ρ is true (view s d)).map .nx) s
  | .par i j x y, ρ, st => (ev T C b ρ x st).bind fun d s => (ev T C b ρ y s).bind fun d' s' => .ok (.nx ((ρ.set i (some d)).set j (some d'))) s'
  | .setF o f e, ρ, st => (ev T C b ρ e st).bind fun d s => (ev T C b ρ o s).bind fun a s1 => pur (stF T b a f d s1) s1 |>.bind fun s2 _ => .ok (.nx ρ) s2
  | .setI o i e, ρ, st => (ev T C b ρ e st).bind fun d s => (ev T C b ρ o s).bind fun a s1 => (ev T C b ρ i s1).bind fun k s2 => pur (stI b a k d s2) s2 |>.bind fun s3 _ => .ok (.nx ρ) s3
  | .aug i o e, ρ, st => (match ρ[i]? with
      | some (some a) => (ev T C b ρ e st).bind fun d s => (match o, a, d with
        | .add, .int _, .int _ => pur ((bop o a d).map fun r => .nx (ρ.set i (some r))) s
        | _, _, _ => .no)
      | _ => .no)
  | .ret e, ρ, st => (ev T C b ρ e st).bind fun d s => (freeze b 6 d s).bind fun d' s' => .ok (.rt d') s'
  | .iff t x y, ρ, st => (ev T C b ρ t st).bind fun a s => (match a with
      | .bl true => xss w x ρ s
      | .bl false => xss w y ρ s
      | _ => .no)
  | .for tg tt it bd, ρ, st => (wk T C b ρ it st).bind fun ds s => forL (fun d ρ1 s1 => match target ρ1 tg tt d with
      | some ρ2 => xss w bd ρ2 s1
      | none => .no) ds ρ s
  | .whl t bd, ρ, st => whL (fun ρ1 s1 => ev T C b ρ1 t s1) (fun ρ1 s1 => xss w bd ρ1 s1) w ρ st
  | .brk, ρ, st => .ok (.bk ρ) st
  | .cnt, ρ, st => .ok (.ct ρ) st
  | .pass, ρ, st => .ok (.nx ρ) st
  | .rais c, ρ, st => .ex c [] [] st
  | .tryK bd c i d, ρ, st => (match xs w bd ρ st with
      | .ex e fs vs s => if excB T e c then (if T.sub e c then .ok (.nx (ρ.set i (some d))) s else .ex e fs vs s) else .no
      | r => r)
  | .tryE bd c n i, ρ, st => (match xs w bd ρ st with
      | .ex e fs vs s => if excB T e c then (if T.sub e c then .ok (.nx ((ρ.set i (some (.exc e fs vs))).set n none)) s else .ex e fs vs s) else .no
      | r => r)
def xss (w : Nat) : List Sx → Env → Sto → Rs Fl
  | [], ρ, st => .ok (.nx ρ) st
  | x :: r, ρ, st => (xs w x ρ st).bind fun f s => (match f with
    | .nx ρ' => xss w r ρ' s
    | g => .ok g s)
end
end
/-- a def's end: its own things are let go -/
def ending (tr : Bool) (n0 : Nat) (r : Rs Fl) : Rs D := match r with
  | .ok (.nx _) s => if tr then .ok .non (s.take n0) else .ok .non s
  | .ok (.rt d) s => if tr then (if D.nr d then .ok d (s.take n0) else .no) else .ok d s
  | .ex c fs vs s => if D.nrs vs then (if tr then .ex c fs vs (s.take n0) else .ex c fs vs s) else .no
  | _ => .no
/-- a call: at most n deep, whiles of at most w turns -/
def cal (T : Tb) (w : Nat) : Nat → Nat → Nat → List D → Sto → Rs D
  | 0, _, _, _, _ => .no
  | n + 1, b, f, ds, st => match T.fns[f]? with
    | some fn => if ds.length = fn.np then ending fn.tr st.length (xss T (cal T w n (if fn.tr then st.length else b)) (if fn.tr then st.length else b) w fn.body (ds.map some ++ List.replicate (fn.ns - fn.np) none) st) else .no
    | none => .no

end LS
end
section
set_option Elab.async false
set_option linter.all false
/-! LS, part 2: from the row's syntax into the small language. -/
namespace LS
open PySem L2

/-- what the compiler knows of a def: its slots' names, its scope; the module: defs, classes, constants; fields and methods by number; which names' and fields' new things are still changed -/
structure Cn where
  N : List Str
  sc : Scope
  fn : Str → Option (Nat × Nat)
  cl : Str → Option Nat
  kd : Nat → Nat
  gl : Str → Option D
  fld : Str → Option Nat
  mth : Str → Option Nat
  lv : List Str

def slot (N : List Str) (x : Str) : Option Nat := N.findIdx? fun y => y == x
def visB (sc : Scope) (x : Str) : Bool := match sc.names.lookup x with
  | some .local => true | some .cell => true | some .free => true | _ => false
def locB (sc : Scope) (x : Str) : Bool := match sc.names.lookup x with
  | some .local => true | some .cell => true | _ => false
def glB (sc : Scope) (x : Str) : Bool := match sc.names.lookup x with
  | some .globalImplicit => true | _ => false
def okName (x : Str) : Bool := !(x == ("__debug__" : Str)) && !(x == ("__classdict__" : Str)) && !(x == ("__name__" : Str))
def mapO {α β : Type} (f : α → Option β) : List α → Option (List β)
  | [] => some []
  | x :: r => (f x).bind fun y => (mapO f r).map fun ys => y :: ys
def when {α : Type} (c : Bool) (o : Option α) : Option α := if c then o else none

def bopOf : Operator → Option Bop
  | .Add => some .add | .Sub => some .sub | .Mult => some .mul | .FloorDiv => some .fdiv | .Mod => some .mod | .Pow => some .pow | _ => none
def copOf : CmpOp → Option Cop
  | .Eq => some .eq | .NotEq => some .ne | .Lt => some .lt | .LtE => some .le | .Gt => some .gt | .GtE => some .ge | .In => some .inn | .NotIn => some .nin | _ => none
def isNone : Expr → Bool | .Constant .none _ _ => true | _ => false
def isSet : Expr → Bool | .Set _ _ _ => true | _ => false
def isStar : Expr → Bool | .Starred _ _ => true | _ => false
def isCall0 : Expr → Bool | .Call _ [] [] _ => true | _ => false
def isSlice : Expr → Bool | .Slice _ _ _ _ => true | _ => false
def isLc : Expr → Bool | .ListComp _ _ _ _ => true | .SetComp _ _ _ _ => true | .DictComp _ _ _ _ _ => true | _ => false
def isIf : Expr → Bool | .IfExp _ _ _ _ => true | _ => false
def minus1 : Expr → Bool | .UnaryOp .USub (.Constant (.int i) _ _) _ => i == 1 | _ => false
def tyOf (n : Cn) (x : Str) : Option Ty :=
  if x == ("int" : Str) then some .int else if x == ("bool" : Str) then some .bool else if x == ("str" : Str) then some .str
  else if x == ("tuple" : Str) then some .tuple else if x == ("list" : Str) then some .list else if x == ("ValueError" : Str) then some .verr
  else (n.cl x).map .cls
def tysOf (n : Cn) : Expr → Option (List Ty)
  | .Name x _ => when (glB n.sc x && okName x) ((tyOf n x).map fun t => [t])
  | .Tuple es _ _ => when (Nat.ble es.length 100) (mapO (fun (e : Expr) => match e with
    | .Name x _ => when (glB n.sc x && okName x) (tyOf n x)
    | _ => none) es)
  | _ => none
def bfOf (x : Str) (k : Nat) : Option Bf :=
  if x == ("len" : Str) && k == 1 then some .len else if x == ("list" : Str) && k == 1 then some .list else if x == ("tuple" : Str) && k == 1 then some .tuple
  else if x == ("sorted" : Str) && k == 1 then some .sorted else if x == ("dict" : Str) && k == 1 then some .dict else if x == ("all" : Str) && k == 1 then some .all
  else if x == ("any" : Str) && k == 1 then some .any else if x == ("sum" : Str) && k == 1 then some .sum else if x == ("max" : Str) && k == 1 then some .max
  else if x == ("min" : Str) && k == 1 then some .min else if x == ("max" : Str) && k == 2 then some .max2 else if x == ("min" : Str) && k == 2 then some .min2
  else if x == ("str" : Str) && k == 1 then some .str else none
def bmOf (x : Str) (k : Nat) : Option Bm :=
  if x == ("append" : Str) && k == 1 then some .append else if x == ("extend" : Str) && k == 1 then some .extend else if x == ("index" : Str) && k == 1 then some .index
  else if x == ("count" : Str) && k == 1 then some .count else if x == ("join" : Str) && k == 1 then some .join else none
/-- a target: one name, or a tuple of names; in the block's scope sc', the written scope being scope (own = true), or in the def's own -/
def tgName (n : Cn) (x : Str) : Option Nat := when (locB n.sc x && okName x) (slot n.N x)
def tgOf (n : Cn) : Expr → Option (List Nat × Bool)
  | .Name x _ => (tgName n x).map fun i => ([i], false)
  | .Tuple es _ _ => (mapO (fun (e : Expr) => match e with
    | .Name x _ => tgName n x
    | _ => none) es).map fun is => (is, true)
  | _ => none
/-- a comprehension's own names with their slots -/
def ownOf (N : List Str) (scope : Scope) : List (Str × Nat) :=
  scope.names.filterMap fun y => match y.2 with
    | .local => (slot N y.1).map fun i => (y.1, i)
    | .cell => (slot N y.1).map fun i => (y.1, i)
    | _ => none
/-- the names of a block's target may be stored: cells of the block, or locals -/
def tgOwn (scope : Scope) (sc' : Scope) : Expr → Bool
  | .Name x _ => (match scope.names.lookup x with | some .cell => true | _ => false) || (match sc'.names.lookup x with | some .local => true | _ => false)
  | .Tuple es _ _ => es.all fun (e : Expr) => match e with
    | .Name x _ => (match scope.names.lookup x with | some .cell => true | _ => false) || (match sc'.names.lookup x with | some .local => true | _ => false)
    | _ => false
  | _ => false
def isTup : Expr → Bool | .Tuple _ _ _ => true | _ => false
def liveT (n : Cn) : Expr → Bool
  | .Name x _ => n.lv.contains x
  | .Attribute _ f _ => n.lv.contains f
  | _ => false

mutual
/-- an expression; lv: a new thing that it makes is still changed -/
def cE : Nat → Cn → Bool → Expr → Option Ex
  | 0, _, _, _ => none
  | k + 1, n, lv, e => match e with
    | .Constant c _ _ => (match c with
      | .none => some (Ex.k .non) | .bool b => some (Ex.k (.bl b)) | .int i => some (Ex.k (.int i)) | .str s => when (s.cps.all (· < 0x110000)) (some (Ex.k (.str s))) | _ => none)
    | .Name x _ => if visB n.sc x then when (okName x) ((slot n.N x).map Ex.v) else when (glB n.sc x && okName x) ((n.gl x).map Ex.k)
    | .BinOp a o b _ => (bopOf o).bind fun o => (cE k n false a).bind fun a => (cE k n false b).map fun b => .bin o a b
    | .UnaryOp .Not a _ => when (!isIf a) ((cE k n false a).map .not)
    | .UnaryOp .USub (.Constant (.int i) _ _) _ => some (.k (.int (-i)))
    | .BoolOp o [a, b] _ => when (!isIf a && !isIf b) ((cE k n false a).bind fun a => (cE k n false b).map fun b => (match o with | .And => .and a b | .Or => .or a b))
    | .BoolOp o (a :: b :: c :: r) p => when (!isIf a) ((cE k n false a).bind fun a => (cE k n false (.BoolOp o (b :: c :: r) p)).map fun b => (match o with | .And => .and a b | .Or => .or a b))
    | .Compare a [.Is] [c] _ => when (isNone c) ((cE k n false a).map .isN)
    | .Compare a [.IsNot] [c] _ => when (isNone c) ((cE k n false a).map .notN)
    | .Compare a [o] [b] _ => when (!isSet b) ((copOf o).bind fun o => (cE k n false a).bind fun a => (cE k n false b).map fun b => .cmp o a b)
    | .Compare a [o, o'] [b, c] _ => when (!isSet c) ((copOf o).bind fun o => (copOf o').bind fun o' => (cE k n false a).bind fun a => (cE k n false b).bind fun b => (cE k n false c).map fun c => .chain o o' a b c)
    | .IfExp t a b _ => when (!isIf t) ((cE k n false t).bind fun t => (cE k n lv a).bind fun a => (cE k n lv b).map fun b => .ite t a b)
    | .Tuple es _ _ => (cEs k n false es).map .tup
    | .List es _ => (cEs k n lv es).map fun es => .lst lv es
    | .Dict [] [] _ => some (.edic lv)
    | .Attribute o f _ => when (!isCall0 o) ((n.fld f).bind fun f => (cE k n false o).map fun o => .fld o f)
    | .Subscript a (.Slice lo hi none _) _ => (cE k n false a).bind fun a => (cO k n lo).bind fun lo => (cO k n hi).map fun hi => .sl a lo hi
    | .Subscript a (.Slice none none (some s) _) _ => when (minus1 s) ((cE k n false a).map .rev)
    | .Subscript a i _ => when (!isSlice i) ((cE k n false a).bind fun a => (cE k n false i).map fun i => .ix a i)
    | .Call (.Name f _) as [] _ => when (glB n.sc f && okName f && as.all fun a => !isStar a) (match n.fn f with
      | some (i, m) => when (as.length == m) ((cEs k n false as).map fun as => .call i as)
      | none => (match n.cl f with
        | some c => when (n.kd c == 0) ((cEs k n false as).map fun as => .new c lv as)
        | none => if f == ("isinstance" : Str) then (match as with
            | [a, t] => (tysOf n t).bind fun ts => (cE k n false a).map fun a => .isa a ts
            | _ => none)
          else (bfOf f as.length).bind fun b => (cEs k n false as).map fun as => .bf b lv as))
    | .Call (.Attribute o m ap) as [] p => when (ap.endLine == p.line && !isCall0 o && (as.all fun a => !isStar a) && Nat.blt as.length 20) (match bmOf m as.length with
      | some b => (cE k n false o).bind fun o => (cEs k n false as).map fun as => .bm b o as
      | none => (n.mth m).bind fun m => (cE k n false o).bind fun o => (cEs k n false as).map fun as => .mth o m as)
    | .ListComp elt [⟨tg, it, ifs, 0⟩] scope _ => when (blkC n.N n.sc scope (ownOf n.N scope) && !isSet it && tgOwn scope (relS scope n.sc) tg)
        ((cI k n (isTup tg) it).bind fun it => (tgOf { n with sc := relS scope n.sc } tg).bind fun t => when (t.1.all fun i => ((ownOf n.N scope).map fun (y : Str × Nat) => y.2).contains i) <| (cE k { n with sc := relS scope n.sc } lv elt).bind fun elt => (match ifs with
          | [] => some (Ex.k (.bl true))
          | [c] => when (!isIf c) (cE k { n with sc := relS scope n.sc } false c)
          | _ => none).map fun c => Ex.lc lv elt ((ownOf n.N scope).map fun (y : Str × Nat) => y.2) t.1 t.2 it c)
    | _ => none
def cEs : Nat → Cn → Bool → List Expr → Option (List Ex)
  | 0, _, _, _ => none
  | _ + 1, _, _, [] => some []
  | k + 1, n, lv, e :: es => when (!isStar e) ((cE k n lv e).bind fun e => (cEs k n lv es).map fun es => e :: es)
/-- a slice's part -/
def cO : Nat → Cn → Option Expr → Option Ex
  | 0, _, _ => none
  | _ + 1, _, none => some .nil
  | k + 1, n, some e => cE k n false e
/-- what a for walks; pr: the target is a tuple -/
def cI : Nat → Cn → Bool → Expr → Option Ex
  | 0, _, _, _ => none
  | k + 1, n, pr, e => match e with
    | .Call (.Name f p) as [] q =>
      if f == ("range" : Str) then when (glB n.sc f && (n.fn f).isNone && (n.cl f).isNone && (as.length == 1 || as.length == 2)) ((cEs k n false as).map .rng)
      else if f == ("enumerate" : Str) then (match as with | [a] => when (pr && glB n.sc f && (n.fn f).isNone && (n.cl f).isNone) ((cE k n false a).map .enum) | _ => none)
      else if f == ("zip" : Str) then (match as with | [a, b] => when (pr && glB n.sc f && (n.fn f).isNone && (n.cl f).isNone) ((cE k n false a).bind fun a => (cE k n false b).map fun b => .zip a b) | _ => none)
      else if f == ("reversed" : Str) then (match as with | [a] => when (glB n.sc f && (n.fn f).isNone && (n.cl f).isNone) ((cE k n false a).map .rvd) | _ => none)
      else cE k n false (.Call (.Name f p) as [] q)
    | e => cE k n false e
end

/-- a, b = x, y stored by exchange -/
def swapB (sc : Scope) (ts vs : List Expr) : Bool := match ts, vs with
  | [.Name x px, .Name y py], [a, b] => (match sc.names.lookup x, sc.names.lookup y with | some .local, some .local => true | _, _ => false) && px.line == py.line && !(x == y) && !isStar a && !isStar b && !([a, b].all (constantsAlone 8)) && !([a, b].all (foldedForSure 8))
  | _, _ => false
def handB : Stmt → Bool
  | .Assign [.Name _ _] _ _ => true
  | .Expr e _ => !isLc e
  | _ => false
mutual
def cS : Nat → Cn → Stmt → Option Sx
  | 0, _, _ => none
  | k + 1, n, s => match s with
    | .Expr e _ => when (!isLc e) ((cE k n false e).map .ex)
    | .Assign [.Name x px] e p => (tgName n x).bind fun i => when (!isLc e || true) ((cE k n (n.lv.contains x) e).map fun e => .set i e)
    | .Assign [.Tuple ts q1 q2] (.Tuple vs q3 q4) p => if swapB n.sc ts vs then (match ts, vs with
        | [.Name x _, .Name y _], [a, b] => (tgName n x).bind fun i => (tgName n y).bind fun j => (cE k n (n.lv.contains x) a).bind fun a => (cE k n (n.lv.contains y) b).map fun b => .par i j a b
        | _, _ => none)
      else none
    | .Assign [.Tuple ts q1 q2] e p => when (!isTup e && !isLc e) ((tgOf n (.Tuple ts q1 q2)).bind fun t => (cE k n false e).map fun e => .setT t.1 e)
    | .Assign [.Attribute o f q] e p => (n.fld f).bind fun i => (cE k n false o).bind fun o => (cE k n (n.lv.contains f) e).map fun e => .setF o i e
    | .Assign [.Subscript o i q] e p => when (!isSlice i) ((cE k n false o).bind fun o => (cE k n false i).bind fun i => (cE k n false e).map fun e => .setI o i e)
    | .AugAssign (.Name x _) .Add e _ => (tgName n x).bind fun i => (cE k n false e).map fun e => .aug i .add e
    | .Return none _ => some (.ret (.k .non))
    | .Return (some e) _ => (cE k n false e).map .ret
    | .If t a b _ => when (!isIf t) ((cE k n false t).bind fun t => (cSs k n a).bind fun a => (cSs k n b).map fun b => .iff t a b)
    | .For tg it bd [] _ => when (!isSet it) ((cI k n (isTup tg) it).bind fun it => (tgOf n tg).bind fun t => (cSs k n bd).map fun bd => .for t.1 t.2 it bd)
    | .While t bd [] _ => when (!isIf t) ((cE k n false t).bind fun t => (cSs k n bd).map fun bd => .whl t bd)
    | .Break _ => some .brk
    | .Continue _ => some .cnt
    | .Pass _ => some .pass
    | .Raise (some (.Call (.Name x _) [.Constant (.str _) _ _] [] _)) none _ => when (glB n.sc x && okName x) ((n.cl x).bind fun c => when (n.kd c == 1) (some (Sx.rais c)))
    | .Try [bd] [.ExceptHandler (some (.Name x _)) none [.Assign [.Name y _] (.Constant c q1 q2) _] _] [] [] _ =>
      when (glB n.sc x && okName x && handB bd) ((n.cl x).bind fun c' => (tgName n y).bind fun i => (cS k n bd).bind fun bd => (cE k n false (.Constant c q1 q2)).bind fun d => (match d with | Ex.k d => some (Sx.tryK bd c' i d) | _ => none))
    | .Try [bd] [.ExceptHandler (some (.Name x _)) (some m) [.Assign [.Name y _] (.Name m' _) _] _] [] [] _ =>
      when (glB n.sc x && okName x && handB bd && m == m' && (match n.sc.names.lookup m with | some .local => true | _ => false)) ((n.cl x).bind fun c' => (tgName n y).bind fun i => (tgName n m).bind fun j => when (!(i == j)) ((cS k n bd).map fun bd => .tryE bd c' j i))
    | _ => none
def cSs : Nat → Cn → List Stmt → Option (List Sx)
  | 0, _, _ => none
  | _ + 1, _, [] => some []
  | k + 1, n, s :: ss => (cS k n s).bind fun s => (cSs k n ss).map fun ss => s :: ss
end

/-- a def as the text has it: where it stands (a global's name, or a class and its method), its qualified name, its statement, its slots' names, which names are still changed, whether its own things are let go -/
structure FnC where
  at_ : Str × Option Str
  nm : Str
  qual : Str
  st : Stmt
  ps : List Str
  N : List Str
  lv : List Str
  tr : Bool
/-- a class: its name, its kind (0: plain, 1: an exception without own __init__, 2: with one), methods by name, its __init__, itself and the classes above it -/
structure ClC where
  nm : Str
  kd : Nat
  mth : List (Str × Nat)
  ini : Option Nat
  anc : List Nat
/-- the module -/
structure Md where
  fns : List FnC
  cls : List ClC
  gls : List (Str × D)
  fld : List Str
  mth : List Str
def Md.cn (m : Md) (f : FnC) : Cn where
  N := f.N
  sc := defScope f.st
  fn := fun x => (m.fns.findIdx? fun g => g.at_.2.isNone && g.at_.1 == x).bind fun i => (m.fns[i]?).map fun g => (i, g.ps.length)
  cl := fun x => m.cls.findIdx? fun c => c.nm == x
  kd := fun i => match m.cls[i]? with | some c => c.kd | none => 9
  gl := fun x => m.gls.lookup x
  fld := fun x => m.fld.findIdx? fun y => y == x
  mth := fun x => m.mth.findIdx? fun y => y == x
  lv := f.lv
def Md.fn (m : Md) (f : FnC) : Option Fn := (cSs 60 (m.cn f) (defBody f.st)).map fun b => ⟨f.ps.length, f.N.length, f.tr, b⟩
def Md.clsT (m : Md) : List Cl := m.cls.map fun c => ⟨c.mth.filterMap fun p => (m.mth.findIdx? fun y => y == p.1).map fun i => (i, p.2), c.ini⟩
def Md.sub (m : Md) (c d : Nat) : Bool := match m.cls[c]? with | some k => k.anc.contains d | none => false
def Md.exc (m : Md) (c : Nat) : Bool := match m.cls[c]? with | some k => !(k.kd == 0) | none => false
def Md.tb (m : Md) (fns : List Fn) : Tb := ⟨fns, m.clsT, m.sub, m.exc⟩
end LS
end
section
set_option Elab.async false
set_option linter.all false
set_option maxRecDepth 10000
/-! LS, part 3: what data are in the heap; what an evaluation's end says of it. -/
namespace LS
open PySem PySem.Spec PyProof.Rows L2

/-- the module's written part, where its classes stand, its fields' names -/
structure Gm where
  K : PySem.W.Frag
  cad : Nat → Addr
  fnm : Nat → Str
def keyD : Key → D
  | .inl i => .int i
  | .inr x => .str x
def sOk (s : Str) : Prop := PyData.strOk s = true

/-- an exception that was caught, of the class cls, kept as a value -/
def ExH (cls : Value) (a : Addr) : HO := .ext fun h => ∃ (oe : Obj) (vs : Array Value), h.get? a = some oe ∧ Zc cls none oe ∧ oe.data = .fields vs

mutual
/-- the value v is d: what stands still is in F, the n-th of the store at α -/
inductive Rp (G : Gm) (F : Hp) (α : List Addr) : V → D → Prop where
  | non : Rp G F α .non .non
  | bl (b : Bool) : Rp G F α (.bl b) (.bl b)
  | int (i : Int) : Rp G F α (.int i) (.int i)
  | str {s : Str} (h : sOk s) : Rp G F α (.str s) (.str s)
  | tup {a : Addr} {o : Obj} {vs : List V} {ds : List D} (h : F a = some (.frz o (.tup vs))) (hd : o.dict = none) (r : Rps G F α vs ds) : Rp G F α (.ref a) (.tup ds)
  | lst {a : Addr} {vs : List V} {ds : List D} (h : F a = some (.lst vs)) (r : Rps G F α vs ds) : Rp G F α (.ref a) (.lst ds)
  | scr {a : Addr} {ns : List Int} (h : SqL G.K F a (ns.map .int)) : Rp G F α (.ref a) (.scr ns)
  | dic {a : Addr} {kvs : List (Key × V)} {ks ds : List D} (h : F a = some (.dK kvs)) (r : Rkv G F α kvs ks ds) : Rp G F α (.ref a) (.dic ks ds)
  | ins {a dx : Addr} {c : Nat} {fvs : List (Str × V)} {gs : List Nat} {ds : List D} (h : F a = some (.ins (G.cad c) dx fvs)) (r : Rfs G F α fvs gs ds) : Rp G F α (.ref a) (.ins c gs ds)
  | exc {a : Addr} {c : Nat} (h : F a = some (ExH (.ref (G.cad c)) a)) : Rp G F α (.ref a) (.exc c [] [])
  | ref {n : Nat} {a : Addr} (h : α[n]? = some a) : Rp G F α (.ref a) (.ref n)
inductive Rps (G : Gm) (F : Hp) (α : List Addr) : List V → List D → Prop where
  | nil : Rps G F α [] []
  | cons {v : V} {d : D} {vs : List V} {ds : List D} (h : Rp G F α v d) (r : Rps G F α vs ds) : Rps G F α (v :: vs) (d :: ds)
inductive Rkv (G : Gm) (F : Hp) (α : List Addr) : List (Key × V) → List D → List D → Prop where
  | nil : Rkv G F α [] [] []
  | cons {k : Key} {kd : D} {v : V} {d : D} {kvs : List (Key × V)} {ks ds : List D} (e : kd = keyD k) (ok : Rp G F α (kV k) kd) (h : Rp G F α v d) (r : Rkv G F α kvs ks ds) : Rkv G F α ((k, v) :: kvs) (kd :: ks) (d :: ds)
inductive Rfs (G : Gm) (F : Hp) (α : List Addr) : List (Str × V) → List Nat → List D → Prop where
  | nil : Rfs G F α [] [] []
  | cons {x : Str} {f : Nat} {v : V} {d : D} {fvs : List (Str × V)} {fs : List Nat} {ds : List D} (e : x = G.fnm f) (h : Rp G F α v d) (r : Rfs G F α fvs fs ds) : Rfs G F α ((x, v) :: fvs) (f :: fs) (d :: ds)
end

section
variable {G : Gm} {F F' : Hp} {α α' : List Addr}
theorem pre_get {l l' : List Addr} (h : l <+: l') {n : Nat} {a : Addr} (e : l[n]? = some a) : l'[n]? = some a := by
  obtain ⟨r, rfl⟩ := h
  have := (List.getElem?_eq_some_iff.mp e).1
  rw [List.getElem?_append_left this]
  exact e
mutual
theorem Rp.mono (hF : Same F F') (hA : α <+: α') : ∀ {v : V} {d : D}, Rp G F α v d → Rp G F' α' v d
  | _, _, .non => .non
  | _, _, .bl b => .bl b
  | _, _, .int i => .int i
  | _, _, .str h => .str h
  | _, _, .tup h hd r => .tup (hF _ _ h) hd (r.mono hF hA)
  | _, _, .lst h r => .lst (hF _ _ h) (r.mono hF hA)
  | _, _, .scr h => .scr (hF.seq h)
  | _, _, .dic h r => .dic (hF _ _ h) (r.mono hF hA)
  | _, _, .ins h r => .ins (hF _ _ h) (r.mono hF hA)
  | _, _, .exc h => .exc (hF _ _ h)
  | _, _, .ref h => .ref (pre_get hA h)
theorem Rps.mono (hF : Same F F') (hA : α <+: α') : ∀ {v : List V} {d : List D}, Rps G F α v d → Rps G F' α' v d
  | _, _, .nil => .nil
  | _, _, .cons h r => .cons (h.mono hF hA) (r.mono hF hA)
theorem Rkv.mono (hF : Same F F') (hA : α <+: α') : ∀ {v : List (Key × V)} {k d : List D}, Rkv G F α v k d → Rkv G F' α' v k d
  | _, _, _, .nil => .nil
  | _, _, _, .cons e ok h r => .cons e (ok.mono hF hA) (h.mono hF hA) (r.mono hF hA)
theorem Rfs.mono (hF : Same F F') (hA : α <+: α') : ∀ {v : List (Str × V)} {k : List Nat} {d : List D}, Rfs G F α v k d → Rfs G F' α' v k d
  | _, _, _, .nil => .nil
  | _, _, _, .cons e h r => .cons e (h.mono hF hA) (r.mono hF hA)
end
end

/-- an entry of the store, at a -/
def EntR (G : Gm) (F H : Hp) (α : List Addr) (a : Addr) : Ent → Prop
  | .lst ds => F a = none ∧ ∃ vs, H a = some (.lst vs) ∧ Rps G F α vs ds
  | .dic ks ds => F a = none ∧ ∃ kvs, H a = some (.dK kvs) ∧ Rkv G F α kvs ks ds
  | .ins c gs ds => F a = none ∧ ∃ dx fvs, H a = some (.ins (G.cad c) dx fvs) ∧ Rfs G F α fvs gs ds
  | .fz d => (∃ o, F a = some o) ∧ (∀ m, d ≠ .ref m) ∧ Rp G F α (.ref a) d
/-- the store is held -/
structure SR (G : Gm) (F H : Hp) (α : List Addr) (st : Sto) : Prop where
  sub : Same F H
  nd : α.Nodup
  len : α.length = st.length
  ent : ∀ (i : Nat) (a : Addr) (e : Ent), α[i]? = some a → st[i]? = some e → EntR G F H α a e
/-- the slots are held -/
def SlR (G : Gm) (F : Hp) (α : List Addr) (σ : L2.St) (ρ : Env) : Prop :=
  σ.length = ρ.length ∧ ∀ (i : Nat) (d : D), ρ[i]? = some (some d) → ∃ v, σ[i]? = some (some v) ∧ Rp G F α v d
/-- from one state to a later one -/
structure Ext (F H : Hp) (α : List Addr) (F' H' : Hp) (α' : List Addr) : Prop where
  f : Same F F'
  a : α <+: α'
  k : ∀ x o, H x = some o → x ∉ α → H' x = some o
  n : ∀ x ∈ α', x ∈ α ∨ H x = none
  g : ∀ x o, F' x = some o → F x = some o ∨ x ∈ α ∨ H x = none
  p : ∀ x, H' x = none → H x = none

section
variable {G : Gm} {F H F' H' F2 H2 : Hp} {α α' α2 : List Addr} {st : Sto} {σ : L2.St} {ρ : Env}
theorem Ext.refl : Ext F H α F H α := ⟨Same.refl _, List.prefix_refl _, fun _ _ h _ => h, fun _ h => .inl h, fun _ _ h => .inl h, fun _ h => h⟩
theorem Ext.trans (x : Ext F H α F' H' α') (y : Ext F' H' α' F2 H2 α2) : Ext F H α F2 H2 α2 where
  f := x.f.trans y.f
  a := x.a.trans y.a
  k := fun a o h na => by
    have h1 := x.k a o h na
    refine y.k a o h1 fun hb => ?_
    rcases x.n a hb with z | z
    · exact na z
    · rw [h] at z; cases z
  n := fun a h => by
    rcases y.n a h with z | z
    · exact x.n a z
    · exact .inr (x.p a z)
  g := fun a o h => by
    rcases y.g a o h with z | z | z
    · exact x.g a o z
    · rcases x.n a z with q | q
      · exact .inr (.inl q)
      · exact .inr (.inr q)
    · exact .inr (.inr (x.p a z))
  p := fun a h => x.p a (y.p a h)
theorem SlR.mono (h : SlR G F α σ ρ) (x : Ext F H α F' H' α') : SlR G F' α' σ ρ :=
  ⟨h.1, fun i d e => let ⟨v, h1, h2⟩ := h.2 i d e; ⟨v, h1, h2.mono x.f x.a⟩⟩
theorem Rp.ext {v : V} {d : D} (h : Rp G F α v d) (x : Ext F H α F' H' α') : Rp G F' α' v d := h.mono x.f x.a
theorem Rps.ext {v : List V} {d : List D} (h : Rps G F α v d) (x : Ext F H α F' H' α') : Rps G F' α' v d := h.mono x.f x.a
theorem EntR.mono {a : Addr} {e : Ent} (hF : Same F F') (hA : α <+: α') (hn : F a = none → F' a = none) (hH : ∀ o, H a = some o → H' a = some o) (h : EntR G F H α a e) : EntR G F' H' α' a e := by
  cases e with
  | lst ds => obtain ⟨h1, vs, h2, h3⟩ := h; exact ⟨hn h1, vs, hH _ h2, h3.mono hF hA⟩
  | dic ks ds => obtain ⟨h1, vs, h2, h3⟩ := h; exact ⟨hn h1, vs, hH _ h2, h3.mono hF hA⟩
  | ins c gs ds => obtain ⟨h1, dx, vs, h2, h3⟩ := h; exact ⟨hn h1, dx, vs, hH _ h2, h3.mono hF hA⟩
  | fz d => obtain ⟨⟨o, h1⟩, hr, h2⟩ := h; exact ⟨⟨o, hF _ _ h1⟩, hr, h2.mono hF hA⟩
theorem mem_some {l : List Addr} {x : Addr} (h : x ∈ l) : ∃ n : Nat, l[n]? = some x := by
  obtain ⟨n, hn, e⟩ := List.mem_iff_getElem.mp h
  exact ⟨n, by rw [List.getElem?_eq_getElem hn, e]⟩
/-- what stands in the store stands in the heap -/
theorem SR.at (R : SR G F H α st) {a : Addr} (h : a ∈ α) : ∃ o, H a = some o := by
  obtain ⟨n, e⟩ := mem_some h
  have hl : n < st.length := by rw [← R.len]; exact (List.getElem?_eq_some_iff.mp e).1
  have q := R.ent n a (st[n]) e (by rw [List.getElem?_eq_getElem hl])
  cases he : st[n] with
  | lst ds => rw [he] at q; obtain ⟨_, _, q, _⟩ := q; exact ⟨_, q⟩
  | dic ks ds => rw [he] at q; obtain ⟨_, _, q, _⟩ := q; exact ⟨_, q⟩
  | ins c gs ds => rw [he] at q; obtain ⟨_, _, _, q, _⟩ := q; exact ⟨_, q⟩
  | fz d => rw [he] at q; obtain ⟨⟨o, q⟩, _⟩ := q; exact ⟨o, R.sub _ _ q⟩
theorem SR.free (R : SR G F H α st) {p : Addr} (hp : H p = none) : F p = none := by
  cases e : F p with
  | none => rfl
  | some o => rw [R.sub _ _ e] at hp; cases hp
theorem SR.nin (R : SR G F H α st) {p : Addr} (hp : H p = none) : p ∉ α := fun h => by
  obtain ⟨o, e⟩ := R.at h
  rw [e] at hp; cases hp
theorem same_upd {H : Hp} {p : Addr} {o : HO} (hp : H p = none) : Same H (upd H p o) := fun b u e => by
  rw [upd_ne (ne_of_none e hp)]
  exact e
theorem upd_none {H : Hp} {p x : Addr} {o : HO} (h : upd H p o x = none) : H x = none ∧ x ≠ p := by
  by_cases hx : x = p
  · subst hx; rw [upd_same] at h; cases h
  · rw [upd_ne hx] at h; exact ⟨h, hx⟩
/-- a new thing that stands still -/
theorem SR.frozen (R : SR G F H α st) {p : Addr} (o : HO) (hp : H p = none) : SR G (upd F p o) (upd H p o) α st ∧ Ext F H α (upd F p o) (upd H p o) α := by
  have hF := R.free hp
  have hn := R.nin hp
  refine ⟨⟨fun b u e => ?_, R.nd, R.len, fun i a e h1 h2 => ?_⟩, ⟨same_upd hF, List.prefix_refl _, fun x u h _ => same_upd hp x u h, fun _ h => .inl h, fun x u h => ?_, fun x h => (upd_none h).1⟩⟩
  · by_cases hb : b = p
    · subst hb; rw [upd_same] at e ⊢; exact e
    · rw [upd_ne hb] at e ⊢; exact R.sub _ _ e
  · have na : a ≠ p := fun z => hn (z ▸ List.mem_of_getElem? h1)
    exact EntR.mono (same_upd hF) (List.prefix_refl _) (fun z => by rw [upd_ne na]; exact z) (fun u z => same_upd hp _ _ z) (R.ent i a e h1 h2)
  · by_cases hx : x = p
    · subst hx; exact .inr (.inr hp)
    · rw [upd_ne hx] at h; exact .inl h
/-- a new thing that nobody looks at -/
theorem SR.aside (R : SR G F H α st) {p : Addr} (o : HO) (hp : H p = none) : SR G F (upd H p o) α st ∧ Ext F H α F (upd H p o) α := by
  refine ⟨⟨fun b u e => same_upd hp _ _ (R.sub _ _ e), R.nd, R.len, fun i a e h1 h2 => ?_⟩, ⟨Same.refl _, List.prefix_refl _, fun x u h _ => same_upd hp x u h, fun _ h => .inl h, fun x u h => .inl h, fun x h => (upd_none h).1⟩⟩
  exact EntR.mono (Same.refl _) (List.prefix_refl _) (fun z => z) (fun u z => same_upd hp _ _ z) (R.ent i a e h1 h2)
/-- a new thing of the store -/
theorem SR.live (R : SR G F H α st) {p : Addr} {o : HO} {e : Ent} (hp : H p = none) (he : EntR G F (upd H p o) (α ++ [p]) p e) :
    SR G F (upd H p o) (α ++ [p]) (st ++ [e]) ∧ Ext F H α F (upd H p o) (α ++ [p]) := by
  have hn := R.nin hp
  refine ⟨⟨fun b u z => same_upd hp _ _ (R.sub _ _ z), ?_, by rw [List.length_append, List.length_append, R.len]; rfl, fun i a e' h1 h2 => ?_⟩,
    ⟨Same.refl _, List.prefix_append _ _, fun x u h _ => same_upd hp x u h, fun x h => ?_, fun x u h => .inl h, fun x h => (upd_none h).1⟩⟩
  · rw [List.nodup_append]
    exact ⟨R.nd, by simp, fun a ha b hb => by
      obtain rfl := List.mem_singleton.mp hb
      exact fun z => hn (z ▸ ha)⟩
  · by_cases hi : i < α.length
    · rw [List.getElem?_append_left hi] at h1
      rw [List.getElem?_append_left (R.len ▸ hi)] at h2
      have na : a ≠ p := fun z => hn (z ▸ List.mem_of_getElem? h1)
      exact EntR.mono (Same.refl _) (List.prefix_append _ _) (fun z => z) (fun u z => same_upd hp _ _ z) (R.ent i a e' h1 h2)
    · have hi2 : i = α.length := by
        have := (List.getElem?_eq_some_iff.mp h1).1
        rw [List.length_append] at this
        have h3 : ([p] : List Addr).length = 1 := rfl
        omega
      subst hi2
      rw [List.getElem?_append_right (Nat.le_refl _), Nat.sub_self] at h1
      rw [List.getElem?_append_right (by rw [R.len]; exact Nat.le_refl _), R.len, Nat.sub_self] at h2
      obtain rfl : p = a := Option.some.inj h1
      obtain rfl : e = e' := Option.some.inj h2
      exact he
  · rcases List.mem_append.mp h with h | h
    · exact .inl h
    · obtain rfl := List.mem_singleton.mp h; exact .inr hp
theorem nodup_at {l : List Addr} (h : l.Nodup) {i j : Nat} {a : Addr} (hi : l[i]? = some a) (hj : l[j]? = some a) : i = j := by
  obtain ⟨h1, e1⟩ := List.getElem?_eq_some_iff.mp hi
  obtain ⟨h2, e2⟩ := List.getElem?_eq_some_iff.mp hj
  exact (List.getElem_inj h).mp (e1.trans e2.symm)
/-- a thing of the store is written -/
theorem SR.write (R : SR G F H α st) {n : Nat} {a : Addr} {o : HO} {e : Ent} (hn : α[n]? = some a) (hF : F a = none) (he : EntR G F (upd H a o) α a e) :
    SR G F (upd H a o) α (st.set n e) ∧ Ext F H α F (upd H a o) α := by
  have keep : ∀ x u, H x = some u → x ≠ a → upd H a o x = some u := fun x u h z => by rw [upd_ne z]; exact h
  have ha : a ∈ α := List.mem_of_getElem? hn
  refine ⟨⟨fun b u z => keep b u (R.sub _ _ z) (fun y => by rw [y, hF] at z; cases z), R.nd, by rw [List.length_set]; exact R.len, fun i x e' h1 h2 => ?_⟩,
    ⟨Same.refl _, List.prefix_refl _, fun x u h hx => keep x u h fun y => hx (y ▸ ha), fun x h => .inl h, fun x u h => .inl h, fun x h => (upd_none h).1⟩⟩
  by_cases hi : i = n
  · subst hi
    rw [hn] at h1
    obtain rfl : a = x := Option.some.inj h1
    rw [List.getElem?_set_self (by have := (List.getElem?_eq_some_iff.mp hn).1; rw [R.len] at this; exact this)] at h2
    obtain rfl : e = e' := Option.some.inj h2
    exact he
  · rw [List.getElem?_set_ne (Ne.symm hi)] at h2
    have na : x ≠ a := fun z => hi (nodup_at R.nd h1 (z ▸ hn))
    exact EntR.mono (Same.refl _) (List.prefix_refl _) (fun z => z) (fun u z => keep _ _ z na) (R.ent i x e' h1 h2)
/-- a thing of the store stands still from now on -/
theorem SR.still (R : SR G F H α st) {n : Nat} {a : Addr} {o : HO} {d : D} (hn : α[n]? = some a) (hF : F a = none) (ho : H a = some o) (hr : ∀ m, d ≠ .ref m) (he : Rp G (upd F a o) α (.ref a) d) :
    SR G (upd F a o) H α (st.set n (.fz d)) ∧ Ext F H α (upd F a o) H α := by
  have ha : a ∈ α := List.mem_of_getElem? hn
  have hs : Same F (upd F a o) := same_upd hF
  refine ⟨⟨fun b u z => ?_, R.nd, by rw [List.length_set]; exact R.len, fun i x e' h1 h2 => ?_⟩,
    ⟨hs, List.prefix_refl _, fun x u h hx => h, fun x h => .inl h, fun x u h => ?_, fun x h => h⟩⟩
  · by_cases hb : b = a
    · subst hb; rw [upd_same] at z; rw [← z]; exact ho
    · rw [upd_ne hb] at z; exact R.sub _ _ z
  · by_cases hi : i = n
    · subst hi
      rw [hn] at h1
      obtain rfl : a = x := Option.some.inj h1
      rw [List.getElem?_set_self (by have := (List.getElem?_eq_some_iff.mp hn).1; rw [R.len] at this; exact this)] at h2
      obtain rfl : Ent.fz d = e' := Option.some.inj h2
      exact ⟨⟨o, upd_same⟩, hr, he⟩
    · rw [List.getElem?_set_ne (Ne.symm hi)] at h2
      have na : x ≠ a := fun z => hi (nodup_at R.nd h1 (z ▸ hn))
      exact EntR.mono hs (List.prefix_refl _) (fun z => by rw [upd_ne na]; exact z) (fun u z => z) (R.ent i x e' h1 h2)
  · by_cases hx : x = a
    · subst hx; exact .inr (.inl ha)
    · rw [upd_ne hx] at h; exact .inl h
end

/-- what a value is, its own thing read in the heap -/
def RpH (G : Gm) (F H : Hp) (α : List Addr) (v : V) : D → Prop
  | .non => v = .non
  | .bl b => v = .bl b
  | .int i => v = .int i
  | .str s => v = .str s ∧ sOk s
  | .tup ds => ∃ a vs o, v = .ref a ∧ F a = some (.frz o (.tup vs)) ∧ o.dict = none ∧ H a = some (.frz o (.tup vs)) ∧ Rps G F α vs ds
  | .lst ds => ∃ a vs, v = .ref a ∧ H a = some (.lst vs) ∧ Rps G F α vs ds
  | .scr ns => ∃ a, v = .ref a ∧ SqL G.K H a (ns.map .int)
  | .dic ks ds => ∃ a kvs, v = .ref a ∧ H a = some (.dK kvs) ∧ Rkv G F α kvs ks ds
  | .ins c gs ds => ∃ a dx fvs, v = .ref a ∧ H a = some (.ins (G.cad c) dx fvs) ∧ Rfs G F α fvs gs ds
  | .exc c gs ds => ∃ a, v = .ref a ∧ H a = some (ExH (.ref (G.cad c)) a) ∧ gs = [] ∧ ds = []
  | .ref _ => False
section
variable {G : Gm} {F H : Hp} {α : List Addr} {st : Sto}
theorem Rp.inH (hs : Same F H) {v : V} {d : D} (hd : ∀ m, d ≠ .ref m) (h : Rp G F α v d) : RpH G F H α v d := by
  cases h with
  | non => rfl
  | bl => rfl
  | int => rfl
  | str h => exact ⟨rfl, h⟩
  | tup h hdn r => exact ⟨_, _, _, rfl, h, hdn, hs _ _ h, r⟩
  | lst h r => exact ⟨_, _, rfl, hs _ _ h, r⟩
  | scr h => exact ⟨_, rfl, hs.seq h⟩
  | dic h r => exact ⟨_, _, rfl, hs _ _ h, r⟩
  | ins h r => exact ⟨_, _, _, rfl, hs _ _ h, r⟩
  | exc h => exact ⟨_, rfl, hs _ _ h, rfl, rfl⟩
  | ref h => exact absurd rfl (hd _)
theorem Rp.refAt (R : SR G F H α st) {v : V} {n : Nat} (h : Rp G F α v (.ref n)) : ∃ a e, v = .ref a ∧ α[n]? = some a ∧ st[n]? = some e ∧ EntR G F H α a e := by
  cases h with
  | ref h =>
    have hl : n < st.length := by rw [← R.len]; exact (List.getElem?_eq_some_iff.mp h).1
    exact ⟨_, st[n], rfl, h, List.getElem?_eq_getElem hl, R.ent _ _ _ h (List.getElem?_eq_getElem hl)⟩
theorem view_ok (R : SR G F H α st) {v : V} {d : D} (h : Rp G F α v d) : RpH G F H α v (view st d) := by
  cases d with
  | ref n =>
    obtain ⟨a, e, rfl, h1, h2, h3⟩ := h.refAt R
    show RpH G F H α _ (match st[n]? with | some (.lst xs) => .lst xs | some (.dic ks vs) => .dic ks vs | some (.ins c fs vs) => .ins c fs vs | some (.fz d) => d | none => .ref n)
    rw [h2]
    cases e with
    | lst ds => obtain ⟨_, vs, h4, h5⟩ := h3; exact ⟨_, _, rfl, h4, h5⟩
    | dic ks ds => obtain ⟨_, vs, h4, h5⟩ := h3; exact ⟨_, _, rfl, h4, h5⟩
    | ins c gs ds => obtain ⟨_, dx, vs, h4, h5⟩ := h3; exact ⟨_, _, _, rfl, h4, h5⟩
    | fz d => exact h3.2.2.inH R.sub h3.2.1
  | _ => exact h.inH R.sub (fun m z => by cases z)

/-! ### what may be compared -/
end
mutual
def toP : D → PyData
  | .non => .none | .bl b => .bool b | .int i => .int i | .str s => .str s
  | .tup xs => .tuple (toPs xs) | .lst xs => .list (toPs xs)
  | .dic _ _ => .none | .ins _ _ _ => .none | .exc _ _ _ => .none | .scr _ => .none | .ref _ => .none
def toPs : List D → List PyData
  | [] => []
  | x :: xs => toP x :: toPs xs
end
mutual
theorem eqv_eqb : ∀ (a b : D) {k j : Nat}, D.fit k a = true → D.fit j b = true → PyData.eqv (toP a) (toP b) = D.eqb a b
  | .non, b, k, j, ha, hb => by cases b <;> simp_all [D.fit, toP, PyData.eqv, D.eqb]
  | .bl _, b, k, j, ha, hb => by cases b <;> simp_all [D.fit, toP, PyData.eqv, D.eqb]
  | .int _, b, k, j, ha, hb => by cases b <;> simp_all [D.fit, toP, PyData.eqv, D.eqb]
  | .str _, b, k, j, ha, hb => by cases b <;> simp_all [D.fit, toP, PyData.eqv, D.eqb]
  | .tup xs, b, 0, j, ha, hb => by simp [D.fit] at ha
  | .lst xs, b, 0, j, ha, hb => by simp [D.fit] at ha
  | .tup xs, b, k + 1, j, ha, hb => by
    cases b with
    | tup ys =>
      cases j with
      | zero => simp [D.fit] at hb
      | succ j => simp only [toP, PyData.eqv, D.eqb]; exact eqv_eqbs xs ys (by simpa [D.fit] using ha) (by simpa [D.fit] using hb)
    | _ => simp_all [D.fit, toP, PyData.eqv, D.eqb]
  | .lst xs, b, k + 1, j, ha, hb => by
    cases b with
    | lst ys =>
      cases j with
      | zero => simp [D.fit] at hb
      | succ j => simp only [toP, PyData.eqv, D.eqb]; exact eqv_eqbs xs ys (by simpa [D.fit] using ha) (by simpa [D.fit] using hb)
    | _ => simp_all [D.fit, toP, PyData.eqv, D.eqb]
  | .dic _ _, b, k, j, ha, hb => by simp [D.fit] at ha
  | .ins _ _ _, b, k, j, ha, hb => by simp [D.fit] at ha
  | .exc _ _ _, b, k, j, ha, hb => by simp [D.fit] at ha
  | .scr _, b, k, j, ha, hb => by simp [D.fit] at ha
  | .ref _, b, k, j, ha, hb => by simp [D.fit] at ha
theorem eqv_eqbs : ∀ (a b : List D) {k j : Nat}, D.fits k a = true → D.fits j b = true → PyData.eqvAll (toPs a) (toPs b) = D.eqbs a b
  | [], b, k, j, ha, hb => by cases b <;> simp_all [D.fits, toPs, PyData.eqvAll, D.eqbs]
  | x :: xs, [], k, j, ha, hb => by simp [toPs, PyData.eqvAll, D.eqbs]
  | x :: xs, y :: ys, k, j, ha, hb => by
    simp only [D.fits, Bool.and_eq_true] at ha hb
    simp only [toPs, PyData.eqvAll, D.eqbs]
    rw [eqv_eqb x y ha.1 hb.1, eqv_eqbs xs ys ha.2 hb.2]
end
mutual
theorem depth_fit : ∀ (d : D) {k : Nat}, D.fit k d = true → (toP d).depth ≤ k
  | .non, k, h => by simp [toP, PyData.depth]
  | .bl _, k, h => by simp [toP, PyData.depth]
  | .int _, k, h => by simp [toP, PyData.depth]
  | .str _, k, h => by simp [toP, PyData.depth]
  | .tup xs, 0, h => by simp [D.fit] at h
  | .lst xs, 0, h => by simp [D.fit] at h
  | .tup xs, k + 1, h => by
    have := depth_fits xs (k := k) (by simpa [D.fit] using h)
    simp only [toP, PyData.depth]; omega
  | .lst xs, k + 1, h => by
    have := depth_fits xs (k := k) (by simpa [D.fit] using h)
    simp only [toP, PyData.depth]; omega
  | .dic _ _, k, h => by simp [D.fit] at h
  | .ins _ _ _, k, h => by simp [D.fit] at h
  | .exc _ _ _, k, h => by simp [D.fit] at h
  | .scr _, k, h => by simp [D.fit] at h
  | .ref _, k, h => by simp [D.fit] at h
theorem depth_fits : ∀ (d : List D) {k : Nat}, D.fits k d = true → PyData.depthAll (toPs d) ≤ k
  | [], k, h => by simp [toPs, PyData.depthAll]
  | x :: xs, k, h => by
    simp only [D.fits, Bool.and_eq_true] at h
    have h1 := depth_fit x h.1
    have h2 := depth_fits xs h.2
    simp only [toPs, PyData.depthAll]; omega
end
section
variable {G : Gm} {F H : Hp} {α : List Addr} {st : Sto}
mutual
theorem Rp.dp (hs : Same F H) : ∀ {v : V} {d : D}, Rp G F α v d → ∀ {k : Nat}, D.fit k d = true → Dp G.K H v (toP d) ∧ (toP d).canLay0 = true
  | _, _, .non, _, _ => ⟨.non, by simp [toP, PyData.canLay0]⟩
  | _, _, .bl b, _, _ => ⟨.bl b, by simp [toP, PyData.canLay0]⟩
  | _, _, .int i, _, _ => ⟨.int i, by simp [toP, PyData.canLay0]⟩
  | _, _, .str h, _, _ => ⟨.str _, by simp only [toP, PyData.canLay0]; exact h⟩
  | _, _, .tup h hd r, k, e => by
    cases k with
    | zero => simp [D.fit] at e
    | succ k =>
      have q := r.dp hs (k := k) (by simpa [D.fit] using e)
      exact ⟨by simp only [toP]; exact .tup (.inl (.inr ⟨_, hs _ _ h⟩)) q.1, by simp only [toP, PyData.canLay0]; exact q.2⟩
  | _, _, .lst h r, k, e => by
    cases k with
    | zero => simp [D.fit] at e
    | succ k =>
      have q := r.dp hs (k := k) (by simpa [D.fit] using e)
      exact ⟨by simp only [toP]; exact .lst (SqL.of (hs _ _ h)) q.1, by simp only [toP, PyData.canLay0]; exact q.2⟩
  | _, _, .scr _, k, e => by simp [D.fit] at e
  | _, _, .dic _ _, k, e => by simp [D.fit] at e
  | _, _, .ins _ _, k, e => by simp [D.fit] at e
  | _, _, .exc _, k, e => by simp [D.fit] at e
  | _, _, .ref _, k, e => by simp [D.fit] at e
theorem Rps.dp (hs : Same F H) : ∀ {v : List V} {d : List D}, Rps G F α v d → ∀ {k : Nat}, D.fits k d = true → DpAll G.K H v (toPs d) ∧ PyData.canLayAll0 (toPs d) = true
  | _, _, .nil, _, _ => ⟨by simp only [toPs]; exact .nil, by simp [toPs, PyData.canLayAll0]⟩
  | _, _, .cons h r, k, e => by
    simp only [D.fits, Bool.and_eq_true] at e
    have q1 := h.dp hs e.1
    have q2 := r.dp hs e.2
    exact ⟨by simp only [toPs]; exact .cons q1.1 q2.1, by simp only [toPs, PyData.canLayAll0, q1.2, q2.2, Bool.and_self]⟩
end
theorem RpH.dp (hs : Same F H) {v : V} {d : D} (h : RpH G F H α v d) {k : Nat} (e : D.fit k d = true) (hk : k ≤ 64) : Dp G.K H v (toP d) ∧ SeqAt.shaped (toP d) = true := by
  have sh : (toP d).canLay0 = true → SeqAt.shaped (toP d) = true := fun c => by
    unfold SeqAt.shaped
    rw [c, Bool.true_and]
    exact decide_eq_true (Nat.le_trans (depth_fit d e) hk)
  cases d with
  | non => obtain rfl := h; exact ⟨.non, sh (by simp [toP, PyData.canLay0])⟩
  | bl b => obtain rfl := h; exact ⟨.bl b, sh (by simp [toP, PyData.canLay0])⟩
  | int b => obtain rfl := h; exact ⟨.int b, sh (by simp [toP, PyData.canLay0])⟩
  | str s => obtain ⟨rfl, h⟩ := h; exact ⟨.str s, sh (by simp only [toP, PyData.canLay0]; exact h)⟩
  | tup ds =>
    obtain ⟨a, vs, o, rfl, _, _, h, r⟩ := h
    cases k with
    | zero => simp [D.fit] at e
    | succ k =>
      have q := r.dp hs (k := k) (by simpa [D.fit] using e)
      exact ⟨by simp only [toP]; exact .tup (.inl (.inr ⟨_, h⟩)) q.1, sh (by simp only [toP, PyData.canLay0]; exact q.2)⟩
  | lst ds =>
    obtain ⟨a, vs, rfl, h, r⟩ := h
    cases k with
    | zero => simp [D.fit] at e
    | succ k =>
      have q := r.dp hs (k := k) (by simpa [D.fit] using e)
      exact ⟨by simp only [toP]; exact .lst (SqL.of h) q.1, sh (by simp only [toP, PyData.canLay0]; exact q.2)⟩
  | _ => simp [D.fit] at e
end
end LS
end
section
set_option Elab.async false
set_option linter.all false
set_option maxRecDepth 10000
/-! LS, part 4: operators, built-ins: what the evaluator says is what the machine does. -/
namespace LS
open PySem PySem.Spec PyProof.Rows L2

/-! ### an expression's widest reading -/
def wE (X : Cx) (e : Expr) : TE := fun σ H Q => ∀ (pins : List (Addr × Obj)) (s : Shared), Inv X pins σ H s → wpAny (model X.prog X.w) X.A (eval e X.env) (EP X pins σ Q) X.xe s
theorem wE_pe (X : Cx) (e : Expr) : PE X e (wE X e) := ⟨fun pins s σ H Q I h => h pins s I⟩
theorem pe_w {X : Cx} {e : Expr} {t : TE} (h : PE X e t) {σ : L2.St} {H : Hp} {Q : VK} (q : t σ H Q) : wE X e σ H Q := fun pins s I => h.run pins s σ H Q I q
theorem EP.imp {X : Cx} {pins : List (Addr × Obj)} {σ : L2.St} {Q Q' : VK} {u : Value} {s : Shared} (h : EP X pins σ Q u s) (k : ∀ v H, Q v H → Q' v H) : EP X pins σ Q' u s := by
  obtain ⟨v, H, I, r, q⟩ := h
  exact ⟨v, H, I, r, k v H q⟩
def wO (X : Cx) (f : Value → Value → Sem Value) : R2 := fun x y H Q => ∃ r : R2, OpR X f r ∧ r x y H Q
theorem wO_op (X : Cx) (f : Value → Value → Sem Value) : OpR X f (wO X f) := fun pins s σ H x y v u Q I rx ry h => by
  obtain ⟨r, hr, q⟩ := h
  exact hr pins s σ H x y v u Q I rx ry q
def wC (X : Cx) (f : Value) : List V → Hp → VK → Prop := fun vs H Q => ∃ r : List V → Hp → VK → Prop, CallR X f r ∧ r vs H Q
theorem wC_call (X : Cx) (f : Value) : CallR X f (wC X f) := fun pins s σ H xs us Q I r h => by
  obtain ⟨r', hr, q⟩ := h
  exact hr pins s σ H xs us Q I r q
def wX (X : Cx) : R2 := fun x y H Q => ∃ r : R2, IxR X r ∧ r x y H Q
theorem wX_ix (X : Cx) : IxR X (wX X) := fun value slice pins s σ H x y v u Q I rx ry h hs => by
  obtain ⟨r, hr, q⟩ := h
  exact hr value slice pins s σ H x y v u Q I rx ry q hs
def wSl (X : Cx) : V → Option Int → Option Int → Hp → VK → Prop := fun x lo hi H Q => ∃ r, L2.SlR X r ∧ r x lo hi H Q
theorem wSl_sl (X : Cx) : L2.SlR X (wSl X) := fun pins s σ H x v vl vu lo hi sl Q I rx hs pl pu h => by
  obtain ⟨r, hr, q⟩ := h
  exact hr pins s σ H x v vl vu lo hi sl Q I rx hs pl pu q

/-! ### what an evaluation's end says -/
section
variable (G : Gm)
def Pst {β : Type} (F H : Hp) (α : List Addr) (r : Rs β) (K : β → Hp → Hp → List Addr → Sto → Prop) (E : XK) : Prop := match r with
  | .ok d st' => ∀ F' H' α', SR G F' H' α' st' → Ext F H α F' H' α' → K d F' H' α' st'
  | .ex c fs vs st' => ∀ F' H' α', SR G F' H' α' st' → Ext F H α F' H' α' → fs = [] → vs = [] → E (.ref (G.cad c)) none H'
  | .no => False
end
section
variable {G : Gm} {F H F' H' : Hp} {α α' : List Addr} {st : Sto} {β γ : Type}
theorem Pst.ext {r : Rs β} {K : β → Hp → Hp → List Addr → Sto → Prop} {E : XK} (h : Pst G F H α r K E) (x : Ext F H α F' H' α') : Pst G F' H' α' r K E := by
  cases r with
  | ok d s => exact fun F2 H2 α2 R X => h F2 H2 α2 R (x.trans X)
  | ex c fs vs s => exact fun F2 H2 α2 R X => h F2 H2 α2 R (x.trans X)
  | no => exact h
theorem Pst.bind {r : Rs β} {k : β → Sto → Rs γ} {K : γ → Hp → Hp → List Addr → Sto → Prop} {E : XK} (h : Pst G F H α (r.bind k) K E) :
    Pst G F H α r (fun a F' H' α' s => Pst G F' H' α' (k a s) K E) E := by
  cases r with
  | ok d s => exact fun F2 H2 α2 R X => Pst.ext (r := k d s) h X
  | ex c fs vs s => exact h
  | no => exact h
theorem Pst.imp {r : Rs β} {K K' : β → Hp → Hp → List Addr → Sto → Prop} {E : XK} (h : Pst G F H α r K E)
    (k : ∀ a F' H' α' s, SR G F' H' α' s → Ext F H α F' H' α' → K a F' H' α' s → K' a F' H' α' s) : Pst G F H α r K' E := by
  cases r with
  | ok d s => exact fun F2 H2 α2 R X => k d F2 H2 α2 s R X (h F2 H2 α2 R X)
  | ex c fs vs s => exact h
  | no => exact h
theorem Pst.impE {r : Rs β} {K : β → Hp → Hp → List Addr → Sto → Prop} {E E' : XK} (h : Pst G F H α r K E) (k : ∀ c d H, E c d H → E' c d H) : Pst G F H α r K E' := by
  cases r with
  | ok d s => exact h
  | ex c fs vs s => exact fun F2 H2 α2 R X a b => k _ _ _ (h F2 H2 α2 R X a b)
  | no => exact h
theorem Pst.here {d : β} {K : β → Hp → Hp → List Addr → Sto → Prop} {E : XK} (h : Pst G F H α (.ok d st) K E) (R : SR G F H α st) : K d F H α st := h F H α R Ext.refl
theorem Pst.now {d : β} {K : β → Hp → Hp → List Addr → Sto → Prop} {E : XK} (h : Pst G F H α (.ok d st) K E) (R : SR G F' H' α' st) (x : Ext F H α F' H' α') : K d F' H' α' st := h F' H' α' R x
/-- a value is wanted -/
def KV1 (G : Gm) (Q : VK) : D → Hp → Hp → List Addr → Sto → Prop := fun d F' H' α' _ => ∀ v, Rp G F' α' v d → Q v H'
abbrev PV (G : Gm) (F H : Hp) (α : List Addr) (r : Rs D) (Q : VK) (E : XK) : Prop := Pst G F H α r (KV1 G Q) E
/-- a new thing that stands still is the answer -/
theorem PV.newF {d : D} {Q : VK} {E : XK} (h : PV G F H α (.ok d st) Q E) (R : SR G F H α st) {p : Addr} {o : HO} (hp : H p = none) (r : Rp G (upd F p o) α (.ref p) d) : Q (.ref p) (upd H p o) :=
  let ⟨R', x⟩ := R.frozen o hp
  Pst.now h R' x _ r
/-- a new thing of the store is the answer -/
theorem PV.newL {Q : VK} {E : XK} {e : Ent} (h : PV G F H α (.ok (.ref st.length) (st ++ [e])) Q E) (R : SR G F H α st) {p : Addr} {o : HO} (hp : H p = none) (he : EntR G F (upd H p o) (α ++ [p]) p e) : Q (.ref p) (upd H p o) :=
  let ⟨R', x⟩ := R.live hp he
  Pst.now h R' x _ (.ref (by rw [← R.len]; simp))
theorem Rps.len {vs : List V} {ds : List D} : Rps G F α vs ds → vs.length = ds.length
  | .nil => rfl
  | .cons _ r => by rw [List.length_cons, List.length_cons, r.len]
theorem Rps.app : ∀ {vs ws : List V} {ds es : List D}, Rps G F α vs ds → Rps G F α ws es → Rps G F α (vs ++ ws) (ds ++ es)
  | _, _, _, _, .nil, q => q
  | _, _, _, _, .cons h r, q => .cons h (r.app q)
theorem Rps.get : ∀ {vs : List V} {ds : List D} {j : Nat} {d : D}, Rps G F α vs ds → ds[j]? = some d → ∃ v, vs[j]? = some v ∧ Rp G F α v d
  | _, _, _, _, .nil, e => by simp at e
  | _, _, 0, _, .cons h _, e => by simp at e; subst e; exact ⟨_, rfl, h⟩
  | _, _, j + 1, d, .cons _ r, e => by
    obtain ⟨v, h1, h2⟩ := r.get (j := j) (by simpa using e)
    exact ⟨v, by simpa using h1, h2⟩
theorem Rps.drop : ∀ {vs : List V} {ds : List D} (n : Nat), Rps G F α vs ds → Rps G F α (vs.drop n) (ds.drop n)
  | _, _, 0, r => r
  | _, _, n + 1, .nil => .nil
  | _, _, n + 1, .cons _ r => r.drop n
theorem Rps.take : ∀ {vs : List V} {ds : List D} (n : Nat), Rps G F α vs ds → Rps G F α (vs.take n) (ds.take n)
  | _, _, 0, _ => .nil
  | _, _, n + 1, .nil => .nil
  | _, _, n + 1, .cons h r => .cons h (r.take n)
theorem Rps.reverse {vs : List V} {ds : List D} (r : Rps G F α vs ds) : Rps G F α vs.reverse ds.reverse := by
  induction ds generalizing vs with
  | nil => cases r; exact .nil
  | cons d ds ih =>
    cases r with
    | cons h r =>
      rw [List.reverse_cons, List.reverse_cons]
      exact (ih r).app (.cons h .nil)
theorem Rps.set : ∀ {vs : List V} {ds : List D} {v : V} {d : D} (j : Nat), Rps G F α vs ds → Rp G F α v d → Rps G F α (vs.set j v) (ds.set j d)
  | _, _, _, _, _, .nil, _ => .nil
  | _, _, _, _, 0, .cons _ r, q => .cons q r
  | _, _, _, _, j + 1, .cons h r, q => .cons h (r.set j q)
theorem Rps.cut {vs : List V} {ds : List D} (r : Rps G F α vs ds) (lo hi : Option Int) : Rps G F α (cutV vs lo hi) (LS.cut ds lo hi) := by
  have e : LS.cut ds lo hi = (ds.drop (HT.sIx ds.length 0 lo)).take (HT.sIx ds.length ds.length hi - HT.sIx ds.length 0 lo) := rfl
  rw [e, ← r.len]
  exact (r.drop _).take _
theorem sOk_app {x y : Str} (hx : sOk x) (hy : sOk y) : sOk (x ++ y) := by
  unfold sOk PyData.strOk at *
  show ((x.cps ++ y.cps).all _) = true
  rw [Array.all_append, hx, hy]; rfl
theorem sOk_iff {x : Str} : sOk x ↔ ∀ c ∈ x.cps.toList, c < 0x110000 := by
  unfold sOk PyData.strOk
  rw [← Array.all_toList, List.all_eq_true]
  exact ⟨fun h c hc => of_decide_eq_true (h c hc), fun h c hc => decide_eq_true (h c hc)⟩
theorem sOk_list {l : List Nat} (h : ∀ c ∈ l, c < 0x110000) : sOk ⟨l.toArray⟩ := sOk_iff.mpr (by simpa using h)
theorem sz_eq : SZ = sizeLine := rfl

/-! ### tuples, as their objects are known: no dict of their own -/
section
variable {X : Cx}
def tupO (its : List Value) : Obj := { cls := .type "tuple", data := .seq its.toArray }
theorem Inv.newT {pins : List (Addr × Obj)} {σ : L2.St} {H : Hp} {s : Shared} {xs : List V} {its : List Value} (I : Inv X pins σ H s) (r : Vals xs its) (hz : xs.length ≤ sizeLine) :
    Inv X pins σ (upd H s.heap.objs.size (.frz (tupO its) (.tup xs))) { s with heap := s.heap.push (tupO its) } := by
  have ho : (s.heap.push (tupO its)).get? s.heap.objs.size = some (tupO its) := Heap.get?_push_size _ rfl
  exact I.laid (t' := s.toks) (fun b ob q => Heap.get?_push_of_some _ q) (Nat.le_refl _) ⟨ho, hz, its, r, ⟨_, ho, rfl, _, rfl⟩⟩
/-- a new tuple is the answer -/
def NewT (Q : VK) (H : Hp) (xs : List V) : Prop := ∀ (p : Addr) (o : Obj), H p = none → o.dict = none → Q (.ref p) (upd H p (.frz o (.tup xs)))
theorem Inv.giveT {pins : List (Addr × Obj)} {σ : L2.St} {H : Hp} {s : Shared} {xs : List V} {its : List Value} {Q : VK} (I : Inv X pins σ H s) (r : Vals xs its) (hz : xs.length ≤ sizeLine) (q : NewT Q H xs) :
    EP X pins σ Q (.ref s.heap.objs.size) { s with heap := s.heap.push (tupO its) } := ⟨.ref s.heap.objs.size, _, Inv.newT I r hz, rfl, q _ _ (I.hok.fresh (Nat.le_refl _)) rfl⟩
def tTupF (t : TA) : TE := fun σ H Q => t σ H fun xs H1 => xs.length ≤ sizeLine ∧ NewT Q H1 xs
theorem pe_tupF {es : List Expr} {t : TA} {k : Nat} {pos : Pos} (h : PA X es t) : PE X (.Tuple es k pos) (tTupF t) :=
  ⟨fun pins s σ H Q I hq => wpAny_Tuple_spliced (thn (h.run pos pins s σ H _ I hq) fun us s1 ⟨xs, H1, I1, r, z, q⟩ => ⟨by rw [← r.length]; exact z, Inv.giveT I1 r z q⟩)⟩
def rCatF (K : PySem.W.Frag) : R2 := fun x y H Q => ∃ a b xs ys, x = .ref a ∧ y = .ref b ∧ SqT K H a xs ∧ SqT K H b ys ∧ xs.length + ys.length ≤ sizeLine ∧
  (xs = [] → Q (.ref b) H) ∧ (xs ≠ [] → ys = [] → Q (.ref a) H) ∧ (xs ≠ [] → ys ≠ [] → NewT Q H (xs ++ ys))
theorem op_catF : OpR X (binaryOp .Add) (rCatF X.K) := by
  rintro pins s σ H x y v u Q I rx ry ⟨a, b, xs, ys, rfl, rfl, ha, hb, hz, q0, q1, q2⟩
  cases rx
  cases ry
  obtain ⟨is1, r1, p1, _⟩ := I.tuple ha
  obtain ⟨is2, r2, p2, _⟩ := I.tuple hb
  by_cases hx : xs = []
  · subst hx
    cases r1
    exact cat_tup0 p1 p2 ⟨.ref b, H, I, rfl, q0 rfl⟩
  · refine HT.cat_tup p1 p2 (fun z => hx (r1.nil_iff.mp z)) (fun z => ⟨.ref a, H, I, rfl, q1 hx (r2.nil_iff.mp z)⟩) (fun z => ?_) (by rw [← r1.length, ← r2.length]; exact hz)
    exact Inv.giveT I (r1.append r2) (by rw [List.length_append]; exact hz) (q2 hx fun w => z (r2.nil_iff.mpr w))
def rSlF (K : PySem.W.Frag) : V → Option Int → Option Int → Hp → VK → Prop := fun x lo hi H Q => ∃ a xs, x = .ref a ∧ SqT K H a xs ∧
  (HT.sIx xs.length 0 lo = 0 ∧ HT.sIx xs.length xs.length hi = xs.length → Q (.ref a) H) ∧ (¬ (HT.sIx xs.length 0 lo = 0 ∧ HT.sIx xs.length xs.length hi = xs.length) → NewT Q H (cutV xs lo hi))
theorem sl_tupF : L2.SlR X (rSlF X.K) := by
  rintro pins s σ H x v vl vu lo hi sl Q I rx hs pl pu ⟨a, xs, rfl, hx, q1, q2⟩
  cases rx
  obtain ⟨its, r, ht, hz⟩ := I.tuple hx
  have hl : its.toArray.size = xs.length := by rw [List.size_toArray]; exact r.length.symm
  refine ⟨"tuple", _, PyProof.Rows.slot_tuple_getitem.lookup, ht.typeIs, ?_⟩
  by_cases hw : HT.sIx xs.length 0 lo = 0 ∧ HT.sIx xs.length xs.length hi = xs.length
  · exact getItem_tuple_whole ht hs pl pu (by rw [hl]; exact hw) ⟨.ref a, H, I, rfl, q1 hw⟩
  · refine HT.getItem_tuple_cut ht hs pl pu (by rw [hl]; exact hw) ?_ (by rw [hl]; exact hz)
    rw [hl]
    exact Inv.giveT I ((r.drop _).take _) (Nat.le_trans (cutV_length xs lo hi) hz) (q2 hw)
theorem call_tupF : CallR X (.type "tuple") (fun xs H Q => ∃ p ys, xs = [.ref p] ∧ SqL X.K H p ys ∧ NewT Q H ys) := by
  rintro pins s σ H xs us Q I r ⟨p, ys, rfl, hq, q⟩
  obtain ⟨u, rfl, rx⟩ := vals1 r
  cases rx
  obtain ⟨its, r', pl, hz⟩ := I.list hq
  have hl := r'.length
  refine call_tuple_list pl.isList (fun h' kp => ?_) (by simp only [List.size_toArray] <;> omega)
  exact Inv.giveT (s := { s with heap := h' }) (I.kept (t' := s.toks) kp) r' hz q
end

/-! ### operators -/
theorem bop_ok {X : Cx} (hK : X.K = G.K) (hu : X.A.units + 65 < cLine) (R : SR G F H α st) {op : Operator} {o : Bop} (ho : bopOf op = some o) {x y : V} {a c : D} (hx : RpH G F H α x a) (hy : RpH G F H α y c) {Q : VK} {E : XK}
    (h : PV G F H α (pur (bop o a c) st) Q E) : wO X (binaryOp op) x y H Q := by
  cases e : bop o a c with
  | none => rw [e] at h; exact h.elim
  | some d =>
    rw [e] at h
    have hd : KV1 G Q d F H α st := Pst.here h R
    unfold bop at e
    split at e
    · -- int + int
      cases op <;> simp [bopOf] at ho
      obtain rfl := Option.some.inj e
      obtain rfl := hx
      obtain rfl := hy
      exact ⟨_, op_add, _, _, rfl, rfl, hd _ (.int _)⟩
    · -- text + text
      cases op <;> simp [bopOf] at ho
      split at e
      · rename_i hz
        obtain rfl := Option.some.inj e
        obtain ⟨rfl, h1⟩ := hx
        obtain ⟨rfl, h2⟩ := hy
        exact ⟨_, op_add_str, _, _, rfl, rfl, hz, hd _ (.str (sOk_app h1 h2))⟩
      · cases e
    · -- tuple + tuple
      cases op <;> simp [bopOf] at ho
      split at e
      · rename_i xs ys hz
        obtain rfl := Option.some.inj e
        obtain ⟨a1, v1, o1, rfl, f1, d1, h1, r1⟩ := hx
        obtain ⟨a2, v2, o2, rfl, f2, d2, h2, r2⟩ := hy
        refine ⟨_, op_catF, a1, a2, v1, v2, rfl, rfl, .inl (.inr ⟨_, h1⟩), .inl (.inr ⟨_, h2⟩), by rw [r1.len, r2.len]; exact hz, fun z => ?_, fun z1 z2 => ?_, fun z1 z2 p o hp ho => ?_⟩
        · subst z; cases r1; exact hd _ (.tup f2 d2 r2)
        · subst z2; cases r2; exact hd _ (.tup f1 d1 (by rw [List.append_nil]; exact r1))
        · exact PV.newF h R hp (.tup upd_same ho ((r1.app r2).mono (same_upd (R.free hp)) (List.prefix_refl _)))
      · cases e
    · -- list + list
      cases op <;> simp [bopOf] at ho
      split at e
      · rename_i xs ys hz
        obtain rfl := Option.some.inj e
        obtain ⟨a1, v1, rfl, h1, r1⟩ := hx
        obtain ⟨a2, v2, rfl, h2, r2⟩ := hy
        refine ⟨_, op_cat, a1, a2, v1, v2, rfl, rfl, h1, h2, by rw [r1.len, r2.len]; exact hz, fun p hp => ?_⟩
        exact PV.newF h R hp (.lst upd_same ((r1.app r2).mono (same_upd (R.free hp)) (List.prefix_refl _)))
      · cases e
    · cases op <;> simp [bopOf] at ho
      obtain rfl := Option.some.inj e
      obtain rfl := hx
      obtain rfl := hy
      exact ⟨_, op_sub, _, _, rfl, rfl, hd _ (.int _)⟩
    · cases op <;> simp [bopOf] at ho
      split at e
      · rename_i hz
        obtain rfl := Option.some.inj e
        obtain rfl := hx
        obtain rfl := hy
        exact ⟨_, op_mul, _, _, rfl, rfl, .inr hz, hd _ (.int _)⟩
      · cases e
    · cases op <;> simp [bopOf] at ho
      split at e
      · rename_i hz
        obtain rfl := Option.some.inj e
        obtain rfl := hx
        obtain rfl := hy
        exact ⟨_, op_fdiv, _, _, rfl, rfl, hz, hd _ (.int _)⟩
      · cases e
    · cases op <;> simp [bopOf] at ho
      split at e
      · rename_i hz
        obtain rfl := Option.some.inj e
        obtain rfl := hx
        obtain rfl := hy
        exact ⟨_, op_mod, _, _, rfl, rfl, hz, hd _ (.int _)⟩
      · cases e
    · cases op <;> simp [bopOf] at ho
      split at e
      · rename_i hz
        obtain rfl := Option.some.inj e
        obtain rfl := hx
        obtain rfl := hy
        exact ⟨_, op_pow, _, _, rfl, rfl, ⟨hz.1, by omega, hz.2.2⟩, hd _ (.int _)⟩
      · cases e
    · cases e

/-! ### dicts -/
theorem eqb_key (a b : Key) : D.eqb (keyD a) (keyD b) = decide (a = b) := by
  cases a <;> cases b <;> simp [keyD, D.eqb]
  all_goals (first | rfl | (rw [Bool.eq_iff_iff]; simp))
theorem lkd_val : ∀ {kvs : List (Key × V)} {ks ds : List D}, Rkv G F α kvs ks ds → ∀ k : Key, (valV kvs k = none ∧ lkd ks ds (keyD k) = none) ∨ ∃ v d, valV kvs k = some v ∧ lkd ks ds (keyD k) = some d ∧ Rp G F α v d
  | _, _, _, .nil, k => .inl ⟨valV_nil, rfl⟩
  | (k', v) :: kvs, kd :: ks, d :: ds, .cons e ok h r, k => by
    subst e
    by_cases hk : k' = k
    · refine .inr ⟨v, d, valV_pos hk, ?_, h⟩
      unfold lkd
      rw [eqb_key, if_pos (decide_eq_true hk)]
    · have e1 : lkd (keyD k' :: ks) (d :: ds) (keyD k) = lkd ks ds (keyD k) := by
        rw [lkd, eqb_key, if_neg (by simpa using hk)]
      rw [valV_neg (p := (k', v)) hk, e1]
      exact lkd_val r k
theorem lkd_some {kvs : List (Key × V)} {ks ds : List D} (r : Rkv G F α kvs ks ds) (k : Key) : (valV kvs k).isSome = (lkd ks ds (keyD k)).isSome := by
  rcases lkd_val r k with ⟨h1, h2⟩ | ⟨v, d, h1, h2, _⟩
  · rw [h1, h2]; rfl
  · rw [h1, h2]; rfl
/-- a value that is a key -/
theorem key_of_d {x : V} {a : D} (hx : RpH G F H α x a) (h : isKey a = true) : ∃ k : Key, x = kV k ∧ a = keyD k ∧ Rp G F α x a := by
  cases a with
  | int i => obtain rfl := hx; exact ⟨.inl i, rfl, rfl, .int i⟩
  | str s => obtain ⟨rfl, hs⟩ := hx; exact ⟨.inr s, rfl, rfl, .str hs⟩
  | _ => simp [isKey] at h
def rInDic : R2 := fun x y H Q => ∃ a o, y = .ref a ∧ DGet H a x o ∧ Q (.bl o.isSome) H
def rNinDic : R2 := fun x y H Q => ∃ a o, y = .ref a ∧ DGet H a x o ∧ Q (.bl (!o.isSome)) H
theorem op_inDic {X : Cx} (hu : X.A.units + 1 < cLine) : OpR X (compareOp .In) rInDic := fun pins s σ H x y v u Q I rx ry h => by
  obtain ⟨a, o, rfl, g, q⟩ := h
  obtain rfl : u = .ref a := ry
  exact d_in hu I g rx fun s' I' => ⟨.bl _, H, I', rfl, q⟩
theorem op_ninDic {X : Cx} (hu : X.A.units + 1 < cLine) : OpR X (compareOp .NotIn) rNinDic := fun pins s σ H x y v u Q I rx ry h => by
  obtain ⟨a, o, rfl, g, q⟩ := h
  obtain rfl : u = .ref a := ry
  exact d_notIn hu I g rx fun s' I' => ⟨.bl _, H, I', rfl, q⟩
def rIxDic : R2 := fun x y H Q => ∃ a v, x = .ref a ∧ DGet H a y (some v) ∧ Q v H

theorem one_sign {x : Str} {c : Nat} (h : x.cps.toList = [c]) : x = ⟨#[c]⟩ := by
  obtain ⟨a⟩ := x
  have : a = #[c] := by rw [← Array.toList_inj]; exact h
  rw [this]
theorem any_eqb {xs : List D} {a : D} {k j : Nat} (h1 : D.fits k xs = true) (h2 : D.fit j a = true) : ((toPs xs).any fun z => PyData.eqv z (toP a)) = xs.any fun z => D.eqb z a := by
  induction xs with
  | nil => rfl
  | cons x xs ih =>
    simp only [D.fits, Bool.and_eq_true] at h1
    simp only [toPs, List.any_cons]
    rw [eqv_eqb x a h1.1 h2, ih h1.2]
theorem cop_ok {X : Cx} (hK : X.K = G.K) (hu : X.A.units + 65 < cLine) (R : SR G F H α st) {op : CmpOp} {o : Cop} (ho : copOf op = some o) {x y : V} {a c : D} (hx : RpH G F H α x a) (hy : RpH G F H α y c) {Q : VK} {E : XK}
    (h : PV G F H α (pur ((cop o a c).map .bl) st) Q E) : wO X (compareOp op) x y H Q := by
  cases e : cop o a c with
  | none => rw [e] at h; exact h.elim
  | some b =>
    rw [e] at h
    have hd : Q (.bl b) H := Pst.here h R _ (.bl b)
    cases o with
    | eq =>
      cases op <;> simp [copOf] at ho
      simp only [cop] at e
      split at e
      · rename_i hf
        rw [Bool.and_eq_true] at hf
        obtain rfl := Option.some.inj e
        have d1 := hx.dp R.sub hf.1 (by decide)
        have d2 := hy.dp R.sub hf.2 (by decide)
        rw [← hK] at d1 d2
        rw [← eqv_eqb a c hf.1 hf.2] at hd
        exact ⟨_, op_eqD (by omega), _, _, d1.1, d2.1, d1.2, d2.2, hd⟩
      · cases e
    | ne =>
      cases op <;> simp [copOf] at ho
      simp only [cop] at e
      split at e
      · rename_i hf
        rw [Bool.and_eq_true] at hf
        obtain rfl := Option.some.inj e
        have d1 := hx.dp R.sub hf.1 (by decide)
        have d2 := hy.dp R.sub hf.2 (by decide)
        rw [← hK] at d1 d2
        rw [← eqv_eqb a c hf.1 hf.2] at hd
        exact ⟨_, op_neD (by omega), _, _, d1.1, d2.1, d1.2, d2.2, hd⟩
      · cases e
    | lt =>
      cases op <;> simp [copOf] at ho
      simp only [cop] at e
      split at e
      · obtain rfl := Option.some.inj e
        obtain rfl := hx; obtain rfl := hy
        exact ⟨_, op_lt, _, _, rfl, rfl, hd⟩
      · cases e
    | le =>
      cases op <;> simp [copOf] at ho
      simp only [cop] at e
      split at e
      · obtain rfl := Option.some.inj e
        obtain rfl := hx; obtain rfl := hy
        exact ⟨_, op_le, _, _, rfl, rfl, hd⟩
      · cases e
    | gt =>
      cases op <;> simp [copOf] at ho
      simp only [cop] at e
      split at e
      · obtain rfl := Option.some.inj e
        obtain rfl := hx; obtain rfl := hy
        exact ⟨_, op_gt, _, _, rfl, rfl, hd⟩
      · cases e
    | ge =>
      cases op <;> simp [copOf] at ho
      simp only [cop] at e
      split at e
      · obtain rfl := Option.some.inj e
        obtain rfl := hx; obtain rfl := hy
        exact ⟨_, op_ge, _, _, rfl, rfl, hd⟩
      · cases e
    | inn =>
      cases op <;> simp [copOf] at ho
      simp only [cop, isin] at e
      split at e
      · rename_i xs
        split at e
        · rename_i hf
          rw [Bool.and_eq_true] at hf
          obtain rfl := Option.some.inj e
          have d1 := hx.dp R.sub hf.1 (by decide)
          have d2 := RpH.dp (d := .lst xs) R.sub hy (k := 21) (by simpa [D.fit] using hf.2) (by decide)
          simp only [toP] at d2
          rw [← hK] at d1 d2
          rw [← any_eqb hf.2 hf.1] at hd
          exact ⟨_, op_inD (by omega), _, _, d1.1, d2.1, d1.2, d2.2, hd⟩
        · cases e
      · rename_i ks vs
        split at e
        · rename_i hk
          obtain rfl := Option.some.inj e
          obtain ⟨k, rfl, rfl, _⟩ := key_of_d hx hk
          obtain ⟨p, kvs, rfl, h1, r⟩ := hy
          rw [← lkd_some r k] at hd
          exact ⟨_, op_inDic (by omega), p, _, rfl, DGet.k h1, hd⟩
        · cases e
      · rename_i z
        split at e
        · split at e
          · rename_i t cc hc
            obtain rfl := Option.some.inj e
            obtain ⟨rfl, _⟩ := hx; obtain ⟨rfl, _⟩ := hy
            refine ⟨_, op_in_sign, cc, z, by rw [one_sign hc], rfl, ?_⟩
            rw [List.contains_eq_mem] at hd
            exact hd
          · cases e
        · cases e
      · cases e
    | nin =>
      cases op <;> simp [copOf] at ho
      simp only [cop, isin] at e
      split at e
      · rename_i xs
        split at e
        · rename_i hf
          rw [Bool.and_eq_true] at hf
          obtain rfl := Option.some.inj e
          have d1 := hx.dp R.sub hf.1 (by decide)
          have d2 := RpH.dp (d := .lst xs) R.sub hy (k := 21) (by simpa [D.fit] using hf.2) (by decide)
          simp only [toP] at d2
          rw [← hK] at d1 d2
          rw [← any_eqb hf.2 hf.1] at hd
          exact ⟨_, op_notInD (by omega), _, _, d1.1, d2.1, d1.2, d2.2, hd⟩
        · cases e
      · rename_i ks vs
        split at e
        · rename_i hk
          obtain rfl := Option.some.inj e
          obtain ⟨k, rfl, rfl, _⟩ := key_of_d hx hk
          obtain ⟨p, kvs, rfl, h1, r⟩ := hy
          rw [← lkd_some r k] at hd
          exact ⟨_, op_ninDic (by omega), p, _, rfl, DGet.k h1, hd⟩
        · cases e
      · rename_i z
        split at e
        · split at e
          · rename_i t cc hc
            obtain rfl := Option.some.inj e
            obtain ⟨rfl, _⟩ := hx; obtain ⟨rfl, _⟩ := hy
            refine ⟨_, op_notIn_sign, cc, z, by rw [one_sign hc], rfl, ?_⟩
            rw [List.contains_eq_mem] at hd
            exact hd
          · cases e
        · cases e
      · cases e

/-! ### items, slices -/
theorem index_ok {X : Cx} (hK : X.K = G.K) (hu : X.A.units + 65 < cLine) (R : SR G F H α st) {x y : V} {a c : D} (hx : RpH G F H α x a) (hy : RpH G F H α y c) {Q : VK} {E : XK}
    (h : PV G F H α (pur (index a c) st) Q E) (hn : ∀ ks vs, a ≠ .dic ks vs) : wX X x y H Q := by
  cases e : index a c with
  | none => rw [e] at h; exact h.elim
  | some d =>
    rw [e] at h
    have hd : KV1 G Q d F H α st := Pst.here h R
    unfold index at e
    split at e
    · rename_i xs i
      obtain ⟨p, vs, o, rfl, f1, hdn, h1, r⟩ := hx
      obtain rfl := hy
      cases ep : plc xs.length i with
      | none => rw [ep] at e; cases e
      | some j =>
        rw [ep] at e
        obtain ⟨v, hv, rv⟩ := r.get (show xs[j]? = some d from e)
        refine ⟨_, ix_tup, p, vs, i, v, rfl, rfl, by rw [hK]; exact .inl (.inr ⟨_, h1⟩), ?_, hd _ rv⟩
        have e2 : ixN vs.length i = some j := by rw [r.len]; exact ep
        unfold atI; rw [e2]; exact hv
    · rename_i xs i
      obtain ⟨p, vs, rfl, h1, r⟩ := hx
      obtain rfl := hy
      cases ep : plc xs.length i with
      | none => rw [ep] at e; cases e
      | some j =>
        rw [ep] at e
        obtain ⟨v, hv, rv⟩ := r.get (show xs[j]? = some d from e)
        refine ⟨_, ix_list, p, vs, i, v, rfl, rfl, SqL.of h1, ?_, hd _ rv⟩
        have e2 : ixN vs.length i = some j := by rw [r.len]; exact ep
        unfold atI; rw [e2]; exact hv
    · rename_i ns i
      obtain ⟨p, rfl, h1⟩ := hx
      obtain rfl := hy
      cases ep : plc ns.length i with
      | none => rw [ep] at e; cases e
      | some j =>
        rw [ep] at e
        have e' : (ns[j]?).map D.int = some d := e
        cases en : ns[j]? with
        | none => rw [en] at e'; cases e'
        | some k =>
          rw [en] at e'
          obtain rfl := Option.some.inj e'
          refine ⟨_, ix_list, p, _, i, .int k, rfl, rfl, by rw [hK]; exact h1, ?_, hd _ (.int k)⟩
          have e2 : ixN (ns.map V.int).length i = some j := by rw [List.length_map]; exact ep
          unfold atI; rw [e2]
          show (ns.map V.int)[j]? = _
          rw [List.getElem?_map, en]; rfl
    · rename_i s i
      obtain ⟨rfl, hs⟩ := hx
      obtain rfl := hy
      split at e
      · rename_i hz
        cases ep : plc s.cps.toList.length i with
        | none => rw [ep] at e; cases e
        | some j =>
          rw [ep] at e
          have e' : (s.cps.toList[j]?).map sgn = some d := e
          cases en : s.cps.toList[j]? with
          | none => rw [en] at e'; cases e'
          | some k =>
            rw [en] at e'
            obtain rfl := Option.some.inj e'
            refine ⟨_, ix_str, s, i, k, rfl, rfl, hz, ?_, hd _ (.str (sOk_list fun c hc => ?_))⟩
            · have e2 : ixN s.cps.toList.length i = some j := ep
              unfold atI; rw [e2]; exact en
            · obtain rfl := List.mem_singleton.mp hc
              exact sOk_iff.mp hs _ (List.mem_of_getElem? en)
      · cases e
    · exact absurd rfl (hn _ _)
    · cases e
theorem slice_ok {X : Cx} (hK : X.K = G.K) (R : SR G F H α st) {x : V} {a : D} {lo hi : Option Int} (hx : RpH G F H α x a) {Q : VK} {E : XK}
    (h : PV G F H α (pur (slice a lo hi) st) Q E) : wSl X x lo hi H Q := by
  cases e : slice a lo hi with
  | none => rw [e] at h; exact h.elim
  | some d =>
    rw [e] at h
    have hd : KV1 G Q d F H α st := Pst.here h R
    unfold slice at e
    split at e
    · rename_i xs
      obtain rfl := Option.some.inj e
      obtain ⟨p, vs, o, rfl, f1, hdn, h1, r⟩ := hx
      refine ⟨_, sl_tupF, p, vs, rfl, by rw [hK]; exact .inl (.inr ⟨_, h1⟩), fun hw => ?_, fun hw q o' hq ho' => ?_⟩
      · have ec : LS.cut xs lo hi = xs := by
          have e1 : LS.cut xs lo hi = (xs.drop (HT.sIx xs.length 0 lo)).take (HT.sIx xs.length xs.length hi - HT.sIx xs.length 0 lo) := rfl
          rw [r.len] at hw
          rw [e1, hw.1, hw.2]; simp
        rw [ec] at hd
        exact hd _ (.tup f1 hdn r)
      · exact PV.newF h R hq (.tup upd_same ho' ((r.cut lo hi).mono (same_upd (R.free hq)) (List.prefix_refl _)))
    · rename_i xs
      obtain rfl := Option.some.inj e
      obtain ⟨p, vs, rfl, h1, r⟩ := hx
      exact ⟨_, sl_list, p, vs, rfl, SqL.of h1, fun q hq => PV.newF h R hq (.lst upd_same ((r.cut lo hi).mono (same_upd (R.free hq)) (List.prefix_refl _)))⟩
    · rename_i s
      split at e
      · rename_i hz
        obtain rfl := Option.some.inj e
        obtain ⟨rfl, hs⟩ := hx
        refine ⟨_, sl_str, s, rfl, hz, ?_⟩
        have ec : cutS s lo hi = ⟨(LS.cut s.cps.toList lo hi).toArray⟩ := rfl
        rw [ec]
        refine hd _ (.str (sOk_list fun c hc => ?_))
        unfold LS.cut at hc
        exact sOk_iff.mp hs _ (List.mem_of_mem_drop (List.mem_of_mem_take hc))
      · cases e
    · cases e
end
end LS
end
section
set_option Elab.async false
set_option linter.all false
set_option maxRecDepth 10000
/-! LS, part 5: built-in functions. -/
namespace LS
open PySem PySem.Spec PyProof.Rows L2

inductive RHs (G : Gm) (F H : Hp) (α : List Addr) : List V → List D → Prop where
  | nil : RHs G F H α [] []
  | cons {v : V} {d : D} {vs : List V} {ds : List D} (h : RpH G F H α v d) (r : RHs G F H α vs ds) : RHs G F H α (v :: vs) (d :: ds)
section
variable {G : Gm} {F H : Hp} {α : List Addr} {st : Sto}
theorem view_oks (R : SR G F H α st) : ∀ {vs : List V} {ds : List D}, Rps G F α vs ds → RHs G F H α vs (ds.map (view st))
  | _, _, .nil => .nil
  | _, _, .cons h r => .cons (view_ok R h) (view_oks R r)

theorem ints_ok : ∀ {vs : List V} {ds : List D} {ns : List Int}, Rps G F α vs ds → intsOf ds = some ns → vs = ns.map V.int
  | _, _, ns, .nil, e => by obtain rfl := Option.some.inj e; rfl
  | _, _, ns, .cons (d := d) (ds := ds) h r, e => by
    cases d with
    | int i =>
      simp only [intsOf] at e
      cases q : intsOf ds with
      | none => rw [q] at e; cases e
      | some l =>
        rw [q] at e
        obtain rfl := Option.some.inj e
        cases h
        rw [ints_ok r q]; rfl
    | _ => simp [intsOf] at e
theorem bools_ok : ∀ {vs : List V} {ds : List D} {ns : List Bool}, Rps G F α vs ds → boolsOf ds = some ns → vs = ns.map V.bl
  | _, _, ns, .nil, e => by obtain rfl := Option.some.inj e; rfl
  | _, _, ns, .cons (d := d) (ds := ds) h r, e => by
    cases d with
    | bl i =>
      simp only [boolsOf] at e
      cases q : boolsOf ds with
      | none => rw [q] at e; cases e
      | some l =>
        rw [q] at e
        obtain rfl := Option.some.inj e
        cases h
        rw [bools_ok r q]; rfl
    | _ => simp [boolsOf] at e
theorem strs_ok : ∀ {vs : List V} {ds : List D} {ns : List Str}, Rps G F α vs ds → strsOf ds = some ns → vs = ns.map V.str ∧ ∀ x ∈ ns, sOk x
  | _, _, ns, .nil, e => by obtain rfl := Option.some.inj e; exact ⟨rfl, fun _ h => nomatch h⟩
  | _, _, ns, .cons (d := d) (ds := ds) h r, e => by
    cases d with
    | str i =>
      simp only [strsOf] at e
      cases q : strsOf ds with
      | none => rw [q] at e; cases e
      | some l =>
        rw [q] at e
        obtain rfl := Option.some.inj e
        cases h
        rename_i hs
        obtain ⟨h1, h2⟩ := strs_ok r q
        exact ⟨by rw [h1]; rfl, fun x hx => (List.mem_cons.mp hx).elim (fun z => z ▸ hs) (h2 x)⟩
    | _ => simp [strsOf] at e
theorem rps_ints (ns : List Int) : Rps G F α (ns.map V.int) (ns.map D.int) := by
  induction ns with
  | nil => exact .nil
  | cons n ns ih => exact .cons (.int n) ih
theorem rps_strs : ∀ {ns : List Str}, (∀ x ∈ ns, sOk x) → Rps G F α (ns.map V.str) (ns.map D.str)
  | [], _ => .nil
  | n :: ns, h => .cons (.str (h n List.mem_cons_self)) (rps_strs fun x hx => h x (List.mem_cons_of_mem _ hx))

/-! ### sorting texts -/
def leS (a b : Str) : Prop := ¬ b.cps.toList < a.cps.toList
theorem leS_trans {a b c : Str} (h1 : leS a b) (h2 : leS b c) : leS a c := by
  unfold leS at *
  rw [List.not_lt] at *
  exact List.le_trans h1 h2
theorem leS_anti {a b : Str} (h1 : leS a b) (h2 : leS b a) : a = b := by
  unfold leS at *
  rw [List.not_lt] at *
  have := List.le_antisymm h1 h2
  obtain ⟨x⟩ := a
  obtain ⟨y⟩ := b
  have : x = y := by rw [← Array.toList_inj]; exact this
  rw [this]
theorem leS_total (a b : Str) : leS a b ∨ leS b a := by
  unfold leS
  rw [List.not_lt, List.not_lt]
  exact List.le_total _ _
theorem rising_pw : ∀ (l : List Str) (p : Str), risingS p l = true → (∀ x ∈ l, leS p x) ∧ l.Pairwise leS
  | [], p, _ => ⟨(fun _ h => nomatch h), .nil⟩
  | x :: r, p, h => by
    have h' : (!ltCps x.cps.toList p.cps.toList && risingS x r) = true := h
    rw [Bool.and_eq_true] at h'
    have h1 : leS p x := by
      have := h'.1
      rw [ltCps_eq] at this
      unfold leS
      simpa using this
    obtain ⟨h2, h3⟩ := rising_pw r x h'.2
    exact ⟨fun y hy => (List.mem_cons.mp hy).elim (fun z => z ▸ h1) fun z => leS_trans h1 (h2 y z), .cons (fun y hy => h2 y hy) h3⟩
theorem sorted_pw (l : List Str) (h : sortedS l = true) : l.Pairwise leS := by
  cases l with
  | nil => exact .nil
  | cons x r => obtain ⟨h1, h2⟩ := rising_pw r x h; exact .cons h1 h2
theorem insS_perm (x : Str) : ∀ l : List Str, (insS x l).Perm (x :: l)
  | [] => .refl _
  | y :: ys => by
    unfold insS
    split
    · exact ((insS_perm x ys).cons y).trans (.swap _ _ _)
    · exact .refl _
theorem sortS_perm : ∀ l : List Str, (sortS l).Perm l
  | [] => .refl _
  | x :: xs => (insS_perm x _).trans ((sortS_perm xs).cons x)
theorem insS_pw (x : Str) : ∀ l : List Str, l.Pairwise leS → (insS x l).Pairwise leS
  | [], _ => .cons (fun _ h => nomatch h) .nil
  | y :: ys, h => by
    cases h with
    | cons h1 h2 =>
      unfold insS
      split
      · rename_i hlt
        refine .cons (fun z hz => ?_) (insS_pw x ys h2)
        rcases List.mem_cons.mp ((insS_perm x ys).mem_iff.mp hz) with e | hz
        · subst e
          rcases leS_total y z with q | q
          · exact q
          · exact absurd hlt q
        · exact h1 z hz
      · rename_i hlt
        exact .cons (fun z hz => (List.mem_cons.mp hz).elim (fun e => e ▸ hlt) fun hz => leS_trans hlt (h1 z hz)) (.cons h1 h2)
theorem sortS_pw : ∀ l : List Str, (sortS l).Pairwise leS
  | [] => .nil
  | x :: xs => insS_pw x _ (sortS_pw xs)
theorem sortS_eq {ys xs : List Str} (p : ys.Perm xs) (s : sortedS ys = true) : ys = sortS xs :=
  List.Perm.eq_of_pairwise (le := leS) (fun a b _ _ h1 h2 => leS_anti h1 h2) (sorted_pw ys s) (sortS_pw xs) (p.trans (sortS_perm xs).symm)

/-! ### dicts of pairs -/
theorem putK_put {kvs : List (Key × V)} {ks ds : List D} (r : Rkv G F α kvs ks ds) {k : Key} {v : V} {d : D} (ok : Rp G F α (kV k) (keyD k)) (h : Rp G F α v d) :
    Rkv G F α (putK kvs k v) (putd ks ds (keyD k) d).1 (putd ks ds (keyD k) d).2 := by
  have hs := lkd_some r k
  have ha := valV_any k kvs
  unfold putK putd
  rw [ha, hs]
  cases q : (lkd ks ds (keyD k)).isSome with
  | true =>
    simp only [if_true]
    clear hs ha q
    induction kvs generalizing ks ds with
    | nil => cases r; exact .nil
    | cons p kvs ih =>
      cases r with
      | cons e o hv r =>
        rename_i k' kd v' d' ks ds
        subst e
        have hh := ih r
        by_cases z : k' = k
        · subst z
          show Rkv G F α ((if k' = k' then (k', v) else (k', v')) :: _) (keyD k' :: ks) ((if D.eqb (keyD k') (keyD k') then d else d') :: _)
          rw [if_pos rfl, eqb_key, if_pos (decide_eq_true rfl)]
          exact .cons rfl o h hh
        · show Rkv G F α ((if k' = k then (k', v) else (k', v')) :: _) (keyD k' :: ks) ((if D.eqb (keyD k') (keyD k) then d else d') :: _)
          rw [if_neg z, eqb_key, if_neg (by simpa using z)]
          exact .cons rfl o hv hh
  | false =>
    simp only [Bool.false_eq_true, if_false]
    clear hs ha q
    induction kvs generalizing ks ds with
    | nil => cases r; exact .cons rfl ok h .nil
    | cons p kvs ih =>
      cases r with
      | cons e o hv r => exact .cons e o hv (ih r)
theorem merge_ok : ∀ {more : List (Key × V)} {ks ds : List D} {kvs : List (Key × V)} {acc : List D × List D}, Rkv G F α more ks ds → Rkv G F α kvs acc.1 acc.2 → Rkv G F α (mergeK kvs more) (merge acc ks ds).1 (merge acc ks ds).2
  | _, _, _, kvs, acc, .nil, r => by
    show Rkv G F α kvs (merge acc [] []).1 (merge acc [] []).2
    unfold merge
    exact r
  | _, _, _, kvs, acc, .cons (k := k) (v := v) (d := d) (kvs := rest) (ks := ks) (ds := ds) e ok h r', r => by
    subst e
    show Rkv G F α (mergeK (putK kvs k v) rest) (merge (putd acc.1 acc.2 (keyD k) d) ks ds).1 (merge (putd acc.1 acc.2 (keyD k) d) ks ds).2
    exact merge_ok r' (putK_put r ok h)
theorem prs_ok (hs : Same F H) : ∀ {vs : List V} {ds ks es : List D}, Rps G F α vs ds → prs ds = some (ks, es) →
    ∃ (ps : List Addr) (kvs : List (Key × V)), vs = ps.map V.ref ∧ Paired (fun p kv => SqT G.K H p [kV kv.1, kv.2]) ps kvs ∧ Rkv G F α kvs ks es
  | _, _, ks, es, .nil, e => by
    simp only [prs, Option.some.injEq, Prod.mk.injEq] at e
    obtain ⟨rfl, rfl⟩ := e
    exact ⟨[], [], rfl, .nil, .nil⟩
  | _, _, ks, es, .cons (d := d) (ds := ds) h r, e => by
    unfold prs at e
    split at e
    · rename_i k v xs heq
      cases heq
    · rename_i k v xs heq
      obtain ⟨rfl, rfl⟩ := List.cons.inj heq
      split at e
      · rename_i hk
        cases q : prs ds with
        | none => rw [q] at e; cases e
        | some l =>
          rw [q] at e
          simp only [Option.map_some, Option.some.injEq, Prod.mk.injEq] at e
          obtain ⟨rfl, rfl⟩ := e
          obtain ⟨ps, kvs, rfl, hp, hr⟩ := prs_ok (ks := l.1) (es := l.2) hs r q
          cases h with
          | tup hf hd rr =>
            rename_i a o ws
            cases rr with
            | cons hk1 rr =>
              cases rr with
              | cons hv1 rr =>
                cases rr
                have hkH := hk1.inH hs (fun m z => by subst z; simp [isKey] at hk)
                obtain ⟨kk, rfl, rfl, _⟩ := key_of_d hkH hk
                exact ⟨a :: ps, (kk, _) :: kvs, rfl, .cons (.inl (.inr ⟨_, hs _ _ hf⟩)) hp, .cons rfl hk1 hv1 hr⟩
      · cases e
    · cases e

/-- dict(t) of a tuple of pairs; the tuple has no dict of its own -/
theorem call_dictTup {X : Cx} (hcalm : X.calm = true) : CallR X (.type "dict") (fun xs H Q => ∃ (a : Addr) (o : Obj) (ps : List Addr) (kvs : List (Key × V)), xs = [.ref a] ∧ H a = some (.frz o (.tup (ps.map V.ref))) ∧ o.dict = none ∧ Paired (fun p kv => SqT X.K H p [kV kv.1, kv.2]) ps kvs ∧
    ∀ p, H p = none → Q (.ref p) (upd H p (.dK (mergeK [] kvs)))) := by
  rintro pins s σ H xs us Q I r ⟨a, o, ps, kvs, rfl, hq, hdn, hp, q⟩
  obtain ⟨u, rfl, rx⟩ := vals1 r
  cases rx
  obtain ⟨ho, hz, its, rv, _⟩ := I.hok a _ hq
  rename_i htup
  obtain ⟨o', ho', hc, n, hdat⟩ := htup
  have eo : o = o' := by
    have q1 : s.heap.get? a = some o := ho
    rw [ho'] at q1
    exact (Option.some.inj q1).symm
  subst eo
  have ei := refs_at rv
  subst ei
  rw [List.length_map] at hz
  obtain ⟨prs', rel, hl, hpr⟩ := pairs_of I hp
  have hsz : prs'.length ≤ sizeLine := by rw [hl]; exact hz
  let ws : List (Value × Value) := (List.range prs'.length).map fun j => ((match ps[j]? with
    | some b => (match s.heap.get? b with
      | some ⟨_, _, .seq its _, _⟩ => its.getD 0 .none
      | _ => .none)
    | none => .none), (prs'.getD j (.inl 0, .none)).2)
  have hw : ∀ (j : Nat) (qq : Key × Value), prs'[j]? = some qq → ∃ (b : Addr) (u : Value), ps[j]? = some b ∧ IsTup s.heap b #[u, qq.2] ∧ keyIs qq.1 u = true ∧ ws[j]? = some (u, qq.2) := by
    intro j qq e
    obtain ⟨b, u, e1, e2, e3⟩ := hpr j qq e
    refine ⟨b, u, e1, e2, e3, ?_⟩
    have hj : j < prs'.length := (List.getElem?_eq_some_iff.mp e).1
    obtain ⟨⟨oc, od, dt, sl⟩, g1, g2, n, g3⟩ := e2
    simp only at g3
    subst g3
    show ((List.range prs'.length).map _)[j]? = _
    rw [List.getElem?_map, List.getElem?_range hj]
    simp only [Option.map_some, e1, g1]
    have e4 : prs'.getD j (.inl 0, .none) = qq := by rw [List.getD_eq_getElem?_getD, e]; rfl
    rw [e4]
    rfl
  have hwl : ws.length = prs'.length := by simp [ws]
  have P := PySem.PairArg.tuple (prog := X.prog) (w := X.w) a (ps.map Value.ref).toArray (fun j => ps.getD j 0) ws
  refine PySem.call_dict_pairs (knd := mixKind X.prog X.w) (kvs := prs') P (I.ok.hd hcalm) ⟨⟨o, n, ho', hc, hdn, hdat⟩, by rw [hwl, hl]; simp, fun j k v e => ?_⟩ ⟨hwl.symm, fun j k v e => ?_⟩ (by rw [hwl]; exact hsz) fun h' tk hd' kk => ?_
  · have hj : j < prs'.length := by rw [← hwl]; exact (List.getElem?_eq_some_iff.mp e).1
    obtain ⟨b, u, e1, e2, e3, e4⟩ := hw j prs'[j] (List.getElem?_eq_getElem hj)
    rw [e] at e4
    obtain ⟨rfl, rfl⟩ := Prod.mk.inj (Option.some.inj e4)
    have e5 : ps.getD j 0 = b := by rw [List.getD_eq_getElem?_getD, e1]; rfl
    show (List.map Value.ref ps).toArray[j]? = some (Value.ref (ps.getD j 0)) ∧ PairAt s.heap (ps.getD j 0) _ _
    rw [e5]
    exact ⟨by simp [e1], .inl e2⟩
  · have hj : j < prs'.length := by rw [← hwl]; exact (List.getElem?_eq_some_iff.mp e).1
    obtain ⟨b, u, e1, e2, e3, e4⟩ := hw j prs'[j] (List.getElem?_eq_getElem hj)
    have e' : ws[j]? = some (k, v) := e
    rw [e'] at e4
    obtain ⟨rfl, rfl⟩ := Prod.mk.inj (Option.some.inj e4)
    exact ⟨prs'[j].1, List.getElem?_eq_getElem hj, e3⟩
  · have hm : (s.heap.objs.size == sysModules) = false := beq_eq_false_iff_ne.mpr (Nat.ne_of_gt I.big)
    have hlen : (mergeK [] kvs).length ≤ sizeLine := by
      refine Nat.le_trans (length_mergeK kvs []) ?_
      rw [List.length_nil, Nat.zero_add, rel.length]
      exact hsz
    exact ⟨.ref s.heap.objs.size, upd H s.heap.objs.size (.dK (mergeK [] kvs)), I.laid (t' := tk) (fun b ob e => kk b ob (by simp) e) (Nat.le_refl _) (show ObjOk X.prog X.w _ _ _ (.dK (mergeK [] kvs)) from ⟨hlen, hm, merged [] prs', KV.merge rel .nil, hd'⟩), rfl, q _ (I.hok.fresh (Nat.le_refl _))⟩

/-! ### sums, greatest, least -/
theorem maxI_ok : ∀ {ns : List Int} {k : Int}, maxI ns = some k → k ∈ ns ∧ ∀ y ∈ ns, y ≤ k
  | [], _, e => by cases e
  | [x], k, e => by
    obtain rfl := Option.some.inj e
    exact ⟨List.mem_singleton.mpr rfl, fun y hy => by rw [List.mem_singleton.mp hy]; exact Int.le_refl _⟩
  | x :: y :: r, k, e => by
    have e' : (maxI (y :: r)).map (fun m => max x m) = some k := e
    cases q : maxI (y :: r) with
    | none => rw [q] at e'; cases e'
    | some m =>
      rw [q] at e'
      obtain rfl := Option.some.inj e'
      obtain ⟨h1, h2⟩ := maxI_ok q
      refine ⟨?_, fun z hz => ?_⟩
      · show max x m ∈ x :: y :: r
        rcases Int.le_total x m with c | c
        · rw [Int.max_eq_right c]; exact List.mem_cons_of_mem _ h1
        · rw [Int.max_eq_left c]; exact List.mem_cons_self
      · show z ≤ max x m
        rcases List.mem_cons.mp hz with rfl | hz
        · exact Int.le_max_left _ _
        · exact Int.le_trans (h2 z hz) (Int.le_max_right _ _)
theorem minI_ok : ∀ {ns : List Int} {k : Int}, minI ns = some k → k ∈ ns ∧ ∀ y ∈ ns, k ≤ y
  | [], _, e => by cases e
  | [x], k, e => by
    obtain rfl := Option.some.inj e
    exact ⟨List.mem_singleton.mpr rfl, fun y hy => by rw [List.mem_singleton.mp hy]; exact Int.le_refl _⟩
  | x :: y :: r, k, e => by
    have e' : (minI (y :: r)).map (fun m => min x m) = some k := e
    cases q : minI (y :: r) with
    | none => rw [q] at e'; cases e'
    | some m =>
      rw [q] at e'
      obtain rfl := Option.some.inj e'
      obtain ⟨h1, h2⟩ := minI_ok q
      refine ⟨?_, fun z hz => ?_⟩
      · show min x m ∈ x :: y :: r
        rcases Int.le_total x m with c | c
        · rw [Int.min_eq_left c]; exact List.mem_cons_self
        · rw [Int.min_eq_right c]; exact List.mem_cons_of_mem _ h1
      · show min x m ≤ z
        rcases List.mem_cons.mp hz with rfl | hz
        · exact Int.min_le_left _ _
        · exact Int.le_trans (Int.min_le_right _ _) (h2 z hz)
theorem log2_small {n : Nat} (h : n < 10 ^ 100) : n.log2 < 1920 := by
  by_cases hz : n = 0
  · subst hz; decide
  · exact (Nat.log2_lt hz).mpr (Nat.lt_of_lt_of_le h (by decide +kernel))
theorem sOk_ofString (x : String) : sOk (Str.ofString x) := by
  rw [Str.ofString_eq_toList]
  refine sOk_list fun c hc => ?_
  obtain ⟨k, _, rfl⟩ := List.mem_map.mp hc
  have h := k.valid
  have h2 : k.toNat = k.val.toNat := rfl
  simp only [UInt32.isValidChar, Nat.isValidChar] at h
  omega

/-- the built-in function itself -/
def bfV : Bf → Value
  | .len => .builtin "len" | .list => .type "list" | .tuple => .type "tuple" | .sorted => .builtin "sorted" | .dict => .type "dict" | .all => .builtin "all" | .any => .builtin "any"
  | .sum => .builtin "sum" | .max => .builtin "max" | .min => .builtin "min" | .max2 => .builtin "max" | .min2 => .builtin "min" | .str => .type "str"
theorem mkL_ok {lv : Bool} {ds : List D} {vs : List V} {Q : VK} {E : XK} (R : SR G F H α st) (r : Rps G F α vs ds) (h : PV G F H α (mkL lv ds st) Q E) {p : Addr} (hp : H p = none) : Q (.ref p) (upd H p (.lst vs)) := by
  unfold mkL at h
  cases lv with
  | true => exact PV.newL h R hp ⟨R.free hp, vs, upd_same, r.mono (Same.refl _) (List.prefix_append _ _)⟩
  | false => exact PV.newF h R hp (.lst upd_same (r.mono (same_upd (R.free hp)) (List.prefix_refl _)))
theorem mkD_ok {lv : Bool} {ks ds : List D} {kvs : List (Key × V)} {Q : VK} {E : XK} (R : SR G F H α st) (r : Rkv G F α kvs ks ds) (h : PV G F H α (mkD lv ks ds st) Q E) {p : Addr} (hp : H p = none) : Q (.ref p) (upd H p (.dK kvs)) := by
  unfold mkD at h
  cases lv with
  | true => exact PV.newL h R hp ⟨R.free hp, kvs, upd_same, r.mono (Same.refl _) (List.prefix_append _ _)⟩
  | false => exact PV.newF h R hp (.dic upd_same (r.mono (same_upd (R.free hp)) (List.prefix_refl _)))
theorem keys_strs : ∀ {kvs : List (Key × V)} {ks ds : List D} {ss : List Str}, Rkv G F α kvs ks ds → strsOf ks = some ss → kvs.map (·.1) = ss.map Sum.inr ∧ ∀ x ∈ ss, sOk x
  | _, _, _, ss, .nil, e => by obtain rfl := Option.some.inj e; exact ⟨rfl, (fun _ h => nomatch h)⟩
  | _, _, _, ss, .cons (k := k) (ks := ks) e0 ok h r, e => by
    subst e0
    cases k with
    | inl i => simp [keyD, strsOf] at e
    | inr x =>
      simp only [keyD, strsOf] at e
      cases q : strsOf ks with
      | none => rw [q] at e; cases e
      | some l =>
        rw [q] at e
        obtain rfl := Option.some.inj e
        obtain ⟨h1, h2⟩ := keys_strs r q
        cases ok
        rename_i hs
        exact ⟨by rw [List.map_cons, h1]; rfl, fun y hy => (List.mem_cons.mp hy).elim (fun z => z ▸ hs) (h2 y)⟩
theorem Rkv.len : ∀ {kvs : List (Key × V)} {ks ds : List D}, Rkv G F α kvs ks ds → kvs.length = ks.length
  | _, _, _, .nil => rfl
  | _, _, _, .cons _ _ _ r => by rw [List.length_cons, List.length_cons, r.len]
theorem bfn_ok {X : Cx} (hc : X.calm = true) (hK : X.K = G.K) (R : SR G F H α st) {b : Bf} {lv : Bool} {vs : List V} {ds : List D} (hx : RHs G F H α vs ds) {Q : VK} {E : XK}
    (h : PV G F H α (bfn b lv ds st) Q E) : wC X (bfV b) vs H Q := by
  unfold bfn at h
  split at h
  · -- len(text)
    split at h
    · rename_i hz
      cases hx with | cons h1 r => cases r; obtain ⟨rfl, _⟩ := h1; exact ⟨_, call_len_str, _, rfl, hz, Pst.here h R _ (.int _)⟩
    · exact h.elim
  · cases hx with | cons h1 r => cases r; obtain ⟨a, ws, o, rfl, f, hd, h2, rr⟩ := h1; exact ⟨_, call_len_seq, a, ws, rfl, .inr (.inl (.inr ⟨_, h2⟩)), by rw [rr.len]; exact Pst.here h R _ (.int _)⟩
  · cases hx with | cons h1 r => cases r; obtain ⟨a, ws, rfl, h2, rr⟩ := h1; exact ⟨_, call_len_seq, a, ws, rfl, .inl (SqL.of h2), by rw [rr.len]; exact Pst.here h R _ (.int _)⟩
  · cases hx with | cons h1 r => cases r; obtain ⟨a, rfl, h2⟩ := h1; exact ⟨_, call_len_seq, a, _, rfl, .inl (by rw [hK]; exact h2), by rw [List.length_map]; exact Pst.here h R _ (.int _)⟩
  · cases hx with
    | cons h1 r =>
      cases r
      obtain ⟨a, kvs, rfl, h2, rr⟩ := h1
      refine ⟨fun xs H Q => ∃ (a : Addr) (kvs : List (Key × V)), xs = [.ref a] ∧ H a = some (.dK kvs) ∧ Q (.int kvs.length) H, ?_, a, kvs, rfl, h2, ?_⟩
      · rintro pins s σ H xs us Q I r ⟨a, kvs, rfl, hq, q⟩
        obtain ⟨u, rfl, rx⟩ := vals1 r
        cases rx
        exact d_len I (.inl hq) fun t s' I' => ⟨.int _, H, I', ⟨_, rfl⟩, q⟩
      · rw [rr.len]
        exact Pst.here h R _ (.int _)
  · -- list(list)
    cases hx with | cons h1 r => cases r; obtain ⟨a, ws, rfl, h2, rr⟩ := h1; exact ⟨_, call_list_of, a, ws, rfl, .inl (SqL.of h2), fun l hl => mkL_ok R rr h hl⟩
  · cases hx with | cons h1 r => cases r; obtain ⟨a, ws, o, rfl, f, hd, h2, rr⟩ := h1; exact ⟨_, call_list_of, a, ws, rfl, .inr (.inl (.inr ⟨_, h2⟩)), fun l hl => mkL_ok R rr h hl⟩
  · -- tuple(list)
    cases hx with | cons h1 r => cases r; obtain ⟨a, ws, rfl, h2, rr⟩ := h1; exact ⟨_, call_tupF, a, ws, rfl, SqL.of h2, fun p o hp ho => PV.newF h R hp (.tup upd_same ho (rr.mono (same_upd (R.free hp)) (List.prefix_refl _)))⟩
  · cases hx with | cons h1 r => cases r; obtain ⟨a, ws, o, rfl, f, hd, h2, rr⟩ := h1; exact ⟨_, call_tupleT, a, ws, rfl, .inl (.inr ⟨_, h2⟩), Pst.here h R _ (.tup f hd rr)⟩
  · -- sorted(dict)
    split at h
    · rename_i ss he
      split at h
      · rename_i hz
        cases hx with
        | cons h1 r =>
          cases r
          obtain ⟨a, kvs, rfl, h2, rr⟩ := h1
          obtain ⟨e1, e2⟩ := keys_strs rr he
          refine ⟨_, call_sortedD hc, a, kvs, ss, rfl, .inl h2, e1, hz, fun ys p hp hso hf => ?_⟩
          obtain rfl := sortS_eq hp hso
          exact mkL_ok R (rps_strs fun x hx => e2 x ((sortS_perm ss).mem_iff.mp hx)) h hf
      · exact h.elim
    · exact h.elim
  · -- dict(tuple)
    split at h
    · rename_i ks es he
      cases hx with
      | cons h1 r =>
        cases r
        obtain ⟨a, ws, o, rfl, f, hd, h2, rr⟩ := h1
        obtain ⟨ps, kvs, rfl, hp, hr⟩ := prs_ok R.sub rr he
        exact ⟨_, call_dictTup hc, a, o, ps, kvs, rfl, h2, hd, by rw [hK]; exact hp, fun p hp => mkD_ok R (merge_ok hr .nil) h hp⟩
    · exact h.elim
  · split at h
    · rename_i ks es he
      cases hx with
      | cons h1 r =>
        cases r
        obtain ⟨a, ws, rfl, h2, rr⟩ := h1
        obtain ⟨ps, kvs, rfl, hp, hr⟩ := prs_ok R.sub rr he
        exact ⟨_, call_dictP hc, a, ps, kvs, rfl, SqL.of h2, by rw [hK]; exact hp, fun p hp => mkD_ok R (merge_ok hr .nil) h hp⟩
    · exact h.elim
  · -- all
    rename_i xs
    cases hx with
    | cons h1 r =>
      cases r
      obtain ⟨a, ws, rfl, h2, rr⟩ := h1
      cases he : boolsOf xs with
      | none => rw [he] at h; exact h.elim
      | some bs =>
        rw [he] at h
        obtain rfl := bools_ok rr he
        exact ⟨_, cr_all hc, a, bs, rfl, SqL.of h2, Pst.here h R _ (.bl _)⟩
  · rename_i xs
    cases hx with
    | cons h1 r =>
      cases r
      obtain ⟨a, ws, rfl, h2, rr⟩ := h1
      cases he : boolsOf xs with
      | none => rw [he] at h; exact h.elim
      | some bs =>
        rw [he] at h
        obtain rfl := bools_ok rr he
        exact ⟨_, cr_any hc, a, bs, rfl, SqL.of h2, Pst.here h R _ (.bl _)⟩
  · rename_i xs
    cases hx with
    | cons h1 r =>
      cases r
      obtain ⟨a, ws, rfl, h2, rr⟩ := h1
      cases he : intsOf xs with
      | none => rw [he] at h; exact h.elim
      | some bs =>
        rw [he] at h
        obtain rfl := ints_ok rr he
        exact ⟨_, cr_sum hc, a, bs, rfl, SqL.of h2, Pst.here h R _ (.int _)⟩
  · rename_i xs
    cases hx with
    | cons h1 r =>
      cases r
      obtain ⟨a, ws, rfl, h2, rr⟩ := h1
      cases he : intsOf xs with
      | none => rw [he] at h; exact h.elim
      | some bs =>
        rw [he] at h
        obtain rfl := ints_ok rr he
        cases hm : maxI bs with
        | none => rw [show ((some bs).bind maxI) = maxI bs from rfl, hm] at h; exact h.elim
        | some k =>
          rw [show ((some bs).bind maxI) = maxI bs from rfl, hm] at h
          obtain ⟨m1, m2⟩ := maxI_ok hm
          refine ⟨_, cr_max hc, a, bs, rfl, SqL.of h2, List.length_pos_of_mem m1, fun m q1 q2 => ?_⟩
          obtain rfl : m = k := Int.le_antisymm (m2 m q1) (q2 k m1)
          exact Pst.here h R _ (.int _)
  · rename_i xs
    cases hx with
    | cons h1 r =>
      cases r
      obtain ⟨a, ws, rfl, h2, rr⟩ := h1
      cases he : intsOf xs with
      | none => rw [he] at h; exact h.elim
      | some bs =>
        rw [he] at h
        obtain rfl := ints_ok rr he
        cases hm : minI bs with
        | none => rw [show ((some bs).bind minI) = minI bs from rfl, hm] at h; exact h.elim
        | some k =>
          rw [show ((some bs).bind minI) = minI bs from rfl, hm] at h
          obtain ⟨m1, m2⟩ := minI_ok hm
          refine ⟨_, cr_min hc, a, bs, rfl, SqL.of h2, List.length_pos_of_mem m1, fun m q1 q2 => ?_⟩
          obtain rfl : m = k := Int.le_antisymm (q2 k m1) (m2 m q1)
          exact Pst.here h R _ (.int _)
  · rename_i i j
    cases hx with
    | cons h1 r =>
      cases r with
      | cons h2 r =>
        cases r
        obtain rfl := h1; obtain rfl := h2
        refine ⟨_, call_max2 hc, i, j, rfl, ?_⟩
        have e : (if j > i then j else i) = max i j := by
          rcases Int.lt_or_le i j with c | c
          · rw [if_pos c, Int.max_eq_right (Int.le_of_lt c)]
          · rw [if_neg (Int.not_lt.mpr c), Int.max_eq_left c]
        rw [e]; exact Pst.here h R _ (.int _)
  · rename_i i j
    cases hx with
    | cons h1 r =>
      cases r with
      | cons h2 r =>
        cases r
        obtain rfl := h1; obtain rfl := h2
        refine ⟨_, call_min2 hc, i, j, rfl, ?_⟩
        have e : (if j < i then j else i) = min i j := by
          rcases Int.lt_or_le j i with c | c
          · rw [if_pos c, Int.min_eq_right (Int.le_of_lt c)]
          · rw [if_neg (Int.not_lt.mpr c), Int.min_eq_left c]
        rw [e]; exact Pst.here h R _ (.int _)
  · split at h
    · rename_i hz
      cases hx with | cons h1 r => cases r; obtain rfl := h1; exact ⟨_, call_str_int, _, rfl, log2_small hz, Pst.here h R _ (.str (sOk_ofString _))⟩
    · exact h.elim
  · cases hx with | cons h1 r => cases r; obtain ⟨rfl, hs⟩ := h1; exact ⟨_, SkE.call_str_str, _, rfl, Pst.here h R _ (.str hs)⟩
  · exact h.elim
end
end LS
end
section
set_option Elab.async false
set_option linter.all false
set_option maxRecDepth 10000
/-! LS, part 6: methods of built-in types. -/
namespace LS
open PySem PySem.Spec PyProof.Rows L2

def wM (X : Cx) (id : String) : V → List V → Hp → VK → Prop := fun x vs H Q => ∃ r, MtR X id r ∧ r x vs H Q
theorem wM_mt (X : Cx) (id : String) : MtR X id (wM X id) := fun pins s σ H x xs v us Q I rx rs h => by
  obtain ⟨r, hr, q⟩ := h
  exact hr pins s σ H x xs v us Q I rx rs q
/-- .. a tuple that is known to have no dict of its own, too -/
def tyW (K : PySem.W.Frag) (T : String) (x : V) (H : Hp) : Prop := tyV K T x H ∨ (T = "tuple" ∧ ∃ p o xs, x = .ref p ∧ H p = some (.frz o (.tup xs)) ∧ o.dict = none)
section
variable {X : Cx} {pins : List (Addr × Obj)} {σ : L2.St} {H : Hp} {s : Shared}
theorem tyW_is {T : String} {x : V} {v : Value} (I : Inv X pins σ H s) (r : RelV x v) (ty : tyW X.K T x H) : s.TypeIs v T ∧ ∀ a, v = .ref a → ∃ ob, s.heap.get? a = some ob ∧ ob.dict = none := by
  rcases ty with ty | ⟨rfl, p, o, xs, rfl, hp, hd⟩
  · exact tyV_is I r ty
  · obtain rfl : v = .ref p := r
    obtain ⟨ho, _, its, _, o', ho', hc, _⟩ := I.hok p _ hp
    have e : o = o' := by
      have q : s.heap.get? p = some o := ho
      rw [ho'] at q
      exact (Option.some.inj q).symm
    subst e
    exact ⟨⟨o, ho', hc⟩, fun a e => by cases e; exact ⟨o, ho', hd⟩⟩
end
section
variable {X : Cx} {o e : Expr} {es : List Expr} {to : TE} {t : TA} {name : Str} {apos cpos : Pos} {T id : String} {r : V → List V → Hp → VK → Prop}
def tBW (K : PySem.W.Frag) (T : String) (r : V → List V → Hp → VK → Prop) (to : TE) (t : TA) : TE := fun σ H Q => to σ H fun x H1 => tyW K T x H1 ∧ t σ H1 fun xs H2 => r x xs H2 Q
theorem pe_bmW (pa : PlainAttrs T) (slot : Slot T name id) (hty : typeOf (.builtin id) = pure (.type "method_descriptor")) (hm : MtR X id r) (ho : PE X o to) (ha : PA X (e :: es) t)
    (hbase : attributeBase o name X.env (eval o X.env) = eval o X.env)
    (hfew : ((backTo cpos (starEach (e :: es) X.env)).all (fun x => !x.1) && (backToKw cpos (keywordEach [] X.env)).all (fun x => x.1.isSome) && decide ((e :: es).length + ([] : List Keyword).length + (if ([] : List Keyword).isEmpty then 0 else 1) < 30)) = true)
    (hline : (apos.endLine == cpos.line) = true) (hs : starEach (e :: es) X.env = (false, eval e X.env) :: starEach es X.env) (hplain : (backTo cpos (starEach es X.env)).any (·.1) = false) :
    PE X (.Call (.Attribute o name apos) (e :: es) [] cpos) (tBW X.K T r to t) := by
  refine ⟨fun pins s σ H Q I h => wpAny_Call_method_late hbase hfew hline rfl (thn (ho.run pins s σ H _ I h) fun v s1 ⟨x, H1, I1, r1, ty, q1⟩ => ?_)⟩
  obtain ⟨h1, h2⟩ := tyW_is I1 r1 ty
  have hA := ha.run cpos pins s1 σ H1 _ I1 q1
  refine ⟨T, id, pa, slot, hty, h1, h2, ?_⟩
  rw [hs] at hA ⊢
  exact Calls.callWith_builtin (by show (false || (backTo cpos (starEach es X.env)).any (·.1)) = false; rw [hplain] <;> rfl) (Calls.evalArgs_plain (thn hA fun us s2 ⟨vs, H2, I2, r2, q2⟩ => hm pins s2 σ H2 x vs v us Q I2 r1 r2 q2))
end

/-- l.count(x), flat things -/
def rCntF (K : PySem.W.Frag) : V → List V → Hp → VK → Prop := fun x xs H Q => ∃ (p : Addr) (ys : List V) (z : V), x = .ref p ∧ xs = [z] ∧ SqL K H p ys ∧ flatV z = true ∧ ys.all flatV = true ∧ Q (.int (ys.countP fun y => eqV y z : Nat)) H
theorem count_eqU {x : V} : ∀ {xs : List V} {us : List Value}, Vals xs us → xs.all flatV = true → us.countP (eqU x) = xs.countP fun y => eqV y x
  | _, _, .nil, _ => rfl
  | _, _, .cons r rs, h => by
    rw [List.all_cons, Bool.and_eq_true] at h
    rw [List.countP_cons, List.countP_cons, count_eqU rs h.2, eqU_of r h.1]
theorem mt_countF {X : Cx} : MtR X "list.count" (rCntF X.K) := by
  rintro pins s σ H x xs v us Q I rx rxs ⟨p, ys, z, rfl, rfl, hs, fz, fy, q⟩
  cases rx
  obtain ⟨u, rfl, ru⟩ := rxs.one
  obtain ⟨its, rv, ⟨⟨cls, dd, data, sl⟩, n, ho, hc, hdn, hd⟩, hlen⟩ := I.list hs
  simp only at hc hd
  subst hc hd
  refine call_meets PySem.F.slot_list_count ⟨_, ho, rfl⟩ PySem.F.entry_list_count (PySem.F.args_list_count_2 _ _) (SeqAt.list_countAt p its.toArray n dd sl u (eqU z))
    ⟨ho, fun y hy => mem_eqAt ru fz rv fy y (by simpa using hy), ?_⟩
  have ec : its.toArray.toList.countP (eqU z) = ys.countP fun y => eqV y z := count_eqU rv fy
  refine ⟨.int (ys.countP fun y => eqV y z : Nat), H, I.tok _, ⟨s.toks, ?_⟩, q⟩
  show Value.int ((its.toArray.toList.countP (eqU z) : Nat) : Int) s.toks = Value.int _ s.toks
  rw [ec]

def btT : BT → String | .list => "list" | .str => "str"
def bmId : Bm → BT → String
  | .append, _ => "list.append" | .index, _ => "list.index" | .count, _ => "list.count" | .join, _ => "str.join" | _, _ => ""
def bmName : Bm → Str
  | .append => "append" | .index => "index" | .count => "count" | .join => "join" | .extend => "extend" | .get => "get" | .copy => "copy" | .pop => "pop" | .popAt => "pop"
theorem bm_facts {b : Bm} {a : D} {t : BT} (h : recv b a = some t) : PlainAttrs (btT t) ∧ Slot (btT t) (bmName b) (bmId b t) ∧ typeOf (.builtin (bmId b t)) = pure (.type "method_descriptor") := by
  unfold recv at h
  split at h <;> cases h
  · exact ⟨PySem.F.plainAttrs_list, PySem.F.slot_list_append, PySem.F.type_list_append⟩
  · exact ⟨PySem.F.plainAttrs_list, PySem.F.slot_list_index, PySem.F.type_list_index⟩
  · exact ⟨PySem.F.plainAttrs_list, PySem.F.slot_list_count, PySem.F.type_list_count⟩
  · exact ⟨PySem.F.plainAttrs_str, PySem.F.slot_str_join, PySem.F.type_str_join⟩
section
variable {G : Gm} {F H : Hp} {α : List Addr} {st : Sto}
theorem recv_ty {X : Cx} {b : Bm} {a : D} {t : BT} {x : V} (hx : RpH G F H α x a) (h : recv b a = some t) : tyW X.K (btT t) x H := by
  unfold recv at h
  split at h <;> cases h
  · obtain ⟨p, vs, rfl, h1, _⟩ := hx; exact .inl (.inl ⟨rfl, vs, SqL.of h1⟩)
  · obtain ⟨p, vs, rfl, h1, _⟩ := hx; exact .inl (.inl ⟨rfl, vs, SqL.of h1⟩)
  · obtain ⟨p, vs, rfl, h1, _⟩ := hx; exact .inl (.inl ⟨rfl, vs, SqL.of h1⟩)
  · obtain ⟨rfl, _⟩ := hx; exact .inl rfl
theorem rps_bls (ns : List Bool) : Rps G F α (ns.map V.bl) (ns.map D.bl) := by
  induction ns with
  | nil => exact .nil
  | cons n ns ih => exact .cons (.bl n) ih
theorem joinS_str (sep : Str) : ∀ xs : List Str, joinS sep xs = PySem.Str.join sep xs
  | [] => rfl
  | [x] => rfl
  | x :: y :: r => by
    show x ++ (sep ++ joinS sep (y :: r)) = x ++ sep ++ PySem.Str.join sep (y :: r)
    rw [joinS_str sep (y :: r)]
    show (⟨x.cps ++ (sep.cps ++ (PySem.Str.join sep (y :: r)).cps)⟩ : Str) = ⟨x.cps ++ sep.cps ++ (PySem.Str.join sep (y :: r)).cps⟩
    rw [Array.append_assoc]
theorem joinS_eq (sep : Str) (xs : List Str) : joinS sep xs = Txt.join sep xs := by
  rw [joinS_str]; exact (StrLaws.glued_eq_join sep xs).symm
theorem sOk_join {sep : Str} (hs : sOk sep) : ∀ {xs : List Str}, (∀ x ∈ xs, sOk x) → sOk (joinS sep xs)
  | [], _ => by unfold joinS; exact sOk_list (l := []) (by simp)
  | [x], h => h x (by simp)
  | x :: y :: r, h => sOk_app (h x (by simp)) (sOk_app hs (sOk_join hs fun z hz => h z (by simp at hz ⊢; exact .inr hz)))
theorem toPs_get : ∀ (xs : List D) (j : Nat), (toPs xs)[j]? = (xs[j]?).map toP
  | [], j => rfl
  | x :: xs, 0 => rfl
  | x :: xs, j + 1 => by simp only [toPs, List.getElem?_cons_succ]; exact toPs_get xs j
theorem fits_mem {k : Nat} : ∀ {xs : List D} {j : Nat} {z : D}, D.fits k xs = true → xs[j]? = some z → D.fit k z = true
  | [], j, z, _, e => by simp at e
  | x :: xs, 0, z, h, e => by
    simp only [D.fits, Bool.and_eq_true] at h
    simp at e; subst e; exact h.1
  | x :: xs, j + 1, z, h, e => by
    simp only [D.fits, Bool.and_eq_true] at h
    exact fits_mem h.2 (by simpa using e)
theorem count_bl (bs : List Bool) (d : Bool) : (bs.map V.bl).countP (fun y => eqV y (.bl d)) = (bs.filter fun z => z == d).length := by
  rw [List.countP_map, List.countP_eq_length_filter]; rfl
theorem wr_at (R : SR G F H α st) {x : V} {n : Nat} (ho : Rp G F α x (.ref n)) {e : Ent} {ok : Bool} {b : Nat} : ∃ p, α[n]? = some p ∧ x = .ref p ∧ n < st.length ∧ (liveE st[n]? = true → F p = none) := by
  obtain ⟨p, e, ep, e1, e2, e3⟩ := ho.refAt R
  refine ⟨p, e1, ep, (List.getElem?_eq_some_iff.mp e2).1, fun h => ?_⟩
  rw [e2] at h
  cases e with
  | lst ds => exact e3.1
  | dic _ _ => exact e3.1
  | ins _ _ _ => exact e3.1
  | fz dd => cases h
theorem bmt_ok {X : Cx} (hK : X.K = G.K) (hu : X.A.units + 65 < cLine) (R : SR G F H α st) {b : Bm} {o a : D} {t : BT} {base : Nat} {x : V} {ds : List D} {vs : List V} (ht : recv b a = some t) (ho : Rp G F α x o) (ha : a = view st o) (hx : RpH G F H α x a) (hv : Rps G F α vs ds)
    {Q : VK} {E : XK} (h : PV G F H α (bmt b base o a ds st) Q E) : wM X (bmId b t) x vs H Q := by
  unfold bmt at h
  split at h
  · -- append
    rename_i n xs d
    cases ht
    cases hv with
    | cons hd r =>
    cases r
    split at h
    · rename_i hz
      unfold wr at h
      obtain ⟨p, vs, rfl, h1, r1⟩ := hx
      refine ⟨_, mt_append, p, vs, _, rfl, rfl, h1, by rw [r1.len]; exact hz, ?_⟩
      obtain ⟨p', hn, ep, hl, hF⟩ := wr_at R ho (e := .lst (xs ++ [d])) (ok := D.nr d) (b := base)
      cases ep
      split at h
      · rename_i hc
        rw [Bool.and_eq_true] at hc
        have hF := hF hc.1
        obtain ⟨R', x⟩ := R.write (o := .lst (vs ++ [_])) (e := .lst (xs ++ [d])) hn hF ⟨hF, _, upd_same, r1.app (.cons hd .nil)⟩
        exact Pst.now h R' x _ .non
      · exact h.elim
    · exact h.elim
  · -- index
    rename_i xs d
    cases ht
    cases hv with
    | cons hd r =>
    cases r
    split at h
    · rename_i hf
      rw [Bool.and_eq_true] at hf
      cases e : xs.findIdx? fun z => D.eqb z d with
      | none => rw [e] at h; exact h.elim
      | some j =>
        rw [e] at h
        obtain ⟨hj, hz, hno⟩ := List.findIdx?_eq_some_iff_getElem.mp e
        have d2 := RpH.dp (d := .lst xs) R.sub hx (k := 21) (by simpa [D.fit] using hf.2) (by decide)
        have hdnr : ∀ m, d ≠ .ref m := fun m z => by subst z; simp [D.fit] at hf
        have d1 := RpH.dp R.sub (hd.inH R.sub hdnr) hf.1 (by decide)
        simp only [toP] at d2
        rw [← hK] at d1 d2
        obtain ⟨p, ws, rfl, h1, r1⟩ := hx
        refine ⟨_, mt_indexD hu, p, _, toP d, toPs xs, j, toP xs[j], rfl, rfl, d2.1, d1.1, d2.2, d1.2, ?_, ?_, fun m z' hm hz' => ?_, Pst.here h R _ (.int _)⟩
        · rw [toPs_get, List.getElem?_eq_getElem hj]; rfl
        · rw [eqv_eqb _ _ (fits_mem hf.2 (List.getElem?_eq_getElem hj)) hf.1]; exact hz
        · have hm' : m < xs.length := Nat.lt_trans hm hj
          rw [toPs_get, List.getElem?_eq_getElem hm'] at hz'
          obtain rfl := Option.some.inj hz'
          rw [eqv_eqb _ _ (fits_mem hf.2 (List.getElem?_eq_getElem hm')) hf.1]
          have := hno m hm
          simpa using this
    · exact h.elim
  · -- count
    rename_i xs d
    cases ht
    cases hv with
    | cons hd r =>
    cases r
    cases hd
    split at h
    · rename_i bs he
      obtain ⟨p, ws, rfl, h1, r1⟩ := hx
      obtain rfl := bools_ok r1 he
      refine ⟨_, mt_countF, p, _, .bl d, rfl, rfl, SqL.of h1, rfl, ?_, ?_⟩
      · rw [List.all_map]; exact List.all_eq_true.mpr fun _ _ => rfl
      · rw [count_bl]; exact Pst.here h R _ (.int _)
    · exact h.elim
  · -- join
    rename_i y xs
    cases ht
    cases hv with
    | cons hd r =>
    cases r
    obtain ⟨rfl, hs⟩ := hx
    split at h
    · rename_i ss he
      split at h
      · rename_i hz
        cases hd with
        | lst h1 r1 =>
        obtain ⟨rfl, hss⟩ := strs_ok r1 he
        refine ⟨_, mt_join, y, _, ss, rfl, rfl, .inl (SqL.of (R.sub _ _ h1)), hz, ?_⟩
        rw [← joinS_eq]
        exact Pst.here h R _ (.str (sOk_join hs hss))
      · exact h.elim
    · exact h.elim
  · exact h.elim
end
end LS
end
section
set_option Elab.async false
set_option linter.all false
set_option maxRecDepth 10000
/-! LS, part 6b: a def's own things are let go at its end. -/
namespace LS
open PySem PySem.Spec PyProof.Rows L2

mutual
/-- every reference within is below m -/
def D.lt (m : Nat) : D → Prop
  | .non => True | .bl _ => True | .int _ => True | .str _ => True | .scr _ => True
  | .tup xs => D.lts m xs | .lst xs => D.lts m xs | .dic ks vs => D.lts m ks ∧ D.lts m vs
  | .ins _ _ vs => D.lts m vs | .exc _ _ vs => D.lts m vs
  | .ref n => n < m
def D.lts (m : Nat) : List D → Prop
  | [] => True
  | x :: xs => D.lt m x ∧ D.lts m xs
end
def Ent.lt (m : Nat) : Ent → Prop
  | .lst xs => D.lts m xs | .dic ks vs => D.lts m ks ∧ D.lts m vs | .ins _ _ vs => D.lts m vs | .fz d => D.lt m d
/-- the first m of the store know one another alone -/
def Clo (m : Nat) (st : Sto) : Prop := ∀ (i : Nat) (e : Ent), i < m → st[i]? = some e → e.lt m
mutual
theorem lt_of_nr (m : Nat) : ∀ d : D, D.nr d = true → D.lt m d
  | .non, _ => trivial | .bl _, _ => trivial | .int _, _ => trivial | .str _, _ => trivial | .scr _, _ => trivial
  | .tup xs, h => lts_of_nrs m xs (by simpa [D.nr] using h)
  | .lst xs, h => lts_of_nrs m xs (by simpa [D.nr] using h)
  | .dic ks vs, h => by
    have h' : D.nrs ks = true ∧ D.nrs vs = true := by simpa [D.nr] using h
    exact ⟨lts_of_nrs m ks h'.1, lts_of_nrs m vs h'.2⟩
  | .ins _ _ vs, h => lts_of_nrs m vs (by simpa [D.nr] using h)
  | .exc _ _ vs, h => lts_of_nrs m vs (by simpa [D.nr] using h)
  | .ref n, h => by simp [D.nr] at h
theorem lts_of_nrs (m : Nat) : ∀ ds : List D, D.nrs ds = true → D.lts m ds
  | [], _ => trivial
  | x :: xs, h => by
    have h' : D.nr x = true ∧ D.nrs xs = true := by simpa [D.nrs] using h
    exact ⟨lt_of_nr m x h'.1, lts_of_nrs m xs h'.2⟩
end
section
variable {G : Gm} {F : Hp} {α : List Addr}
mutual
theorem Rp.lt : ∀ {v : V} {d : D}, Rp G F α v d → D.lt α.length d
  | _, _, .non => trivial
  | _, _, .bl b => trivial
  | _, _, .int i => trivial
  | _, _, .str h => trivial
  | _, _, .tup h hd r => r.lt
  | _, _, .lst h r => r.lt
  | _, _, .scr h => trivial
  | _, _, .dic h r => r.lt
  | _, _, .ins h r => r.lt
  | _, _, .exc h => trivial
  | _, _, .ref h => (List.getElem?_eq_some_iff.mp h).1
theorem Rps.lt : ∀ {v : List V} {d : List D}, Rps G F α v d → D.lts α.length d
  | _, _, .nil => trivial
  | _, _, .cons h r => ⟨h.lt, r.lt⟩
theorem Rkv.lt : ∀ {v : List (Key × V)} {k d : List D}, Rkv G F α v k d → D.lts α.length k ∧ D.lts α.length d
  | _, _, _, .nil => ⟨trivial, trivial⟩
  | _, _, _, .cons e ok h r => ⟨⟨ok.lt, r.lt.1⟩, ⟨h.lt, r.lt.2⟩⟩
theorem Rfs.lt : ∀ {v : List (Str × V)} {k : List Nat} {d : List D}, Rfs G F α v k d → D.lts α.length d
  | _, _, _, .nil => trivial
  | _, _, _, .cons e h r => ⟨h.lt, r.lt⟩
end
mutual
theorem Rp.trunc {m : Nat} : ∀ {v : V} {d : D}, Rp G F α v d → D.lt m d → Rp G F (α.take m) v d
  | _, _, .non, _ => .non
  | _, _, .bl b, _ => .bl b
  | _, _, .int i, _ => .int i
  | _, _, .str h, _ => .str h
  | _, _, .tup h hd r, l => .tup h hd (r.trunc l)
  | _, _, .lst h r, l => .lst h (r.trunc l)
  | _, _, .scr h, _ => .scr h
  | _, _, .dic h r, l => .dic h (r.trunc l.1 l.2)
  | _, _, .ins h r, l => .ins h (r.trunc l)
  | _, _, .exc h, _ => .exc h
  | _, _, .ref h, l => .ref (by rw [List.getElem?_take_of_lt l]; exact h)
theorem Rps.trunc {m : Nat} : ∀ {v : List V} {d : List D}, Rps G F α v d → D.lts m d → Rps G F (α.take m) v d
  | _, _, .nil, _ => .nil
  | _, _, .cons h r, l => .cons (h.trunc l.1) (r.trunc l.2)
theorem Rkv.trunc {m : Nat} : ∀ {v : List (Key × V)} {k d : List D}, Rkv G F α v k d → D.lts m k → D.lts m d → Rkv G F (α.take m) v k d
  | _, _, _, .nil, _, _ => .nil
  | _, _, _, .cons e ok h r, l, l' => .cons e (ok.trunc l.1) (h.trunc l'.1) (r.trunc l.2 l'.2)
theorem Rfs.trunc {m : Nat} : ∀ {v : List (Str × V)} {k : List Nat} {d : List D}, Rfs G F α v k d → D.lts m d → Rfs G F (α.take m) v k d
  | _, _, _, .nil, _ => .nil
  | _, _, _, .cons e h r, l => .cons e (h.trunc l.1) (r.trunc l.2)
end
theorem EntR.trunc {H : Hp} {a : Addr} {e : Ent} {m : Nat} (h : EntR G F H α a e) (l : e.lt m) : EntR G F H (α.take m) a e := by
  cases e with
  | lst ds => obtain ⟨h1, vs, h2, h3⟩ := h; exact ⟨h1, vs, h2, h3.trunc l⟩
  | dic ks ds => obtain ⟨h1, vs, h2, h3⟩ := h; exact ⟨h1, vs, h2, h3.trunc l.1 l.2⟩
  | ins c gs ds => obtain ⟨h1, dx, vs, h2, h3⟩ := h; exact ⟨h1, dx, vs, h2, h3.trunc l⟩
  | fz d => obtain ⟨h1, hr, h2⟩ := h; exact ⟨h1, hr, h2.trunc l⟩
theorem EntR.lt {H : Hp} {a : Addr} {e : Ent} (h : EntR G F H α a e) : e.lt α.length := by
  cases e with
  | lst ds => obtain ⟨_, _, _, h3⟩ := h; exact h3.lt
  | dic ks ds => obtain ⟨_, _, _, h3⟩ := h; exact h3.lt
  | ins c gs ds => obtain ⟨_, _, _, _, h3⟩ := h; exact h3.lt
  | fz d => obtain ⟨_, _, h2⟩ := h; exact h2.lt
theorem SR.clo {H : Hp} {st : Sto} (R : SR G F H α st) : Clo st.length st := fun i e hi he => by
  have hl : i < α.length := by rw [R.len]; exact hi
  have q := R.ent i α[i] e (List.getElem?_eq_getElem hl) he
  have := q.lt
  rw [R.len] at this
  exact this
theorem SR.trunc {H : Hp} {st : Sto} {m : Nat} (R : SR G F H α st) (hm : m ≤ st.length) (c : Clo m st) : SR G F H (α.take m) (st.take m) := by
  refine ⟨R.sub, R.nd.sublist (List.take_sublist _ _), by rw [List.length_take, List.length_take, R.len], fun i a e h1 h2 => ?_⟩
  have hi : i < m := by
    have := (List.getElem?_eq_some_iff.mp h1).1
    rw [List.length_take] at this
    omega
  rw [List.getElem?_take_of_lt hi] at h1 h2
  exact (R.ent i a e h1 h2).trunc (c i e hi h2)
theorem pre_take {α' : List Addr} (h : α <+: α') : α'.take α.length = α := by
  obtain ⟨r, rfl⟩ := h
  simp
theorem Ext.cut {H F' H' : Hp} {α' : List Addr} (x : Ext F H α F' H' α') : Ext F H α F' H' α :=
  ⟨x.f, List.prefix_refl _, x.k, fun _ h => .inl h, x.g, x.p⟩
end
end LS
end
section
set_option Elab.async false
set_option linter.all false
set_option maxRecDepth 10000
/-! LS, part 16: what stands ahead of the base knows nothing of what comes. -/
namespace LS
open PySem
def Kp (m : Nat) {β : Type} : Rs β → Prop
  | .ok _ s => m ≤ s.length ∧ Clo m s
  | .ex _ _ _ s => m ≤ s.length ∧ Clo m s
  | .no => True
section
variable {m : Nat} {β γ : Type}
theorem Kp.bind {r : Rs β} {k : β → Sto → Rs γ} (h : Kp m r) (hk : ∀ a s, m ≤ s.length → Clo m s → Kp m (k a s)) : Kp m (r.bind k) := by
  cases r with
  | ok a s => exact hk a s h.1 h.2
  | ex c fs vs s => exact h
  | no => trivial
theorem Kp.pur {o : Option β} {s : Sto} (h1 : m ≤ s.length) (h2 : Clo m s) : Kp m (pur o s) := by
  cases o with
  | some a => exact ⟨h1, h2⟩
  | none => trivial
theorem Kp.noex {r : Rs β} (h : Kp m r) : Kp m r.noex := by
  cases r with
  | ok a s => exact h
  | ex c fs vs s => trivial
  | no => trivial
theorem clo_app {st : Sto} {e : Ent} (h1 : m ≤ st.length) (h2 : Clo m st) : m ≤ (st ++ [e]).length ∧ Clo m (st ++ [e]) :=
  ⟨by rw [List.length_append]; omega, fun i e' hi he => h2 i e' hi (by rw [List.getElem?_append_left (by omega)] at he; exact he)⟩
theorem clo_take {st : Sto} {k : Nat} (hk : m ≤ k) (h1 : m ≤ st.length) (h2 : Clo m st) : m ≤ (st.take k).length ∧ Clo m (st.take k) :=
  ⟨by rw [List.length_take]; omega, fun i e' hi he => h2 i e' hi (by rw [List.getElem?_take_of_lt (by omega)] at he; exact he)⟩
theorem clo_wr {b : Nat} {st st' : Sto} {n : Nat} {e : Ent} {ok : Bool} (hb : m ≤ b) (h1 : m ≤ st.length) (h2 : Clo m st) (h : wr b st n e ok = some st') (he : n < m → ok = true → e.lt m) : m ≤ st'.length ∧ Clo m st' := by
  unfold wr at h
  split at h
  · rename_i hc
    simp only [Bool.and_eq_true, Bool.or_eq_true, decide_eq_true_eq] at hc
    cases h
    refine ⟨by rw [List.length_set]; exact h1, fun i e' hi he' => ?_⟩
    by_cases hin : i = n
    · subst hin
      have hl : i < st.length := by omega
      rw [List.getElem?_set_self hl] at he'
      cases he'
      exact he hi (hc.2.resolve_left (by omega))
    · rw [List.getElem?_set_ne (Ne.symm hin)] at he'
      exact h2 i e' hi he'
  · cases h
theorem lts_app {xs ys : List D} (h : D.lts m xs) (h' : D.lts m ys) : D.lts m (xs ++ ys) := by
  induction xs with
  | nil => exact h'
  | cons x xs ih => exact ⟨h.1, ih h.2⟩
theorem lts_set {xs : List D} {j : Nat} {d : D} (h : D.lts m xs) (hd : D.lt m d) : D.lts m (xs.set j d) := by
  induction xs generalizing j with
  | nil => trivial
  | cons x xs ih =>
    cases j with
    | zero => exact ⟨hd, h.2⟩
    | succ j => exact ⟨h.1, ih h.2⟩
theorem lts_repd {ks vs : List D} {g d : D} (h : D.lts m vs) (hd : D.lt m d) : D.lts m (repd ks vs g d) := by
  induction ks generalizing vs with
  | nil => unfold repd; trivial
  | cons k ks ih =>
    cases vs with
    | nil => unfold repd; trivial
    | cons v vs =>
      unfold repd
      refine ⟨?_, ih h.2⟩
      split
      · exact hd
      · exact h.1
theorem lts_putf {f : Nat} {d : D} : ∀ {fs : List Nat} {vs : List D}, D.lts m vs → D.lt m d → D.lts m (putf fs vs f d).2
  | [], vs, h, hd => ⟨hd, trivial⟩
  | _ :: _, [], h, hd => ⟨hd, trivial⟩
  | g :: fs, v :: vs, h, hd => by
    unfold putf
    split
    · exact ⟨hd, h.2⟩
    · exact ⟨h.1, lts_putf h.2 hd⟩
theorem view_lt {st : Sto} {n : Nat} {d : D} (h2 : Clo m st) (hn : n < m) (h : view st (.ref n) = d) (hr : ∀ k, d ≠ .ref k) : D.lt m d := by
  simp only [view] at h
  split at h
  · rename_i hh; rw [← h]; exact h2 n _ hn hh
  · rename_i hh; rw [← h]; exact h2 n _ hn hh
  · rename_i hh; rw [← h]; exact h2 n _ hn hh
  · rename_i hh; rw [← h]; exact h2 n _ hn hh
  · exact absurd h.symm (hr n)
theorem kp_mkL {lv : Bool} {xs : List D} {s : Sto} (h1 : m ≤ s.length) (h2 : Clo m s) : Kp m (mkL lv xs s) := by
  unfold mkL
  split
  · exact clo_app h1 h2
  · exact ⟨h1, h2⟩
theorem kp_mkD {lv : Bool} {ks vs : List D} {s : Sto} (h1 : m ≤ s.length) (h2 : Clo m s) : Kp m (mkD lv ks vs s) := by
  unfold mkD
  split
  · exact clo_app h1 h2
  · exact ⟨h1, h2⟩
theorem kp_bfn {b : Bf} {lv : Bool} {ds : List D} {s : Sto} (h1 : m ≤ s.length) (h2 : Clo m s) : Kp m (bfn b lv ds s) := by
  unfold bfn
  split <;> (repeat' split) <;> first | exact ⟨h1, h2⟩ | exact kp_mkL h1 h2 | exact kp_mkD h1 h2 | exact Kp.pur h1 h2 | trivial
theorem kp_bmt {b : Bm} {base : Nat} {o a : D} {ds : List D} {s : Sto} (hb : m ≤ base) (ha : a = view s o) (h1 : m ≤ s.length) (h2 : Clo m s) : Kp m (bmt b base o a ds s) := by
  unfold bmt
  split
  · rename_i n xs d
    split
    · cases e : wr base s n (.lst (xs ++ [d])) (D.nr d) with
      | none => trivial
      | some s' => exact clo_wr hb h1 h2 e fun hn ok => lts_app (view_lt (d := .lst xs) h2 hn ha.symm (fun k z => by cases z)) ⟨lt_of_nr m d ok, trivial⟩
    · trivial
  · split
    · exact Kp.pur h1 h2
    · trivial
  · split
    · exact ⟨h1, h2⟩
    · trivial
  · split
    · split
      · exact ⟨h1, h2⟩
      · trivial
    · trivial
  · trivial
end
theorem wk_val' {T : Tb} {C : Nat → List D → Sto → Rs D} {b : Nat} {x : Ex} (h : isVal x = true) {ρ : Env} {st : Sto} : wk T C b ρ x st = (ev T C b ρ x st).bind fun a s => pur (walkOf (still s a)) s := by
  cases x <;> first | (simp only [wk]; done) | (simp [isVal] at h)
def Tri (T : Tb) (C : Nat → List D → Sto → Rs D) (b m : Nat) (x : Ex) : Prop := (∀ {ρ : Env} {st : Sto}, m ≤ st.length → Clo m st → Kp m (ev T C b ρ x st)) ∧ (∀ {ρ : Env} {st : Sto}, m ≤ st.length → Clo m st → Kp m (evo T C b ρ x st)) ∧ (∀ {ρ : Env} {st : Sto}, m ≤ st.length → Clo m st → Kp m (wk T C b ρ x st))
theorem Tri.of {T : Tb} {C : Nat → List D → Sto → Rs D} {b m : Nat} {x : Ex} (hv : isVal x = true) (h : ∀ {ρ : Env} {st : Sto}, m ≤ st.length → Clo m st → Kp m (ev T C b ρ x st)) : Tri T C b m x := by
  refine ⟨h, fun {ρ st} h1 h2 => ?_, fun {ρ st} h1 h2 => ?_⟩
  · have hx : x ≠ .nil := fun z => by subst z; cases hv
    rw [evo.eq_2 T C b ρ x st (fun e => hx e)]
    refine (h h1 h2).bind fun a s g1 g2 => ?_
    split
    · exact ⟨g1, g2⟩
    · trivial
  · rw [wk_val' hv]
    exact (h h1 h2).bind fun a s g1 g2 => Kp.pur g1 g2
section
variable {T : Tb} {C : Nat → List D → Sto → Rs D} {b m : Nat} (hb : m ≤ b) (hC : ∀ f ds st, m ≤ st.length → Clo m st → Kp m (C f ds st))
include hC in
theorem kp_new {c : Nat} {lv : Bool} {ds : List D} {st : Sto} (h1 : m ≤ st.length) (h2 : Clo m st) : Kp m (mkNew T C c lv ds st) := by
  unfold mkNew
  split
  · split
    · have q := clo_app (e := .ins c [] []) h1 h2
      refine (hC _ _ _ q.1 q.2).bind fun r s g1 g2 => ?_
      split
      · unfold mkEnd
        split
        · exact ⟨g1, g2⟩
        · split
          · split
            · exact clo_take h1 g1 g2
            · trivial
          · trivial
      · trivial
    · split
      · split
        · exact clo_app h1 h2
        · exact ⟨h1, h2⟩
      · trivial
  · trivial
theorem kp_lcL {f : D → Sto → Rs (Option D)} (hf : ∀ d s, m ≤ s.length → Clo m s → Kp m (f d s)) : ∀ {ds acc : List D} {s : Sto}, m ≤ s.length → Clo m s → Kp m (lcL f ds acc s)
  | [], acc, s, h1, h2 => by unfold lcL; exact ⟨h1, h2⟩
  | d :: ds, acc, s, h1, h2 => by
    unfold lcL
    refine (hf d s h1 h2).bind fun o s' g1 g2 => ?_
    cases o with
    | none => exact kp_lcL hf g1 g2
    | some x =>
      simp only
      split
      · exact kp_lcL hf g1 g2
      · trivial
include hb hC
mutual
theorem kp_ex : ∀ (x : Ex), Tri T C b m x
  | .nil => ⟨fun h1 h2 => by simp only [ev]; trivial, fun h1 h2 => by simp only [evo]; exact ⟨h1, h2⟩, fun h1 h2 => by simp only [wk, ev, Rs.bind_no]; trivial⟩
  | .k d => .of rfl fun h1 h2 => by
    simp only [ev]; exact ⟨h1, h2⟩
  | .v i => .of rfl fun h1 h2 => by
    simp only [ev]
    split
    · exact ⟨h1, h2⟩
    · trivial
  | .bin o x y => .of rfl fun h1 h2 => by
    simp only [ev]
    exact ((kp_ex x).1 h1 h2).bind fun a s g1 g2 => ((kp_ex y).1 g1 g2).bind fun c s' f1 f2 => Kp.pur f1 f2
  | .cmp o x y => .of rfl fun h1 h2 => by
    simp only [ev]
    exact ((kp_ex x).1 h1 h2).bind fun a s g1 g2 => ((kp_ex y).1 g1 g2).bind fun c s' f1 f2 => Kp.pur f1 f2
  | .chain o o' x y z => .of rfl fun h1 h2 => by
    simp only [ev]
    refine ((kp_ex x).1 h1 h2).bind fun a s g1 g2 => ((kp_ex y).1 g1 g2).bind fun c s' f1 f2 => ?_
    split
    · exact ((kp_ex z).1 f1 f2).bind fun d s2 e1 e2 => Kp.pur e1 e2
    · exact ⟨f1, f2⟩
    · trivial
  | .isN x => .of rfl fun h1 h2 => by
    simp only [ev]; exact ((kp_ex x).1 h1 h2).bind fun a s g1 g2 => ⟨g1, g2⟩
  | .notN x => .of rfl fun h1 h2 => by
    simp only [ev]; exact ((kp_ex x).1 h1 h2).bind fun a s g1 g2 => ⟨g1, g2⟩
  | .and x y => .of rfl fun h1 h2 => by
    simp only [ev]
    refine ((kp_ex x).1 h1 h2).bind fun a s g1 g2 => ?_
    split
    · refine ((kp_ex y).1 g1 g2).bind fun c s' f1 f2 => ?_
      split
      · exact ⟨f1, f2⟩
      · trivial
    · exact ⟨g1, g2⟩
    · trivial
  | .or x y => .of rfl fun h1 h2 => by
    simp only [ev]
    refine ((kp_ex x).1 h1 h2).bind fun a s g1 g2 => ?_
    split
    · exact ⟨g1, g2⟩
    · refine ((kp_ex y).1 g1 g2).bind fun c s' f1 f2 => ?_
      split
      · exact ⟨f1, f2⟩
      · trivial
    · trivial
  | .not x => .of rfl fun h1 h2 => by
    simp only [ev]
    refine ((kp_ex x).1 h1 h2).bind fun a s g1 g2 => ?_
    split
    · exact ⟨g1, g2⟩
    · trivial
  | .ite t x y => .of rfl fun h1 h2 => by
    simp only [ev]
    refine ((kp_ex t).1 h1 h2).bind fun a s g1 g2 => ?_
    split
    · exact (kp_ex x).1 g1 g2
    · exact (kp_ex y).1 g1 g2
    · trivial
  | .tup es => .of rfl fun h1 h2 => by
    simp only [ev]
    refine (kp_evs es h1 h2).bind fun a s g1 g2 => ?_
    split
    · exact ⟨g1, g2⟩
    · trivial
  | .lst lv es => .of rfl fun h1 h2 => by
    simp only [ev]
    refine (kp_evs es h1 h2).bind fun a s g1 g2 => ?_
    split
    · exact kp_mkL g1 g2
    · trivial
  | .edic lv => .of rfl fun h1 h2 => by
    simp only [ev]; exact kp_mkD h1 h2
  | .fld e f => .of rfl fun h1 h2 => by
    simp only [ev]; exact ((kp_ex e).1 h1 h2).bind fun a s g1 g2 => Kp.pur g1 g2
  | .ix x y => .of rfl fun h1 h2 => by
    simp only [ev]
    exact ((kp_ex x).1 h1 h2).bind fun a s g1 g2 => ((kp_ex y).1 g1 g2).bind fun c s' f1 f2 => Kp.pur f1 f2
  | .sl x lo hi => .of rfl fun h1 h2 => by
    simp only [ev]
    exact ((kp_ex x).1 h1 h2).bind fun a s g1 g2 => ((kp_ex lo).2.1 g1 g2).bind fun c s' f1 f2 => ((kp_ex hi).2.1 f1 f2).bind fun d s2 e1 e2 => Kp.pur e1 e2
  | .rev x => .of rfl fun h1 h2 => by
    simp only [ev]
    refine ((kp_ex x).1 h1 h2).bind fun a s g1 g2 => ?_
    split
    · exact ⟨g1, g2⟩
    · trivial
  | .call f es => .of rfl fun h1 h2 => by
    simp only [ev]; exact (kp_evs es h1 h2).bind fun a s g1 g2 => hC _ _ _ g1 g2
  | .new c lv es => .of rfl fun h1 h2 => by
    simp only [ev]; exact (kp_evs es h1 h2).bind fun a s g1 g2 => kp_new hC g1 g2
  | .mth e mm es => .of rfl fun h1 h2 => by
    simp only [ev]
    refine ((kp_ex e).1 h1 h2).bind fun a s g1 g2 => ?_
    split
    · exact (kp_evs es g1 g2).bind fun a s f1 f2 => hC _ _ _ f1 f2
    · trivial
  | .bf k lv es => .of rfl fun h1 h2 => by
    simp only [ev]; exact (kp_evs es h1 h2).bind fun a s g1 g2 => kp_bfn g1 g2
  | .bm k e es => .of rfl fun h1 h2 => by
    simp only [ev]
    refine ((kp_ex e).1 h1 h2).bind fun a s g1 g2 => ?_
    split
    · exact (kp_evs es g1 g2).bind fun a s f1 f2 => kp_bmt hb rfl f1 f2
    · trivial
  | .isa e ts => .of rfl fun h1 h2 => by
    simp only [ev]; exact ((kp_ex e).1 h1 h2).bind fun a s g1 g2 => Kp.pur g1 g2
  | .lc lv elt own tg tt it c => .of rfl fun h1 h2 => by
    simp only [ev]
    refine ((kp_ex it).2.2 h1 h2).bind fun ds s g1 g2 => (kp_lcL (fun d s1 f1 f2 => ?_) g1 g2).bind fun rs s' f1 f2 => kp_mkL f1 f2
    split
    · refine ((kp_ex c).1 f1 f2).noex.bind fun k s2 e1 e2 => ?_
      split
      · exact ((kp_ex elt).1 e1 e2).noex.bind fun r s3 d1 d2 => ⟨d1, d2⟩
      · exact ⟨e1, e2⟩
      · trivial
    · trivial
  | .rng es => ⟨fun h1 h2 => by simp only [ev]; trivial, fun h1 h2 => by simp only [evo, ev, Rs.bind_no]; trivial, fun h1 h2 => by simp only [wk]; exact (kp_evs es h1 h2).bind fun a s g1 g2 => Kp.pur g1 g2⟩
  | .enum e => ⟨fun h1 h2 => by simp only [ev]; trivial, fun h1 h2 => by simp only [evo, ev, Rs.bind_no]; trivial, fun h1 h2 => by simp only [wk]; exact ((kp_ex e).1 h1 h2).bind fun a s g1 g2 => Kp.pur g1 g2⟩
  | .zip x y => ⟨fun h1 h2 => by simp only [ev]; trivial, fun h1 h2 => by simp only [evo, ev, Rs.bind_no]; trivial, fun h1 h2 => by simp only [wk]; exact ((kp_ex x).1 h1 h2).bind fun a s g1 g2 => ((kp_ex y).1 g1 g2).bind fun c s' f1 f2 => Kp.pur f1 f2⟩
  | .rvd e => ⟨fun h1 h2 => by simp only [ev]; trivial, fun h1 h2 => by simp only [evo, ev, Rs.bind_no]; trivial, fun h1 h2 => by simp only [wk]; exact ((kp_ex e).1 h1 h2).bind fun a s g1 g2 => Kp.pur g1 g2⟩
theorem kp_evs : ∀ (es : List Ex) {ρ : Env} {st : Sto}, m ≤ st.length → Clo m st → Kp m (evs T C b ρ es st)
  | [], ρ, st, h1, h2 => by simp only [evs]; exact ⟨h1, h2⟩
  | e :: es, ρ, st, h1, h2 => by
    simp only [evs]
    exact ((kp_ex e).1 h1 h2).bind fun a s g1 g2 => (kp_evs es g1 g2).bind fun c s' f1 f2 => ⟨f1, f2⟩
end
omit hC in
theorem kp_frz : ∀ (k : Nat) {d : D} {st : Sto}, m ≤ st.length → Clo m st → Kp m (freeze b k d st)
  | 0, d, st, h1, h2 => by cases d <;> simp only [freeze] <;> first | exact ⟨h1, h2⟩ | trivial
  | k + 1, d, st, h1, h2 => by
    have ih1 : ∀ {xs : List D} {st : Sto}, m ≤ st.length → Clo m st → Kp m (freeze.frz1 b k xs st) := by
      intro xs
      induction xs with
      | nil => intro st h1 h2; simp only [freeze.frz1]; exact ⟨h1, h2⟩
      | cons x xs ih =>
        intro st h1 h2
        simp only [freeze.frz1]
        exact (kp_frz k h1 h2).bind fun y s g1 g2 => (ih g1 g2).bind fun ys s' f1 f2 => ⟨f1, f2⟩
    cases d with
    | ref n =>
      simp only [freeze]
      split
      · exact ⟨h1, h2⟩
      · refine (ih1 h1 h2).bind fun ys s g1 g2 => ?_
        split
        · rename_i s' hw
          exact clo_wr hb g1 g2 hw fun _ ok => lts_of_nrs m ys ok
        · trivial
      · refine (ih1 h1 h2).bind fun ys s g1 g2 => ?_
        split
        · rename_i s' hw
          exact clo_wr hb g1 g2 hw fun _ ok => by
            rw [Bool.and_eq_true] at ok
            exact ⟨lts_of_nrs m _ ok.1, lts_of_nrs m ys ok.2⟩
        · trivial
      · refine (ih1 h1 h2).bind fun ys s g1 g2 => ?_
        split
        · rename_i s' hw
          exact clo_wr hb g1 g2 hw fun _ ok => lts_of_nrs m ys ok
        · trivial
      · trivial
    | _ => simp only [freeze]; exact ⟨h1, h2⟩
omit hC in
theorem kp_stI {o i d : D} {st st' : Sto} (h1 : m ≤ st.length) (h2 : Clo m st) (h : stI b o i d st = some st') : m ≤ st'.length ∧ Clo m st' := by
  unfold stI at h
  split at h
  · rename_i n xs ev
    split at h
    · rename_i k
      cases ep : plc xs.length k with
      | none => rw [ep] at h; cases h
      | some j =>
        rw [ep] at h
        exact clo_wr hb h1 h2 h fun hn ok => lts_set (view_lt (d := .lst xs) h2 hn ev (fun k z => by cases z)) (lt_of_nr m d ok)
    · cases h
  · rename_i n ks vs ev
    split at h
    · refine clo_wr hb h1 h2 h fun hn ok => ?_
      rw [Bool.and_eq_true] at ok
      have q : D.lts m ks ∧ D.lts m vs := view_lt (d := .dic ks vs) h2 hn ev (fun k z => by cases z)
      have hk := lt_of_nr m i ok.1
      have hd := lt_of_nr m d ok.2
      unfold putd
      split
      · exact ⟨q.1, lts_repd q.2 hd⟩
      · exact ⟨lts_app q.1 ⟨hk, trivial⟩, lts_app q.2 ⟨hd, trivial⟩⟩
    · cases h
  · cases h
omit hC in
theorem kp_stF {o d : D} {f : Nat} {st st' : Sto} (h1 : m ≤ st.length) (h2 : Clo m st) (h : stF T b o f d st = some st') : m ≤ st'.length ∧ Clo m st' := by
  unfold stF at h
  split at h
  · rename_i n c fs vs ev
    split at h
    · refine clo_wr hb h1 h2 h fun hn ok => ?_
      have q : D.lts m vs := view_lt (d := .ins c fs vs) h2 hn ev (fun k z => by cases z)
      exact lts_putf q (lt_of_nr m d ok)
    · cases h
  · cases h
omit hb hC in
theorem kp_forL {f : D → Env → Sto → Rs Fl} (hf : ∀ d ρ s, m ≤ s.length → Clo m s → Kp m (f d ρ s)) : ∀ {ds : List D} {ρ : Env} {s : Sto}, m ≤ s.length → Clo m s → Kp m (forL f ds ρ s)
  | [], ρ, s, h1, h2 => by unfold forL; exact ⟨h1, h2⟩
  | d :: ds, ρ, s, h1, h2 => by
    unfold forL
    refine (hf d ρ s h1 h2).bind fun r s' g1 g2 => ?_
    cases r with
    | nx ρ' => exact kp_forL hf g1 g2
    | ct ρ' => exact kp_forL hf g1 g2
    | bk ρ' => exact ⟨g1, g2⟩
    | rt d => exact ⟨g1, g2⟩
omit hb hC in
theorem kp_whL {t : Env → Sto → Rs D} {f : Env → Sto → Rs Fl} (ht : ∀ ρ s, m ≤ s.length → Clo m s → Kp m (t ρ s)) (hf : ∀ ρ s, m ≤ s.length → Clo m s → Kp m (f ρ s)) : ∀ {w : Nat} {ρ : Env} {s : Sto}, m ≤ s.length → Clo m s → Kp m (whL t f w ρ s)
  | 0, ρ, s, h1, h2 => by unfold whL; trivial
  | w + 1, ρ, s, h1, h2 => by
    unfold whL
    refine (ht ρ s h1 h2).bind fun a s1 e1 e2 => ?_
    split
    · refine (hf ρ s1 e1 e2).bind fun r s' g1 g2 => ?_
      cases r with
      | nx ρ' => exact kp_whL ht hf g1 g2
      | ct ρ' => exact kp_whL ht hf g1 g2
      | bk ρ' => exact ⟨g1, g2⟩
      | rt d => exact ⟨g1, g2⟩
    · exact ⟨e1, e2⟩
    · trivial
mutual
theorem kp_xs {w : Nat} : ∀ (x : Sx) {ρ : Env} {st : Sto}, m ≤ st.length → Clo m st → Kp m (xs T C b w x ρ st)
  | .ex e, ρ, st, h1, h2 => by simp only [xs]; exact ((kp_ex hb hC e).1 h1 h2).bind fun _ s g1 g2 => ⟨g1, g2⟩
  | .set i e, ρ, st, h1, h2 => by simp only [xs]; exact ((kp_ex hb hC e).1 h1 h2).bind fun _ s g1 g2 => ⟨g1, g2⟩
  | .setT is e, ρ, st, h1, h2 => by simp only [xs]; exact ((kp_ex hb hC e).1 h1 h2).bind fun _ s g1 g2 => Kp.pur g1 g2
  | .par i j x y, ρ, st, h1, h2 => by simp only [xs]; exact ((kp_ex hb hC x).1 h1 h2).bind fun _ s g1 g2 => ((kp_ex hb hC y).1 g1 g2).bind fun _ s f1 f2 => ⟨f1, f2⟩
  | .setF o f e, ρ, st, h1, h2 => by
    simp only [xs]
    refine ((kp_ex hb hC e).1 h1 h2).bind fun d s g1 g2 => ((kp_ex hb hC o).1 g1 g2).bind fun a s1 f1 f2 => ?_
    cases e : stF T b a f d s1 with
    | none => trivial
    | some s2 => exact kp_stF hb f1 f2 e
  | .setI o i e, ρ, st, h1, h2 => by
    simp only [xs]
    refine ((kp_ex hb hC e).1 h1 h2).bind fun d s g1 g2 => ((kp_ex hb hC o).1 g1 g2).bind fun a s1 f1 f2 => ((kp_ex hb hC i).1 f1 f2).bind fun k s2 e1 e2 => ?_
    cases e : stI b a k d s2 with
    | none => trivial
    | some s2 => exact kp_stI hb e1 e2 e
  | .aug i o e, ρ, st, h1, h2 => by
    simp only [xs]
    split
    · refine ((kp_ex hb hC e).1 h1 h2).bind fun d s g1 g2 => ?_
      split
      · exact Kp.pur g1 g2
      · trivial
    · trivial
  | .ret e, ρ, st, h1, h2 => by simp only [xs]; exact ((kp_ex hb hC e).1 h1 h2).bind fun d s g1 g2 => (kp_frz hb 6 g1 g2).bind fun _ _ f1 f2 => ⟨f1, f2⟩
  | .iff t x y, ρ, st, h1, h2 => by
    simp only [xs]
    refine ((kp_ex hb hC t).1 h1 h2).bind fun a s g1 g2 => ?_
    split
    · exact kp_xss x g1 g2
    · exact kp_xss y g1 g2
    · trivial
  | .for tg tt it bd, ρ, st, h1, h2 => by
    simp only [xs]
    refine ((kp_ex hb hC it).2.2 h1 h2).bind fun ds s g1 g2 => kp_forL (fun d ρ1 s1 f1 f2 => ?_) g1 g2
    split
    · exact kp_xss bd f1 f2
    · trivial
  | .whl t bd, ρ, st, h1, h2 => by
    simp only [xs]
    exact kp_whL (fun ρ s g1 g2 => (kp_ex hb hC t).1 g1 g2) (fun ρ s g1 g2 => kp_xss bd g1 g2) h1 h2
  | .brk, ρ, st, h1, h2 => by simp only [xs]; exact ⟨h1, h2⟩
  | .cnt, ρ, st, h1, h2 => by simp only [xs]; exact ⟨h1, h2⟩
  | .pass, ρ, st, h1, h2 => by simp only [xs]; exact ⟨h1, h2⟩
  | .rais c, ρ, st, h1, h2 => by simp only [xs]; exact ⟨h1, h2⟩
  | .tryK bd c i d, ρ, st, h1, h2 => by
    simp only [xs]
    have q := kp_xs (w := w) bd (ρ := ρ) h1 h2
    cases e : xs T C b w bd ρ st with
    | no => trivial
    | ok a s => rw [e] at q; exact q
    | ex c' fs vs s =>
      rw [e] at q
      simp only
      split
      · split
        · exact q
        · exact q
      · trivial
  | .tryE bd c k i, ρ, st, h1, h2 => by
    simp only [xs]
    have q := kp_xs (w := w) bd (ρ := ρ) h1 h2
    cases e : xs T C b w bd ρ st with
    | no => trivial
    | ok a s => rw [e] at q; exact q
    | ex c' fs vs s =>
      rw [e] at q
      simp only
      split
      · split
        · exact q
        · exact q
      · trivial
theorem kp_xss {w : Nat} : ∀ (x : List Sx) {ρ : Env} {st : Sto}, m ≤ st.length → Clo m st → Kp m (xss T C b w x ρ st)
  | [], ρ, st, h1, h2 => by simp only [xss]; exact ⟨h1, h2⟩
  | x :: r, ρ, st, h1, h2 => by
    simp only [xss]
    refine (kp_xs x h1 h2).bind fun f s g1 g2 => ?_
    cases f with
    | nx ρ' => exact kp_xss r g1 g2
    | bk ρ' => exact ⟨g1, g2⟩
    | ct ρ' => exact ⟨g1, g2⟩
    | rt d => exact ⟨g1, g2⟩
end
end
/-- a call -/
theorem kp_cal {T : Tb} {w m : Nat} : ∀ (n : Nat) {b f : Nat} {ds : List D} {st : Sto}, (m ≤ b ∨ isTr T f = true) → m ≤ st.length → Clo m st → Kp m (cal T w n b f ds st)
  | 0, b, f, ds, st, hb, h1, h2 => by unfold cal; trivial
  | n + 1, b, f, ds, st, hb, h1, h2 => by
    unfold cal
    split
    · rename_i fn hf
      split
      · have hb' : m ≤ (if fn.tr = true then st.length else b) := by
          split
          · exact h1
          · rename_i ht
            rcases hb with hb | hb
            · exact hb
            · unfold isTr at hb
              rw [hf] at hb
              exact absurd hb ht
        have q := kp_xss (T := T) (C := cal T w n (if fn.tr = true then st.length else b)) (b := if fn.tr = true then st.length else b) (m := m) (w := w) hb' (fun f ds st g1 g2 => kp_cal n (.inl hb') g1 g2) fn.body (ρ := ds.map some ++ List.replicate (fn.ns - fn.np) none) h1 h2
        unfold ending
        split
        · rename_i s e
          rw [e] at q
          split
          · exact clo_take h1 q.1 q.2
          · exact q
        · rename_i d s e
          rw [e] at q
          split
          · split
            · exact clo_take h1 q.1 q.2
            · trivial
          · exact q
        · rename_i c fs vs s e
          rw [e] at q
          split
          · split
            · exact clo_take h1 q.1 q.2
            · exact q
          · trivial
        · trivial
      · trivial
    · trivial
end LS
end
section
set_option Elab.async false
set_option linter.all false
set_option maxRecDepth 10000
/-! LS, part 7: what ties the module to the program; expressions. -/
namespace LS
open PySem PySem.Spec PyProof.Rows L2

/-- where the defs stand; the methods' names -/
structure Gf where
  fa : Nat → Addr
  fd : Nat → FuncData
  ps : Nat → List Str
/-- what a call of the i-th def promises -/
def spC (G : Gm) (C : Nat → List D → Sto → Rs D) (i : Nat) : Sp := fun vs H Q E => ∃ F α st ds, SR G F H α st ∧ Rps G F α vs ds ∧ Pst G F H α (C i ds st) (KV1 G Q) E
structure FnG (X : Cx) (G : Gm) (gf : Gf) (C : Nat → List D → Sto → Rs D) (k i : Nat) : Prop where
  ok : FnOk X.prog X.w X.K X.mg X.base (L2.CX X.prog X.w) k (gf.fa i) (gf.fd i) (gf.ps i) (spC G C i)
  kp : PySem.W.keepIn X.K (.ref (gf.fa i)) = true
  bd : Binds X.K (gf.fd i) (gf.ps i) []
def kdU (G : Gm) : Kd → Value
  | .non => .type "NoneType" | .bl => .type "bool" | .int => .type "int" | .str => .type "str" | .tup => .type "tuple" | .lst => .type "list" | .own c => .ref (G.cad c)
def tyU (G : Gm) : Ty → Value
  | .int => .type "int" | .bool => .type "bool" | .str => .type "str" | .tuple => .type "tuple" | .list => .type "list" | .verr => .type "ValueError" | .cls c => .ref (G.cad c)
def tyV1 (G : Gm) : Ty → V
  | .int => .ty "int" | .bool => .ty "bool" | .str => .ty "str" | .tuple => .ty "tuple" | .list => .ty "list" | .verr => .ty "ValueError" | .cls c => .ref (G.cad c)
theorem tyV1_cls (G : Gm) (t : Ty) : ClsV (tyV1 G t) (tyU G t) := by
  cases t with
  | cls c => exact .own _
  | _ => exact .ty _
/-- the built-in names that are read -/
def bltN : List Str := ["len", "list", "tuple", "sorted", "dict", "all", "any", "sum", "max", "min", "str", "int", "bool", "ValueError", "isinstance", "range", "enumerate", "zip", "reversed"]
structure OwnC (K : PySem.W.Frag) (C : Addr) : Prop where
  ha : PySem.W.findIn K (.ref C) "__class__" = some (some (.builtin "object.__class__"))
  hn : PySem.W.specialIn K (.builtin "object.__class__") "__get__" = some (some (.builtin "getset_descriptor.__get__"))
  ht : PySem.W.takesIn K (.builtin "object.__class__") = some true
  hm : PySem.W.mroIn K C (.type "object") = some true
structure Mk0 (K : PySem.W.Frag) (C : Addr) : Prop where
  makes : PySem.W.makesIn K C = true
  init : PySem.W.findIn K (.ref C) "__init__" = some (some (.builtin "object.__init__"))
/-- an exception class without its own __init__ -/
structure Rsb (K : PySem.W.Frag) (C : Addr) : Prop where
  base : ∃ (B newId initId : String) (bmB : List Value), ExcBaseFacts B newId initId bmB ∧ PySem.W.excIn K C bmB newId = true
  sub : PySem.W.subIn K (.ref C) (.type "BaseException") = some true
  typ : PySem.W.typeIn K (.ref C) = some (.type "type")
/-- the module as it stands -/
structure Tie (G : Gm) (gf : Gf) (T : Tb) (n : Cn) (mg : Str → Option Value) : Prop where
  fn : ∀ x i m, n.fn x = some (i, m) → mg x = some (.ref (gf.fa i)) ∧ PySem.W.keepIn G.K (.ref (gf.fa i)) = true
  cl : ∀ x c, n.cl x = some c → mg x = some (.ref (G.cad c)) ∧ (T.cls[c]?).isSome = true ∧ (n.kd c = 0 → plain T c = true) ∧ PySem.W.keepIn G.K (.ref (G.cad c)) = true
  gl : ∀ x d, n.gl x = some d → ∃ v u, mg x = some u ∧ RelV v u ∧ ∀ F α, Rp G F α v d
  blt : ∀ x, x ∈ bltN → mg x = none
  fld : ∀ x f, n.fld x = some f → G.fnm f = x ∧ ∀ g, G.fnm g = x → g = f
  noat : ∀ c x f, plain T c = true → n.fld x = some f → NoAttr G.K (G.cad c) x
  cls : ∀ c, plain T c = true → Cls G.K (G.cad c) ∧ OwnC G.K (G.cad c)
  mth : ∀ x m, n.mth x = some m → (∀ g, G.fnm g ≠ x) ∧ ∀ c cl i, plain T c = true → T.cls[c]? = some cl → cl.mth.lookup m = some i → Meth G.K (G.cad c) x (gf.fa i)
  mk1 : ∀ c cl i, plain T c = true → T.cls[c]? = some cl → cl.ini = some i → Mk G.K (G.cad c) (gf.fa i)
  mk0 : ∀ c cl, plain T c = true → T.cls[c]? = some cl → cl.ini = none → Mk0 G.K (G.cad c)
  kit : ∀ k t b, (∀ c, k = .own c → (T.cls[c]?).isSome = true) → kdIs T k t = some b → PySem.W.kitOne G.K (kdU G k) (tyU G t) = some b
  exc : ∀ c, (T.cls[c]?).isSome = true → T.exc c = true → ExcC G.K (G.cad c)
  rs : ∀ x c, n.cl x = some c → n.kd c = 1 → Rsb G.K (G.cad c)
  exm : ∀ e c, excB T e c = true → PySem.W.exmOne G.K (.ref (G.cad e)) (.ref (G.cad c)) = some (T.sub e c)
structure XOk (G : Gm) (gf : Gf) (T : Tb) (C : Nat → List D → Sto → Rs D) (k : Nat) (n : Cn) (X : Cx) : Prop where
  tie : Tie G gf T n X.mg
  hK : X.K = G.K
  calm : X.calm = true
  nd : X.N.Nodup
  room : Room (k + 1) X.A
  hN : X.N = n.N
  sc : X.env.scope = n.sc
  fng : ∀ i, (T.fns[i]?).isSome = true → FnG X G gf C k i
  cno : ∀ i ds st, T.fns[i]? = none → C i ds st = .no
  ctr : ∀ i ds st d s m, isTr T i = true → C i ds st = .ok d s → m ≤ st.length → Clo m st → m ≤ s.length ∧ Clo m s

/-! ### of the text -/
theorem backTo_any {pos : Pos} {env : PySem.Env} : ∀ {es : List Expr}, (es.all fun a => !isStar a) = true → (backTo pos (starEach es env)).any (·.1) = false
  | [], _ => rfl
  | e :: es, h => by
    rw [List.all_cons, Bool.and_eq_true] at h
    have ih := backTo_any (pos := pos) (env := env) h.2
    have hs : starEach (e :: es) env = (false, eval e env) :: starEach es env := by
      cases e <;> first | rfl | (simp [isStar] at h)
    rw [hs]
    unfold backTo at ih ⊢
    rw [List.map_cons, List.any_cons, ih]; rfl
theorem star_cons {env : PySem.Env} {e : Expr} {es : List Expr} (h : isStar e = false) : starEach (e :: es) env = (false, eval e env) :: starEach es env := by
  cases e <;> first | rfl | (simp [isStar] at h)
theorem star_all {env : PySem.Env} : ∀ {es : List Expr} {pos : Pos}, (es.all fun a => !isStar a) = true → (backTo pos (starEach es env)).all (fun x => !x.1) = true
  | [], _, _ => rfl
  | e :: es, pos, h => by
    rw [List.all_cons, Bool.and_eq_true] at h
    have ih := star_all (env := env) (pos := pos) h.2
    rw [star_cons (by simpa using h.1)]
    unfold backTo at ih ⊢
    rw [List.map_cons, List.all_cons, ih]; rfl
theorem attr_base {o : Expr} {m : Str} {env : PySem.Env} (h : isCall0 o = false) : attributeBase o m env (eval o env) = eval o env := by
  unfold attributeBase
  split
  · rename_i e; simp [isCall0] at h
  · rfl
theorem plainIx_of {b : Expr} (h : isSlice b = false) : PlainIx b := fun o i => by
  cases b <;> first | rfl | (simp [isSlice] at h)
theorem folded_of {e : Expr} {env : PySem.Env} (h : isSet e = false) : ∀ x, foldedSetIterable e env x = pure x := fun x => by
  cases e <;> first | rfl | (simp [isSet] at h)
theorem marks_of {op : CmpOp} {b : Expr} (h : isSet b = false) : behindInMarks op b = false := by
  cases b <;> first | rfl | (simp [isSet] at h)
theorem when_some {α : Type} {c : Bool} {o : Option α} {x : α} (h : LS.when c o = some x) : c = true ∧ o = some x := by
  unfold LS.when at h
  cases c with
  | true => exact ⟨rfl, h⟩
  | false => cases h
theorem slot_get {N : List Str} {x : Str} {i : Nat} (h : slot N x = some i) : N[i]? = some x := by
  unfold slot at h
  obtain ⟨hi, hp, _⟩ := List.findIdx?_eq_some_iff_getElem.mp h
  rw [List.getElem?_eq_getElem hi]
  have : N[i] = x := by simpa using hp
  rw [this]
theorem vis_of {sc : Scope} {x : Str} (h : visB sc x = true) : Vis sc x := by
  unfold visB at h
  unfold Vis
  split at h <;> simp_all
theorem loc_of {sc : Scope} {x : Str} (h : locB sc x = true) : L2.Loc sc x := by
  unfold locB at h
  unfold L2.Loc
  split at h <;> simp_all
theorem glb_of {X : Cx} {n : Cn} {x : Str} (hs : X.env.scope = n.sc) (h : glB n.sc x = true) : Gl X x := by
  unfold glB at h
  unfold Gl PySem.Env.kindOf
  rw [hs]
  split at h
  · assumption
  · cases h
theorem okn {x : Str} (h : okName x = true) : (x == ("__debug__" : Str)) = false ∧ (x == ("__classdict__" : Str)) = false ∧ x ≠ "__name__" := by
  unfold okName at h
  simp only [Bool.and_eq_true, Bool.not_eq_true'] at h
  exact ⟨h.1.1, h.1.2, fun e => by rw [e] at h; simp at h⟩

/-! ### the widest readings of tests, arguments, calls -/
def wT (X : Cx) (e : Expr) : TT := fun σ H Q => ∀ (pins : List (Addr × Obj)) (s : Shared), Inv X pins σ H s → wpAny (model X.prog X.w) X.A (isTrue e X.env (eval e X.env)) (TP X pins σ Q) X.xe s
theorem wT_pt (X : Cx) (e : Expr) : PT X e (wT X e) := ⟨fun pins s σ H Q I h => h pins s I⟩
theorem pt_w {X : Cx} {e : Expr} {t : TT} (h : PT X e t) {σ : L2.St} {H : Hp} {Q : Bool → Hp → Prop} (q : t σ H Q) : wT X e σ H Q := fun pins s I => h.run pins s σ H Q I q
def wW (X : Cx) (e : Expr) : TT := fun σ H Q => ∀ (whole : Sem Value) (pins : List (Addr × Obj)) (s : Shared), Inv X pins σ H s → wpAny (model X.prog X.w) X.A (isTrue e X.env whole) (TP X pins σ Q) X.xe s
theorem wW_pw (X : Cx) (e : Expr) : PW X e (wW X e) := ⟨fun whole pins s σ H Q I h => h whole pins s I⟩
theorem pw_w {X : Cx} {e : Expr} {t : TT} (h : PW X e t) {σ : L2.St} {H : Hp} {Q : Bool → Hp → Prop} (q : t σ H Q) : wW X e σ H Q := fun whole pins s I => h.run whole pins s σ H Q I q
def wA (X : Cx) (es : List Expr) : TA := fun σ H Q => ∀ (pos : Pos) (pins : List (Addr × Obj)) (s : Shared), Inv X pins σ H s → wpAny (model X.prog X.w) X.A (spliced (backTo pos (starEach es X.env))) (AP X pins σ Q) X.xe s
theorem wA_pa (X : Cx) (es : List Expr) : PA X es (wA X es) := ⟨fun pos pins s σ H Q I h => h pos pins s I⟩
theorem pa_w {X : Cx} {es : List Expr} {t : TA} (h : PA X es t) {σ : L2.St} {H : Hp} {Q : List V → Hp → Prop} (q : t σ H Q) : wA X es σ H Q := fun pos pins s I => h.run pos pins s σ H Q I q
def wP (X : Cx) (e : Option Expr) : TO := fun σ H Q => ∀ (pins : List (Addr × Obj)) (s : Shared), Inv X pins σ H s → wpAny (model X.prog X.w) X.A (evalPart e X.env) (fun u s' => ∃ o H', Inv X pins σ H' s' ∧ IsPart u o ∧ Q o H') X.xe s
theorem wP_po (X : Cx) (e : Option Expr) : PO X e (wP X e) := ⟨fun pins s σ H Q I h => h pins s I⟩
theorem po_w {X : Cx} {e : Option Expr} {t : TO} (h : PO X e t) {σ : L2.St} {H : Hp} {Q : Option Int → Hp → Prop} (q : t σ H Q) : wP X e σ H Q := fun pins s I => h.run pins s σ H Q I q
def wI (X : Cx) (tg e : Expr) : TI := fun σ H R => ∀ (pins : List (Addr × Obj)) (s : Shared), Inv X pins σ H s → wpAny (model X.prog X.w) X.A (eval e X.env) (fun v s1 => wpAny (model X.prog X.w) X.A (pyIter v) (PIE X pins σ tg R) X.xe s1) X.xe s
theorem wI_pi (X : Cx) (tg e : Expr) : PI X tg e (wI X tg e) := ⟨fun pins s σ H R I h => h pins s I⟩
theorem pi_w {X : Cx} {tg e : Expr} {t : TI} (h : PI X tg e t) {σ : L2.St} {H : Hp} {R : It → Hp → Prop} (q : t σ H R) : wI X tg e σ H R := fun pins s I => h.run pins s σ H R I q
/-- a call of f with values -/
def wF (X : Cx) (f : Value) (vs : List V) (σ : L2.St) (H : Hp) (Q : VK) : Prop := ∀ (pins : List (Addr × Obj)) (s : Shared) (us : List Value), Inv X pins σ H s → Vals vs us → wpAny (model X.prog X.w) X.A (call f us) (EP X pins σ Q) X.xe s
section
variable {X : Cx} {x : Str} {a : Addr} {es : List Expr} {p pos apos : Pos} {ta : TE} {o : Expr}
theorem args_flat {M : Model} {A : Around} {E : Value → Shared → Prop} {s : Shared} {f : Value} {pos : Pos} {env : PySem.Env} {es : List Expr} {Q : Args → Shared → Prop} (hst : (es.all fun a => !isStar a) = true)
    (h : wpAny M A (spliced (backTo pos (starEach es env))) (fun vs s' => Q ⟨vs, []⟩ s') E s) : wpAny M A (evalArgs f true (backTo pos (starEach es env)) []) Q E s := by
  cases es with
  | nil =>
    unfold evalArgs
    show wpAny M A (spliced [] >>= _) Q E s
    refine wpAny_bind (wpAny_mono h (fun vs s' h' => ?_) fun _ _ x => x)
    refine wpAny_holding ?_
    exact wpAny_bind (wpAny_pure (wpAny_bind (wpAny_pure (wpAny_pure h'))))
  | cons e es =>
    rw [List.all_cons, Bool.and_eq_true] at hst
    rw [star_cons (by simpa using hst.1)] at h ⊢
    exact Calls.evalArgs_plain h
theorem callF {first : List Value} {pins : List (Addr × Obj)} {σ : L2.St} {H : Hp} {s : Shared} {Q : VK} {vs0 : List V} (hk : PySem.W.keepIn X.K (.ref a) = true) (hst : (es.all fun a => !isStar a) = true) (I : Inv X pins σ H s) (r0 : Vals vs0 first)
    (h : wA X es σ H fun vs H1 => wF X (.ref a) (vs0 ++ vs) σ H1 Q) : wpAny (model X.prog X.w) X.A (callWith pos (.ref a) first (backTo pos (starEach es X.env)) (backToKw pos (keywordEach [] X.env))) (EP X pins σ Q) X.xe s := by
  refine PySem.W.callWith_of (P := fun h => X.K.In h) ?_ (PySem.W.keeps_K hk) (args_flat hst (thn (h pos pins s I) fun us s1 ⟨vs, H1, I1, r, q⟩ => ⟨I1.kIn, q pins s1 _ I1 (r0.append r)⟩))
  rw [backTo_any hst]; rfl
/-- f(..), a def or a class of the module -/
theorem pe_callF (hg : Gl X x) (hm : X.mg x = some (.ref a)) (hk : PySem.W.keepIn X.K (.ref a) = true) (hst : (es.all fun a => !isStar a) = true) (hdb : (x == ("__debug__" : Str)) = false) :
    PE X (.Call (.Name x p) es [] pos) (fun σ H Q => wA X es σ H fun vs H1 => wF X (.ref a) vs σ H1 Q) := by
  refine ⟨fun pins s σ H Q I h => ?_⟩
  refine wpAny_Call_Name_kw (ld_glob I hg hm ?_ hdb)
  exact callF (first := []) (vs0 := []) hk hst I .nil h
/-- o.m(..), o an instance of a class of the module -/
theorem pe_methF {m : Str} (ho : PE X o ta) (hc : isCall0 o = false) (hl : (apos.endLine == pos.line) = true) (hst : (es.all fun a => !isStar a) = true) (hfew : es.length < 20) :
    PE X (.Call (.Attribute o m apos) es [] pos) (fun σ H Q => ta σ H fun x H1 => ∃ a C dx fs g, x = .ref a ∧ H1 a = some (.ins C dx fs) ∧ Cls X.K C ∧ Meth X.K C m g ∧ fs.lookup m = none ∧
      wA X es σ H1 fun vs H2 => wF X (.ref g) (.ref a :: vs) σ H2 Q) := by
  refine ⟨fun pins s σ H Q I h => ?_⟩
  refine PySem.W.methodCall_KW (pl := plainOf o X.env) (thn (ho.run pins s σ H _ I h) fun u s1 ⟨x, H1, I1, rx, a, C, dx, fs, g, ex, ea, c, hm, l, q⟩ => ?_) ?_
  · subst ex
    obtain rfl : u = Value.ref a := rx
    exact getmeth_ok I1 ea c hm l (callF (first := [.ref a]) (vs0 := [.ref a]) hm.kp hst I1 (.cons rfl .nil) q)
  · rw [arm_eval_Call, attr_base hc]
    have hf : methodCallForm (es.length + ([] : List Keyword).length) (backTo pos (starEach es X.env)) (backToKw pos (keywordEach [] X.env)) = true := by
      unfold methodCallForm
      rw [star_all hst]
      show (true && true && decide (es.length + 0 + 0 < 30)) = true
      simp; omega
    congr 1
    funext ov
    congr 1
    funext _
    exact mcall_line hf hl
end

/-! ### what is to be shown -/
section
variable (G : Gm) (X : Cx) (W : WX)
def SE (e : Expr) (r : Env → Sto → Rs D) : Prop := ∀ {ρ : Env} {st : Sto} {σ : L2.St} {F H : Hp} {α : List Addr} {Q : VK}, SR G F H α st → SlR G F α σ ρ → Pst G F H α (r ρ st) (KV1 G Q) (WE W σ) → wE X e σ H Q
/-- a test -/
def KB (Q : Bool → Hp → Prop) : D → Hp → Hp → List Addr → Sto → Prop := fun d _ H' _ _ => ∃ b, d = .bl b ∧ Q b H'
def STe (e : Expr) (r : Env → Sto → Rs D) : Prop := ∀ {ρ : Env} {st : Sto} {σ : L2.St} {F H : Hp} {α : List Addr} {Q : Bool → Hp → Prop}, SR G F H α st → SlR G F α σ ρ → Pst G F H α (r ρ st) (KB Q) (WE W σ) → wT X e σ H Q
def SW (e : Expr) (r : Env → Sto → Rs D) : Prop := ∀ {ρ : Env} {st : Sto} {σ : L2.St} {F H : Hp} {α : List Addr} {Q : Bool → Hp → Prop}, SR G F H α st → SlR G F α σ ρ → Pst G F H α (r ρ st) (KB Q) (WE W σ) → wW X e σ H Q
def KVs (Q : List V → Hp → Prop) : List D → Hp → Hp → List Addr → Sto → Prop := fun ds F' H' α' _ => ∀ vs, Rps G F' α' vs ds → Q vs H'
def SA (es : List Expr) (r : Env → Sto → Rs (List D)) : Prop := ∀ {ρ : Env} {st : Sto} {σ : L2.St} {F H : Hp} {α : List Addr} {Q : List V → Hp → Prop}, SR G F H α st → SlR G F α σ ρ → Pst G F H α (r ρ st) (KVs G Q) (WE W σ) → wA X es σ H Q
def KO (Q : Option Int → Hp → Prop) : Option Int → Hp → Hp → List Addr → Sto → Prop := fun o _ H' _ _ => Q o H'
def SO (e : Option Expr) (r : Env → Sto → Rs (Option Int)) : Prop := ∀ {ρ : Env} {st : Sto} {σ : L2.St} {F H : Hp} {α : List Addr} {Q : Option Int → Hp → Prop}, SR G F H α st → SlR G F α σ ρ → Pst G F H α (r ρ st) (KO Q) (WE W σ) → wP X e σ H Q
end
section
variable {G : Gm} {X : Cx} {W : WX}
theorem SE.step {γ : Type} {e : Expr} {r : Env → Sto → Rs D} (h : SE G X W e r) {ρ : Env} {st : Sto} {σ : L2.St} {F H : Hp} {α : List Addr} {k : D → Sto → Rs γ} {K : γ → Hp → Hp → List Addr → Sto → Prop} {Q' : VK} (R : SR G F H α st) (S : SlR G F α σ ρ)
    (p : Pst G F H α ((r ρ st).bind k) K (WE W σ))
    (hq : ∀ d F1 H1 α1 s1 v, SR G F1 H1 α1 s1 → SlR G F1 α1 σ ρ → Ext F H α F1 H1 α1 → Rp G F1 α1 v d → Pst G F1 H1 α1 (k d s1) K (WE W σ) → Q' v H1) : wE X e σ H Q' :=
  h R S (p.bind.imp fun d F1 H1 α1 s1 R1 X1 h1 v rv => hq d F1 H1 α1 s1 v R1 (S.mono X1) X1 rv h1)
theorem STe.step {γ : Type} {e : Expr} {r : Env → Sto → Rs D} (h : STe G X W e r) {ρ : Env} {st : Sto} {σ : L2.St} {F H : Hp} {α : List Addr} {k : D → Sto → Rs γ} {K : γ → Hp → Hp → List Addr → Sto → Prop} {Q' : Bool → Hp → Prop} (R : SR G F H α st) (S : SlR G F α σ ρ)
    (p : Pst G F H α ((r ρ st).bind k) K (WE W σ)) (hn : ∀ d s, (∀ b, d ≠ .bl b) → k d s = .no)
    (hq : ∀ b F1 H1 α1 s1, SR G F1 H1 α1 s1 → SlR G F1 α1 σ ρ → Ext F H α F1 H1 α1 → Pst G F1 H1 α1 (k (.bl b) s1) K (WE W σ) → Q' b H1) : wT X e σ H Q' :=
  h R S (p.bind.imp fun d F1 H1 α1 s1 R1 X1 h1 => by
    by_cases hb : ∃ b, d = .bl b
    · obtain ⟨b, rfl⟩ := hb
      exact ⟨b, rfl, hq b F1 H1 α1 s1 R1 (S.mono X1) X1 h1⟩
    · rw [hn d s1 fun b e => hb ⟨b, e⟩] at h1
      exact h1.elim)
theorem SA.step {γ : Type} {e : List Expr} {r : Env → Sto → Rs (List D)} (h : SA G X W e r) {ρ : Env} {st : Sto} {σ : L2.St} {F H : Hp} {α : List Addr} {k : List D → Sto → Rs γ} {K : γ → Hp → Hp → List Addr → Sto → Prop} {Q' : List V → Hp → Prop} (R : SR G F H α st) (S : SlR G F α σ ρ)
    (p : Pst G F H α ((r ρ st).bind k) K (WE W σ))
    (hq : ∀ d F1 H1 α1 s1 v, SR G F1 H1 α1 s1 → SlR G F1 α1 σ ρ → Ext F H α F1 H1 α1 → Rps G F1 α1 v d → Pst G F1 H1 α1 (k d s1) K (WE W σ) → Q' v H1) : wA X e σ H Q' :=
  h R S (p.bind.imp fun d F1 H1 α1 s1 R1 X1 h1 v rv => hq d F1 H1 α1 s1 v R1 (S.mono X1) X1 rv h1)
theorem SO.step {γ : Type} {e : Option Expr} {r : Env → Sto → Rs (Option Int)} (h : SO G X W e r) {ρ : Env} {st : Sto} {σ : L2.St} {F H : Hp} {α : List Addr} {k : Option Int → Sto → Rs γ} {K : γ → Hp → Hp → List Addr → Sto → Prop} {Q' : Option Int → Hp → Prop} (R : SR G F H α st) (S : SlR G F α σ ρ)
    (p : Pst G F H α ((r ρ st).bind k) K (WE W σ))
    (hq : ∀ o F1 H1 α1 s1, SR G F1 H1 α1 s1 → SlR G F1 α1 σ ρ → Ext F H α F1 H1 α1 → Pst G F1 H1 α1 (k o s1) K (WE W σ) → Q' o H1) : wP X e σ H Q' :=
  h R S (p.bind.imp fun d F1 H1 α1 s1 R1 X1 h1 => hq d F1 H1 α1 s1 R1 (S.mono X1) X1 h1)
/-- a value as a test -/
theorem SE.test {e : Expr} {r : Env → Sto → Rs D} (h : SE G X W e r) (he : ∀ whole, isTrue e X.env whole = (do let v ← whole; standAt e.pos; holding [v] (truthy v))) : STe G X W e r := by
  intro ρ st σ F H α Q R S p
  refine pt_w (pt_val (wE_pe X e) he) (h R S (p.imp fun d F1 H1 α1 s1 R1 X1 ⟨b, hb, q⟩ v rv => ?_))
  subst hb
  cases rv
  exact ⟨b, rfl, q⟩
variable {gf : Gf} {T : Tb} {C : Nat → List D → Sto → Rs D} {k : Nat} {n : Cn} {b0 : Nat} {a b c o : Expr} {x y z : Ex} {pos : Pos}
theorem xu {X : Cx} {k : Nat} (r : Room (k + 1) X.A) : X.A.units + 65 < cLine := by have := r.un; omega
/-! ### names, constants -/
theorem sx_k {d : D} {e : Expr} {v : V} (h : PE X e (tC v)) (hr : ∀ F α, Rp G F α v d) : SE G X W e (fun _ st => .ok d st) := by
  intro ρ st σ F H α Q R S p
  exact pe_w h (p.here R v (hr F α))
theorem sx_var {i : Nat} {nm : Str} (hN : X.N[i]? = some nm) (hv : Vis X.env.scope nm) (ho : okName nm = true) : SE G X W (.Name nm pos) (fun ρ st => ev T C b0 ρ (.v i) st) := by
  intro ρ st σ F H α Q R S p
  simp only [ev] at p
  split at p
  · rename_i d e
    obtain ⟨v, h1, h2⟩ := S.2 i d e
    exact pe_w (pe_var hN hv (okn ho).1 (okn ho).2.1) ⟨v, h1, p.here R v h2⟩
  · exact p.elim
/-! ### operators -/
theorem sx_bin (xo : XOk G gf T C k n X) {op : Operator} {o : Bop} (ho : bopOf op = some o) (ha : SE G X W a (fun ρ st => ev T C b0 ρ x st)) (hb : SE G X W b (fun ρ st => ev T C b0 ρ y st)) :
    SE G X W (.BinOp a op b pos) (fun ρ st => ev T C b0 ρ (.bin o x y) st) := by
  intro ρ st σ F H α Q R S p
  simp only [ev] at p
  refine pe_w (pe_op (wO_op X _) (wE_pe X a) (wE_pe X b)) ?_
  refine ha.step R S p fun d F1 H1 α1 s1 v R1 S1 X1 r1 p1 => ?_
  refine hb.step R1 S1 p1 fun d2 F2 H2 α2 s2 v2 R2 S2 X2 r2 p2 => ?_
  exact bop_ok xo.hK (xu xo.room) R2 ho (view_ok R2 (r1.ext X2)) (view_ok R2 r2) p2
theorem sx_cmp (xo : XOk G gf T C k n X) {op : CmpOp} {o : Cop} (ho : copOf op = some o) (hs : isSet b = false) (ha : SE G X W a (fun ρ st => ev T C b0 ρ x st)) (hb : SE G X W b (fun ρ st => ev T C b0 ρ y st)) :
    SE G X W (.Compare a [op] [b] pos) (fun ρ st => ev T C b0 ρ (.cmp o x y) st) ∧ STe G X W (.Compare a [op] [b] pos) (fun ρ st => ev T C b0 ρ (.cmp o x y) st) := by
  constructor
  · intro ρ st σ F H α Q R S p
    simp only [ev] at p
    refine pe_w (pe_cmpR (wO_op X _) (wE_pe X a) (wE_pe X b) (marks_of hs)) ?_
    refine ha.step R S p fun d F1 H1 α1 s1 v R1 S1 X1 r1 p1 => ?_
    refine hb.step R1 S1 p1 fun d2 F2 H2 α2 s2 v2 R2 S2 X2 r2 p2 => ?_
    exact cop_ok xo.hK (xu xo.room) R2 ho (view_ok R2 (r1.ext X2)) (view_ok R2 r2) p2
  · intro ρ st σ F H α Q R S p
    simp only [ev] at p
    refine pt_w (pt_cmpR (wO_op X _) (wE_pe X a) (wE_pe X b) (marks_of hs)) ?_
    refine ha.step R S p fun d F1 H1 α1 s1 v R1 S1 X1 r1 p1 => ?_
    refine hb.step R1 S1 p1 fun d2 F2 H2 α2 s2 v2 R2 S2 X2 r2 p2 => ?_
    refine cop_ok (E := WE W σ) xo.hK (xu xo.room) R2 ho (view_ok R2 (r1.ext X2)) (view_ok R2 r2) (p2.imp fun d F3 H3 α3 s3 R3 X3 ⟨b, e, q⟩ v rv => ?_)
    subst e
    cases rv
    exact ⟨b, rfl, q⟩
theorem sx_chain (xo : XOk G gf T C k n X) {op op' : CmpOp} {o o' : Cop} (ho : copOf op = some o) (ho' : copOf op' = some o') (hs : isSet c = false) (ha : SE G X W a (fun ρ st => ev T C b0 ρ x st)) (hb : SE G X W b (fun ρ st => ev T C b0 ρ y st)) (hc : SE G X W c (fun ρ st => ev T C b0 ρ z st)) :
    SE G X W (.Compare a [op, op'] [b, c] pos) (fun ρ st => ev T C b0 ρ (.chain o o' x y z) st) ∧ STe G X W (.Compare a [op, op'] [b, c] pos) (fun ρ st => ev T C b0 ρ (.chain o o' x y z) st) := by
  have key : ∀ {ρ st σ F H α Q}, SR G F H α st → SlR G F α σ ρ → Pst G F H α (ev T C b0 ρ (.chain o o' x y z) st) (KV1 G Q) (WE W σ) → tChain (wO X (compareOp op)) (wO X (compareOp op')) (wE X a) (wE X b) (wE X c) σ H Q := by
    intro ρ st σ F H α Q R S p
    simp only [ev] at p
    refine ha.step R S p fun d F1 H1 α1 s1 v R1 S1 X1 r1 p1 => ?_
    refine hb.step R1 S1 p1 fun d2 F2 H2 α2 s2 v2 R2 S2 X2 r2 p2 => ?_
    refine cop_ok (E := fun _ _ _ => True) xo.hK (xu xo.room) R2 ho (view_ok R2 (r1.ext X2)) (view_ok R2 r2) ?_
    cases e : cop o (view s2 d) (view s2 d2) with
    | none => simp only [e] at p2; exact p2.elim
    | some bb =>
      simp only [e] at p2
      intro F3 H3 α3 R3 X3 v3 rv
      cases rv
      refine ⟨bb, rfl, ?_⟩
      cases bb with
      | false => exact p2.now R3 X3 _ (.bl false)
      | true =>
        simp only [if_true]
        refine hc.step R3 (S2.mono X3) (p2.ext X3) fun d4 F4 H4 α4 s4 v4 R4 S4 X4 r4 p4 => ?_
        exact cop_ok xo.hK (xu xo.room) R4 ho' (view_ok R4 ((r2.ext X3).ext X4)) (view_ok R4 r4) p4
  have hm : lastMarks [op, op'] [b, c] = false := by
    show behindInMarks op' c = false
    exact marks_of hs
  constructor
  · intro ρ st σ F H α Q R S p
    exact pe_w (pe_chain (wO_op X _) (wO_op X _) (wE_pe X a) (wE_pe X b) (wE_pe X c) hm) (key R S p)
  · intro ρ st σ F H α Q R S p
    refine pt_w (pt_chain (wO_op X _) (wO_op X _) (wE_pe X a) (wE_pe X b) (wE_pe X c) hm) (key R S (p.imp fun d F3 H3 α3 s3 R3 X3 ⟨b, e, q⟩ v rv => ?_))
    subst e
    cases rv
    exact ⟨b, rfl, q⟩
theorem isN_rp {F : Hp} {α : List Addr} {v : V} {d : D} (r : Rp G F α v d) : decide (v = .non) = D.isN d := by
  cases r <;> rfl
theorem notN_rp {F : Hp} {α : List Addr} {v : V} {d : D} (r : Rp G F α v d) : (!decide (v = .non)) = !D.isN d := by
  cases r <;> rfl
theorem sx_isN {j : Nat} {p' : Pos} (ha : SE G X W a (fun ρ st => ev T C b0 ρ x st)) :
    SE G X W (.Compare a [.Is] [.Constant .none j p'] pos) (fun ρ st => ev T C b0 ρ (.isN x) st) ∧ STe G X W (.Compare a [.Is] [.Constant .none j p'] pos) (fun ρ st => ev T C b0 ρ (.isN x) st) := by
  constructor
  · intro ρ st σ F H α Q R S p
    simp only [ev] at p
    refine pe_w (pe_cmp (pc_isN (wE_pe X a)) rfl) (ha.step R S p fun d F1 H1 α1 s1 v R1 S1 X1 r1 p1 => ?_)
    rw [isN_rp r1]
    exact p1.here R1 _ (.bl _)
  · intro ρ st σ F H α Q R S p
    simp only [ev] at p
    refine pt_w (pt_cmp (pc_isN (wE_pe X a)) rfl) (ha.step R S p fun d F1 H1 α1 s1 v R1 S1 X1 r1 p1 => ?_)
    rw [isN_rp r1]
    obtain ⟨b, e, q⟩ := p1.here R1
    exact ⟨_, rfl, by cases e; exact q⟩
theorem sx_notN {j : Nat} {p' : Pos} (ha : SE G X W a (fun ρ st => ev T C b0 ρ x st)) :
    SE G X W (.Compare a [.IsNot] [.Constant .none j p'] pos) (fun ρ st => ev T C b0 ρ (.notN x) st) ∧ STe G X W (.Compare a [.IsNot] [.Constant .none j p'] pos) (fun ρ st => ev T C b0 ρ (.notN x) st) := by
  constructor
  · intro ρ st σ F H α Q R S p
    simp only [ev] at p
    refine pe_w (pe_cmp (pc_notN (wE_pe X a)) rfl) (ha.step R S p fun d F1 H1 α1 s1 v R1 S1 X1 r1 p1 => ?_)
    rw [notN_rp r1]
    exact p1.here R1 _ (.bl _)
  · intro ρ st σ F H α Q R S p
    simp only [ev] at p
    refine pt_w (pt_cmp (pc_notN (wE_pe X a)) rfl) (ha.step R S p fun d F1 H1 α1 s1 v R1 S1 X1 r1 p1 => ?_)
    rw [notN_rp r1]
    obtain ⟨b, e, q⟩ := p1.here R1
    exact ⟨_, rfl, by cases e; exact q⟩
/-! ### and, or, not, if else -/
theorem bl_only {r : Rs D} {F H : Hp} {α : List Addr} {K : D → Hp → Hp → List Addr → Sto → Prop} {E : XK} (p : Pst G F H α (r.bind fun c s' => (match c with | .bl _ => .ok c s' | _ => .no)) K E) : Pst G F H α r (fun d F' H' α' s => (∃ b, d = .bl b) ∧ K d F' H' α' s) E :=
  p.bind.imp fun d F1 H1 α1 s1 R1 X1 h1 => by
    cases d with
    | bl b => exact ⟨⟨b, rfl⟩, h1.here R1⟩
    | _ => exact h1.elim
theorem sx_one {op : BoolOp} {f : Env → Sto → Rs D} (ha : SE G X W a f) : SE G X W (.BoolOp op [a] pos) f := fun R S p => pe_w (pe_one (wE_pe X a)) (ha R S p)
theorem sw_one {op : BoolOp} {f : Env → Sto → Rs D} (ha : STe G X W a f) : SW G X W (.BoolOp op [a] pos) f := by
  intro ρ st σ F H α Q R S p
  cases op with
  | And => exact pw_w (pw_and1 (wT_pt X a)) (ha R S p)
  | Or => exact pw_w (pw_or1 (wT_pt X a)) (ha R S p)
theorem sx_and {r : List Expr} (ha : SE G X W a (fun ρ st => ev T C b0 ρ x st)) (hb : SE G X W (.BoolOp .And (b :: r) pos) (fun ρ st => ev T C b0 ρ y st)) : SE G X W (.BoolOp .And (a :: b :: r) pos) (fun ρ st => ev T C b0 ρ (.and x y) st) := by
  intro ρ st σ F H α Q R S p
  simp only [ev] at p
  refine pe_w (pe_and (wE_pe X a) (wE_pe X _)) (ha.step R S p fun d F1 H1 α1 s1 v R1 S1 X1 r1 p1 => ?_)
  cases d with
  | bl bb =>
    cases r1
    refine ⟨bb, rfl, ?_⟩
    cases bb with
    | true => exact hb R1 S1 ((bl_only p1).imp fun d F2 H2 α2 s2 R2 X2 h => h.2)
    | false => exact p1.here R1 _ (.bl false)
  | _ => exact p1.elim
theorem sx_or {r : List Expr} (ha : SE G X W a (fun ρ st => ev T C b0 ρ x st)) (hb : SE G X W (.BoolOp .Or (b :: r) pos) (fun ρ st => ev T C b0 ρ y st)) : SE G X W (.BoolOp .Or (a :: b :: r) pos) (fun ρ st => ev T C b0 ρ (.or x y) st) := by
  intro ρ st σ F H α Q R S p
  simp only [ev] at p
  refine pe_w (pe_or (wE_pe X a) (wE_pe X _)) (ha.step R S p fun d F1 H1 α1 s1 v R1 S1 X1 r1 p1 => ?_)
  cases d with
  | bl bb =>
    cases r1
    refine ⟨bb, rfl, ?_⟩
    cases bb with
    | true => exact p1.here R1 _ (.bl true)
    | false => exact hb R1 S1 ((bl_only p1).imp fun d F2 H2 α2 s2 R2 X2 h => h.2)
  | _ => exact p1.elim
theorem sw_and {r : List Expr} (ha : STe G X W a (fun ρ st => ev T C b0 ρ x st)) (hb : SW G X W (.BoolOp .And (b :: r) pos) (fun ρ st => ev T C b0 ρ y st)) : SW G X W (.BoolOp .And (a :: b :: r) pos) (fun ρ st => ev T C b0 ρ (.and x y) st) := by
  intro ρ st σ F H α Q R S p
  simp only [ev] at p
  refine pw_w (pw_and (wT_pt X a) (wW_pw X _)) (ha.step R S p (fun d s h => by cases d <;> first | rfl | exact absurd rfl (h _)) fun bb F1 H1 α1 s1 R1 S1 X1 p1 => ?_)
  cases bb with
  | true => exact hb R1 S1 ((bl_only p1).imp fun d F2 H2 α2 s2 R2 X2 h => h.2)
  | false =>
    obtain ⟨b, e, q⟩ := p1.here R1
    cases e
    exact q
theorem sw_or {r : List Expr} (ha : STe G X W a (fun ρ st => ev T C b0 ρ x st)) (hb : SW G X W (.BoolOp .Or (b :: r) pos) (fun ρ st => ev T C b0 ρ y st)) : SW G X W (.BoolOp .Or (a :: b :: r) pos) (fun ρ st => ev T C b0 ρ (.or x y) st) := by
  intro ρ st σ F H α Q R S p
  simp only [ev] at p
  refine pw_w (pw_or (wT_pt X a) (wW_pw X _)) (ha.step R S p (fun d s h => by cases d <;> first | rfl | exact absurd rfl (h _)) fun bb F1 H1 α1 s1 R1 S1 X1 p1 => ?_)
  cases bb with
  | false => exact hb R1 S1 ((bl_only p1).imp fun d F2 H2 α2 s2 R2 X2 h => h.2)
  | true =>
    obtain ⟨b, e, q⟩ := p1.here R1
    cases e
    exact q
theorem SW.test {e : Expr} {r : Env → Sto → Rs D} (h : SW G X W e r) : STe G X W e r := fun R S p => pt_w (wW_pw X e).pt (h R S p)
theorem sx_not (ha : SE G X W a (fun ρ st => ev T C b0 ρ x st)) : SE G X W (.UnaryOp .Not a pos) (fun ρ st => ev T C b0 ρ (.not x) st) := by
  intro ρ st σ F H α Q R S p
  simp only [ev] at p
  refine pe_w (pe_not (wE_pe X a)) (ha.step R S p fun d F1 H1 α1 s1 v R1 S1 X1 r1 p1 => ?_)
  cases d with
  | bl bb => cases r1; exact ⟨bb, rfl, p1.here R1 _ (.bl _)⟩
  | _ => exact p1.elim
theorem st_not (ha : STe G X W a (fun ρ st => ev T C b0 ρ x st)) : STe G X W (.UnaryOp .Not a pos) (fun ρ st => ev T C b0 ρ (.not x) st) := by
  intro ρ st σ F H α Q R S p
  simp only [ev] at p
  refine pt_w (pt_not (wT_pt X a)) (ha.step R S p (fun d s h => by cases d <;> first | rfl | exact absurd rfl (h _)) fun bb F1 H1 α1 s1 R1 S1 X1 p1 => ?_)
  obtain ⟨b, e, q⟩ := p1.here R1
  cases e
  exact q
theorem sx_ite (ha : STe G X W a (fun ρ st => ev T C b0 ρ x st)) (hb : SE G X W b (fun ρ st => ev T C b0 ρ y st)) (hc : SE G X W c (fun ρ st => ev T C b0 ρ z st)) : SE G X W (.IfExp a b c pos) (fun ρ st => ev T C b0 ρ (.ite x y z) st) := by
  intro ρ st σ F H α Q R S p
  simp only [ev] at p
  refine pe_w (pe_ifExp (wT_pt X a) (wE_pe X b) (wE_pe X c)) (ha.step R S p (fun d s h => by cases d <;> first | rfl | exact absurd rfl (h _)) fun bb F1 H1 α1 s1 R1 S1 X1 p1 => ?_)
  cases bb with
  | true => exact hb R1 S1 p1
  | false => exact hc R1 S1 p1
/-! ### lists of expressions, displays -/
theorem sa_nil : SA G X W [] (fun ρ st => evs T C b0 ρ [] st) := by
  intro ρ st σ F H α Q R S p
  simp only [evs] at p
  exact pa_w pa_nil (p.here R [] .nil)
theorem sa_cons {es : List Expr} {ys : List Ex} (hs : isStar a = false) (ha : SE G X W a (fun ρ st => ev T C b0 ρ x st)) (hr : SA G X W es (fun ρ st => evs T C b0 ρ ys st)) : SA G X W (a :: es) (fun ρ st => evs T C b0 ρ (x :: ys) st) := by
  intro ρ st σ F H α Q R S p
  simp only [evs] at p
  refine pa_w (pa_cons (wE_pe X a) (wA_pa X es) (star_cons hs)) (ha.step R S p fun d F1 H1 α1 s1 v R1 S1 X1 r1 p1 => ?_)
  refine hr.step R1 S1 p1 fun ds F2 H2 α2 s2 vs R2 S2 X2 r2 p2 => ?_
  exact p2.here R2 _ (.cons (r1.ext X2) r2)
theorem sx_tup {es : List Expr} {ys : List Ex} {j : Nat} (hr : SA G X W es (fun ρ st => evs T C b0 ρ ys st)) : SE G X W (.Tuple es j pos) (fun ρ st => ev T C b0 ρ (.tup ys) st) := by
  intro ρ st σ F H α Q R S p
  simp only [ev] at p
  refine pe_w (pe_tupF (wA_pa X es)) (hr.step R S p fun ds F1 H1 α1 s1 vs R1 S1 X1 r1 p1 => ?_)
  split at p1
  · rename_i hz
    exact ⟨by rw [r1.len]; exact hz, fun q o hq ho => PV.newF p1 R1 hq (.tup upd_same ho (r1.mono (same_upd (R1.free hq)) (List.prefix_refl _)))⟩
  · exact p1.elim
theorem sx_lst {es : List Expr} {ys : List Ex} {lv : Bool} (hr : SA G X W es (fun ρ st => evs T C b0 ρ ys st)) : SE G X W (.List es pos) (fun ρ st => ev T C b0 ρ (.lst lv ys) st) := by
  intro ρ st σ F H α Q R S p
  simp only [ev] at p
  refine pe_w (pe_lst (wA_pa X es)) (hr.step R S p fun ds F1 H1 α1 s1 vs R1 S1 X1 r1 p1 => ?_)
  split at p1
  · rename_i hz
    exact ⟨by rw [r1.len]; exact hz, fun q hq => mkL_ok R1 r1 p1 hq⟩
  · exact p1.elim
theorem sx_edic {lv : Bool} : SE G X W (.Dict [] [] pos) (fun ρ st => ev T C b0 ρ (.edic lv) st) := by
  intro ρ st σ F H α Q R S p
  simp only [ev] at p
  exact pe_w pe_dnewK fun q hq => mkD_ok R .nil p hq
/-! ### fields, items, slices -/
theorem lkp_of {F : Hp} {α : List Addr} {nm : Str} {f : Nat} (hf : G.fnm f = nm ∧ ∀ g, G.fnm g = nm → g = f) : ∀ {fvs : List (Str × V)} {gs : List Nat} {ds : List D} {d : D}, Rfs G F α fvs gs ds → lkp gs ds f = some d → ∃ v, fvs.lookup nm = some v ∧ Rp G F α v d
  | _, _, _, _, .nil, h => by simp [lkp] at h
  | _, _, _, d, .cons (x := x) (f := g) (v := v) (fvs := fvs) e h r, hl => by
    subst e
    unfold lkp at hl
    by_cases hg : g = f
    · rw [if_pos hg] at hl
      cases hl
      refine ⟨v, ?_, h⟩
      rw [List.lookup_cons, show (nm == G.fnm g) = true by rw [hg, hf.1]; exact beq_self_eq_true _]
    · rw [if_neg hg] at hl
      obtain ⟨v', h1, h2⟩ := lkp_of hf r hl
      refine ⟨v', ?_, h2⟩
      rw [List.lookup_cons, show (nm == G.fnm g) = false from beq_eq_false_iff_ne.mpr fun e => hg (hf.2 g e.symm)]
      exact h1
theorem lkp_none {F : Hp} {α : List Addr} {nm : Str} (hf : ∀ g, G.fnm g ≠ nm) : ∀ {fvs : List (Str × V)} {gs : List Nat} {ds : List D}, Rfs G F α fvs gs ds → fvs.lookup nm = none
  | _, _, _, .nil => rfl
  | _, _, _, .cons (f := g) (fvs := fvs) e h r => by
    subst e
    rw [List.lookup_cons, show (nm == G.fnm g) = false from beq_eq_false_iff_ne.mpr fun e => hf g e.symm]
    exact lkp_none hf r
theorem sx_fld (xo : XOk G gf T C k n X) {nm : Str} {f : Nat} (hf : n.fld nm = some f) (hc : isCall0 a = false) (ha : SE G X W a (fun ρ st => ev T C b0 ρ x st)) : SE G X W (.Attribute a nm pos) (fun ρ st => ev T C b0 ρ (.fld x f) st) := by
  intro ρ st σ F H α Q R S p
  simp only [ev] at p
  refine pe_w (pe_fld (wE_pe X a) (attr_base hc)) (ha.step R S p fun d F1 H1 α1 s1 v R1 S1 X1 r1 p1 => ?_)
  have hx := view_ok R1 r1
  cases e : view s1 d with
  | ins c fs vs =>
    rw [e] at hx p1
    obtain ⟨p0, dx, fvs, rfl, h1, rr⟩ := hx
    simp only [fldOf] at p1
    split at p1
    · rename_i hpl
      cases el : lkp fs vs f with
      | none => rw [el] at p1; exact p1.elim
      | some d' =>
        rw [el] at p1
        obtain ⟨v', l1, l2⟩ := lkp_of (xo.tie.fld nm f hf) rr el
        exact ⟨p0, _, dx, fvs, v', rfl, h1, by rw [xo.hK]; exact (xo.tie.cls c hpl).1, by rw [xo.hK]; exact xo.tie.noat c nm f hpl hf, l1, p1.here R1 _ l2⟩
    · exact p1.elim
  | _ => rw [e] at p1; exact p1.elim
theorem ix_dic {X : Cx} (hu : X.A.units + 65 < cLine) : IxR X rIxDic := by
  intro value slice pins s σ H x y v u Q I rx ry h hs
  obtain ⟨a, z, rfl, g, q⟩ := h
  obtain rfl : v = Value.ref a := rx
  have hT := dict_typeIs I g
  unfold subscriptTail
  refine wpAny_bind ?_
  rw [getitemInPython_of_ne hT.not_modules]
  refine wpAny_bind (wpAny_specialOf hT PySem.F.slot_dict_getitem.lookup ?_)
  have fin : wpAny (model X.prog X.w) X.A (subscripted slice false (.ref a) u) (fun r s₃ => wpAny (model X.prog X.w) X.A (letTemporaryGo value (.ref a) r >>= fun _ => pure r) (EP X pins σ Q) X.xe s₃) X.xe s := by
    rw [hs]
    exact wpAny_operating (d_getItem (by omega) I g ry fun w' s3 I3 rw' => wpAny_bind (wpAny_letTemporaryGo (wpAny_pure ⟨z, H, I3, rw', q⟩)))
  first
    | exact wpAny_pure (wpAny_bind fin)
    | exact wpAny_bind (wpAny_pure (wpAny_bind fin))
    | exact wpAny_bind fin
theorem ixA_ok {F H : Hp} {α : List Addr} {st : Sto} (hK : X.K = G.K) (hu : X.A.units + 65 < cLine) (R : SR G F H α st) {v u : V} {a c : D} (hx : RpH G F H α v a) (hy : Rp G F α u c) {Q : VK} {E : XK} (h : PV G F H α (pur (index a c) st) Q E) : wX X v u H Q := by
  have hr : ∀ m, c ≠ .ref m := fun m e => by
    subst e
    have e2 : index a (.ref m) = none := by unfold index; cases a <;> first | rfl | simp [isKey]
    rw [e2] at h
    exact h.elim
  cases a with
  | dic ks vs =>
    have hy' := hy.inH R.sub hr
    obtain ⟨p, kvs, rfl, h1, rr⟩ := hx
    cases e : index (.dic ks vs) c with
    | none => rw [e] at h; exact h.elim
    | some d =>
      rw [e] at h
      unfold index at e
      simp only at e
      split at e
      · rename_i hk
        obtain ⟨kk, rfl, rfl, _⟩ := key_of_d hy' hk
        rcases lkd_val rr kk with ⟨_, h2⟩ | ⟨v, d', h2, h3, h4⟩
        · rw [h2] at e; cases e
        · rw [h3] at e
          obtain rfl := Option.some.inj e
          exact ⟨_, ix_dic hu, p, v, rfl, by rw [← h2]; exact DGet.k h1, h.here R _ h4⟩
      · cases e
  | _ => exact index_ok hK hu R hx (hy.inH R.sub hr) h (fun _ _ e => by cases e)
theorem sx_ix (xo : XOk G gf T C k n X) (hs : isSlice b = false) (ha : SE G X W a (fun ρ st => ev T C b0 ρ x st)) (hb : SE G X W b (fun ρ st => ev T C b0 ρ y st)) : SE G X W (.Subscript a b pos) (fun ρ st => ev T C b0 ρ (.ix x y) st) := by
  intro ρ st σ F H α Q R S p
  simp only [ev] at p
  refine pe_w (pe_ix (wX_ix X) (wE_pe X a) (wE_pe X b) (plainIx_of hs)) ?_
  refine ha.step R S p fun d F1 H1 α1 s1 v R1 S1 X1 r1 p1 => ?_
  refine hb.step R1 S1 p1 fun d2 F2 H2 α2 s2 v2 R2 S2 X2 r2 p2 => ?_
  exact ixA_ok xo.hK (xu xo.room) R2 (view_ok R2 (r1.ext X2)) r2 p2
theorem evo_nil {ρ : Env} {st : Sto} : evo T C b0 ρ .nil st = .ok none st := by simp only [evo]
theorem sp_none : SO G X W none (fun ρ st => evo T C b0 ρ .nil st) := by
  intro ρ st σ F H α Q R S p
  simp only [evo] at p
  exact po_w po_none (p.here R)
theorem sp_some (hx : x ≠ .nil) (ha : SE G X W a (fun ρ st => ev T C b0 ρ x st)) : SO G X W (some a) (fun ρ st => evo T C b0 ρ x st) := by
  intro ρ st σ F H α Q R S p
  change Pst G F H α (evo T C b0 ρ x st) _ _ at p
  rw [evo.eq_2 T C b0 ρ x st (by intro e; exact hx e)] at p
  refine po_w (po_some (wE_pe X a)) (ha.step R S p fun d F1 H1 α1 s1 v R1 S1 X1 r1 p1 => ?_)
  cases d with
  | int i => cases r1; exact ⟨i, rfl, p1.here R1⟩
  | _ => exact p1.elim
theorem sx_sl (xo : XOk G gf T C k n X) {lo hi : Option Expr} {p2 : Pos} (ha : SE G X W a (fun ρ st => ev T C b0 ρ x st)) (hb : SO G X W lo (fun ρ st => evo T C b0 ρ y st)) (hc : SO G X W hi (fun ρ st => evo T C b0 ρ z st)) :
    SE G X W (.Subscript a (.Slice lo hi none p2) pos) (fun ρ st => ev T C b0 ρ (.sl x y z) st) := by
  intro ρ st σ F H α Q R S p
  simp only [ev] at p
  refine pe_w (pe_slice (wSl_sl X) (wE_pe X a) (wP_po X lo) (wP_po X hi)) ?_
  refine ha.step R S p fun d F1 H1 α1 s1 v R1 S1 X1 r1 p1 => ?_
  refine hb.step R1 S1 p1 fun l F2 H2 α2 s2 R2 S2 X2 p2 => ?_
  refine hc.step R2 S2 p2 fun h F3 H3 α3 s3 R3 S3 X3 p3 => ?_
  exact slice_ok xo.hK R3 (view_ok R3 ((r1.ext X2).ext X3)) p3
theorem sx_rev (xo : XOk G gf T C k n X) {j : Nat} {q1 q2 q3 : Pos} (ha : SE G X W a (fun ρ st => ev T C b0 ρ x st)) :
    SE G X W (.Subscript a (.Slice none none (some (.UnaryOp .USub (.Constant (.int 1) j q1) q2)) q3) pos) (fun ρ st => ev T C b0 ρ (.rev x) st) := by
  intro ρ st σ F H α Q R S p
  simp only [ev] at p
  refine pe_w (pe_revL (wE_pe X a)) (ha.step R S p fun d F1 H1 α1 s1 v R1 S1 X1 r1 p1 => ?_)
  have hx := view_ok R1 r1
  split at p1
  · rename_i xs e
    rw [e] at hx
    obtain ⟨p0, vs, rfl, h1, rr⟩ := hx
    exact ⟨p0, vs, rfl, SqL.of h1, fun q hq => PV.newF p1 R1 hq (.lst upd_same (rr.reverse.mono (same_upd (R1.free hq)) (List.prefix_refl _)))⟩
  · exact p1.elim
/-! ### calls -/
theorem call_ok (xo : XOk G gf T C k n X) (tk : Takes X W) {i : Nat} {ds : List D} {vs : List V} {st : Sto} {σ : L2.St} {F H : Hp} {α : List Addr} {Q : VK} (R : SR G F H α st) (r : Rps G F α vs ds) (p : Pst G F H α (C i ds st) (KV1 G Q) (WE W σ)) :
    wF X (.ref (gf.fa i)) vs σ H Q := by
  intro pins s us I rv
  cases e : T.fns[i]? with
  | none => rw [xo.cno i ds st e] at p; exact p.elim
  | some fn =>
    have g := xo.fng i (by rw [e]; rfl)
    exact run_fnSD (dvs := []) g.ok (xo.room.mono (Nat.le_succ _)) g.bd .nil (passAt tk σ) I rv (by rw [List.append_nil]; exact ⟨F, α, st, ds, R, r, p⟩)
theorem sx_call (xo : XOk G gf T C k n X) (tk : Takes X W) {nm : Str} {i m : Nat} {es : List Expr} {ys : List Ex} {p1 : Pos} (hf : n.fn nm = some (i, m)) (hg : Gl X nm) (hdb : (nm == ("__debug__" : Str)) = false) (hst : (es.all fun a => !isStar a) = true)
    (hr : SA G X W es (fun ρ st => evs T C b0 ρ ys st)) : SE G X W (.Call (.Name nm p1) es [] pos) (fun ρ st => ev T C b0 ρ (.call i ys) st) := by
  intro ρ st σ F H α Q R S p
  simp only [ev] at p
  refine pe_w (pe_callF hg (xo.tie.fn nm i m hf).1 (by rw [xo.hK]; exact (xo.tie.fn nm i m hf).2) hst hdb) (hr.step R S p fun ds F1 H1 α1 s1 vs R1 S1 X1 r1 p1 => ?_)
  exact call_ok xo tk R1 r1 p1
/-- a new instance is laid -/
theorem new_rp {F H : Hp} {α : List Addr} {st : Sto} {c : Nat} {x dx : Addr} (R : SR G F H α st) (h1 : H x = none) (h2 : H dx = none) (hne : dx ≠ x) :
    SR G F (upd (upd H dx (.own x)) x (.ins (G.cad c) dx [])) (α ++ [x]) (st ++ [.ins c [] []]) ∧ Ext F H α F (upd (upd H dx (.own x)) x (.ins (G.cad c) dx [])) (α ++ [x]) := by
  obtain ⟨R1, X1⟩ := R.aside (.own x) h2
  have h3 : upd H dx (.own x) x = none := by rw [upd_ne (Ne.symm hne)]; exact h1
  obtain ⟨R2, X2⟩ := R1.live (o := .ins (G.cad c) dx []) (e := .ins c [] []) h3 ⟨R1.free h3, dx, [], upd_same, .nil⟩
  exact ⟨R2, X1.trans X2⟩
theorem make_new0 {prog : Program} {w : World} {A : Around} {K : PySem.W.Frag} {C : Addr} {R : Result → Shared → Prop} {s : Shared} (X : K.In s.heap) (hm : PySem.W.makesIn K C = true) (hi : PySem.W.findIn K (.ref C) "__init__" = some (some (.builtin "object.__init__")))
    (h : R (.ok (.ret (.ref (s.heap.objs.size + 1)))) { s with heap := (s.heap.push PySem.W.emptyDict).push (PySem.W.instObj C s.heap.objs.size) }) :
    codeAny (model prog w) A (.call (.ref C) ⟨[], []⟩) R s := by
  obtain ⟨hh, g, d, t, os⟩ := s
  have Y := PySem.W.makes_of (M := model prog w) X hm
  have hx : ((hh.push PySem.W.emptyDict).push (PySem.W.instObj C hh.objs.size)).get? (hh.objs.size + 1) = some (PySem.W.instObj C hh.objs.size) := by
    have := Heap.get?_push_size (hh.push PySem.W.emptyDict) (o := PySem.W.instObj C hh.objs.size) rfl
    rwa [Heap.size_push] at this
  refine PySem.W.make_core Y (PySem.W.looks_findIn X hi) (fun self => PySem.W.Looks.of_pure (PySem.W.oi_bind self)) (.inr ⟨rfl, rfl⟩) ?_
  have t1 : PySem.W.Looks (model prog w) ((hh.push PySem.W.emptyDict).push (PySem.W.instObj C hh.objs.size)) (typeOf (.ref (hh.objs.size + 1))) (.ref C) := (PySem.W.Looks.ld hx).andThen .now
  have t2 : PySem.W.Looks (model prog w) ((hh.push PySem.W.emptyDict).push (PySem.W.instObj C hh.objs.size)) (isInstance (.ref (hh.objs.size + 1)) (.type "object")) true := t1.andThen (Y.top.keeps fun b o e => Heap.get?_push_of_some _ (Heap.get?_push_of_some _ e))
  refine codeAny_call_builtin PySem.W.oi_plain PySem.W.entry_oi (@PySem.W.check_slot (model prog w) _ _ _ "object.__init__" "object" "__init__" (.ref (hh.objs.size + 1)) [] [] _ PySem.W.oi_kind PySem.W.oi_split t2 (PySem.W.oi_args (.ref (hh.objs.size + 1))) ?_)
  rw [PySem.W.oi_run]
  exact wpAny_pure (And.intro rfl h)
theorem mkEnd_ok (xo : XOk G gf T C k n X) {f c : Nat} {lv : Bool} {ds : List D} {st s' : Sto} {d : D} {F H F3 H3 : Hp} {α α3 : List Addr} {Q : VK} {E : XK} {x : Addr} (R : SR G F H α st) (hx : H x = none) (hC : C f ds (st ++ [.ins c [] []]) = .ok d s') (hlt : ∀ e ∈ ([.ins c [] []] : List Ent), True)
    (R3 : SR G F3 H3 α3 s') (X0 : Ext F H α F3 H3 α3) (hp : α ++ [x] <+: α3) (p : Pst G F3 H3 α3 (mkEnd T f lv st.length s') (KV1 G Q) E) (p0 : Pst G F H α (mkEnd T f lv st.length s') (KV1 G Q) E) : Q (.ref x) H3 := by
  have hn : α3[st.length]? = some x := pre_get hp (by rw [← R.len]; simp)
  unfold mkEnd at p p0
  split at p
  · exact p.here R3 _ (.ref hn)
  · rename_i hlv
    rw [if_neg hlv] at p0
    split at p
    · rename_i h1 h2
      rename_i c' fs vs
      simp only [h1, h2] at p0
      split at p
      · rename_i hnr
        rw [if_pos hnr] at p0
        have hlen : st.length ≤ (st ++ [Ent.ins c [] []]).length := by rw [List.length_append]; omega
        have hclo : Clo st.length (st ++ [Ent.ins c [] []]) := fun i e hi he => by
          rw [List.getElem?_append_left hi] at he
          exact R.clo i e hi he
        obtain ⟨l1, l2⟩ := xo.ctr f ds _ d s' st.length h1 hC hlen hclo
        obtain ⟨hF, dx, fvs, hH, rr⟩ := R3.ent _ _ _ hn h2
        have hs : Same F3 (upd F3 x (.ins (G.cad c') dx fvs)) := same_upd hF
        have rr' : Rp G (upd F3 x (.ins (G.cad c') dx fvs)) α3 (.ref x) (.ins c' fs vs) := .ins upd_same (rr.mono hs (List.prefix_refl _))
        obtain ⟨R4, X4⟩ := R3.still (d := .ins c' fs vs) hn hF hH (fun m z => by cases z) rr'
        have clo4 : Clo st.length (s'.set st.length (.fz (.ins c' fs vs))) := fun i e hi he => by
          rw [List.getElem?_set_ne (Nat.ne_of_gt hi)] at he
          exact l2 i e hi he
        have R5 := R4.trunc (m := st.length) (by rw [List.length_set]; exact l1) clo4
        have ht : (s'.set st.length (.fz (.ins c' fs vs))).take st.length = s'.take st.length := by
          rw [List.take_set_of_le (Nat.le_refl _)]
        rw [ht] at R5
        have ha : α3.take st.length = α := by rw [← R.len]; exact pre_take ((List.prefix_append α [x]).trans hp)
        rw [ha] at R5
        refine p0.now R5 (X0.trans X4).cut _ ?_
        have := rr'.trunc (m := st.length) (lts_of_nrs _ _ hnr)
        rw [ha] at this
        exact this
      · exact p.elim
    · exact p.elim
theorem new_ok (xo : XOk G gf T C k n X) (tk : Takes X W) {c : Nat} {lv : Bool} {ds : List D} {vs : List V} {st : Sto} {σ : L2.St} {F H : Hp} {α : List Addr} {Q : VK} (hpl : plain T c = true) (R : SR G F H α st) (r : Rps G F α vs ds) (p : Pst G F H α (mkNew T C c lv ds st) (KV1 G Q) (WE W σ)) :
    wF X (.ref (G.cad c)) vs σ H Q := by
  intro pins s us I rv
  have hx1 : H (s.heap.objs.size + 1) = none := I.hok.fresh (Nat.le_succ _)
  have hx2 : H s.heap.objs.size = none := I.hok.fresh (Nat.le_refl _)
  have hne : s.heap.objs.size ≠ s.heap.objs.size + 1 := Nat.ne_of_lt (Nat.lt_succ_self _)
  obtain ⟨R1, X1⟩ := new_rp (c := c) R hx1 hx2 hne
  have hself : Rp G F (α ++ [s.heap.objs.size + 1]) (.ref (s.heap.objs.size + 1)) (.ref st.length) := .ref (by rw [← R.len]; simp)
  have I2 := Inv.made (C := G.cad c) I
  unfold mkNew at p
  split at p
  · rename_i cl hcl
    split at p
    · rename_i f hini
      have M := xo.tie.mk1 c cl f hpl hcl hini
      cases e : T.fns[f]? with
      | none =>
        rw [xo.cno f _ _ e] at p
        exact p.elim
      | some fn =>
      have g := xo.fng f (by rw [e]; rfl)
      have hq : spC G C f (.ref (s.heap.objs.size + 1) :: (vs ++ [])) (upd (upd H s.heap.objs.size (.own (s.heap.objs.size + 1))) (s.heap.objs.size + 1) (.ins (G.cad c) s.heap.objs.size [])) (fun v H2 => v = .non ∧ Q (.ref (s.heap.objs.size + 1)) H2) (WE W σ) := by
        refine ⟨F, _, _, .ref st.length :: ds, R1, .cons hself (by rw [List.append_nil]; exact r.ext X1), ?_⟩
        cases hr : C f (.ref st.length :: ds) (st ++ [.ins c [] []]) with
        | no => rw [hr] at p; exact p.elim
        | ex c' fs' vs' s' => rw [hr] at p; exact p.ext X1
        | ok d s' =>
          rw [hr] at p
          simp only [Rs.bind_ok] at p
          intro F3 H3 α3 R3 X3 v rd
          split at p
          · rename_i hd
            cases d <;> simp [D.isN] at hd
            cases rd
            exact ⟨rfl, mkEnd_ok xo R hx1 hr (fun _ _ => trivial) R3 (X1.trans X3) X3.a (p.ext (X1.trans X3)) p⟩
          · exact p.elim
      have r2 : Vals (V.ref (s.heap.objs.size + 1) :: (vs ++ [])) (Value.ref (s.heap.objs.size + 1) :: (us ++ [])) := .cons rfl (rv.append .nil)
      have hl : (Value.ref (s.heap.objs.size + 1) :: us ++ []).length = (gf.ps f).length := by
        have e := r2.length
        rw [g.ok.len _ _ _ _ hq] at e
        exact e.symm
      refine wpAny_call (make_map (f := gf.fa f) I.kIn (by rw [xo.hK]; exact M.makes) (by rw [xo.hK]; exact M.init) (beq_iff_eq.mp (by rw [xo.hK]; exact M.fn)) (codeAny_mono (g.ok.run _ X.stack _ _ ⟨Value.ref (s.heap.objs.size + 1) :: us, []⟩ (Value.ref (s.heap.objs.size + 1) :: (us ++ [])) _ _ (WE W σ) (xo.room.make (G.cad c) us [])
        (I2.env0.make (G.cad c) us []) (by have q := g.bd { s with heap := (s.heap.push PySem.W.emptyDict).push (PySem.W.instObj (G.cad c) s.heap.objs.size) } (Value.ref (s.heap.objs.size + 1) :: us) I2.kIn hl; rw [List.cons_append] at q; exact q) r2 hq) fun r s' hq' => ?_))
      cases r with
      | error e => exact passAt tk σ pins _ _ e s' I2 hq'
      | ok fl =>
        cases fl with
        | ret u =>
          obtain ⟨v, H', I3, rv, ev, q3⟩ := I2.after hq'
          subst ev
          exact ⟨rv, ⟨V.ref (s.heap.objs.size + 1), H', I3, rfl, q3⟩⟩
        | next => exact False.elim hq'
        | brk => exact False.elim hq'
        | cont => exact False.elim hq'
    · rename_i hini
      have M := xo.tie.mk0 c cl hpl hcl hini
      split at p
      · rename_i he
        have : ds = [] := by simpa using he
        subst this
        cases r
        cases rv
        refine wpAny_call (make_new0 I.kIn (by rw [xo.hK]; exact M.makes) (by rw [xo.hK]; exact M.init) ⟨.ref (s.heap.objs.size + 1), _, I2, rfl, ?_⟩)
        split at p
        · exact p.now R1 X1 _ hself
        · obtain ⟨R3, X3⟩ := R.aside (.own (s.heap.objs.size + 1)) hx2
          have h3 : upd H s.heap.objs.size (.own (s.heap.objs.size + 1)) (s.heap.objs.size + 1) = none := by rw [upd_ne (Ne.symm hne)]; exact hx1
          exact PV.newF (p.ext X3) R3 h3 (.ins upd_same .nil)
      · exact p.elim
  · exact p.elim
theorem sx_new (xo : XOk G gf T C k n X) (tk : Takes X W) {nm : Str} {c : Nat} {lv : Bool} {es : List Expr} {ys : List Ex} {p1 : Pos} (hf : n.cl nm = some c) (hkd : n.kd c = 0) (hg : Gl X nm) (hdb : (nm == ("__debug__" : Str)) = false) (hst : (es.all fun a => !isStar a) = true)
    (hr : SA G X W es (fun ρ st => evs T C b0 ρ ys st)) : SE G X W (.Call (.Name nm p1) es [] pos) (fun ρ st => ev T C b0 ρ (.new c lv ys) st) := by
  intro ρ st σ F H α Q R S p
  simp only [ev] at p
  obtain ⟨h1, h2, h3, h4⟩ := xo.tie.cl nm c hf
  refine pe_w (pe_callF hg h1 (by rw [xo.hK]; exact h4) hst hdb) (hr.step R S p fun ds F1 H1 α1 s1 vs R1 S1 X1 r1 p1 => ?_)
  exact new_ok xo tk (h3 hkd) R1 r1 p1
theorem sx_mth (xo : XOk G gf T C k n X) (tk : Takes X W) {nm : Str} {m : Nat} {es : List Expr} {ys : List Ex} {apos : Pos} (hm : n.mth nm = some m) (hc : isCall0 a = false) (hl : (apos.endLine == pos.line) = true) (hst : (es.all fun a => !isStar a) = true) (hfew : es.length < 20)
    (ha : SE G X W a (fun ρ st => ev T C b0 ρ x st)) (hr : SA G X W es (fun ρ st => evs T C b0 ρ ys st)) : SE G X W (.Call (.Attribute a nm apos) es [] pos) (fun ρ st => ev T C b0 ρ (.mth x m ys) st) := by
  intro ρ st σ F H α Q R S p
  simp only [ev] at p
  refine pe_w (pe_methF (wE_pe X a) hc hl hst hfew) (ha.step R S p fun d F1 H1 α1 s1 v R1 S1 X1 r1 p1 => ?_)
  have hx := view_ok R1 r1
  cases e : view s1 d with
  | ins c fs vs =>
    rw [e] at hx p1
    obtain ⟨p0, dx, fvs, rfl, h1, rr⟩ := hx
    simp only [mthOf] at p1
    split at p1
    · rename_i f he
      split at he
      · rename_i hpl
        obtain ⟨t1, t2⟩ := xo.tie.mth nm m hm
        cases ecl : T.cls[c]? with
        | none => rw [ecl] at he; cases he
        | some cl =>
          rw [ecl] at he
          have M := t2 c cl f hpl ecl he
          refine ⟨p0, _, dx, fvs, _, rfl, h1, by rw [xo.hK]; exact (xo.tie.cls c hpl).1, by rw [xo.hK]; exact M, lkp_none t1 rr, ?_⟩
          refine hr.step R1 S1 p1 fun ds F2 H2 α2 s2 vs2 R2 S2 X2 r2 p2 => ?_
          exact call_ok xo tk R2 (.cons (r1.ext X2) r2) p2
      · cases he
    · exact p1.elim
  | _ => rw [e] at p1; exact p1.elim
theorem ite_two {β : Type} {c : Bool} {u v : Option β} {b : β} (h : (if c = true then u else v) = some b) : (c = true ∧ u = some b) ∨ v = some b := by
  cases c with
  | true => exact .inl ⟨rfl, h⟩
  | false => exact .inr h
theorem bf_name {nm : Str} {j : Nat} {b : Bf} (h : bfOf nm j = some b) : nm ∈ bltN ∧ 0 < j ∧ bootBuiltins nm = some (bfV b) ∧ okName nm = true := by
  unfold bfOf at h
  iterate 13
    rcases ite_two h with ⟨hc, h⟩ | h
    · obtain ⟨e1, e2⟩ := (Bool.and_eq_true _ _).mp hc; obtain rfl := eq_of_beq e1; obtain rfl := eq_of_beq e2; cases h; exact ⟨by decide, by decide, by first | rfl | decide +kernel, by decide +kernel⟩
  cases h
theorem sx_bf (xo : XOk G gf T C k n X) {nm : Str} {b : Bf} {lv : Bool} {es : List Expr} {ys : List Ex} {p1 : Pos} (hb : bfOf nm es.length = some b) (hg : Gl X nm) (hst : (es.all fun a => !isStar a) = true)
    (hr : SA G X W es (fun ρ st => evs T C b0 ρ ys st)) : SE G X W (.Call (.Name nm p1) es [] pos) (fun ρ st => ev T C b0 ρ (.bf b lv ys) st) := by
  intro ρ st σ F H α Q R S p
  simp only [ev] at p
  obtain ⟨h1, h2, h3, h4⟩ := bf_name hb
  have hok := okn h4
  have key : ∀ {t : TA}, wA X es σ H (fun vs H1 => wC X (bfV b) vs H1 Q) := fun {t} => hr.step R S p fun ds F1 H1 α1 s1 vs R1 S1 X1 r1 p1 => bfn_ok xo.calm xo.hK R1 (view_oks R1 r1) p1
  cases es with
  | nil => simp at h2
  | cons e es =>
    rw [List.all_cons, Bool.and_eq_true] at hst
    have hs := star_cons (env := X.env) (es := es) (e := e) (by simpa using hst.1)
    have hp := backTo_any (env := X.env) (pos := pos) hst.2
    cases b with
    | len => exact pe_w (pe_callB (wC_call X _) hg (xo.tie.blt nm h1) h3 (wA_pa X _) hok.2.2 hok.1 hs hp) (key (t := tNil))
    | list => exact pe_w (pe_callTy (wC_call X _) hg (xo.tie.blt nm h1) h3 (wA_pa X _) hok.2.2 hok.1 hs hp) (key (t := tNil))
    | tuple => exact pe_w (pe_callTy (wC_call X _) hg (xo.tie.blt nm h1) h3 (wA_pa X _) hok.2.2 hok.1 hs hp) (key (t := tNil))
    | sorted => exact pe_w (pe_callB (wC_call X _) hg (xo.tie.blt nm h1) h3 (wA_pa X _) hok.2.2 hok.1 hs hp) (key (t := tNil))
    | dict => exact pe_w (pe_callTy (wC_call X _) hg (xo.tie.blt nm h1) h3 (wA_pa X _) hok.2.2 hok.1 hs hp) (key (t := tNil))
    | all => exact pe_w (pe_callB (wC_call X _) hg (xo.tie.blt nm h1) h3 (wA_pa X _) hok.2.2 hok.1 hs hp) (key (t := tNil))
    | any => exact pe_w (pe_callB (wC_call X _) hg (xo.tie.blt nm h1) h3 (wA_pa X _) hok.2.2 hok.1 hs hp) (key (t := tNil))
    | sum => exact pe_w (pe_callB (wC_call X _) hg (xo.tie.blt nm h1) h3 (wA_pa X _) hok.2.2 hok.1 hs hp) (key (t := tNil))
    | max => exact pe_w (pe_callB (wC_call X _) hg (xo.tie.blt nm h1) h3 (wA_pa X _) hok.2.2 hok.1 hs hp) (key (t := tNil))
    | min => exact pe_w (pe_callB (wC_call X _) hg (xo.tie.blt nm h1) h3 (wA_pa X _) hok.2.2 hok.1 hs hp) (key (t := tNil))
    | max2 => exact pe_w (pe_callB (wC_call X _) hg (xo.tie.blt nm h1) h3 (wA_pa X _) hok.2.2 hok.1 hs hp) (key (t := tNil))
    | min2 => exact pe_w (pe_callB (wC_call X _) hg (xo.tie.blt nm h1) h3 (wA_pa X _) hok.2.2 hok.1 hs hp) (key (t := tNil))
    | str => exact pe_w (pe_callTy (wC_call X _) hg (xo.tie.blt nm h1) h3 (wA_pa X _) hok.2.2 hok.1 hs hp) (key (t := tNil))
theorem bm_name {nm : Str} {j : Nat} {b : Bm} (h : bmOf nm j = some b) : nm = bmName b ∧ 0 < j := by
  unfold bmOf at h
  split at h
  · rename_i hc; simp only [Bool.and_eq_true, beq_iff_eq] at hc; obtain ⟨rfl, rfl⟩ := hc; cases h; exact ⟨rfl, by decide⟩
  split at h
  · rename_i hc; simp only [Bool.and_eq_true, beq_iff_eq] at hc; obtain ⟨rfl, rfl⟩ := hc; cases h; exact ⟨rfl, by decide⟩
  split at h
  · rename_i hc; simp only [Bool.and_eq_true, beq_iff_eq] at hc; obtain ⟨rfl, rfl⟩ := hc; cases h; exact ⟨rfl, by decide⟩
  split at h
  · rename_i hc; simp only [Bool.and_eq_true, beq_iff_eq] at hc; obtain ⟨rfl, rfl⟩ := hc; cases h; exact ⟨rfl, by decide⟩
  split at h
  · rename_i hc; simp only [Bool.and_eq_true, beq_iff_eq] at hc; obtain ⟨rfl, rfl⟩ := hc; cases h; exact ⟨rfl, by decide⟩
  cases h
theorem bmt_recv {F H : Hp} {α : List Addr} {b : Bm} {base : Nat} {o a : D} {ds : List D} {st : Sto} {K : D → Hp → Hp → List Addr → Sto → Prop} {E : XK} (h : Pst G F H α (bmt b base o a ds st) K E) : ∃ t, recv b a = some t := by
  unfold bmt at h
  split at h
  · exact ⟨_, rfl⟩
  · exact ⟨_, rfl⟩
  · exact ⟨_, rfl⟩
  · exact ⟨_, rfl⟩
  · exact h.elim
def btOf : Bm → BT | .join => .str | _ => .list
theorem recv_det {b : Bm} {a : D} {t : BT} (h : recv b a = some t) : t = btOf b := by
  unfold recv at h
  split at h <;> cases h <;> rfl
theorem pe_bmA {o e : Expr} {es : List Expr} {to : TE} {t : TA} {name : Str} {apos cpos : Pos} (ho : PE X o to) (ha : PA X (e :: es) t)
    (hbase : attributeBase o name X.env (eval o X.env) = eval o X.env)
    (hfew : ((backTo cpos (starEach (e :: es) X.env)).all (fun x => !x.1) && (backToKw cpos (keywordEach [] X.env)).all (fun x => x.1.isSome) && decide ((e :: es).length + ([] : List Keyword).length + (if ([] : List Keyword).isEmpty then 0 else 1) < 30)) = true)
    (hline : (apos.endLine == cpos.line) = true) (hs : starEach (e :: es) X.env = (false, eval e X.env) :: starEach es X.env) (hplain : (backTo cpos (starEach es X.env)).any (·.1) = false) :
    PE X (.Call (.Attribute o name apos) (e :: es) [] cpos) (fun σ H Q => to σ H fun x H1 => ∃ T id, PlainAttrs T ∧ Slot T name id ∧ typeOf (.builtin id) = pure (.type "method_descriptor") ∧ tyW X.K T x H1 ∧ t σ H1 fun xs H2 => wM X id x xs H2 Q) := by
  refine ⟨fun pins s σ H Q I h => wpAny_Call_method_late hbase hfew hline rfl (thn (ho.run pins s σ H _ I h) fun v s1 ⟨x, H1, I1, r1, T, id, pa, slot, hty, ty, q1⟩ => ?_)⟩
  obtain ⟨h1, h2⟩ := tyW_is I1 r1 ty
  have hA := ha.run cpos pins s1 σ H1 _ I1 q1
  refine ⟨T, id, pa, slot, hty, h1, h2, ?_⟩
  rw [hs] at hA ⊢
  exact Calls.callWith_builtin (by show (false || (backTo cpos (starEach es X.env)).any (·.1)) = false; rw [hplain] <;> rfl) (Calls.evalArgs_plain (thn hA fun us s2 ⟨vs, H2, I2, r2, q2⟩ => wM_mt X id pins s2 σ H2 x vs v us Q I2 r1 r2 q2))
theorem sx_bm (xo : XOk G gf T C k n X) {nm : Str} {b : Bm} {es : List Expr} {ys : List Ex} {apos : Pos} (hb : bmOf nm es.length = some b) (hc : isCall0 a = false) (hl : (apos.endLine == pos.line) = true) (hst : (es.all fun a => !isStar a) = true) (hfew : es.length < 20)
    (ha : SE G X W a (fun ρ st => ev T C b0 ρ x st)) (hr : SA G X W es (fun ρ st => evs T C b0 ρ ys st)) : SE G X W (.Call (.Attribute a nm apos) es [] pos) (fun ρ st => ev T C b0 ρ (.bm b x ys) st) := by
  obtain ⟨hnm, hpos⟩ := bm_name hb
  subst hnm
  intro ρ st σ F H α Q R S p
  simp only [ev] at p
  cases es with
  | nil => simp at hpos
  | cons e es =>
  rw [List.all_cons, Bool.and_eq_true] at hst
  have hs := star_cons (env := X.env) (es := es) (e := e) (by simpa using hst.1)
  have hp := backTo_any (env := X.env) (pos := pos) hst.2
  have hfew2 : ((backTo pos (starEach (e :: es) X.env)).all (fun x => !x.1) && (backToKw pos (keywordEach [] X.env)).all (fun x => x.1.isSome) && decide ((e :: es).length + ([] : List Keyword).length + (if ([] : List Keyword).isEmpty then 0 else 1) < 30)) = true := by
    rw [star_all (by rw [List.all_cons, Bool.and_eq_true]; exact hst)]
    show (true && true && decide ((e :: es).length + 0 + 0 < 30)) = true
    simp at hfew ⊢; omega
  refine pe_w (pe_bmA (wE_pe X a) (wA_pa X (e :: es)) (attr_base hc) hfew2 hl hs hp) ?_
  refine ha.step R S p fun d F1 H1 α1 s1 v R1 S1 X1 r1 p1 => ?_
  split at p1
  · rename_i t ht
    obtain ⟨f1, f2, f3⟩ := bm_facts ht
    refine ⟨btT t, bmId b t, f1, f2, f3, recv_ty (view_ok R1 r1) ht, ?_⟩
    refine hr.step R1 S1 p1 fun ds F2 H2 α2 s2 vs2 R2 S2 X2 r2 p2 => ?_
    obtain ⟨t', ht'⟩ := bmt_recv p2
    obtain rfl : t = t' := (recv_det ht).trans (recv_det ht').symm
    exact bmt_ok xo.hK (xu xo.room) R2 ht' (r1.ext X2) rfl (view_ok R2 (r1.ext X2)) r2 p2
  · exact p1.elim
/-! ### isinstance -/
theorem zc_dict {cls : Value} {oe : Obj} (z : Zc cls none oe) : oe.cls = cls ∧ oe.dict = none := z
/-- isinstance of an exception that was kept -/
theorem isi_exc {pins : List (Addr × Obj)} {σ : L2.St} {H : Hp} {s : Shared} {a C : Addr} {cv : Value} {b : Bool} {Q : Value → Shared → Prop} (I : Inv X pins σ H s) (hh : H a = some (ExH (.ref C) a)) (K : ExcC X.K C) (e : PySem.W.kitOne X.K (.ref C) cv = some b) (q : ∀ tk, Q (.bool b) { s with toks := tk }) :
    wpAny (model X.prog X.w) X.A (call (.builtin "isinstance") [.ref a, cv]) Q X.xe s := by
  obtain ⟨⟨oe, vs, hget, hz, hv⟩, _⟩ := I.hok a _ hh
  have J : PySem.W.InstAt s.heap a oe C none := by
    obtain ⟨oc, od, oda, osl⟩ := oe
    obtain ⟨h1, h2⟩ := hz
    dsimp only at h1 h2 hv
    subst h1 h2 hv
    exact ⟨hget, rfl, rfl, trivial⟩
  exact PySem.W.kia_one (PySem.W.handS_kitx_exc K.hg K.hk K.hs K.hd K.ha K.hn K.ht K.hm) I.kIn J e (fun z => nomatch z) q
theorem isi_excT {pins : List (Addr × Obj)} {σ : L2.St} {H : Hp} {s : Shared} {a C tp : Addr} {cs : List V} {us : List Value} {b : Bool} {Q : Value → Shared → Prop} (I : Inv X pins σ H s) (hh : H a = some (ExH (.ref C) a)) (K : ExcC X.K C) (hT : H tp = some (.tup cs)) (kc : Paired ClsV cs us)
    (e : PySem.W.kitAny X.K (.ref C) us = some b) (q : ∀ tk, Q (.bool b) { s with toks := tk }) :
    wpAny (model X.prog X.w) X.A (call (.builtin "isinstance") [.ref a, .ref tp]) Q X.xe s := by
  obtain ⟨⟨oe, vs, hget, hz, hv⟩, _⟩ := I.hok a _ hh
  have J : PySem.W.InstAt s.heap a oe C none := by
    obtain ⟨oc, od, oda, osl⟩ := oe
    obtain ⟨h1, h2⟩ := hz
    dsimp only at h1 h2 hv
    subst h1 h2 hv
    exact ⟨hget, rfl, rfl, trivial⟩
  obtain ⟨_, its, rv, o, h1, h2, n, h3⟩ := (show ObjOk X.prog X.w H s.heap tp (.tup cs) from I.hok tp _ hT)
  have e3 := ClsV.all kc rv
  subst e3
  obtain ⟨oc, od, dt, sl⟩ := o
  simp only at h2 h3
  subst h2 h3
  exact PySem.W.kia_tup (PySem.W.handS_kitx_exc K.hg K.hk K.hs K.hd K.ha K.hn K.ht K.hm) I.kIn J h1 e (fun z => nomatch z) q
/-- what isinstance answers of such a thing: u a class or a tuple of classes -/
theorem kind_ty {F H : Hp} {α : List Addr} {v : V} {d : D} {kd : Kd} (tie : Tie G gf T n X.mg) (hK : X.K = G.K) (hx : RpH G F H α v d) (e : kdOf T d = some kd) :
    (∀ c, kd = .own c → (T.cls[c]?).isSome = true) ∧ (TyX X.K H v (kdU G kd) ∨ ∃ a c, v = .ref a ∧ kd = .own c ∧ H a = some (ExH (.ref (G.cad c)) a) ∧ ExcC X.K (G.cad c)) := by
  cases d with
  | non => cases e; obtain rfl := hx; exact ⟨fun _ z => (by cases z), .inl (.base .non)⟩
  | bl b => cases e; obtain rfl := hx; exact ⟨fun _ z => (by cases z), .inl (.base (.bl _))⟩
  | int b => cases e; obtain rfl := hx; exact ⟨fun _ z => (by cases z), .inl (.base (.int _))⟩
  | str b => cases e; obtain ⟨rfl, _⟩ := hx; exact ⟨fun _ z => (by cases z), .inl (.base (.str _))⟩
  | tup xs => cases e; obtain ⟨a, vs, o, rfl, _, _, h1, _⟩ := hx; exact ⟨fun _ z => (by cases z), .inl (.fTuple h1)⟩
  | lst xs => cases e; obtain ⟨a, vs, rfl, h1, _⟩ := hx; exact ⟨fun _ z => (by cases z), .inl (.base (.lst h1))⟩
  | ins c fs vs =>
    simp only [kdOf] at e
    split at e
    · rename_i hpl
      cases e
      obtain ⟨a, dx, fvs, rfl, h1, _⟩ := hx
      obtain ⟨t1, t2⟩ := tie.cls c hpl
      refine ⟨fun c' z => ?_, .inl (.base (.ins h1 (by rw [hK]; exact t1) (by rw [hK]; exact t2.ha) (by rw [hK]; exact t2.hn) (by rw [hK]; exact t2.ht) (by rw [hK]; exact t2.hm)))⟩
      cases z
      unfold plain at hpl
      rw [Bool.and_eq_true] at hpl
      exact hpl.1
    · cases e
  | exc c fs vs =>
    simp only [kdOf] at e
    split at e
    · rename_i hc
      cases e
      rw [Bool.and_eq_true] at hc
      obtain ⟨a, rfl, h1, _⟩ := hx
      exact ⟨fun c' z => (by cases z; exact hc.1), .inr ⟨a, c, rfl, rfl, h1, by rw [hK]; exact tie.exc c hc.1 hc.2⟩⟩
    · cases e
  | _ => cases e
theorem any_kit (tie : Tie G gf T n X.mg) {kd : Kd} (hk : ∀ c, kd = .own c → (T.cls[c]?).isSome = true) : ∀ {ts : List Ty} {b : Bool}, isAny T kd ts = some b → PySem.W.kitAny G.K (kdU G kd) (ts.map (tyU G)) = some b
  | [], b, h => by cases h; rfl
  | t :: ts, b, h => by
    unfold isAny at h
    cases e : kdIs T kd t with
    | none => rw [e] at h; cases h
    | some b1 =>
      rw [e] at h
      have k1 := tie.kit kd t b1 hk e
      cases b1 with
      | true =>
        cases h
        exact kitAny_cons k1 (fun z => by cases z) fun _ => rfl
      | false => exact kitAny_cons k1 (fun _ => any_kit tie hk (by simpa using h)) fun z => by cases z
end
end LS
end
section
set_option Elab.async false
set_option linter.all false
set_option maxRecDepth 100000
/-! LS, part 8: enumerate of a tuple. -/
namespace PySem
open Sem (wp)
open AutoSeq1 (wpAny_loadPart')
section
variable {prog : Program} {w : World} {A : Around} {E : Value → Shared → Prop} {s : Shared}
theorem ls_nextOf_tup_item {it t : Addr} {i : Nat} {items} {x : Value} {Q : Value → Shared → Prop} (hit : s.heap.IsTupleIter it t i) (ht : s.heap.IsTuple t items) (hx : items[i]? = some x)
    (hQ : ∀ h', h'.IsTupleIter it t (i + 1) → Heap.SameBut it s.heap h' → Q x { s with heap := h' }) : wpAny (model prog w) A (Builtin.SmallTypes.nextOf (.ref it)) Q E s := by
  obtain ⟨o, ho, hc, hd⟩ := id hit; obtain ⟨ol, hol, _, nl, hdl⟩ := ht
  unfold Builtin.SmallTypes.nextOf
  refine wpAny_bind (wpAny_callSpecial?_slot (name := Str.ofString "__next__") hit.typeIs F.slot_tuple_iterator_next (wpAny_call_entry F.slot_tuple_iterator_next hit.typeIs F.entry_tuple_iterator_next ?_ (F.args_tuple_iterator_next_1 _)))
  show wpAny _ _ (field (.ref it) 0 >>= _) _ _ s; refine wpAny_bind (wpAny_field ho hd (x := .ref t) rfl ?_)
  show wpAny _ _ (if (Value.ref t == Value.none) = true then _ else _) _ _ s; rw [if_neg (show ¬ ((Value.ref t == Value.none) = true) from Bool.false_ne_true)]
  show wpAny _ _ (field (.ref it) 1 >>= _) _ _ s; refine wpAny_bind (wpAny_field ho hd (x := .int i 0) rfl ?_)
  show wpAny _ _ (seqItems? (.ref t) >>= _) _ _ s; refine wpAny_bind (wpAny_seqItems hol hdl ?_); simp only [Int.toNat_natCast, hx]
  refine wpAny_bind (wpAny_setField ho hd (by simp) (wpAny_pure ⟨x, rfl, wpAny_pure (hQ _ ⟨_, Heap.get?_update_self _ ho (Obj.isFreed_of_fields (Obj.data_mapFields hd _)), (Obj.cls_mapFields ..).trans hc, by rw [Obj.data_mapFields hd]; simp [rawInt]⟩ (Heap.SameBut.update ..))⟩))
theorem ls_nextOf_tup_end {it t : Addr} {i : Nat} {items} {Q : Value → Shared → Prop} (hh : A.handled = none) (hit : s.heap.IsTupleIter it t i) (ht : s.heap.IsTuple t items) (hx : items[i]? = none)
    (hE : ∀ h' e, Heap.ExtBut it s.heap h' → (∃ o, h'.get? e = some o ∧ o.cls = .type "StopIteration") → E (.ref e) { s with heap := h' }) : wpAny (model prog w) A (Builtin.SmallTypes.nextOf (.ref it)) Q E s := by
  obtain ⟨o, ho, hc, hd⟩ := id hit; obtain ⟨ol, hol, _, nl, hdl⟩ := ht
  unfold Builtin.SmallTypes.nextOf
  refine wpAny_bind (wpAny_callSpecial?_slot (name := Str.ofString "__next__") hit.typeIs F.slot_tuple_iterator_next (wpAny_call_entry F.slot_tuple_iterator_next hit.typeIs F.entry_tuple_iterator_next ?_ (F.args_tuple_iterator_next_1 _)))
  show wpAny _ _ (field (.ref it) 0 >>= _) _ _ s; refine wpAny_bind (wpAny_field ho hd (x := .ref t) rfl ?_)
  show wpAny _ _ (if (Value.ref t == Value.none) = true then _ else _) _ _ s; rw [if_neg (show ¬ ((Value.ref t == Value.none) = true) from Bool.false_ne_true)]
  show wpAny _ _ (field (.ref it) 1 >>= _) _ _ s; refine wpAny_bind (wpAny_field ho hd (x := .int i 0) rfl ?_)
  show wpAny _ _ (seqItems? (.ref t) >>= _) _ _ s; refine wpAny_bind (wpAny_seqItems hol hdl ?_); simp only [Int.toNat_natCast, hx]
  refine wpAny_bind (wpAny_rule (wpAny_bind (wpAny_setField ho hd (by simp) ?_))); show wpAny _ _ (newExc (.type "StopIteration") [] >>= _) _ _ _
  refine wpAny_bind ?_; simp only [newExc, newTuple]
  refine wpAny_bind (wpAny_newObj_type ?_ (by size_fits)); refine wpAny_bind (m := firstArgMember _ _) (wpAny_of_eq (a := Value.none) (by first | rfl | (simp only [firstArgMember]; rfl)) ?_)
  refine wpAny_newObj_type ?_ (by size_fits); simp only [raiseNew]; refine wpAny_bind (wpAny_handled ?_)
  first | rw [show A.in1.handled = none from hh] | rw [hh]
  refine wpAny_bind (wpAny_pure (wpAny_throw ?_)); exact hE _ _ (((Heap.SameBut.update ..).extBut.push _).push _) ⟨_, Heap.get?_push_size _ rfl, rfl⟩
end
theorem ls_draws_tup {prog : Program} {w : World} {A : Around} (hh : A.handled = none) (it t : Addr) (hne : t ≠ it) (items : Array Value) :
    Draws prog w A it [it, t] items.size (fun i v => items[i]? = some v) (fun i h => h.IsTupleIter it t i ∧ h.IsTuple t items) where
  live := fun _ _ st => let ⟨o, ho, _⟩ := st.1; ⟨o, ho⟩
  frame := fun _ _ _ st hk => ⟨st.1.at fun o e => hk it (by simp) o e, let ⟨o, ho, r⟩ := st.2; ⟨o, hk t (by simp) o ho, r⟩⟩
  item := fun i s Q E hi st hQ => by
    refine ls_nextOf_tup_item st.1 st.2 (x := items[i]) (by simp [hi]) fun h' hit' hs' => hQ _ h' s.toks (by simp [hi]) ⟨hit', let ⟨o, ho, r⟩ := st.2; ⟨o, (hs'.2 t hne).trans ho, r⟩⟩ hs'
  done := fun s Q E st hE => ls_nextOf_tup_end hh st.1 st.2 (by simp) hE
theorem ls_enum_tup_end {prog : Program} {w : World} {A : Around} {E : Value → Shared → Prop} {s : Shared} {e it t : Addr} {i : Nat} {j : Int} {old : Value} {items : Array Value} {Q : Option Value → Shared → Prop} (hh : A.handled = none) (he : IsEnum s.heap e it j old) (hit : s.heap.IsTupleIter it t i) (ht : s.heap.IsTuple t items) (hx : items[i]? = none)
    (hQ : ∀ h', Heap.ExtBut it s.heap h' → Q none { s with heap := h' }) : wpAny (model prog w) A (pyNext (.ref e)) Q E s := by
  have hT : s.TypeIs (.ref e) "enumerate" := ⟨_, he, rfl⟩
  unfold pyNext
  refine wpAny_bind (wpAny_attempt (wpAny_callSpecial?_slot (name := Str.ofString "__next__") hT F.slot_enumerate_next (wpAny_call_entry F.slot_enumerate_next hT F.entry_enumerate_next ?_ (F.args_enumerate_next_1 _))))
  show wpAny _ _ (field (.ref e) 2 >>= _) _ _ _; refine wpAny_bind (wpAny_field he rfl (x := .ref it) rfl ?_)
  refine wpAny_bind (ls_nextOf_tup_end hh hit ht hx fun h' x he' hx' => ?_); obtain ⟨o, ho, hc⟩ := hx'
  refine wpAny_bind (wpAny_isInstance (T := "StopIteration") (b := true) ⟨o, ho, hc⟩ isSubtype_stop ?_); exact wpAny_pure (hQ _ he')
theorem ls_meets_enum_tup (l : Addr) (items : Array Value) (n : Nat) (dct : Option Addr) (sl : Array (Option Value)) :
    Meets (Builtin.«enumerate.__new__» ⟨[.type "enumerate", .ref l], []⟩) (fun _ R s => s.heap.get? l = some { cls := .type "tuple", dict := dct, data := .seq items n, slots := sl } ∧
      R (.ok (.ret (.ref (s.heap.push { cls := .type "tuple_iterator", data := .fields #[.ref l, .int 0 0] }).objs.size)))
        { s with heap := (s.heap.push { cls := .type "tuple_iterator", data := .fields #[.ref l, .int 0 0] }).push { cls := .type "enumerate", data := .fields #[.none, .bool false, .ref s.heap.objs.size, rawInt 0, .none, .none] } }) :=
  .of_wp fun prog w A R s h => by
    obtain ⟨hp, g, d, tk, os⟩ := s; obtain ⟨hl, h⟩ := h; have hsub := sub_enumerate
    have hL : Heap.IsTuple (Shared.heap ⟨hp, g, d, tk, os⟩) l items := ⟨_, hl, rfl, n, rfl⟩
    wp_walk using wpAny_loadPart' hl
    refine wpAny_stack_any fun st => wpAny_pure ?_; split
    · rename_i c _ _ _ _ _; cases (c == Value.type "enumerate")
      · wp_walk using wpAny_loadPart' hl, wpAny_pyIter_tuple hL
        exact ⟨_, rfl, h⟩
      · wp_walk using wpAny_loadPart' hl, wpAny_pyIter_tuple hL
        exact ⟨_, rfl, h⟩
    · wp_walk using wpAny_loadPart' hl, wpAny_pyIter_tuple hL
      exact ⟨_, rfl, h⟩
theorem ls_call_enum_tup {prog : Program} {w : World} {A : Around} {E : Value → Shared → Prop} {s : Shared} {l : Addr} {items : Array Value} {Q : Value → Shared → Prop} (hL : s.heap.IsTuple l items)
    (h : ∀ h', IsEnum h' (s.heap.objs.size + 1) s.heap.objs.size 0 .none → h'.IsTupleIter s.heap.objs.size l 0 → h'.objs.size = s.heap.objs.size + 2 → (∀ b o, s.heap.get? b = some o → h'.get? b = some o) → Q (.ref (s.heap.objs.size + 1)) { s with heap := h' }) :
    wpAny (model prog w) A (call (.type "enumerate") [.ref l]) Q E s := by
  obtain ⟨⟨c, dct, dt, sl⟩, hl, hc, n, hd⟩ := hL
  replace hc : c = .type "tuple" := hc
  replace hd : dt = .seq items n := hd
  subst hc hd
  refine callType_new F.called_enumerate (by decide) (F.typeCall_enumerate_1 _) (F.newCall_enumerate_1 _) (fun obj => F.args_object_init_2 obj _) F.entry_enumerate_new (ls_meets_enum_tup l items n dct sl) ⟨hl, ?_⟩
  have hz : (s.heap.push { cls := .type "tuple_iterator", data := .fields #[.ref l, .int 0 0] }).objs.size = s.heap.objs.size + 1 := Heap.size_push ..
  show _ ∧ _
  rw [hz]
  have he : IsEnum ((s.heap.push { cls := .type "tuple_iterator", data := .fields #[.ref l, .int 0 0] }).push { cls := .type "enumerate", data := .fields #[.none, .bool false, .ref s.heap.objs.size, rawInt 0, .none, .none] }) (s.heap.objs.size + 1) s.heap.objs.size 0 .none := by
    have := Heap.get?_push_size (s.heap.push { cls := .type "tuple_iterator", data := .fields #[.ref l, .int 0 0] }) (o := { cls := .type "enumerate", data := .fields #[.none, .bool false, .ref s.heap.objs.size, rawInt 0, .none, .none] }) rfl
    rw [hz] at this; exact this
  exact ⟨⟨_, he, rfl⟩, h _ he ⟨_, Heap.get?_push_of_some _ (Heap.get?_push_size _ rfl), rfl, rfl⟩ (by rw [Heap.size_push, hz]) fun b o x => Heap.get?_push_of_some _ (Heap.get?_push_of_some _ x)⟩
end PySem
namespace L2
open PySem PySem.Spec PyProof.Rows
/-- the tuple at a, each item in a new pair -/
def ItEt (K : PySem.W.Frag) (a : Addr) : It :=
  ⟨fun i H => ∃ (xs : List V) (x : V), SqT K H a xs ∧ xs[i]? = some x, fun i H v H' => ∃ T x, v = .ref T ∧ H T = none ∧ H' = upd H T (.tup [.int (i : Nat), x]) ∧ ∀ xs, SqT K H a xs → xs[i]? = some x, fun i H => ∃ xs : List V, SqT K H a xs ∧ xs.length ≤ i⟩
theorem turn_enumT {P : Program} {w : World} {K : PySem.W.Frag} {elts : List Expr} {kk : Nat} {tpos : Pos} (a e it : Addr) :
    Turn P w K (.Tuple elts kk tpos) (ItEt K a) [e, it] e (fun i h => (∃ old, IsEnum h e it ((i : Nat) : Int) old) ∧ h.IsTupleIter it a i ∧ e ≠ it ∧ a ≠ it ∧ a ≠ e) where
  mem := by simp
  obj := fun i h st b hb => by
    obtain ⟨⟨old, he⟩, ⟨o, ho, hc, hd⟩, _⟩ := st
    rcases (show b = e ∨ b = it by simpa using hb) with z | z
    · rw [z]; exact ⟨_, he, fun v q => nomatch q⟩
    · rw [z]; exact ⟨o, ho, fun v q => by rw [hd] at q; cases q⟩
  keep := fun i h h' st k => let ⟨⟨old, he⟩, hi, hne⟩ := st; ⟨⟨old, k e (by simp) _ he⟩, hi.at fun o q => k it (by simp) o q, hne⟩
  item := by
    intro X hP hw hK hc i pins s σ H E I hf st hg; subst hP hw hK
    obtain ⟨⟨old, he⟩, hit, hne, hai, hae⟩ := st; obtain ⟨xs, x, hq, hx⟩ := hg
    obtain ⟨its, rv, p, hz⟩ := I.tuple hq; obtain ⟨u, hu, ru⟩ := rv.get hx
    have hel : e < s.heap.objs.size := Heap.lt_size he
    have hil : it < s.heap.objs.size := by obtain ⟨_, q, _⟩ := hit; exact Heap.lt_size q
    have hlt : i < its.toArray.size := by have := (List.getElem?_eq_some_iff.mp hu).1; simpa using this
    have dr := ls_draws_tup (prog := X.prog) (w := X.w) (A := X.A.in1) (show X.A.in1.handled = none from I.ok.hd hc) it a hai its.toArray
    refine wpAny_pyNext_enum_itemD dr he ⟨hit, p⟩ hlt hne (by simp [hne, Ne.symm hae]) fun y h' tk hy ho hst' hT hsz hk => ?_
    have ey : y = u := by
      have h1 : its.toArray[i]? = some y := hy
      have h2 : its.toArray[i]? = some u := by simpa using hu
      rw [h2] at h1; exact (Option.some.inj h1).symm
    subst ey
    refine ⟨_, rfl, wpAny_letOwnedTupleGo_enum (s := { s with heap := h', toks := tk + 1 }) ho fun h'' he' sb => ?_⟩
    have hT2 : h''.get? s.heap.objs.size = some { cls := .type "tuple", data := .seq #[.int i tk, y] } := (sb.2 _ (Nat.ne_of_gt hel)).trans hT
    have new : ObjOk X.prog X.w (upd H s.heap.objs.size (.tup [.int (i : Nat), x])) h'' s.heap.objs.size (.tup [.int (i : Nat), x]) := ⟨by show 2 ≤ sizeLine; decide, [.int i tk, y], .cons ⟨_, rfl⟩ (.cons ru .nil), ⟨_, hT2, rfl, _, rfl⟩⟩
    have I1 : Inv X pins σ (upd H s.heap.objs.size (.tup [.int (i : Nat), x])) { s with heap := h'', toks := tk + 1 } :=
      I.turnedNew (ch := [e, it]) (fun b ob hb q => (sb.2 b (fun z => hb (by simp [z]))).trans (hk b ob (fun z => hb (by simp [z])) (fun z => hb (by simp [z])) q)) hf (Nat.le_refl _) new
    refine ⟨.ref s.heap.objs.size, _, I1, rfl, ⟨_, x, rfl, I.hok.fresh (Nat.le_refl _), rfl, fun ys hy => by rw [I.tuple_inj hy hq]; exact hx⟩, ⟨⟨y, ?_⟩, hst'.1.at fun o q => (sb.2 it (Ne.symm hne)).trans q, hne, hai, hae⟩, fun b hb => ?_⟩
    · rw [show ((i + 1 : Nat) : Int) = (i : Int) + 1 by omega]; exact he'
    · have hb' : b < s.heap.objs.size := by
        rcases (show b = e ∨ b = it by simpa using hb) with z | z
        · rw [z]; exact hel
        · rw [z]; exact hil
      rw [upd_ne (Nat.ne_of_lt hb')]; exact (hf b hb).1
  done := by
    intro X hP hw hK hc i pins s σ H E I hf st hg; subst hP hw hK
    obtain ⟨⟨old, he⟩, hit, hne, hai, hae⟩ := st; obtain ⟨xs, hq, hx⟩ := hg
    obtain ⟨its, rv, p, hz⟩ := I.tuple hq; obtain ⟨f0, f1, f2, f3, f4, f5⟩ := hf it (by simp)
    have hl := rv.length
    exact ls_enum_tup_end (I.ok.hd hc) he hit (show s.heap.IsTuple a its.toArray from p) (by simp; omega) fun h' eb => ⟨rfl, I.turned (t' := s.toks) (fun b o hb q => eb b o hb q) f0 f1 f3 f4 f5⟩
  self := fun A i s Q E st h => let ⟨⟨_, he⟩, _⟩ := st; wpAny_pyIter_enum he h
def iEnumT (K : PySem.W.Frag) (ta : TA) : TI := fun σ H R => ta σ H fun vs H1 => ∃ a xs, vs = [.ref a] ∧ ((SqL K H1 a xs ∧ R (Ite K a) H1) ∨ (SqT K H1 a xs ∧ R (ItEt K a) H1))
/-- enumerate of a list or of a tuple -/
theorem pi_enumT {X : Cx} {e : Expr} {ta : TA} {p pos tpos : Pos} {elts : List Expr} {kk : Nat} (hg : Gl X "enumerate") (hm : X.mg "enumerate" = none) (ha : PA X [e] ta) (hs : starEach [e] X.env = [(false, eval e X.env)]) :
    PI X (.Tuple elts kk tpos) (.Call (.Name "enumerate" p) [e] [] pos) (iEnumT X.K ta) := by
  refine ⟨fun pins s σ H R I h => ?_⟩
  refine Call_ (ld_blt I hg hm boot_enumerate (PyProof.Rows.callWith_type1 (thn (ha.run pos pins s σ H _ I h) fun us s1 ⟨vs, H1, I1, r1, q1⟩ => ?_) hs rfl))
  obtain ⟨a, xs, ex, q⟩ := q1
  subst ex
  cases r1 with
  | cons r rr =>
    cases rr; cases r
    have fp : ∀ b ∈ [s1.heap.objs.size + 1, s1.heap.objs.size], FpOk X pins H1 b := fun b hb => by
      have hle : s1.heap.objs.size ≤ b := by
        rcases (show b = s1.heap.objs.size + 1 ∨ b = s1.heap.objs.size by simpa using hb) with z | z
        · rw [z]; exact Nat.le_add_right _ _
        · rw [z]; exact Nat.le_refl _
      exact I1.fpOk hle (I1.hok.fresh hle)
    rcases q with ⟨hq, q⟩ | ⟨hq, q⟩
    · obtain ⟨its, rv, p', hz⟩ := I1.list hq
      refine call_enumerate_list p'.isList fun h' he hit hsz hk => wpAny_pyIter_enum he ?_
      exact ⟨s1.heap.objs.size + 1, [s1.heap.objs.size + 1, s1.heap.objs.size], _, _, H1, rfl, I1.kept (t' := s1.toks) hk, turn_enum a (s1.heap.objs.size + 1) s1.heap.objs.size, ⟨⟨.none, he⟩, hit, Nat.succ_ne_self _⟩, fp, q⟩
    · obtain ⟨its, rv, p', hz⟩ := I1.tuple hq
      have hlt : a < s1.heap.objs.size := p'.lt
      refine ls_call_enum_tup (show s1.heap.IsTuple a its.toArray from p') fun h' he hit hsz hk => wpAny_pyIter_enum he ?_
      exact ⟨s1.heap.objs.size + 1, [s1.heap.objs.size + 1, s1.heap.objs.size], _, _, H1, rfl, I1.kept (t' := s1.toks) hk, turn_enumT a (s1.heap.objs.size + 1) s1.heap.objs.size, ⟨⟨.none, he⟩, hit, Nat.succ_ne_self _, Nat.ne_of_lt hlt, Nat.ne_of_lt (Nat.lt_succ_of_lt hlt)⟩, fp, q⟩
end L2
end
section
set_option Elab.async false
set_option linter.all false
set_option maxRecDepth 10000
/-! LS, part 9: isinstance, what is walked, comprehensions; all expressions. -/
namespace LS
open PySem PySem.Spec PyProof.Rows L2
section
variable {G : Gm} {X : Cx} {W : WX} {gf : Gf} {T : Tb} {C : Nat → List D → Sto → Rs D} {k : Nat} {n : Cn} {b0 : Nat} {a b c o : Expr} {x y z : Ex} {pos : Pos}
/-! ### isinstance -/
def rEx (K : PySem.W.Frag) : List V → Hp → VK → Prop := fun xs H Q => ∃ (a C : Addr) (c : V) (cv : Value) (b : Bool), xs = [.ref a, c] ∧ ClsV c cv ∧ H a = some (ExH (.ref C) a) ∧ ExcC K C ∧ PySem.W.kitOne K (.ref C) cv = some b ∧ Q (.bl b) H
theorem call_isx : CallR X (.builtin "isinstance") (rEx X.K) := by
  intro pins s σ H xs us Q I r ⟨a, C, c, cv, b, e, hc, hh, K, hk, q⟩
  subst e
  obtain ⟨u1, u2, rfl, r1, r2⟩ := vals2 r
  obtain rfl : u1 = Value.ref a := r1
  obtain rfl := hc.eq r2
  exact isi_exc I hh K hk fun tk => ⟨.bl b, H, I.tok tk, rfl, q⟩
def rExT (K : PySem.W.Frag) : List V → Hp → VK → Prop := fun xs H Q => ∃ (a C tp : Addr) (cs : List V) (us : List Value) (b : Bool), xs = [.ref a, .ref tp] ∧ H tp = some (.tup cs) ∧ Paired ClsV cs us ∧ H a = some (ExH (.ref C) a) ∧ ExcC K C ∧ PySem.W.kitAny K (.ref C) us = some b ∧ Q (.bl b) H
theorem call_isxT : CallR X (.builtin "isinstance") (rExT X.K) := by
  intro pins s σ H xs us Q I r ⟨a, C, tp, cs, ws, b, e, hT, hc, hh, K, hk, q⟩
  subst e
  obtain ⟨u1, u2, rfl, r1, r2⟩ := vals2 r
  obtain rfl : u1 = Value.ref a := r1
  obtain rfl : u2 = Value.ref tp := r2
  exact isi_excT I hh K hT hc hk fun tk => ⟨.bl b, H, I.tok tk, rfl, q⟩
theorem tys_cls (G : Gm) : ∀ ts : List Ty, Paired ClsV (ts.map (tyV1 G)) (ts.map (tyU G))
  | [] => .nil
  | t :: ts => .cons (tyV1_cls G t) (tys_cls G ts)
theorem isa1_ok {F H : Hp} {α : List Addr} {v : V} {d : D} {t : Ty} {bb : Bool} {Q : VK} (xo : XOk G gf T C k n X) (hx : RpH G F H α v d) (e : ((kdOf T d).bind fun k => isAny T k [t]) = some bb) (q : Q (.bl bb) H) : wC X (.builtin "isinstance") [v, tyV1 G t] H Q := by
  cases ek : kdOf T d with
  | none => rw [ek] at e; cases e
  | some kd =>
    rw [ek] at e
    have e : isAny T kd [t] = some bb := e
    obtain ⟨h1, h2⟩ := kind_ty xo.tie xo.hK hx ek
    have ek2 : kdIs T kd t = some bb := by
      unfold isAny at e
      cases ei : kdIs T kd t with
      | none => rw [ei] at e; cases e
      | some b1 => rw [ei] at e; cases b1 <;> simpa [isAny] using e
    have hk := xo.tie.kit kd t bb h1 ek2
    rcases h2 with ty | ⟨a, c, rfl, rfl, hh, K⟩
    · exact ⟨_, call_isi, v, _, _, _, bb, rfl, tyV1_cls G t, ty, by rw [xo.hK]; exact hk, q⟩
    · exact ⟨_, call_isx, a, _, _, _, bb, rfl, tyV1_cls G t, hh, K, by rw [xo.hK]; exact hk, q⟩
theorem isaT_ok {F H : Hp} {α : List Addr} {v : V} {d : D} {ts : List Ty} {bb : Bool} {Q : VK} {tp : Addr} (xo : XOk G gf T C k n X) (hx : RpH G F H α v d) (e : ((kdOf T d).bind fun k => isAny T k ts) = some bb) (hT : H tp = some (.tup (ts.map (tyV1 G)))) (q : Q (.bl bb) H) : wC X (.builtin "isinstance") [v, .ref tp] H Q := by
  cases ek : kdOf T d with
  | none => rw [ek] at e; cases e
  | some kd =>
    rw [ek] at e
    have e : isAny T kd ts = some bb := e
    obtain ⟨h1, h2⟩ := kind_ty xo.tie xo.hK hx ek
    have hk := any_kit xo.tie h1 e
    rcases h2 with ty | ⟨a, c, rfl, rfl, hh, K⟩
    · exact ⟨_, call_isiT, v, tp, _, _, _, bb, rfl, hT, tys_cls G ts, ty, by rw [xo.hK]; exact hk, q⟩
    · exact ⟨_, call_isxT, a, _, tp, _, _, bb, rfl, hT, tys_cls G ts, hh, K, by rw [xo.hK]; exact hk, q⟩
theorem pe_ty (xo : XOk G gf T C k n X) {nm : Str} {t : Ty} (h : tyOf n nm = some t) (hg : Gl X nm) (ho : okName nm = true) : PE X (.Name nm pos) (tC (tyV1 G t)) := by
  have hok := okn ho
  unfold tyOf at h
  rcases ite_two h with ⟨hc, h⟩ | h
  · obtain rfl := eq_of_beq hc; cases h; exact pe_bltn hg (xo.tie.blt _ (by decide)) (u := .type "int") (by rfl) rfl hok.2.2 hok.1
  rcases ite_two h with ⟨hc, h⟩ | h
  · obtain rfl := eq_of_beq hc; cases h; exact pe_bltn hg (xo.tie.blt _ (by decide)) (u := .type "bool") (by rfl) rfl hok.2.2 hok.1
  rcases ite_two h with ⟨hc, h⟩ | h
  · obtain rfl := eq_of_beq hc; cases h; exact pe_bltn hg (xo.tie.blt _ (by decide)) (u := .type "str") (by rfl) rfl hok.2.2 hok.1
  rcases ite_two h with ⟨hc, h⟩ | h
  · obtain rfl := eq_of_beq hc; cases h; exact pe_bltn hg (xo.tie.blt _ (by decide)) (u := .type "tuple") (by rfl) rfl hok.2.2 hok.1
  rcases ite_two h with ⟨hc, h⟩ | h
  · obtain rfl := eq_of_beq hc; cases h; exact pe_bltn hg (xo.tie.blt _ (by decide)) (u := .type "list") (by rfl) rfl hok.2.2 hok.1
  rcases ite_two h with ⟨hc, h⟩ | h
  · obtain rfl := eq_of_beq hc; cases h; exact pe_bltn hg (xo.tie.blt _ (by decide)) (u := .type "ValueError") (by rfl) rfl hok.2.2 hok.1
  cases ec : n.cl nm with
  | none => rw [ec] at h; cases h
  | some c =>
    rw [ec] at h
    cases h
    exact pe_glob hg (xo.tie.cl nm c ec).1 rfl hok.1
def tTy (n : Cn) (e : Expr) : Option Ty := match e with
    | .Name x _ => LS.when (glB n.sc x && okName x) (tyOf n x)
    | _ => none
theorem tTy_pe (xo : XOk G gf T C k n X) {e : Expr} {t : Ty} (h : tTy n e = some t) : PE X e (tC (tyV1 G t)) ∧ isStar e = false := by
  unfold tTy at h
  split at h
  · obtain ⟨h1, h2⟩ := when_some h
    rw [Bool.and_eq_true] at h1
    exact ⟨pe_ty xo h2 (glb_of xo.sc h1.1) h1.2, rfl⟩
  · cases h
theorem mapO_cons {β γ : Type} {f : β → Option γ} {u : β} {us : List β} {vs : List γ} (h : mapO f (u :: us) = some vs) : ∃ w ws, f u = some w ∧ mapO f us = some ws ∧ vs = w :: ws := by
  unfold mapO at h
  cases e1 : f u with
  | none => rw [e1] at h; cases h
  | some w =>
    rw [e1] at h
    cases e2 : mapO f us with
    | none => simp [e2] at h
    | some ws => simp [e2] at h; exact ⟨w, ws, rfl, rfl, h.symm⟩
theorem mapO_len {β γ : Type} {f : β → Option γ} : ∀ {us : List β} {vs : List γ}, mapO f us = some vs → vs.length = us.length
  | [], vs, h => by cases h; rfl
  | u :: us, vs, h => by
    obtain ⟨w, ws, _, h2, rfl⟩ := mapO_cons h
    rw [List.length_cons, List.length_cons, mapO_len h2]
theorem pa_tys (xo : XOk G gf T C k n X) : ∀ {es : List Expr} {ts : List Ty}, mapO (tTy n) es = some ts → PA X es (fun σ H Q => Q (ts.map (tyV1 G)) H)
  | [], ts, h => by cases h; exact pa_nil
  | e :: es, ts, h => by
    obtain ⟨t, ts', h1, h2, rfl⟩ := mapO_cons h
    obtain ⟨p1, p2⟩ := tTy_pe xo h1
    exact pa_cons p1 (pa_tys xo h2) (star_cons p2)
theorem sx_isa (xo : XOk G gf T C k n X) {t : Expr} {ts : List Ty} {p1 : Pos} (ht : tysOf n t = some ts) (hg : Gl X "isinstance") (hst : isStar a = false) (ha : SE G X W a (fun ρ st => ev T C b0 ρ x st)) :
    SE G X W (.Call (.Name "isinstance" p1) [a, t] [] pos) (fun ρ st => ev T C b0 ρ (.isa x ts) st) := by
  intro ρ st σ F H α Q R S p
  simp only [ev] at p
  have hb : bootBuiltins "isinstance" = some (.builtin "isinstance") := by rfl
  have two : ∀ {r : D} {F1 H1 α1 s1}, Pst G F1 H1 α1 (pur (((kdOf T r).bind fun k => isAny T k ts).map .bl) s1) (KV1 G Q) (WE W σ) → ∃ bb, ((kdOf T r).bind fun k => isAny T k ts) = some bb ∧ Pst G F1 H1 α1 (.ok (.bl bb) s1) (KV1 G Q) (WE W σ) := by
    intro r F1 H1 α1 s1 h
    cases e : ((kdOf T r).bind fun k => isAny T k ts) with
    | none => rw [e] at h; exact h.elim
    | some bb => rw [e] at h; exact ⟨bb, rfl, h⟩
  unfold tysOf at ht
  split at ht
  · rename_i nm q1
    obtain ⟨h1, h2⟩ := when_some ht
    rw [Bool.and_eq_true] at h1
    cases et : tyOf n nm with
    | none => rw [et] at h2; cases h2
    | some t1 =>
      rw [et] at h2
      cases h2
      have pt := pe_ty (pos := q1) xo et (glb_of xo.sc h1.1) h1.2
      refine pe_w (pe_callB (wC_call X _) hg (xo.tie.blt _ (by decide)) hb (pa_cons (wE_pe X a) (pa_cons pt pa_nil (star_cons rfl)) (star_cons hst)) (by decide) (by decide) (star_cons hst) rfl) ?_
      refine ha.step R S p fun d F1 H1 α1 s1 v R1 S1 X1 r1 p1 => ?_
      obtain ⟨bb, e1, p2⟩ := two p1
      exact isa1_ok xo (view_ok R1 r1) e1 (p2.here R1 _ (.bl bb))
  · rename_i es q1 q2
    obtain ⟨hlen, ht⟩ := when_some ht
    have ht : mapO (tTy n) es = some ts := ht
    have pt := pa_tys xo ht
    refine pe_w (pe_callB (wC_call X _) hg (xo.tie.blt _ (by decide)) hb (pa_cons (wE_pe X a) (pa_cons (pe_tup pt) pa_nil (star_cons rfl)) (star_cons hst)) (by decide) (by decide) (star_cons hst) rfl) ?_
    refine ha.step R S p fun d F1 H1 α1 s1 v R1 S1 X1 r1 p1 => ?_
    obtain ⟨bb, e1, p2⟩ := two p1
    refine ⟨?_, fun tp htp => ?_⟩
    · rw [List.length_map, mapO_len ht, sizeLine_eq]; have := Nat.le_of_ble_eq_true hlen; omega
    · obtain ⟨R2, X2⟩ := R1.aside (.tup (ts.map (tyV1 G))) htp
      exact isaT_ok xo (view_ok R2 (r1.ext X2)) e1 upd_same (p2.now R2 X2 _ (.bl bb))
  · cases ht
/-! ### what is walked -/
/-- a value at a turn; pr: it may be a new pair, taken apart at once -/
def RpT (G : Gm) (pr : Bool) (F H : Hp) (α : List Addr) (v : V) (d : D) : Prop := Rp G F α v d ∨ (pr = true ∧ ∃ T vs ds, v = .ref T ∧ d = .tup ds ∧ H T = some (.tup vs) ∧ Rps G F α vs ds)
/-- the walk J yields ds, whatever is done within the rules -/
def Wlk (G : Gm) (pr : Bool) (J : It) (F1 H1 : Hp) (α1 : List Addr) (ds : List D) : Prop := ∀ (i : Nat) (F H : Hp) (α : List Addr) (st : Sto), SR G F H α st → Ext F1 H1 α1 F H α →
  (ds.length ≤ i → J.stop i H) ∧ ∀ d, ds[i]? = some d → J.go i H ∧ ∀ v H', J.yld i H v H' → SR G F H' α st ∧ Ext F H α F H' α ∧ RpT G pr F H' α v d
def KI (G : Gm) (pr : Bool) (R : It → Hp → Prop) : List D → Hp → Hp → List Addr → Sto → Prop := fun ds F' H' α' _ => ∀ J, Wlk G pr J F' H' α' ds → R J H'
def SI (G : Gm) (X : Cx) (W : WX) (tg : Expr) (pr : Bool) (e : Expr) (r : Env → Sto → Rs (List D)) : Prop := ∀ {ρ : Env} {st : Sto} {σ : L2.St} {F H : Hp} {α : List Addr} {R : It → Hp → Prop}, SR G F H α st → SlR G F α σ ρ → Pst G F H α (r ρ st) (KI G pr R) (WE W σ) → wI X tg e σ H R
theorem wlk_list {pr : Bool} {F1 H1 : Hp} {α1 : List Addr} {ds : List D} {p : Addr} {vs : List V} (h : F1 p = some (.lst vs)) (r : Rps G F1 α1 vs ds) : Wlk G pr (Itl G.K p) F1 H1 α1 ds := by
  intro i F H α st R X1
  have hq : SqL G.K H p vs := SqL.of (R.sub _ _ (X1.f _ _ h))
  refine ⟨fun hi => ⟨vs, hq, by rw [r.len]; exact hi⟩, fun d hd => ?_⟩
  obtain ⟨v, h1, h2⟩ := r.get hd
  refine ⟨⟨vs, v, hq, h1⟩, fun x H' hy => ?_⟩
  obtain ⟨rfl, hx⟩ := hy
  have := hx vs hq
  rw [h1] at this
  cases this
  exact ⟨R, Ext.refl, .inl (h2.ext X1)⟩
theorem wlk_tup {pr : Bool} {F1 H1 : Hp} {α1 : List Addr} {ds : List D} {p : Addr} {o : Obj} {vs : List V} (h : F1 p = some (.frz o (.tup vs))) (r : Rps G F1 α1 vs ds) : Wlk G pr (Itt G.K p) F1 H1 α1 ds := by
  intro i F H α st R X1
  have hq : SqT G.K H p vs := .inl (.inr ⟨o, R.sub _ _ (X1.f _ _ h)⟩)
  refine ⟨fun hi => ⟨vs, hq, by rw [r.len]; exact hi⟩, fun d hd => ?_⟩
  obtain ⟨v, h1, h2⟩ := r.get hd
  refine ⟨⟨vs, v, hq, h1⟩, fun x H' hy => ?_⟩
  obtain ⟨rfl, hx⟩ := hy
  have := hx vs hq
  rw [h1] at this
  cases this
  exact ⟨R, Ext.refl, .inl (h2.ext X1)⟩
theorem wlk_str {pr : Bool} {F1 H1 : Hp} {α1 : List Addr} {s : Str} (hs : sOk s) : Wlk G pr (Its s) F1 H1 α1 (signs s) := by
  intro i F H α st R X1
  have hl : (signs s).length = s.cps.size := by unfold signs; rw [List.length_map, Array.length_toList]
  refine ⟨fun hi => by show s.cps.size ≤ i; omega, fun d hd => ?_⟩
  have hi : i < (signs s).length := (List.getElem?_eq_some_iff.mp hd).1
  refine ⟨by show i < s.cps.size; omega, fun x H' hy => ?_⟩
  obtain ⟨rfl, c, hc, rfl⟩ := hy
  unfold signs at hd
  rw [List.getElem?_map, Array.getElem?_toList, hc] at hd
  cases hd
  refine ⟨R, Ext.refl, .inl (.str (sOk_list fun c' h' => ?_))⟩
  obtain rfl := List.mem_singleton.mp h'
  exact sOk_iff.mp hs _ (by rw [Array.mem_toList_iff]; exact Array.mem_of_getElem? hc)
theorem wlk_rng {pr : Bool} {F1 H1 : Hp} {α1 : List Addr} {lo : Int} {m : Nat} : Wlk G pr (Itr lo m) F1 H1 α1 (rngL lo m) := by
  intro i F H α st R X1
  have hl : (rngL lo m).length = m := by unfold rngL; rw [List.length_map, List.length_range]
  refine ⟨fun hi => by show m ≤ i; omega, fun d hd => ?_⟩
  have hi : i < (rngL lo m).length := (List.getElem?_eq_some_iff.mp hd).1
  refine ⟨by show i < m; omega, fun x H' hy => ?_⟩
  obtain ⟨rfl, rfl⟩ := hy
  unfold rngL at hd
  rw [List.getElem?_map, List.getElem?_range (by omega)] at hd
  cases hd
  exact ⟨R, Ext.refl, .inl (.int _)⟩
theorem wlk_rev {pr : Bool} {F1 H1 : Hp} {α1 : List Addr} {ds : List D} {p : Addr} {vs : List V} (h : F1 p = some (.lst vs)) (r : Rps G F1 α1 vs ds) : Wlk G pr (Itv G.K p vs.length) F1 H1 α1 ds.reverse := by
  intro i F H α st R X1
  have hq : SqL G.K H p vs := SqL.of (R.sub _ _ (X1.f _ _ h))
  refine ⟨fun hi => by show vs.length ≤ i; rw [r.len]; simpa using hi, fun d hd => ?_⟩
  have hi : i < ds.length := by simpa using (List.getElem?_eq_some_iff.mp hd).1
  rw [List.getElem?_reverse hi] at hd
  obtain ⟨v, h1, h2⟩ := r.get hd
  have h1' : vs[vs.length - 1 - i]? = some v := by rw [r.len]; exact h1
  refine ⟨⟨by rw [r.len]; exact hi, vs, v, hq, h1'⟩, fun x H' hy => ?_⟩
  obtain ⟨rfl, hx⟩ := hy
  have := hx vs hq
  rw [h1'] at this
  cases this
  exact ⟨R, Ext.refl, .inl (h2.ext X1)⟩
theorem enumL_get : ∀ (ds : List D) (j i : Nat), (enumL j ds)[i]? = (ds[i]?).map fun d => .tup [.int (j + i : Nat), d]
  | [], j, i => rfl
  | d :: ds, j, 0 => rfl
  | d :: ds, j, i + 1 => by
    unfold enumL
    rw [List.getElem?_cons_succ, List.getElem?_cons_succ, enumL_get ds (j + 1) i]
    have : j + 1 + i = j + (i + 1) := by omega
    rw [this]
theorem enumL_len : ∀ (ds : List D) (j : Nat), (enumL j ds).length = ds.length
  | [], j => rfl
  | d :: ds, j => by unfold enumL; rw [List.length_cons, List.length_cons, enumL_len ds]
theorem wlk_enum {F1 H1 : Hp} {α1 : List Addr} {ds : List D} {p : Addr} {vs : List V} (h : F1 p = some (.lst vs)) (r : Rps G F1 α1 vs ds) : Wlk G true (Ite G.K p) F1 H1 α1 (enumL 0 ds) := by
  intro i F H α st R X1
  have hq : SqL G.K H p vs := SqL.of (R.sub _ _ (X1.f _ _ h))
  refine ⟨fun hi => ⟨vs, hq, by rw [r.len]; rw [enumL_len] at hi; exact hi⟩, fun d hd => ?_⟩
  rw [enumL_get] at hd
  cases e : ds[i]? with
  | none => rw [e] at hd; cases hd
  | some d0 =>
    rw [e] at hd
    cases hd
    obtain ⟨v, h1, h2⟩ := r.get e
    refine ⟨⟨vs, v, hq, h1⟩, fun x H' hy => ?_⟩
    obtain ⟨Tp, x', rfl, hn, rfl, hx⟩ := hy
    have := hx vs hq
    rw [h1] at this
    cases this
    obtain ⟨R2, X2⟩ := R.aside (.tup [.int (i : Nat), v]) hn
    exact ⟨R2, X2, .inr ⟨rfl, Tp, _, _, rfl, rfl, upd_same, .cons (by rw [Nat.zero_add]; exact .int _) (.cons (h2.ext X1) .nil)⟩⟩
theorem wlk_enumT {F1 H1 : Hp} {α1 : List Addr} {ds : List D} {p : Addr} {o : Obj} {vs : List V} (h : F1 p = some (.frz o (.tup vs))) (r : Rps G F1 α1 vs ds) : Wlk G true (ItEt G.K p) F1 H1 α1 (enumL 0 ds) := by
  intro i F H α st R X1
  have hq : SqT G.K H p vs := .inl (.inr ⟨o, R.sub _ _ (X1.f _ _ h)⟩)
  refine ⟨fun hi => ⟨vs, hq, by rw [r.len]; rw [enumL_len] at hi; exact hi⟩, fun d hd => ?_⟩
  rw [enumL_get] at hd
  cases e : ds[i]? with
  | none => rw [e] at hd; cases hd
  | some d0 =>
    rw [e] at hd
    cases hd
    obtain ⟨v, h1, h2⟩ := r.get e
    refine ⟨⟨vs, v, hq, h1⟩, fun x H' hy => ?_⟩
    obtain ⟨Tp, x', rfl, hn, rfl, hx⟩ := hy
    have := hx vs hq
    rw [h1] at this
    cases this
    obtain ⟨R2, X2⟩ := R.aside (.tup [.int (i : Nat), v]) hn
    exact ⟨R2, X2, .inr ⟨rfl, Tp, _, _, rfl, rfl, upd_same, .cons (by rw [Nat.zero_add]; exact .int _) (.cons (h2.ext X1) .nil)⟩⟩
theorem zipL_get : ∀ (ds es : List D) (i : Nat), (zipL ds es)[i]? = (ds[i]?).bind fun d => (es[i]?).map fun e => .tup [d, e]
  | [], es, i => by unfold zipL; rfl
  | d :: ds, [], i => by
    unfold zipL
    cases h : (d :: ds)[i]? <;> simp [h]
  | d :: ds, e :: es, 0 => rfl
  | d :: ds, e :: es, i + 1 => by unfold zipL; simpa using zipL_get ds es i
theorem zipL_len : ∀ (ds es : List D), (zipL ds es).length = min ds.length es.length
  | [], es => by unfold zipL; simp
  | d :: ds, [] => by unfold zipL; simp
  | d :: ds, e :: es => by unfold zipL; rw [List.length_cons, List.length_cons, List.length_cons, zipL_len ds es]; omega
theorem wlk_zip {F1 H1 : Hp} {α1 : List Addr} {ds es : List D} {p q : Addr} {vs ws : List V} (h : F1 p = some (.lst vs)) (r : Rps G F1 α1 vs ds) (h' : F1 q = some (.lst ws)) (r' : Rps G F1 α1 ws es) : Wlk G true (Itz G.K p q) F1 H1 α1 (zipL ds es) := by
  intro i F H α st R X1
  have hq : SqL G.K H p vs := SqL.of (R.sub _ _ (X1.f _ _ h))
  have hq' : SqL G.K H q ws := SqL.of (R.sub _ _ (X1.f _ _ h'))
  refine ⟨fun hi => ⟨vs, ws, hq, hq', by rw [r.len, r'.len]; rw [zipL_len] at hi; omega⟩, fun d hd => ?_⟩
  rw [zipL_get] at hd
  cases e : ds[i]? with
  | none => rw [e] at hd; cases hd
  | some d0 =>
    rw [e] at hd
    cases e2 : es[i]? with
    | none => simp [e2] at hd
    | some d1 =>
      rw [e2] at hd
      cases hd
      obtain ⟨v, h1, h2⟩ := r.get e
      obtain ⟨w, h3, h4⟩ := r'.get e2
      refine ⟨⟨vs, ws, v, w, hq, hq', h1, h3⟩, fun x H' hy => ?_⟩
      obtain ⟨Tp, x', y', rfl, hn, rfl, hx, hy⟩ := hy
      have z1 := hx vs hq
      rw [h1] at z1
      cases z1
      have z2 := hy ws hq'
      rw [h3] at z2
      cases z2
      obtain ⟨R2, X2⟩ := R.aside (.tup [v, w]) hn
      exact ⟨R2, X2, .inr ⟨rfl, Tp, _, _, rfl, rfl, upd_same, .cons (h2.ext X1) (.cons (h4.ext X1) .nil)⟩⟩
end
end LS
end
section
set_option Elab.async false
set_option linter.all false
set_option maxRecDepth 10000
/-! LS, part 10: targets; walks' expressions; comprehensions. -/
namespace LS
open PySem PySem.Spec PyProof.Rows L2

/-! ### targets -/
def gNames : List Nat → TGs
  | [] => gNil
  | i :: is => gCons (gName i) (gNames is)
def gOf (K : PySem.W.Frag) (is : List Nat) (tt : Bool) : TG := if tt then gTup K is.length (gNames is) else gName (is.headD 0)
section
variable {G : Gm} {X : Cx} {n : Cn}
theorem tgName_ok {x : Str} {i : Nat} (h : tgName n x = some i) : locB n.sc x = true ∧ n.N[i]? = some x := by
  unfold tgName at h
  obtain ⟨h1, h2⟩ := when_some h
  rw [Bool.and_eq_true] at h1
  exact ⟨h1.1, slot_get h2⟩
def tNm (n : Cn) (e : Expr) : Option Nat := match e with
    | .Name x _ => tgName n x
    | _ => none
/-- names may be stored -/
def Sto1 (X : Cx) (e : Expr) : Prop := ∀ x p, e = .Name x p → X.fn x = true ∨ X.env.scope.names.lookup x = some .local
theorem pg_nm (hN : X.N = n.N) (hsc : X.env.scope = n.sc) (nd : X.N.Nodup) {e : Expr} {i : Nat} (h : tNm n e = some i) (hs : Sto1 X e) : PG X e (gName i) ∧ ∃ x p, e = .Name x p := by
  unfold tNm at h
  split at h
  · rename_i x p
    obtain ⟨h1, h2⟩ := tgName_ok h
    exact ⟨pg_name nd (by rw [hN]; exact h2) (by rw [hsc]; exact loc_of h1) (hs x p rfl), x, p, rfl⟩
  · cases h
theorem pgs_nm (hN : X.N = n.N) (hsc : X.env.scope = n.sc) (nd : X.N.Nodup) : ∀ {es : List Expr} {is : List Nat}, mapO (tNm n) es = some is → (∀ e ∈ es, Sto1 X e) →
    PGs X es (gNames is) ∧ (assignEach es X.env).length = is.length ∧ (assignEach es X.env).findIdx? (·.1) = none
  | [], is, h, _ => by cases h; exact ⟨pgs_nil, rfl, rfl⟩
  | e :: es, is, h, hs => by
    obtain ⟨i, is', h1, h2, rfl⟩ := mapO_cons h
    obtain ⟨p1, x, p, rfl⟩ := pg_nm hN hsc nd h1 (hs _ (List.mem_cons_self ..))
    obtain ⟨q1, q2, q3⟩ := pgs_nm hN hsc nd h2 (fun e he => hs e (List.mem_cons_of_mem _ he))
    refine ⟨pgs_cons p1 q1 rfl, ?_, ?_⟩
    · show (assignEach es X.env).length + 1 = _
      rw [q2]; rfl
    · show List.findIdx? (·.1) ((false, assign (.Name x p) X.env) :: assignEach es X.env) = none
      rw [List.findIdx?_cons, q3]; rfl
def StoT (X : Cx) (e : Expr) : Prop := match e with
  | .Tuple es _ _ => ∀ e ∈ es, Sto1 X e
  | e => Sto1 X e
theorem pg_tg (hc : X.calm = true) (hN : X.N = n.N) (hsc : X.env.scope = n.sc) (nd : X.N.Nodup) {e : Expr} {t : List Nat × Bool} (h : tgOf n e = some t) (hs : StoT X e) : PG X e (gOf X.K t.1 t.2) := by
  unfold tgOf at h
  split at h
  · rename_i x p
    cases e1 : tgName n x with
    | none => rw [e1] at h; cases h
    | some i =>
      rw [e1] at h
      cases h
      exact (pg_nm hN hsc nd (show tNm n (.Name x p) = some i from e1) hs).1
  · rename_i es j p
    have h : (mapO (tNm n) es).map (fun is => (is, true)) = some t := h
    cases e1 : mapO (tNm n) es with
    | none => rw [e1] at h; cases h
    | some is =>
      rw [e1] at h
      cases h
      obtain ⟨q1, q2, q3⟩ := pgs_nm hN hsc nd e1 hs
      exact pg_tup hc q1 q2 q3
  · cases h
theorem tg_pr {e : Expr} {t : List Nat × Bool} (h : tgOf n e = some t) : t.2 = isTup e := by
  unfold tgOf at h
  split at h
  · rename_i x p
    cases e1 : tgName n x with
    | none => rw [e1] at h; cases h
    | some i => rw [e1] at h; cases h; rfl
  · rename_i es j p
    have h : (mapO (tNm n) es).map (fun is => (is, true)) = some t := h
    cases e1 : mapO (tNm n) es with
    | none => rw [e1] at h; cases h
    | some is => rw [e1] at h; cases h; rfl
  · cases h
theorem SlR.put {F : Hp} {α : List Addr} {σ : L2.St} {ρ : Env} {v : V} {d : D} (S : SlR G F α σ ρ) (i : Nat) (r : Rp G F α v d) : SlR G F α (σ.set i (some v)) (ρ.set i (some d)) := by
  refine ⟨by rw [List.length_set, List.length_set]; exact S.1, fun j d' h => ?_⟩
  by_cases hj : j = i
  · subst hj
    have hl : j < ρ.length := by
      have := (List.getElem?_eq_some_iff.mp h).1
      rwa [List.length_set] at this
    rw [List.getElem?_set_self hl] at h
    cases h
    exact ⟨v, by rw [List.getElem?_set_self (S.1 ▸ hl)], r⟩
  · rw [List.getElem?_set_ne (Ne.symm hj)] at h ⊢
    exact S.2 j d' h
theorem SlR.putN {F : Hp} {α : List Addr} {σ : L2.St} {ρ : Env} (S : SlR G F α σ ρ) (i : Nat) (o : Option V) : SlR G F α (σ.set i o) (ρ.set i none) := by
  refine ⟨by rw [List.length_set, List.length_set]; exact S.1, fun j d' h => ?_⟩
  by_cases hj : j = i
  · subst hj
    have hl : j < ρ.length := by
      have := (List.getElem?_eq_some_iff.mp h).1
      rwa [List.length_set] at this
    rw [List.getElem?_set_self hl] at h
    cases h
  · rw [List.getElem?_set_ne (Ne.symm hj)] at h ⊢
    exact S.2 j d' h
/-- the slots at is alone change -/
def Upto (is : List Nat) (σ σ' : L2.St) : Prop := σ'.length = σ.length ∧ ∀ j, j ∉ is → σ'[j]? = σ[j]?
theorem gNames_ok {F H : Hp} {α : List Addr} {Q : L2.St → Hp → Prop} : ∀ {is : List Nat} {vs : List V} {ds : List D} {σ : L2.St} {ρ : Env}, ds.length = is.length → Rps G F α vs ds → SlR G F α σ ρ →
    (∀ σ', SlR G F α σ' (setN ρ is ds) → Upto is σ σ' → Q σ' H) → gNames is vs σ H Q
  | [], vs, ds, σ, ρ, hl, r, S, h => by
    have : ds = [] := List.eq_nil_of_length_eq_zero hl
    subst this
    cases r
    exact ⟨rfl, h σ S ⟨rfl, fun _ _ => rfl⟩⟩
  | i :: is, vs, ds, σ, ρ, hl, r, S, h => by
    cases r with
    | nil => simp at hl
    | @cons v d vs ds h1 r =>
      refine ⟨v, vs, rfl, gNames_ok (by simpa using hl) r (S.put i h1) fun σ' S' u => h σ' S' ⟨by rw [u.1, List.length_set], fun j hj => ?_⟩⟩
      rw [u.2 j (fun z => hj (List.mem_cons_of_mem _ z)), List.getElem?_set_ne (fun z => hj (by rw [z]; exact List.mem_cons_self ..))]
theorem gOf_ok {F H : Hp} {α : List Addr} {Q : L2.St → Hp → Prop} {is : List Nat} {tt : Bool} {v : V} {d : D} {σ : L2.St} {ρ ρ' : Env} {st : Sto} (R : SR G F H α st) (hK : X.K = G.K) (r : RpT G tt F H α v d) (S : SlR G F α σ ρ) (e : target ρ is tt d = some ρ')
    (h : ∀ σ', SlR G F α σ' ρ' → Upto is σ σ' → Q σ' H) : gOf X.K is tt v σ H Q := by
  unfold target at e
  unfold gOf
  cases tt with
  | true =>
    simp only [if_true] at e ⊢
    cases d with
    | tup ds =>
      simp only at e
      split at e
      · rename_i hl
        cases e
        rcases r with r | ⟨_, Tp, vs, ds', rfl, e, hT, r⟩
        · cases r with
          | tup h1 hd r => exact ⟨_, _, rfl, .inl (.inr ⟨_, R.sub _ _ h1⟩), by rw [r.len]; exact hl, gNames_ok hl r S h⟩
        · cases e
          exact ⟨Tp, vs, rfl, SqT.of hT, by rw [r.len]; exact hl, gNames_ok hl r S h⟩
      · cases e
    | _ => cases e
  | false =>
    simp only [Bool.false_eq_true, if_false] at e ⊢
    rcases r with r | ⟨z, _⟩
    · cases is with
      | nil => cases e
      | cons i is =>
        cases is with
        | nil =>
          cases e
          refine h _ (S.put i r) ⟨by rw [List.length_set], fun j hj => ?_⟩
          rw [List.getElem?_set_ne (fun z => hj (by have z' : i = j := z; rw [z']; exact List.mem_singleton_self _))]
        | cons _ _ => cases e
    · cases z
end

/-! ### what is walked -/
section
variable {G : Gm} {X : Cx} {W : WX} {gf : Gf} {T : Tb} {C : Nat → List D → Sto → Rs D} {k : Nat} {n : Cn} {b0 : Nat} {a b c o : Expr} {x y z : Ex} {pos : Pos}
theorem wk_val (h : isVal x = true) {ρ : Env} {st : Sto} : wk T C b0 ρ x st = (ev T C b0 ρ x st).bind fun a s => pur (walkOf (still s a)) s := by
  cases x <;> first | (simp only [wk]; done) | (simp [isVal] at h)
theorem still_ok {F H : Hp} {α : List Addr} {st : Sto} {v : V} {d : D} (R : SR G F H α st) (r : Rp G F α v d) : Rp G F α v (still st d) := by
  cases d with
  | ref m =>
    obtain ⟨p, e, rfl, h1, h2, h3⟩ := r.refAt R
    show Rp G F α _ (match st[m]? with | some (.fz d) => d | _ => .ref m)
    rw [h2]
    cases e with
    | fz d => exact h3.2.2
    | _ => exact r
  | _ => exact r
theorem si_val (xo : XOk G gf T C k n X) {tg : Expr} {pr : Bool} (hv : isVal x = true) (ha : SE G X W a (fun ρ st => ev T C b0 ρ x st)) : SI G X W tg pr a (fun ρ st => wk T C b0 ρ x st) := by
  intro ρ st σ F H α Rr R S p
  change Pst G F H α (wk T C b0 ρ x st) _ _ at p
  rw [wk_val hv] at p
  cases hr : ev T C b0 ρ x st with
  | no => rw [hr] at p; exact p.elim
  | ex c fs vs s =>
    refine pi_w (pi_list (wE_pe X a)) (ha R S ?_)
    show Pst G F H α (ev T C b0 ρ x st) _ _
    rw [hr] at p ⊢
    exact p
  | ok d0 s0 =>
    rw [hr] at p
    have p : Pst G F H α (pur (walkOf (still s0 d0)) s0) (KI G pr Rr) (WE W σ) := p
    cases ew : walkOf (still s0 d0) with
    | none => rw [ew] at p; exact p.elim
    | some ds =>
      rw [ew] at p
      have go : ∀ {Q' : VK}, (∀ F1 H1 α1 v, SR G F1 H1 α1 s0 → Ext F H α F1 H1 α1 → Rp G F1 α1 v (still s0 d0) → Q' v H1) → wE X a σ H Q' := fun {Q'} hq => ha R S (by
        show Pst G F H α (ev T C b0 ρ x st) _ _
        rw [hr]
        exact fun F1 H1 α1 R1 X1 v rv => hq F1 H1 α1 v R1 X1 (still_ok R1 rv))
      cases es : still s0 d0 with
      | lst xs =>
        rw [es] at ew
        cases ew
        refine pi_w (pi_list (wE_pe X a)) (go fun F1 H1 α1 v R1 X1 rv => ?_)
        rw [es] at rv
        cases rv with
        | lst h1 r1 => exact ⟨_, rfl, ⟨_, SqL.of (R1.sub _ _ h1)⟩, by rw [xo.hK]; exact p.now R1 X1 _ (wlk_list h1 r1)⟩
      | tup xs =>
        rw [es] at ew
        cases ew
        refine pi_w (pi_tup (wE_pe X a)) (go fun F1 H1 α1 v R1 X1 rv => ?_)
        rw [es] at rv
        cases rv with
        | tup h1 hd r1 => exact ⟨_, rfl, ⟨_, .inl (.inr ⟨_, R1.sub _ _ h1⟩)⟩, by rw [xo.hK]; exact p.now R1 X1 _ (wlk_tup h1 r1)⟩
      | str s1 =>
        rw [es] at ew
        cases ew
        refine pi_w (pi_str (wE_pe X a)) (go fun F1 H1 α1 v R1 X1 rv => ?_)
        rw [es] at rv
        cases rv with
        | str hs => exact ⟨_, rfl, p.now R1 X1 _ (wlk_str hs)⟩
      | _ => rw [es] at ew; cases ew
theorem si_rng1 (xo : XOk G gf T C k n X) {tg : Expr} {pr : Bool} {p1 : Pos} (hg : Gl X "range") (hst : isStar a = false) (ha : SE G X W a (fun ρ st => ev T C b0 ρ x st)) :
    SI G X W tg pr (.Call (.Name "range" p1) [a] [] pos) (fun ρ st => wk T C b0 ρ (.rng [x]) st) := by
  intro ρ st σ F H α Rr R S p
  simp only [wk, evs, Rs.bind_ok] at p
  refine pi_w (pi_range1 hg (xo.tie.blt _ (by decide)) (pa_cons (wE_pe X a) pa_nil (star_cons hst)) (star_cons hst)) ?_
  refine ha R S (p.bind.bind.imp fun d F1 H1 α1 s1 R1 X1 p1 v r1 => ?_)
  have p1 : Pst G F1 H1 α1 (pur (rngOf [d]) s1) (KI G pr Rr) (WE W σ) := p1.here R1
  cases d with
  | int j =>
    cases r1
    simp only [rngOf] at p1
    split at p1
    · rename_i hj
      unfold inB at hj
      rw [Bool.and_eq_true, decide_eq_true_eq, decide_eq_true_eq] at hj
      exact ⟨j, rfl, hj.1, hj.2, p1.here R1 _ wlk_rng⟩
    · exact p1.elim
  | _ => exact p1.elim
theorem si_rng2 (xo : XOk G gf T C k n X) {tg : Expr} {pr : Bool} {p1 : Pos} (hg : Gl X "range") (hst : isStar a = false) (hst2 : isStar b = false) (ha : SE G X W a (fun ρ st => ev T C b0 ρ x st)) (hb : SE G X W b (fun ρ st => ev T C b0 ρ y st)) :
    SI G X W tg pr (.Call (.Name "range" p1) [a, b] [] pos) (fun ρ st => wk T C b0 ρ (.rng [x, y]) st) := by
  intro ρ st σ F H α Rr R S p
  simp only [wk, evs, Rs.bind_ok] at p
  have hs2 : starEach [b] X.env = [(false, eval b X.env)] := star_cons hst2
  have hs : starEach [a, b] X.env = [(false, eval a X.env), (false, eval b X.env)] := by rw [star_cons hst, hs2]
  refine pi_w (pi_range2 hg (xo.tie.blt _ (by decide)) (pa_cons (wE_pe X a) (pa_cons (wE_pe X b) pa_nil (star_cons hst2)) (star_cons hst)) hs hs2) ?_
  refine ha R S (p.bind.bind.imp fun d F1 H1 α1 s1 R1 X1 p1 v r1 => ?_)
  refine hb R1 (S.mono X1) (p1.bind.bind.imp fun d2 F2 H2 α2 s2 R2 X2 p2 v2 r2 => ?_)
  have p3 : Pst G F2 H2 α2 (pur (rngOf [d, d2]) s2) (KI G pr Rr) (WE W σ) := (p2.here R2).here R2
  cases d with
  | int i =>
    cases d2 with
    | int j =>
      cases r1
      cases r2
      simp only [rngOf] at p3
      split at p3
      · rename_i hj
        unfold inB at hj
        simp only [Bool.and_eq_true, decide_eq_true_eq] at hj
        exact ⟨i, j, rfl, ⟨hj.1.1, hj.1.2, hj.2.1, hj.2.2⟩, p3.here R2 _ wlk_rng⟩
      · exact p3.elim
    | _ => exact p3.elim
  | _ => cases d2 <;> exact p3.elim
theorem lst_still {F : Hp} {α : List Addr} {v : V} {d : D} {xs : List D} (e : lstOf d = some xs) (r : Rp G F α v d) : ∃ p vs, v = .ref p ∧ F p = some (.lst vs) ∧ Rps G F α vs xs := by
  cases d with
  | lst ys => cases e; cases r with | lst h r => exact ⟨_, _, rfl, h, r⟩
  | _ => cases e
theorem si_rvd (xo : XOk G gf T C k n X) {tg : Expr} {pr : Bool} {p1 : Pos} (hg : Gl X "reversed") (hst : isStar a = false) (ha : SE G X W a (fun ρ st => ev T C b0 ρ x st)) :
    SI G X W tg pr (.Call (.Name "reversed" p1) [a] [] pos) (fun ρ st => wk T C b0 ρ (.rvd x) st) := by
  intro ρ st σ F H α Rr R S p
  simp only [wk] at p
  refine pi_w (pi_reversed hg (xo.tie.blt _ (by decide)) (pa_cons (wE_pe X a) pa_nil (star_cons hst)) (star_cons hst)) ?_
  refine ha.step R S p fun d F1 H1 α1 s1 v R1 S1 X1 r1 p1 => ?_
  cases e : lstOf (still s1 d) with
  | none => rw [e] at p1; exact p1.elim
  | some xs =>
    rw [e] at p1
    obtain ⟨q, vs, rfl, h1, rr⟩ := lst_still e (still_ok R1 r1)
    exact ⟨q, vs, rfl, SqL.of (R1.sub _ _ h1), by rw [xo.hK]; exact p1.here R1 _ (wlk_rev h1 rr)⟩
theorem si_enum (xo : XOk G gf T C k n X) {ts : List Expr} {j : Nat} {tp : Pos} {p1 : Pos} (hg : Gl X "enumerate") (hst : isStar a = false) (ha : SE G X W a (fun ρ st => ev T C b0 ρ x st)) :
    SI G X W (.Tuple ts j tp) true (.Call (.Name "enumerate" p1) [a] [] pos) (fun ρ st => wk T C b0 ρ (.enum x) st) := by
  intro ρ st σ F H α Rr R S p
  simp only [wk] at p
  refine pi_w (pi_enumT hg (xo.tie.blt _ (by decide)) (pa_cons (wE_pe X a) pa_nil (star_cons hst)) (star_cons hst)) ?_
  refine ha.step R S p fun d F1 H1 α1 s1 v R1 S1 X1 r1 p1 => ?_
  have rs := still_ok R1 r1
  cases e : still s1 d with
  | lst xs =>
    rw [e] at p1 rs
    cases rs with
    | lst h1 rr => exact ⟨_, _, rfl, .inl ⟨SqL.of (R1.sub _ _ h1), by rw [xo.hK]; exact p1.here R1 _ (wlk_enum h1 rr)⟩⟩
  | tup xs =>
    rw [e] at p1 rs
    cases rs with
    | tup h1 hd rr => exact ⟨_, _, rfl, .inr ⟨.inl (.inr ⟨_, R1.sub _ _ h1⟩), by rw [xo.hK]; exact p1.here R1 _ (wlk_enumT h1 rr)⟩⟩
  | _ => rw [e] at p1; exact p1.elim
theorem si_zip (xo : XOk G gf T C k n X) {ts : List Expr} {j : Nat} {tp : Pos} {p1 : Pos} (hg : Gl X "zip") (hst : isStar a = false) (hst2 : isStar b = false) (ha : SE G X W a (fun ρ st => ev T C b0 ρ x st)) (hb : SE G X W b (fun ρ st => ev T C b0 ρ y st)) :
    SI G X W (.Tuple ts j tp) true (.Call (.Name "zip" p1) [a, b] [] pos) (fun ρ st => wk T C b0 ρ (.zip x y) st) := by
  intro ρ st σ F H α Rr R S p
  simp only [wk] at p
  refine pi_w (pi_zip hg (xo.tie.blt _ (by decide)) (pa_cons (wE_pe X a) (pa_cons (wE_pe X b) pa_nil (star_cons hst2)) (star_cons hst)) (star_cons hst) (backTo_any (by simp [hst2]))) ?_
  refine ha.step R S p fun d F1 H1 α1 s1 v R1 S1 X1 r1 p1 => ?_
  refine hb.step R1 S1 p1 fun d2 F2 H2 α2 s2 v2 R2 S2 X2 r2 p2 => ?_
  cases e : lstOf (still s2 d) with
  | none => rw [e] at p2; exact p2.elim
  | some xs =>
    cases e2 : lstOf (still s2 d2) with
    | none => rw [e, e2] at p2; exact p2.elim
    | some ys =>
      rw [e, e2] at p2
      obtain ⟨q, vs, rfl, h1, rr⟩ := lst_still e (still_ok R2 (r1.ext X2))
      obtain ⟨q', vs', rfl, h1', rr'⟩ := lst_still e2 (still_ok R2 r2)
      exact ⟨q, q', vs, vs', rfl, SqL.of (R2.sub _ _ h1), SqL.of (R2.sub _ _ h1'), by rw [xo.hK]; exact p2.here R2 _ (wlk_zip h1 rr h1' rr')⟩
end
end LS
end
section
set_option Elab.async false
set_option linter.all false
set_option maxRecDepth 10000
/-! LS, part 11: comprehensions. -/
namespace LS
open PySem PySem.Spec PyProof.Rows L2

section
variable {G : Gm} {F H F' H' F1 H1 : Hp} {α α' α1 : List Addr} {st : Sto} {p : Addr} {o u : HO}
theorem Ext.keepD (x : Ext F H α F' H' α') (h : H p = some o) (hF : F p = none) (hn : p ∉ α) : H' p = some o ∧ F' p = none ∧ p ∉ α' := by
  refine ⟨x.k p o h hn, ?_, fun z => ?_⟩
  · cases e : F' p with
    | none => rfl
    | some o' =>
      rcases x.g p o' e with z | z | z
      · rw [hF] at z; cases z
      · exact absurd z hn
      · rw [h] at z; cases z
  · rcases x.n p z with z | z
    · exact hn z
    · rw [h] at z; cases z
/-- a thing that nobody knows is written -/
theorem SR.asideW (R : SR G F H α st) (h : H p = some o) (hF : F p = none) (hn : p ∉ α) : SR G F (upd H p u) α st := by
  refine ⟨fun b w e => ?_, R.nd, R.len, fun i a e h1 h2 => ?_⟩
  · rw [upd_ne (fun z => by rw [z, hF] at e; cases e)]
    exact R.sub _ _ e
  · have na : a ≠ p := fun z => hn (z ▸ List.mem_of_getElem? h1)
    exact EntR.mono (Same.refl _) (List.prefix_refl _) (fun z => z) (fun w z => by rw [upd_ne na]; exact z) (R.ent i a e h1 h2)
theorem Ext.asideW (x : Ext F1 H1 α1 F H α) (h1 : H1 p = none) : Ext F1 H1 α1 F (upd H p u) α :=
  ⟨x.f, x.a, fun b w e nb => by rw [upd_ne (ne_of_none e h1)]; exact x.k b w e nb, x.n, x.g, fun b e => x.p b (upd_none e).1⟩
/-- it stands still from now on -/
theorem SR.adoptF (R : SR G F H α st) (x : Ext F1 H1 α1 F H α) (h1 : H1 p = none) (h : H p = some o) (hF : F p = none) (hn : p ∉ α) : SR G (upd F p o) H α st ∧ Ext F1 H1 α1 (upd F p o) H α := by
  have hs : Same F (upd F p o) := same_upd hF
  refine ⟨⟨fun b w e => ?_, R.nd, R.len, fun i a e q1 q2 => ?_⟩, ⟨x.f.trans hs, x.a, x.k, x.n, fun b w e => ?_, x.p⟩⟩
  · by_cases hb : b = p
    · subst hb; rw [upd_same] at e; rw [← e]; exact h
    · rw [upd_ne hb] at e; exact R.sub _ _ e
  · have na : a ≠ p := fun z => hn (z ▸ List.mem_of_getElem? q1)
    exact EntR.mono hs (List.prefix_refl _) (fun z => by rw [upd_ne na]; exact z) (fun w z => z) (R.ent i a e q1 q2)
  · by_cases hb : b = p
    · subst hb; exact .inr (.inr h1)
    · rw [upd_ne hb] at e; exact x.g b w e
/-- it is of the store from now on -/
theorem SR.adoptL (R : SR G F H α st) (x : Ext F1 H1 α1 F H α) (h1 : H1 p = none) (hn : p ∉ α) {e : Ent} (he : EntR G F H (α ++ [p]) p e) : SR G F H (α ++ [p]) (st ++ [e]) ∧ Ext F1 H1 α1 F H (α ++ [p]) := by
  refine ⟨⟨R.sub, ?_, by rw [List.length_append, List.length_append, R.len]; rfl, fun i a e' q1 q2 => ?_⟩, ⟨x.f, x.a.trans (List.prefix_append _ _), x.k, fun b hb => ?_, x.g, x.p⟩⟩
  · rw [List.nodup_append]
    exact ⟨R.nd, by simp, fun a ha b hb => by
      obtain rfl := List.mem_singleton.mp hb
      exact fun z => hn (z ▸ ha)⟩
  · by_cases hi : i < α.length
    · rw [List.getElem?_append_left hi] at q1
      rw [List.getElem?_append_left (R.len ▸ hi)] at q2
      exact EntR.mono (Same.refl _) (List.prefix_append _ _) (fun z => z) (fun w z => z) (R.ent i a e' q1 q2)
    · have hi2 : i = α.length := by
        have := (List.getElem?_eq_some_iff.mp q1).1
        rw [List.length_append] at this
        have h3 : ([p] : List Addr).length = 1 := rfl
        omega
      subst hi2
      rw [List.getElem?_append_right (Nat.le_refl _), Nat.sub_self] at q1
      rw [List.getElem?_append_right (by rw [R.len]; exact Nat.le_refl _), R.len, Nat.sub_self] at q2
      obtain rfl : p = a := Option.some.inj q1
      obtain rfl : e = e' := Option.some.inj q2
      exact he
  · rcases List.mem_append.mp hb with hb | hb
    · exact x.n b hb
    · obtain rfl := List.mem_singleton.mp hb; exact .inr h1
theorem SlR.wipe {σ : L2.St} {ρ : Env} (S : SlR G F α σ ρ) : ∀ vs : List Nat, SlR G F α (L2.wipe σ vs) (wipeE ρ vs)
  | [] => S
  | v :: vs => (SlR.wipe S vs).putN v none
end
theorem wipe_at {σ : L2.St} {j : Nat} : ∀ {vs : List Nat}, j ∈ vs → (L2.wipe σ vs)[j]? = if j < σ.length then some none else none
  | [], h => by cases h
  | v :: vs, h => by
    have hl : (L2.wipe σ vs).length = σ.length := wipe_length σ vs
    show ((L2.wipe σ vs).set v none)[j]? = _
    by_cases hv : v = j
    · subst hv
      by_cases hj : v < σ.length
      · rw [List.getElem?_set_self (by rw [hl]; exact hj), if_pos hj]
      · rw [if_neg hj, List.getElem?_eq_none_iff, List.length_set, hl]; omega
    · rw [List.getElem?_set_ne hv]
      exact wipe_at ((List.mem_cons.mp h).resolve_left (fun e => hv e.symm))
theorem wipe_eq {σ σ2 : L2.St} {is vs : List Nat} (u : Upto is (L2.wipe σ vs) σ2) (hs : ∀ i ∈ is, i ∈ vs) : L2.wipe σ2 vs = L2.wipe σ vs := by
  have hl : σ2.length = σ.length := u.1.trans (wipe_length σ vs)
  refine List.ext_getElem? fun j => ?_
  by_cases hj : j ∈ vs
  · rw [wipe_at hj, wipe_at hj, hl]
  · rw [wipe_out hj, wipe_out hj, u.2 j fun z => hj (hs j z), wipe_out hj]

section
variable {G : Gm} {X : Cx} {W : WX} {gf : Gf} {T : Tb} {C : Nat → List D → Sto → Rs D} {k : Nat} {n : Cn} {b0 : Nat} {a b c o : Expr} {x y z : Ex} {pos : Pos}
def WF : WX := fun _ _ _ _ => False
def lcF (T : Tb) (C : Nat → List D → Sto → Rs D) (b0 : Nat) (ρ : Env) (own is : List Nat) (tt : Bool) (eltx cx : Ex) : D → Sto → Rs (Option D) := fun d s1 => match target (wipeE ρ own) is tt d with
      | some ρ' => (ev T C b0 ρ' cx s1).noex.bind fun k s2 => (match k with
        | .bl true => (ev T C b0 ρ' eltx s2).noex.bind fun r s3 => .ok (some r) s3
        | .bl false => .ok none s2
        | _ => .no)
      | none => .no
theorem lcF_ex {ρ : Env} {own is : List Nat} {tt : Bool} {eltx cx : Ex} {d : D} {st : Sto} {c1 : Nat} {c2 : List Nat} {c3 : List D} {c4 : Sto} : lcF T C b0 ρ own is tt eltx cx d st ≠ .ex c1 c2 c3 c4 := by
  unfold lcF
  split
  · rename_i ρ' h1
    cases ec : ev T C b0 ρ' cx st with
    | ok kd s2 =>
      simp only [Rs.noex_ok, Rs.bind_ok]
      split
      · cases ee : ev T C b0 ρ' eltx s2 with
        | ok r s3 => simp [Rs.noex]
        | _ => simp [Rs.noex]
      · simp
      · simp
    | _ => simp [Rs.noex]
  · simp
theorem lcL_ex {ρ : Env} {own is : List Nat} {tt : Bool} {eltx cx : Ex} {c1 : Nat} {c2 : List Nat} {c3 : List D} {c4 : Sto} : ∀ {ds acc : List D} {st : Sto}, lcL (lcF T C b0 ρ own is tt eltx cx) ds acc st ≠ .ex c1 c2 c3 c4
  | [], acc, st => by unfold lcL; simp
  | d :: ds, acc, st => by
    intro h
    have e0 : lcL (lcF T C b0 ρ own is tt eltx cx) (d :: ds) acc st = (lcF T C b0 ρ own is tt eltx cx d st).bind fun o s => match o with
      | none => lcL (lcF T C b0 ρ own is tt eltx cx) ds acc s
      | some d => if acc.length < SZ then lcL (lcF T C b0 ρ own is tt eltx cx) ds (acc ++ [d]) s else .no := rfl
    rw [e0] at h
    cases ef : lcF T C b0 ρ own is tt eltx cx d st with
    | no => rw [ef] at h; cases h
    | ex _ _ _ _ => exact lcF_ex ef
    | ok o s =>
      rw [ef] at h
      cases o with
      | none => exact lcL_ex h
      | some d' =>
        simp only [Rs.bind_ok] at h
        split at h
        · exact lcL_ex h
        · cases h
theorem lc_turn {ρ : Env} {own is : List Nat} {tt : Bool} {eltx cx : Ex} {d : D} {rest acc : List D} {st : Sto} {rs : List D} {s' : Sto} (h : lcL (lcF T C b0 ρ own is tt eltx cx) (d :: rest) acc st = .ok rs s') :
    ∃ ρ' kb s2, target (wipeE ρ own) is tt d = some ρ' ∧ ev T C b0 ρ' cx st = .ok (.bl kb) s2 ∧ (kb = false → lcL (lcF T C b0 ρ own is tt eltx cx) (d :: rest) acc st = lcL (lcF T C b0 ρ own is tt eltx cx) rest acc s2) ∧
      (kb = true → ∃ r s3, ev T C b0 ρ' eltx s2 = .ok r s3 ∧ acc.length < SZ ∧ lcL (lcF T C b0 ρ own is tt eltx cx) (d :: rest) acc st = lcL (lcF T C b0 ρ own is tt eltx cx) rest (acc ++ [r]) s3) := by
  have e0 : lcL (lcF T C b0 ρ own is tt eltx cx) (d :: rest) acc st = (lcF T C b0 ρ own is tt eltx cx d st).bind fun o s => match o with
    | none => lcL (lcF T C b0 ρ own is tt eltx cx) rest acc s
    | some d => if acc.length < SZ then lcL (lcF T C b0 ρ own is tt eltx cx) rest (acc ++ [d]) s else .no := rfl
  rw [e0] at h ⊢
  unfold lcF at h ⊢
  cases et : target (wipeE ρ own) is tt d with
  | none => rw [et] at h; cases h
  | some ρ' =>
    simp only [et] at h ⊢
    cases ec : ev T C b0 ρ' cx st with
    | no => simp [ec, Rs.noex] at h
    | ex c1 c2 c3 c4 => simp [ec, Rs.noex] at h
    | ok kd s2 =>
      simp only [ec, Rs.noex_ok, Rs.bind_ok] at h ⊢
      cases kd with
      | bl kb =>
        refine ⟨ρ', kb, s2, rfl, by first | rfl | exact ec, fun e => ?_, fun e => ?_⟩
        · subst e; simp only [Rs.bind_ok]
        · subst e
          simp only at h ⊢
          cases ee : ev T C b0 ρ' eltx s2 with
          | no => simp [ee, Rs.noex] at h
          | ex c1 c2 c3 c4 => simp [ee, Rs.noex] at h
          | ok r s3 =>
            simp only [ee, Rs.noex_ok, Rs.bind_ok] at h ⊢
            by_cases hz : acc.length < SZ
            · rw [if_pos hz]; exact ⟨r, s3, by first | rfl | exact ee, hz, rfl⟩
            · rw [if_neg hz] at h; cases h
      | _ => simp at h
theorem lc_ok (xo : XOk G gf T C k n X) {ρ : Env} {st : Sto} {σ : L2.St} {F H : Hp} {α : List Addr} {Q : VK} {lv : Bool} {own is : List Nat} {tt : Bool} {itx eltx cx : Ex} {tg it : Expr} {tts : TT} {te : TE}
    (R : SR G F H α st) (S : SlR G F α σ ρ) (p : Pst G F H α (ev T C b0 ρ (.lc lv eltx own is tt itx cx) st) (KV1 G Q) (WE W σ)) (hi : SI G X W tg tt it (fun ρ st => wk T C b0 ρ itx st)) (his : ∀ i ∈ is, i ∈ own)
    (hT : ∀ {ρ : Env} {st : Sto} {σ : L2.St} {F H : Hp} {α : List Addr} {Q : Bool → Hp → Prop}, SR G F H α st → SlR G F α σ ρ → Pst G F H α (ev T C b0 ρ cx st) (KB Q) (WE WF σ) → tts σ H Q)
    (hE : ∀ {ρ : Env} {st : Sto} {σ : L2.St} {F H : Hp} {α : List Addr} {Q : VK}, SR G F H α st → SlR G F α σ ρ → Pst G F H α (ev T C b0 ρ eltx st) (KV1 G Q) (WE WF σ) → te σ H Q) :
    tLc (wI X tg it) (gOf X.K is tt) tts te own σ H Q := by
  simp only [ev] at p
  refine hi R S (p.bind.imp fun ds F1 H1 α1 s1 R1 X1 p1 => ?_)
  intro J hJ Dl hD
  have S1 := S.mono X1
  have p1 : Pst G F1 H1 α1 ((lcL (lcF T C b0 ρ own is tt eltx cx) ds [] s1).bind fun rs s' => mkL lv rs s') (KV1 G Q) (WE W σ) := p1
  cases hl : lcL (lcF T C b0 ρ own is tt eltx cx) ds [] s1 with
  | no => rw [hl] at p1; exact p1.elim
  | ex c1 c2 c3 c4 => exact absurd hl lcL_ex
  | ok rs s' =>
  rw [hl] at p1
  simp only [Rs.bind_ok] at p1
  refine ⟨fun i m H2 => ∃ F2 α2 s2 acc accD, SR G F2 H2 α2 s2 ∧ Ext F1 H1 α1 F2 H2 α2 ∧ H2 Dl = some (.lst acc) ∧ F2 Dl = none ∧ Dl ∉ α2 ∧ Rps G F2 α2 acc accD ∧ i + m = ds.length ∧ lcL (lcF T C b0 ρ own is tt eltx cx) (ds.drop i) accD s2 = .ok rs s', ⟨ds.length, ?_⟩, ?_⟩
  · obtain ⟨R2, X2⟩ := R1.aside (.lst []) hD
    exact ⟨F1, α1, s1, [], [], R2, X2, upd_same, R1.free hD, R1.nin hD, .nil, Nat.zero_add _, hl⟩
  rintro i m H2 ⟨F2, α2, s2, acc, accD, R2, X2, hD2, hF2, hn2, racc, him, hrun⟩
  obtain ⟨w1, w2⟩ := hJ i F2 H2 α2 s2 R2 X2
  cases m with
  | zero =>
    have hi' : i = ds.length := by omega
    subst hi'
    rw [List.drop_length] at hrun
    unfold lcL at hrun
    cases hrun
    refine .inl ⟨w1 (Nat.le_refl _), ?_⟩
    unfold mkL at p1
    split at p1
    · obtain ⟨R3, X3⟩ := R2.adoptL (e := .lst rs) X2 hD hn2 ⟨hF2, acc, hD2, racc.mono (Same.refl _) (List.prefix_append _ _)⟩
      exact p1.now R3 X3 _ (.ref (by rw [← R2.len]; simp))
    · obtain ⟨R3, X3⟩ := R2.adoptF X2 hD hD2 hF2 hn2
      exact p1.now R3 X3 _ (.lst upd_same (racc.mono (same_upd hF2) (List.prefix_refl _)))
  | succ m =>
    have hlt : i < ds.length := by omega
    have hd : ds[i]? = some ds[i] := List.getElem?_eq_getElem hlt
    rw [List.drop_eq_getElem_cons hlt] at hrun
    obtain ⟨g1, g2⟩ := w2 _ hd
    obtain ⟨ρ', kb, s3, et, ec, q1, q2⟩ := lc_turn hrun
    refine .inr ⟨g1, _, fun H' h => ⟨m, Nat.lt_succ_self _, h⟩, fun v H3 hy => ?_⟩
    obtain ⟨R3, X3, rT⟩ := g2 v H3 hy
    have S3 : SlR G F2 α2 (L2.wipe σ own) (wipeE ρ own) := (S1.mono X2).wipe own
    refine gOf_ok R3 xo.hK rT S3 et fun σ2 S4 up => ⟨wipe_eq up his, ?_⟩
    obtain ⟨d3, f3, n3⟩ := X3.keepD hD2 hF2 hn2
    refine hT R3 S4 ?_
    rw [ec]
    intro F4 H4 α4 R4 X4
    refine ⟨kb, rfl, ?_⟩
    obtain ⟨d4, f4, n4⟩ := X4.keepD d3 f3 n3
    cases kb with
    | false =>
      rw [q1 rfl] at hrun
      exact ⟨F4, α4, s3, acc, accD, R4, (X2.trans X3).trans X4, d4, f4, n4, (racc.ext X3).ext X4, by omega, hrun⟩
    | true =>
      simp only [if_true]
      obtain ⟨r, s4, ee, hz, q3⟩ := q2 rfl
      rw [q3] at hrun
      refine hE R4 (S4.mono X4) ?_
      rw [ee]
      intro F5 H5 α5 R5 X5 v5 rv
      obtain ⟨d5, f5, n5⟩ := X5.keepD d4 f4 n4
      refine ⟨acc, d5, by rw [racc.len]; exact hz, F5, α5, s4, acc ++ [v5], accD ++ [r], R5.asideW d5 f5 n5, (((X2.trans X3).trans X4).trans X5).asideW hD, upd_same, f5, n5, ((((racc.ext X3).ext X4).ext X5)).app (.cons rv .nil), by omega, hrun⟩
/-! ### the block's contexts -/
def wEB (X : Cx) (scope : Scope) (e : Expr) : TE := fun σ H Q => ∀ (s0 : Shared) (H0 : Hp) (C : Addr) (cl : List (Str × Addr)) (fp : List Addr), wE (X.blk s0 H0 scope (compEnvC scope cl C X.env) fp) e σ H Q
def wTB (X : Cx) (scope : Scope) (e : Expr) : TT := fun σ H Q => ∀ (s0 : Shared) (H0 : Hp) (C : Addr) (cl : List (Str × Addr)) (fp : List Addr), wT (X.blk s0 H0 scope (compEnvC scope cl C X.env) fp) e σ H Q
theorem Tie.sc {mg : Str → Option Value} (t : Tie G gf T n mg) (sc : Scope) : Tie G gf T { n with sc := sc } mg := ⟨t.fn, t.cl, t.gl, t.blt, t.fld, t.noat, t.cls, t.mth, t.mk1, t.mk0, t.kit, t.exc, t.rs, t.exm⟩
theorem XOk.blk (xo : XOk G gf T C k n X) (scope : Scope) (s0 : Shared) (H0 : Hp) (Ca : Addr) (cl : List (Str × Addr)) (fp : List Addr) : XOk G gf T C k { n with sc := relS scope n.sc } (X.blk s0 H0 scope (compEnvC scope cl Ca X.env) fp) where
  tie := xo.tie.sc _
  hK := xo.hK
  calm := xo.calm
  nd := xo.nd
  room := xo.room
  hN := xo.hN
  sc := by rw [← xo.sc]; rfl
  fng := fun i h => let g := xo.fng i h; ⟨g.ok, g.kp, g.bd⟩
  cno := xo.cno
  ctr := xo.ctr
/-- a target of the block may be stored -/
theorem sto_own {scope : Scope} {s0 : Shared} {H0 : Hp} {Ca : Addr} {cl : List (Str × Addr)} {fp : List Addr} {tg : Expr} (hsc : X.env.scope = n.sc) (h : tgOwn scope (relS scope n.sc) tg = true) : StoT (X.blk s0 H0 scope (compEnvC scope cl Ca X.env) fp) tg := by
  have one : ∀ {x : Str} {p : Pos}, ((match scope.names.lookup x with | some .cell => true | _ => false) || (match (relS scope n.sc).names.lookup x with | some .local => true | _ => false)) = true → Sto1 (X.blk s0 H0 scope (compEnvC scope cl Ca X.env) fp) (.Name x p) := by
    intro x p h x' p' e
    cases e
    rw [Bool.or_eq_true] at h
    rcases h with h | h
    · refine .inl ?_
      show (scope.names.lookup x == some .cell) = true
      split at h
      · rename_i e; rw [e]; rfl
      · cases h
    · refine .inr ?_
      have e0 : (compEnvC scope cl Ca X.env).scope = relS scope n.sc := by rw [← hsc]; rfl
      show (compEnvC scope cl Ca X.env).scope.names.lookup x = some .local
      rw [e0]
      split at h
      · rename_i e; exact e
      · cases h
  unfold tgOwn at h
  unfold StoT
  split at h
  · exact one h
  · rw [List.all_eq_true] at h
    intro e he
    have := h e he
    split at this
    · exact one this
    · cases this
  · cases h
theorem sx_lc (xo : XOk G gf T C k n X) {lv : Bool} {is : List Nat} {tt : Bool} {itx eltx cx : Ex} {tg it elt : Expr} {ifs : List Expr} {scope : Scope} {own : List (Str × Nat)}
    (hb : blkC n.N n.sc scope own = true) (hset : isSet it = false) (how : tgOwn scope (relS scope n.sc) tg = true) (ht : tgOf { n with sc := relS scope n.sc } tg = some (is, tt)) (his : ∀ i ∈ is, i ∈ own.map fun (y : Str × Nat) => y.2)
    (hi : SI G X W tg tt it (fun ρ st => wk T C b0 ρ itx st)) (he : ∀ s0 H0 Ca cl fp, SE G (X.blk s0 H0 scope (compEnvC scope cl Ca X.env) fp) WF elt (fun ρ st => ev T C b0 ρ eltx st))
    (hc : (ifs = [] ∧ cx = .k (.bl true)) ∨ ∃ c, ifs = [c] ∧ ∀ s0 H0 Ca cl fp, STe G (X.blk s0 H0 scope (compEnvC scope cl Ca X.env) fp) WF c (fun ρ st => ev T C b0 ρ cx st)) :
    (∀ {pos : Pos}, SE G X W (.ListComp elt [⟨tg, it, ifs, 0⟩] scope pos) (fun ρ st => ev T C b0 ρ (.lc lv eltx (own.map fun (y : Str × Nat) => y.2) is tt itx cx) st)) ∧
    ∃ (g : TG) (tts : TT) (te : TE), (∀ s0 H0 Ca cl fp, PG (X.blk s0 H0 scope (compEnvC scope cl Ca X.env) fp) tg g) ∧ (∀ s0 H0 Ca cl fp, PTs (X.blk s0 H0 scope (compEnvC scope cl Ca X.env) fp) ifs tts) ∧ (∀ s0 H0 Ca cl fp, PE (X.blk s0 H0 scope (compEnvC scope cl Ca X.env) fp) elt te) ∧
      BlkOk X.N X.env.scope scope own ∧ ∀ {ρ : Env} {st : Sto} {σ : L2.St} {F H : Hp} {α : List Addr} {Q : VK}, SR G F H α st → SlR G F α σ ρ → Pst G F H α (ev T C b0 ρ (.lc lv eltx (own.map fun (y : Str × Nat) => y.2) is tt itx cx) st) (KV1 G Q) (WE W σ) → tLc (wI X tg it) g tts te (own.map (·.2)) σ H Q := by
  have ok : BlkOk X.N X.env.scope scope own := by rw [xo.hN, xo.sc]; exact blkOk_by hb
  have hg : ∀ s0 H0 Ca cl fp, PG (X.blk s0 H0 scope (compEnvC scope cl Ca X.env) fp) tg (gOf X.K is tt) := fun s0 H0 Ca cl fp => by
    have xb := xo.blk scope s0 H0 Ca cl fp
    exact pg_tg (t := (is, tt)) xb.calm xb.hN xb.sc xb.nd ht (sto_own xo.sc how)
  have hE : ∀ s0 H0 Ca cl fp, PE (X.blk s0 H0 scope (compEnvC scope cl Ca X.env) fp) elt (wEB X scope elt) := fun s0 H0 Ca cl fp => ⟨fun pins s σ H Q I h => h s0 H0 Ca cl fp pins s I⟩
  have hE2 : ∀ {ρ : Env} {st : Sto} {σ : L2.St} {F H : Hp} {α : List Addr} {Q : VK}, SR G F H α st → SlR G F α σ ρ → Pst G F H α (ev T C b0 ρ eltx st) (KV1 G Q) (WE WF σ) → wEB X scope elt σ H Q := fun R S p s0 H0 Ca cl fp => he s0 H0 Ca cl fp R S p
  have key : ∃ (tts : TT), (∀ s0 H0 Ca cl fp, PTs (X.blk s0 H0 scope (compEnvC scope cl Ca X.env) fp) ifs tts) ∧ ∀ {ρ : Env} {st : Sto} {σ : L2.St} {F H : Hp} {α : List Addr} {Q : Bool → Hp → Prop}, SR G F H α st → SlR G F α σ ρ → Pst G F H α (ev T C b0 ρ cx st) (KB Q) (WE WF σ) → tts σ H Q := by
    rcases hc with ⟨rfl, rfl⟩ | ⟨c, rfl, hc⟩
    · refine ⟨tYes, fun _ _ _ _ _ => pts_nil, fun {ρ st σ F H α Q} R S p => ?_⟩
      simp only [ev] at p
      obtain ⟨b, e, q⟩ := p.here R
      cases e
      exact q
    · exact ⟨wTB X scope c, fun s0 H0 Ca cl fp => pts_one ⟨fun pins s σ H Q I h => h s0 H0 Ca cl fp pins s I⟩, fun R S p s0 H0 Ca cl fp => hc s0 H0 Ca cl fp R S p⟩
  obtain ⟨tts, k1, k2⟩ := key
  have rd : ∀ {ρ : Env} {st : Sto} {σ : L2.St} {F H : Hp} {α : List Addr} {Q : VK}, SR G F H α st → SlR G F α σ ρ → Pst G F H α (ev T C b0 ρ (.lc lv eltx (own.map fun (y : Str × Nat) => y.2) is tt itx cx) st) (KV1 G Q) (WE W σ) → tLc (wI X tg it) (gOf X.K is tt) tts (wEB X scope elt) (own.map (·.2)) σ H Q :=
    fun R S p => lc_ok xo R S p hi his k2 hE2
  refine ⟨fun {pos} => ?_, _, tts, _, hg, k1, hE, ok, rd⟩
  intro ρ st σ F H α Q R S p
  exact pe_w (pe_lc xo.calm xo.nd (wI_pi X tg it) ok hg k1 hE (folded_of hset)) (rd R S p)
end
end LS
end
section
set_option Elab.async false
set_option linter.all false
set_option maxRecDepth 10000
/-! LS, part 12: all expressions. -/
namespace LS
open PySem PySem.Spec PyProof.Rows L2
section
variable {G : Gm} {gf : Gf} {T : Tb} {C : Nat → List D → Sto → Rs D} {kk b0 : Nat}
/-- a comprehension as a statement's value -/
def LcD (G : Gm) (T : Tb) (C : Nat → List D → Sto → Rs D) (b0 : Nat) (X : Cx) (W : WX) (e : Expr) (x : Ex) : Prop := ∃ (elt tg it : Expr) (ifs : List Expr) (scope : Scope) (pos : Pos) (own : List (Str × Nat)) (g : TG) (tts : TT) (te : TE), e = .ListComp elt [⟨tg, it, ifs, 0⟩] scope pos ∧ isSet it = false ∧
  (∀ s0 H0 Ca cl fp, PG (X.blk s0 H0 scope (compEnvC scope cl Ca X.env) fp) tg g) ∧ (∀ s0 H0 Ca cl fp, PTs (X.blk s0 H0 scope (compEnvC scope cl Ca X.env) fp) ifs tts) ∧ (∀ s0 H0 Ca cl fp, PE (X.blk s0 H0 scope (compEnvC scope cl Ca X.env) fp) elt te) ∧
      BlkOk X.N X.env.scope scope own ∧ ∀ {ρ : Env} {st : Sto} {σ : L2.St} {F H : Hp} {α : List Addr} {Q : VK}, SR G F H α st → SlR G F α σ ρ → Pst G F H α (ev T C b0 ρ x st) (KV1 G Q) (WE W σ) → tLc (wI X tg it) g tts te (own.map (·.2)) σ H Q
structure EOk (G : Gm) (T : Tb) (C : Nat → List D → Sto → Rs D) (b0 : Nat) (X : Cx) (W : WX) (e : Expr) (x : Ex) : Prop where
  se : SE G X W e (fun ρ st => ev T C b0 ρ x st)
  sv : isVal x = true
  st : isIf e = false → STe G X W e (fun ρ st => ev T C b0 ρ x st)
  sw : ∀ o es p, e = .BoolOp o es p → SW G X W e (fun ρ st => ev T C b0 ρ x st)
  sl : isLc e = true → LcD G T C b0 X W e x
structure IHs (G : Gm) (gf : Gf) (T : Tb) (C : Nat → List D → Sto → Rs D) (kk b0 k : Nat) : Prop where
  E : ∀ (n : Cn) (X : Cx) (W : WX), XOk G gf T C kk n X → Takes X W → ∀ (lv : Bool) (e : Expr) (x : Ex), cE k n lv e = some x → EOk G T C b0 X W e x
  A : ∀ (n : Cn) (X : Cx) (W : WX), XOk G gf T C kk n X → Takes X W → ∀ (lv : Bool) (es : List Expr) (ys : List Ex), cEs k n lv es = some ys → SA G X W es (fun ρ st => evs T C b0 ρ ys st) ∧ (es.all fun a => !isStar a) = true
  O : ∀ (n : Cn) (X : Cx) (W : WX), XOk G gf T C kk n X → Takes X W → ∀ (o : Option Expr) (x : Ex), cO k n o = some x → SO G X W o (fun ρ st => evo T C b0 ρ x st)
  I : ∀ (n : Cn) (X : Cx) (W : WX), XOk G gf T C kk n X → Takes X W → ∀ (pr : Bool) (e : Expr) (x : Ex), cI k n pr e = some x → ∀ tg, isTup tg = pr → SI G X W tg pr e (fun ρ st => wk T C b0 ρ x st)
variable {X : Cx} {W : WX} {n : Cn}
/-- an expression that is no test of its own form -/
theorem EOk.plain {e : Expr} {x : Ex} (h : SE G X W e (fun ρ st => ev T C b0 ρ x st)) (hv : isVal x = true) (ht : ∀ whole, isTrue e X.env whole = (do let v ← whole; standAt e.pos; holding [v] (truthy v))) (hw : ∀ o es p, e ≠ .BoolOp o es p) (hl : isLc e = false) : EOk G T C b0 X W e x :=
  ⟨h, hv, fun _ => h.test ht, fun o es p q => absurd q (hw o es p), fun z => by rw [hl] at z; cases z⟩
theorem bind_some {β γ : Type} {o : Option β} {f : β → Option γ} {r : γ} (h : o.bind f = some r) : ∃ u, o = some u ∧ f u = some r := by
  cases o with
  | none => cases h
  | some u => exact ⟨u, rfl, h⟩
theorem map_some {β γ : Type} {o : Option β} {f : β → γ} {r : γ} (h : o.map f = some r) : ∃ u, o = some u ∧ f u = r := by
  cases o with
  | none => cases h
  | some u => exact ⟨u, rfl, Option.some.inj h⟩
theorem sx_kk {d : D} {e : Expr} {v : V} (h : PE X e (tC v)) (hr : ∀ F α, Rp G F α v d) : SE G X W e (fun ρ st => ev T C b0 ρ (.k d) st) := by
  intro ρ st σ F H α Q R S p
  simp only [ev] at p
  exact pe_w h (p.here R v (hr F α))
theorem not_if {e : Expr} (h : (!isIf e) = true) : isIf e = false := by simpa using h
theorem EOk.two {e : Expr} {x : Ex} (h : SE G X W e (fun ρ st => ev T C b0 ρ x st) ∧ STe G X W e (fun ρ st => ev T C b0 ρ x st)) (hv : isVal x = true) (hw : ∀ o es p, e ≠ .BoolOp o es p) (hl : isLc e = false) : EOk G T C b0 X W e x :=
  ⟨h.1, hv, fun _ => h.2, fun o es p q => absurd q (hw o es p), fun z => by rw [hl] at z; cases z⟩
theorem EOk.bool {op : BoolOp} {es : List Expr} {p : Pos} {x : Ex} (h : SE G X W (.BoolOp op es p) (fun ρ st => ev T C b0 ρ x st)) (hs : SW G X W (.BoolOp op es p) (fun ρ st => ev T C b0 ρ x st)) (hv : isVal x = true) : EOk G T C b0 X W (.BoolOp op es p) x :=
  ⟨h, hv, fun _ => hs.test, fun o es p q => by cases q; exact hs, fun z => by cases z⟩
/-- a test, of whatever form -/
theorem EOk.test {e : Expr} {x : Ex} (h : EOk G T C b0 X W e x) (hi : isIf e = false) : STe G X W e (fun ρ st => ev T C b0 ρ x st) := h.st hi
theorem stepE {k : Nat} (ih : IHs G gf T C kk b0 k) (xo : XOk G gf T C kk n X) (tk : Takes X W) {lv : Bool} {e : Expr} {x : Ex} (h : cE (k + 1) n lv e = some x) : EOk G T C b0 X W e x := by
  unfold cE at h
  split at h
  · -- constants
    split at h
    · cases h; exact .plain (sx_kk pe_non fun _ _ => .non) rfl (fun _ => rfl) (fun _ _ _ z => by cases z) rfl
    · cases h; exact .plain (sx_kk pe_bl fun _ _ => .bl _) rfl (fun _ => rfl) (fun _ _ _ z => by cases z) rfl
    · cases h; exact .plain (sx_kk pe_int fun _ _ => .int _) rfl (fun _ => rfl) (fun _ _ _ z => by cases z) rfl
    · obtain ⟨h1, h2⟩ := when_some h
      cases h2; exact .plain (sx_kk pe_str fun _ _ => .str h1) rfl (fun _ => rfl) (fun _ _ _ z => by cases z) rfl
    · cases h
  · -- names
    rename_i nm p
    split at h
    · rename_i hv
      obtain ⟨h1, h2⟩ := when_some h
      obtain ⟨i, h3, rfl⟩ := map_some h2
      exact .plain (sx_var (by rw [xo.hN]; exact slot_get h3) (by rw [xo.sc]; exact vis_of hv) h1) rfl (fun _ => rfl) (fun _ _ _ z => by cases z) rfl
    · obtain ⟨h1, h2⟩ := when_some h
      obtain ⟨d, h3, rfl⟩ := map_some h2
      rw [Bool.and_eq_true] at h1
      obtain ⟨v, u, g1, g2, g3⟩ := xo.tie.gl nm d h3
      exact .plain (sx_kk (pe_glob (glb_of xo.sc h1.1) g1 g2 (okn h1.2).1) g3) rfl (fun _ => rfl) (fun _ _ _ z => by cases z) rfl
  · -- a op b
    obtain ⟨o, h1, h2⟩ := bind_some h
    obtain ⟨x1, h3, h4⟩ := bind_some h2
    obtain ⟨x2, h5, rfl⟩ := map_some h4
    exact .plain (sx_bin xo h1 (ih.E _ _ _ xo tk _ _ _ h3).se (ih.E _ _ _ xo tk _ _ _ h5).se) rfl (fun _ => rfl) (fun _ _ _ z => by cases z) rfl
  · -- not
    obtain ⟨h0, h⟩ := when_some h
    obtain ⟨x1, h1, rfl⟩ := map_some h
    have q := ih.E _ _ _ xo tk _ _ _ h1
    exact .two ⟨sx_not q.se, st_not (q.st (not_if h0))⟩ rfl (fun _ _ _ z => by cases z) rfl
  · -- -i
    rename_i i j p1 p2
    cases h
    refine .plain ?_ rfl (fun _ => rfl) (fun _ _ _ z => by cases z) rfl
    exact sx_kk (v := .int (-i)) ⟨fun pins s σ H Q I h => (pe_un un_neg pe_int).run pins s σ H Q I ⟨i, rfl, h⟩⟩ fun _ _ => .int _
  · -- a and b
    rename_i o a b p
    obtain ⟨h0, h⟩ := when_some h
    rw [Bool.and_eq_true] at h0
    obtain ⟨x1, h1, h2⟩ := bind_some h
    obtain ⟨x2, h3, rfl⟩ := map_some h2
    have q1 := ih.E _ _ _ xo tk _ _ _ h1
    have q2 := ih.E _ _ _ xo tk _ _ _ h3
    cases o with
    | And => exact .bool (sx_and q1.se (sx_one q2.se)) (sw_and (q1.st (not_if h0.1)) (sw_one (q2.st (not_if h0.2)))) rfl
    | Or => exact .bool (sx_or q1.se (sx_one q2.se)) (sw_or (q1.st (not_if h0.1)) (sw_one (q2.st (not_if h0.2)))) rfl
  · rename_i o a b c r p
    obtain ⟨h0, h⟩ := when_some h
    obtain ⟨x1, h1, h2⟩ := bind_some h
    obtain ⟨x2, h3, rfl⟩ := map_some h2
    have q1 := ih.E _ _ _ xo tk _ _ _ h1
    have q2 := ih.E _ _ _ xo tk _ _ _ h3
    cases o with
    | And => exact .bool (sx_and q1.se q2.se) (sw_and (q1.st (not_if h0)) (q2.sw _ _ _ rfl)) rfl
    | Or => exact .bool (sx_or q1.se q2.se) (sw_or (q1.st (not_if h0)) (q2.sw _ _ _ rfl)) rfl
  · -- is None
    rename_i a c p
    obtain ⟨h1, h2⟩ := when_some h
    obtain ⟨x1, h3, rfl⟩ := map_some h2
    unfold isNone at h1
    split at h1
    · exact .two (sx_isN (ih.E _ _ _ xo tk _ _ _ h3).se) rfl (fun _ _ _ z => by cases z) rfl
    · cases h1
  · rename_i a c p
    obtain ⟨h1, h2⟩ := when_some h
    obtain ⟨x1, h3, rfl⟩ := map_some h2
    unfold isNone at h1
    split at h1
    · exact .two (sx_notN (ih.E _ _ _ xo tk _ _ _ h3).se) rfl (fun _ _ _ z => by cases z) rfl
    · cases h1
  · -- a comparison
    obtain ⟨h0, h⟩ := when_some h
    obtain ⟨o, h1, h⟩ := bind_some h
    obtain ⟨x1, h3, h4⟩ := bind_some h
    obtain ⟨x2, h5, rfl⟩ := map_some h4
    exact .two (sx_cmp xo h1 (by simpa using h0) (ih.E _ _ _ xo tk _ _ _ h3).se (ih.E _ _ _ xo tk _ _ _ h5).se) rfl (fun _ _ _ z => by cases z) rfl
  · -- a chain
    obtain ⟨h0, h⟩ := when_some h
    obtain ⟨o, h1, h⟩ := bind_some h
    obtain ⟨o', h2, h⟩ := bind_some h
    obtain ⟨x1, h3, h4⟩ := bind_some h
    obtain ⟨x2, h5, h6⟩ := bind_some h4
    obtain ⟨x3, h7, rfl⟩ := map_some h6
    exact .two (sx_chain xo h1 h2 (by simpa using h0) (ih.E _ _ _ xo tk _ _ _ h3).se (ih.E _ _ _ xo tk _ _ _ h5).se (ih.E _ _ _ xo tk _ _ _ h7).se) rfl (fun _ _ _ z => by cases z) rfl
  · -- a if t else b
    obtain ⟨h0, h⟩ := when_some h
    obtain ⟨x1, h3, h4⟩ := bind_some h
    obtain ⟨x2, h5, h6⟩ := bind_some h4
    obtain ⟨x3, h7, rfl⟩ := map_some h6
    exact ⟨sx_ite ((ih.E _ _ _ xo tk _ _ _ h3).st (not_if h0)) (ih.E _ _ _ xo tk _ _ _ h5).se (ih.E _ _ _ xo tk _ _ _ h7).se, rfl, fun z => (by cases z), fun _ _ _ z => (by cases z), fun z => (by cases z)⟩
  · -- displays
    obtain ⟨ys, h1, rfl⟩ := map_some h
    exact .plain (sx_tup (ih.A _ _ _ xo tk _ _ _ h1).1) rfl (fun _ => rfl) (fun _ _ _ z => by cases z) rfl
  · obtain ⟨ys, h1, rfl⟩ := map_some h
    exact .plain (sx_lst (ih.A _ _ _ xo tk _ _ _ h1).1) rfl (fun _ => rfl) (fun _ _ _ z => by cases z) rfl
  · cases h
    exact .plain sx_edic rfl (fun _ => rfl) (fun _ _ _ z => by cases z) rfl
  · -- o.f
    obtain ⟨h0, h⟩ := when_some h
    obtain ⟨f, h1, h⟩ := bind_some h
    obtain ⟨x1, h2, rfl⟩ := map_some h
    exact .plain (sx_fld xo h1 (by simpa using h0) (ih.E _ _ _ xo tk _ _ _ h2).se) rfl (fun _ => rfl) (fun _ _ _ z => by cases z) rfl
  · -- slices
    obtain ⟨x1, h3, h4⟩ := bind_some h
    obtain ⟨x2, h5, h6⟩ := bind_some h4
    obtain ⟨x3, h7, rfl⟩ := map_some h6
    exact .plain (sx_sl xo (ih.E _ _ _ xo tk _ _ _ h3).se (ih.O _ _ _ xo tk _ _ h5) (ih.O _ _ _ xo tk _ _ h7)) rfl (fun _ => rfl) (fun _ _ _ z => by cases z) rfl
  · rename_i a s q1 q2
    obtain ⟨h0, h⟩ := when_some h
    obtain ⟨x1, h1, rfl⟩ := map_some h
    unfold minus1 at h0
    split at h0
    · obtain rfl := eq_of_beq h0
      exact .plain (sx_rev xo (ih.E _ _ _ xo tk _ _ _ h1).se) rfl (fun _ => rfl) (fun _ _ _ z => by cases z) rfl
    · cases h0
  · obtain ⟨h0, h⟩ := when_some h
    obtain ⟨x1, h1, h2⟩ := bind_some h
    obtain ⟨x2, h3, rfl⟩ := map_some h2
    exact .plain (sx_ix xo (by simpa using h0) (ih.E _ _ _ xo tk _ _ _ h1).se (ih.E _ _ _ xo tk _ _ _ h3).se) rfl (fun _ => rfl) (fun _ _ _ z => by cases z) rfl
  · -- f(..)
    rename_i f p1 as p2
    have hh := when_some h
    clear h
    obtain ⟨h0, h⟩ := hh
    simp only [Bool.and_eq_true] at h0
    obtain ⟨⟨hg, hok⟩, hst⟩ := h0
    have hg := glb_of xo.sc hg
    split at h
    · rename_i i m hf
      obtain ⟨h1, h2⟩ := when_some h
      obtain ⟨ys, h3, rfl⟩ := map_some h2
      exact .plain (sx_call xo tk hf hg (okn hok).1 hst (ih.A _ _ _ xo tk _ _ _ h3).1) rfl (fun _ => rfl) (fun _ _ _ z => by cases z) rfl
    · split at h
      · rename_i c hc
        obtain ⟨h1, h2⟩ := when_some h
        obtain ⟨ys, h3, rfl⟩ := map_some h2
        exact .plain (sx_new xo tk hc (eq_of_beq h1) hg (okn hok).1 hst (ih.A _ _ _ xo tk _ _ _ h3).1) rfl (fun _ => rfl) (fun _ _ _ z => by cases z) rfl
      · by_cases hi : (f == ("isinstance" : Str)) = true
        · rw [if_pos hi] at h
          obtain rfl := eq_of_beq hi
          split at h
          · rename_i a t
            obtain ⟨ts, h1, h2⟩ := bind_some h
            obtain ⟨x1, h3, rfl⟩ := map_some h2
            exact .plain (sx_isa xo h1 hg (by simp at hst; exact hst.1) (ih.E _ _ _ xo tk _ _ _ h3).se) rfl (fun _ => rfl) (fun _ _ _ z => by cases z) rfl
          · cases h
        · rw [if_neg hi] at h
          obtain ⟨b, h1, h2⟩ := bind_some h
          obtain ⟨ys, h3, rfl⟩ := map_some h2
          exact .plain (sx_bf xo h1 hg hst (ih.A _ _ _ xo tk _ _ _ h3).1) rfl (fun _ => rfl) (fun _ _ _ z => by cases z) rfl
  · -- o.m(..)
    obtain ⟨h0, h⟩ := when_some h
    simp only [Bool.and_eq_true, Bool.not_eq_true'] at h0
    obtain ⟨⟨⟨hl, hc⟩, hst⟩, hfew⟩ := h0
    have hfew := Nat.blt_eq.mp hfew
    split at h
    · rename_i b hb
      obtain ⟨x1, h1, h2⟩ := bind_some h
      obtain ⟨ys, h3, rfl⟩ := map_some h2
      exact .plain (sx_bm xo hb hc hl hst hfew (ih.E _ _ _ xo tk _ _ _ h1).se (ih.A _ _ _ xo tk _ _ _ h3).1) rfl (fun _ => rfl) (fun _ _ _ z => by cases z) rfl
    · obtain ⟨m, h0, h⟩ := bind_some h
      obtain ⟨x1, h1, h2⟩ := bind_some h
      obtain ⟨ys, h3, rfl⟩ := map_some h2
      exact .plain (sx_mth xo tk h0 hc hl hst hfew (ih.E _ _ _ xo tk _ _ _ h1).se (ih.A _ _ _ xo tk _ _ _ h3).1) rfl (fun _ => rfl) (fun _ _ _ z => by cases z) rfl
  · -- comprehensions
    rename_i elt tg it ifs scope p
    obtain ⟨h0, h⟩ := when_some h
    simp only [Bool.and_eq_true, Bool.not_eq_true'] at h0
    obtain ⟨⟨hb, hset⟩, how⟩ := h0
    obtain ⟨itx, h1, h⟩ := bind_some h
    obtain ⟨t, h2, h⟩ := bind_some h
    obtain ⟨his, h⟩ := when_some h
    obtain ⟨eltx, h3, h⟩ := bind_some h
    obtain ⟨cx, h4, rfl⟩ := map_some h
    have hpr := tg_pr h2
    have hi : SI G X W tg (isTup tg) it (fun ρ st => wk T C b0 ρ itx st) := ih.I _ _ _ xo tk _ _ _ h1 tg rfl
    rw [← hpr] at hi
    have he : ∀ s0 H0 Ca cl fp, SE G (X.blk s0 H0 scope (compEnvC scope cl Ca X.env) fp) WF elt (fun ρ st => ev T C b0 ρ eltx st) := fun s0 H0 Ca cl fp => (ih.E _ _ _ (xo.blk scope s0 H0 Ca cl fp) takes0 _ _ _ h3).se
    have hc : (ifs = [] ∧ cx = .k (.bl true)) ∨ ∃ c, ifs = [c] ∧ ∀ s0 H0 Ca cl fp, STe G (X.blk s0 H0 scope (compEnvC scope cl Ca X.env) fp) WF c (fun ρ st => ev T C b0 ρ cx st) := by
      cases ifs with
      | nil => cases h4; exact .inl ⟨rfl, rfl⟩
      | cons c r =>
        cases r with
        | nil =>
          obtain ⟨h5, h6⟩ := when_some h4
          exact .inr ⟨c, rfl, fun s0 H0 Ca cl fp => (ih.E _ _ _ (xo.blk scope s0 H0 Ca cl fp) takes0 _ _ _ h6).st (not_if h5)⟩
        | cons _ _ => cases h4
    have his : ∀ i ∈ t.1, i ∈ (ownOf n.N scope).map fun (y : Str × Nat) => y.2 := fun i hm => by
      have := List.all_eq_true.mp his i hm
      simpa using this
    obtain ⟨q1, g, tts, te, q2, q3, q4, q5, q6⟩ := sx_lc xo (lv := lv) hb hset how (is := t.1) (tt := t.2) h2 his hi he hc
    exact ⟨q1, rfl, fun _ => q1.test fun _ => rfl, fun _ _ _ z => (by cases z), fun _ => ⟨elt, tg, it, ifs, scope, p, ownOf n.N scope, g, tts, te, rfl, hset, q2, q3, q4, q5, q6⟩⟩
  · cases h
theorem stepA {k : Nat} (ih : IHs G gf T C kk b0 k) (xo : XOk G gf T C kk n X) (tk : Takes X W) {lv : Bool} {es : List Expr} {ys : List Ex} (h : cEs (k + 1) n lv es = some ys) : SA G X W es (fun ρ st => evs T C b0 ρ ys st) ∧ (es.all fun a => !isStar a) = true := by
  cases es with
  | nil => cases h; exact ⟨sa_nil, rfl⟩
  | cons e es =>
    unfold cEs at h
    obtain ⟨h0, h⟩ := when_some h
    obtain ⟨x1, h1, h⟩ := bind_some h
    obtain ⟨ys', h2, rfl⟩ := map_some h
    obtain ⟨q1, q2⟩ := ih.A _ _ _ xo tk _ _ _ h2
    exact ⟨sa_cons (by simpa using h0) (ih.E _ _ _ xo tk _ _ _ h1).se q1, by rw [List.all_cons, h0, q2]; rfl⟩
theorem stepO {k : Nat} (ih : IHs G gf T C kk b0 k) (xo : XOk G gf T C kk n X) (tk : Takes X W) {o : Option Expr} {x : Ex} (h : cO (k + 1) n o = some x) : SO G X W o (fun ρ st => evo T C b0 ρ x st) := by
  cases o with
  | none => cases h; exact sp_none
  | some e =>
    have q := ih.E _ _ _ xo tk _ _ _ (show cE k n false e = some x from h)
    have hx : x ≠ .nil := fun z => by have := q.sv; rw [z] at this; cases this
    intro ρ st σ F H α Q R S p
    exact sp_some hx q.se R S p
theorem cEs_one {k : Nat} {lv : Bool} {a : Expr} {ys : List Ex} (ih : IHs G gf T C kk b0 k) (xo : XOk G gf T C kk n X) (tk : Takes X W) (h : cEs (k + 1) n lv [a] = some ys) : ∃ y, ys = [y] ∧ EOk G T C b0 X W a y ∧ isStar a = false := by
  unfold cEs at h
  obtain ⟨h0, h⟩ := when_some h
  obtain ⟨x1, h1, h⟩ := bind_some h
  obtain ⟨ys', h2, rfl⟩ := map_some h
  cases k with
  | zero => cases h2
  | succ k => cases h2; exact ⟨x1, rfl, ih.E _ _ _ xo tk _ _ _ h1, by simpa using h0⟩
theorem notStar {k : Nat} {lv : Bool} {a : Expr} {x : Ex} (h : cE k n lv a = some x) : isStar a = false := by
  cases a with
  | Starred _ _ => cases k <;> simp [cE] at h
  | _ => rfl
theorem stepI {k : Nat} (ih : IHs G gf T C kk b0 k) (ih0 : ∀ j, j ≤ k → IHs G gf T C kk b0 j) (xo : XOk G gf T C kk n X) (tk : Takes X W) {pr : Bool} {e : Expr} {x : Ex} (h : cI (k + 1) n pr e = some x) {tg : Expr} (htg : isTup tg = pr) : SI G X W tg pr e (fun ρ st => wk T C b0 ρ x st) := by
  intro ρ st σ F H α Rr R S p
  have dflt : ∀ {e : Expr}, cE k n false e = some x → wI X tg e σ H Rr := fun {e} h => by
    have q := ih.E _ _ _ xo tk _ _ _ h
    exact si_val xo q.sv q.se R S p
  unfold cI at h
  split at h
  · rename_i f p1 as q1
    by_cases h1 : (f == ("range" : Str)) = true
    · rw [if_pos h1] at h
      obtain rfl := eq_of_beq h1
      have hh := when_some h
      clear h
      obtain ⟨h0, h⟩ := hh
      simp only [Bool.and_eq_true, Bool.or_eq_true] at h0
      obtain ⟨⟨⟨hg, _⟩, _⟩, hl⟩ := h0
      obtain ⟨ys, h2, rfl⟩ := map_some h
      have hg := glb_of xo.sc hg
      cases k with
      | zero => cases h2
      | succ k =>
      match as, hl, h2 with
      | [], hl, h2 => simp at hl
      | [a], hl, h2 =>
        obtain ⟨y, rfl, q1, q2⟩ := cEs_one (ih0 k (Nat.le_succ k)) xo tk h2
        exact si_rng1 xo hg q2 q1.se R S p
      | [a, b], hl, h2 =>
        unfold cEs at h2
        obtain ⟨h3, h2⟩ := when_some h2
        obtain ⟨x1, h4, h2⟩ := bind_some h2
        obtain ⟨ys', h5, rfl⟩ := map_some h2
        cases k with
        | zero => cases h5
        | succ k =>
        obtain ⟨y, rfl, q1, q2⟩ := cEs_one (ih0 k (by omega)) xo tk h5
        exact si_rng2 xo hg (by simpa using h3) q2 ((ih0 (k + 1) (Nat.le_succ _)).E _ _ _ xo tk _ _ _ h4).se q1.se R S p
      | _ :: _ :: _ :: _, hl, h2 => simp at hl
    · rw [if_neg h1] at h
      by_cases h2 : (f == ("enumerate" : Str)) = true
      · rw [if_pos h2] at h
        obtain rfl := eq_of_beq h2
        split at h
        · rename_i a
          have hh := when_some h
          clear h
          obtain ⟨h0, h⟩ := hh
          simp only [Bool.and_eq_true] at h0
          obtain ⟨⟨⟨hp, hg⟩, _⟩, _⟩ := h0
          subst hp
          obtain ⟨x1, h3, rfl⟩ := map_some h
          unfold isTup at htg
          split at htg
          · exact si_enum xo (glb_of xo.sc hg) (notStar h3) (ih.E _ _ _ xo tk _ _ _ h3).se R S p
          · cases htg
        · cases h
      · rw [if_neg h2] at h
        by_cases h3 : (f == ("zip" : Str)) = true
        · rw [if_pos h3] at h
          obtain rfl := eq_of_beq h3
          split at h
          · rename_i a b
            have hh := when_some h
            clear h
            obtain ⟨h0, h⟩ := hh
            simp only [Bool.and_eq_true] at h0
            obtain ⟨⟨⟨hp, hg⟩, _⟩, _⟩ := h0
            subst hp
            obtain ⟨x1, h4, h⟩ := bind_some h
            obtain ⟨x2, h5, rfl⟩ := map_some h
            unfold isTup at htg
            split at htg
            · exact si_zip xo (glb_of xo.sc hg) (notStar h4) (notStar h5) (ih.E _ _ _ xo tk _ _ _ h4).se (ih.E _ _ _ xo tk _ _ _ h5).se R S p
            · cases htg
          · cases h
        · rw [if_neg h3] at h
          by_cases h4 : (f == ("reversed" : Str)) = true
          · rw [if_pos h4] at h
            obtain rfl := eq_of_beq h4
            split at h
            · rename_i a
              have hh := when_some h
              clear h
              obtain ⟨h0, h⟩ := hh
              simp only [Bool.and_eq_true] at h0
              obtain ⟨⟨hg, _⟩, _⟩ := h0
              obtain ⟨x1, h5, rfl⟩ := map_some h
              exact si_rvd xo (glb_of xo.sc hg) (notStar h5) (ih.E _ _ _ xo tk _ _ _ h5).se R S p
            · cases h
          · rw [if_neg h4] at h
            exact dflt h
  · exact dflt h
theorem expr_ok : ∀ k j, j ≤ k → IHs G gf T C kk b0 j
  | 0, j, hj => by
    obtain rfl : j = 0 := by omega
    exact ⟨fun _ _ _ _ _ _ _ _ h => (by simp [cE] at h), fun _ _ _ _ _ _ _ _ h => (by simp [cEs] at h), fun _ _ _ _ _ _ _ h => (by simp [cO] at h), fun _ _ _ _ _ _ _ _ h => (by simp [cI] at h)⟩
  | k + 1, j, hj => by
    have ih := expr_ok k
    by_cases hk : j ≤ k
    · exact ih j hk
    · obtain rfl : j = k + 1 := by omega
      have i1 := ih k (Nat.le_refl _)
      exact ⟨fun _ _ _ xo tk _ _ _ h => stepE i1 xo tk h, fun _ _ _ xo tk _ _ _ h => stepA i1 xo tk h, fun _ _ _ xo tk _ _ h => stepO i1 xo tk h, fun _ _ _ xo tk _ _ _ h _ ht => stepI i1 ih xo tk h ht⟩
end
end LS
end
section
set_option Elab.async false
set_option linter.all false
set_option maxRecDepth 10000
/-! LS, part 13: statements. -/
namespace LS
open PySem PySem.Spec PyProof.Rows L2

/-! ### of the text -/
theorem swaps_of {e : Expr} {t : Option Expr} {l : Nat} {env : PySem.Env} (h : isLc e = false) : swapsWith e t l env = pure false := by
  cases e <;> first | rfl | (simp [isLc] at h)
theorem swaps_attr {e o : Expr} {f : Str} {q : Pos} {l : Nat} {env : PySem.Env} : swapsWith e (some (.Attribute o f q)) l env = pure false := by
  cases e <;> rfl
theorem swaps_sub {e o i : Expr} {q : Pos} {l : Nat} {env : PySem.Env} : swapsWithSole [.Subscript o i q] e l env = pure false := by
  cases e <;> rfl
theorem swaps_tup {ts : List Expr} {q1 : Nat} {q2 : Pos} {e : Expr} {l : Nat} {env : PySem.Env} : swapsWithSole [.Tuple ts q1 q2] e l env = pure false := by
  cases e <;> rfl
theorem swaps_lc {elt : Expr} {gs : List Comprehension} {scope : Scope} {pos py : Pos} {y : Str} {l : Nat} {env : PySem.Env} :
    ∃ b, swapsWith (.ListComp elt gs scope pos) (some (.Name y py)) l env = pure b ∧ (b = true → env.kindOf y = some .local) :=
  ⟨env.blockKind == .function && env.kindOf y == some .local && py.line == pos.line && !(scope.names.any fun (n, k) => n == y && (k == .local || k == .cell)), rfl, fun h => by
    simp only [Bool.and_eq_true] at h
    have := h.1.1.2
    revert this
    cases env.kindOf y with
    | none => intro z; cases z
    | some k => cases k <;> intro z <;> first | rfl | cases z⟩
theorem swapped_tup {ts : List Expr} {q1 : Nat} {q2 : Pos} {e : Expr} {env : PySem.Env} (h : isTup e = false) : swappedStores [.Tuple ts q1 q2] e env = pure none := by
  cases e <;> first | rfl | (simp [isTup] at h)
theorem swapped_sub {o i : Expr} {q : Pos} {e : Expr} {env : PySem.Env} : swappedStores [.Subscript o i q] e env = pure none := by
  cases e <;> rfl

theorem swapped_two {x1 x2 : Str} {a b : Expr} {px py pt : Pos} {kt k2 : Nat} {pt2 : Pos} {env : PySem.Env} (hk : env.scope.kind = .function) (k1 : env.kindOf x1 = some .local) (k2' : env.kindOf x2 = some .local) (hl : (px.line == py.line) = true) (hx : (x1 == x2) = false)
    (ha : isStar a = false) (hb : isStar b = false) (hc : ([a, b].all (constantsAlone 8)) = false) (hf : ([a, b].all (foldedForSure 8)) = false) :
    swappedStores [.Tuple [.Name x1 px, .Name x2 py] kt pt] (.Tuple [a, b] k2 pt2) env = pure (some [x1, x2]) := by
  have hbk : (env.blockKind != .function) = false := by
    have : env.blockKind = .function := by unfold PySem.Env.blockKind; rw [hk]; rfl
    rw [this]; rfl
  have hany : ([a, b].any fun | .Starred .. => true | _ => false) = false := by
    cases a <;> first | (simp [isStar] at ha; done) | (cases b <;> first | rfl | (simp [isStar] at hb))
  have l1 : (py.line == px.line) = true := by rw [beq_iff_eq] at hl ⊢; exact hl.symm
  have hd : ([x1, x2].eraseDups.length != [x1, x2].length) = false := by
    have : [x1, x2].eraseDups = [x1, x2] := by
      rw [List.eraseDups_cons, List.filter_cons]
      have h2 : (!x2 == x1) = true := by
        rw [Bool.not_eq_true']
        exact beq_eq_false_iff_ne.mpr fun z => (beq_eq_false_iff_ne.mp hx) z.symm
      rw [if_pos h2]
      rfl
    rw [this]; rfl
  unfold swappedStores
  simp only [hbk]
  split
  · rename_i h; simp at h
  split
  · rename_i h; exact Bool.noConfusion (hany.symm.trans h)
  simp only [List.filterMap_cons, List.filterMap_nil, k1, k2', List.head?_cons, Option.map_some, Option.getD_some, Expr.pos, l1, beq_self_eq_true, Bool.and_self, Bool.true_and, if_true, List.length_cons, List.length_nil]
  split
  · rename_i h; exact Bool.noConfusion (Eq.trans (by rw [show ([x1, x2].eraseDups.length != 0 + 1 + 1) = false from hd]) h)
  rw [if_neg (by rw [hf]; exact Bool.false_ne_true), if_neg (by rw [hc]; exact Bool.false_ne_true)]
  first | rfl | trace_state
theorem assign_sub {o i : Expr} {q : Pos} {env : PySem.Env} (h : isSlice i = false) : ∀ v, assign (.Subscript o i q) env v = (do
      let ov ← holding [v] (eval o env)
      let iv ← holding [v, ov] (eval i env)
      standAt q
      holding [v, ov, iv] (setItem ov iv v)
      release [v, ov, iv] []) := fun v => by
  cases i <;> first | rfl | (simp [isSlice] at h)
/-! ### what is to be shown -/
def wS (X : Cx) (s : Stmt) : TS := fun D σ H => ∀ (pins : List (Addr × Obj)) (st : Shared), Inv X pins σ H st → wpAny (model X.prog X.w) X.A (exec s X.env) (SP X pins D) X.xe st
theorem wS_ps (X : Cx) (s : Stmt) : PS X s (wS X s) := ⟨fun pins st σ H D I h => h pins st I⟩
theorem ps_w {X : Cx} {s : Stmt} {t : TS} (h : PS X s t) {D : Ends} {σ : L2.St} {H : Hp} (q : t D σ H) : wS X s D σ H := fun pins st I => h.run pins st σ H D I q
def wSs (X : Cx) (s : List Stmt) : TS := fun D σ H => ∀ (pins : List (Addr × Obj)) (st : Shared), Inv X pins σ H st → wpAny (model X.prog X.w) X.A (execs s X.env) (SP X pins D) X.xe st
theorem wSs_pss (X : Cx) (s : List Stmt) : PSs X s (wSs X s) := ⟨fun pins st σ H D I h => h pins st I⟩
theorem pss_w {X : Cx} {s : List Stmt} {t : TS} (h : PSs X s t) {D : Ends} {σ : L2.St} {H : Hp} (q : t D σ H) : wSs X s D σ H := fun pins st I => h.run pins st σ H D I q
section
variable (G : Gm) (D : Ends)
def KF : Fl → Hp → Hp → List Addr → Sto → Prop := fun fl F H α _ => match fl with
  | .nx ρ => ∀ σ, SlR G F α σ ρ → D.nx σ H
  | .bk ρ => ∀ σ, SlR G F α σ ρ → D.bk σ H
  | .ct ρ => ∀ σ, SlR G F α σ ρ → D.ct σ H
  | .rt d => ∀ v, Rp G F α v d → D.rt v H
end
def SSt (G : Gm) (X : Cx) (W : WX) (s : Stmt) (r : Env → Sto → Rs Fl) : Prop := ∀ {ρ : Env} {st : Sto} {σ : L2.St} {F H : Hp} {α : List Addr} {D : Ends} {E : XK}, SR G F H α st → SlR G F α σ ρ → Pst G F H α (r ρ st) (KF G D) E → (∀ c d σ' H', E c d H' → W c d σ' H') → wS X s D σ H
def SSs (G : Gm) (X : Cx) (W : WX) (s : List Stmt) (r : Env → Sto → Rs Fl) : Prop := ∀ {ρ : Env} {st : Sto} {σ : L2.St} {F H : Hp} {α : List Addr} {D : Ends} {E : XK}, SR G F H α st → SlR G F α σ ρ → Pst G F H α (r ρ st) (KF G D) E → (∀ c d σ' H', E c d H' → W c d σ' H') → wSs X s D σ H
/-- at these slots alone -/
def SSb (G : Gm) (X : Cx) (W : WX) (s : Stmt) (r : Env → Sto → Rs Fl) : Prop := ∀ {ρ : Env} {st : Sto} {σ : L2.St} {F H : Hp} {α : List Addr} {D : Ends}, SR G F H α st → SlR G F α σ ρ → Pst G F H α (r ρ st) (KF G D) (WE W σ) → wS X s D σ H
theorem SSb.st {G : Gm} {X : Cx} {W : WX} {s : Stmt} {r : Env → Sto → Rs Fl} (h : SSb G X W s r) : SSt G X W s r := fun R S p hE => h R S (p.impE fun c d H h => hE c d _ H h)
/-- a def's body runs -/
structure TOk (X : Cx) : Prop where
  fn : ∀ x, X.fn x = true
  stk : X.stack = X.env :: X.outer
  fr : X.env.frame = some X.env.locals
  ex : X.ex = []
section
variable {G : Gm} {gf : Gf} {T : Tb} {C : Nat → List D → Sto → Rs D} {kk b0 : Nat} {X : Cx} {W : WX} {n : Cn} {w : Nat}
/-- an expression within a statement -/
theorem SE.stp {γ : Type} {e : Expr} {r : Env → Sto → Rs D} (h : SE G X W e r) {ρ : Env} {st : Sto} {σ : L2.St} {F H : Hp} {α : List Addr} {k : D → Sto → Rs γ} {K : γ → Hp → Hp → List Addr → Sto → Prop} {E : XK} {Q' : VK} (R : SR G F H α st) (S : SlR G F α σ ρ)
    (p : Pst G F H α ((r ρ st).bind k) K E) (hE : ∀ c d σ' H', E c d H' → W c d σ' H')
    (hq : ∀ d F1 H1 α1 s1 v, SR G F1 H1 α1 s1 → SlR G F1 α1 σ ρ → Ext F H α F1 H1 α1 → Rp G F1 α1 v d → Pst G F1 H1 α1 (k d s1) K E → Q' v H1) : wE X e σ H Q' :=
  h R S ((p.bind.imp fun d F1 H1 α1 s1 R1 X1 h1 v rv => hq d F1 H1 α1 s1 v R1 (S.mono X1) X1 rv h1).impE fun c d H h => hE c d σ H h)
theorem STe.stp {γ : Type} {e : Expr} {r : Env → Sto → Rs D} (h : STe G X W e r) {ρ : Env} {st : Sto} {σ : L2.St} {F H : Hp} {α : List Addr} {k : D → Sto → Rs γ} {K : γ → Hp → Hp → List Addr → Sto → Prop} {E : XK} {Q' : Bool → Hp → Prop} (R : SR G F H α st) (S : SlR G F α σ ρ)
    (p : Pst G F H α ((r ρ st).bind k) K E) (hE : ∀ c d σ' H', E c d H' → W c d σ' H') (hn : ∀ d s, (∀ b, d ≠ .bl b) → k d s = .no)
    (hq : ∀ b F1 H1 α1 s1, SR G F1 H1 α1 s1 → SlR G F1 α1 σ ρ → Ext F H α F1 H1 α1 → Pst G F1 H1 α1 (k (.bl b) s1) K E → Q' b H1) : wT X e σ H Q' :=
  h R S ((p.bind.imp fun d F1 H1 α1 s1 R1 X1 h1 => (by
    by_cases hb : ∃ b, d = .bl b
    · obtain ⟨b, rfl⟩ := hb
      exact ⟨b, rfl, hq b F1 H1 α1 s1 R1 (S.mono X1) X1 h1⟩
    · rw [hn d s1 fun b e => hb ⟨b, e⟩] at h1
      exact h1.elim)).impE fun c d H h => hE c d σ H h)
/-! ### simple statements -/
theorem sb_ex {e : Expr} {x : Ex} {p : Pos} (hl : isLc e = false) (he : SE G X W e (fun ρ st => ev T C b0 ρ x st)) : SSb G X W (.Expr e p) (fun ρ st => xs T C b0 w (.ex x) ρ st) := by
  intro ρ st σ F H α D R S p
  simp only [xs] at p
  refine ps_w (ps_expr (wE_pe X e) (swaps_of hl)) (he.step R S p fun d F1 H1 α1 s1 v R1 S1 X1 r1 p1 => ?_)
  exact p1.here R1 _ S1
theorem sb_set (xo : XOk G gf T C kk n X) (to : TOk X) {nm : Str} {i : Nat} {e : Expr} {x : Ex} {px pz : Pos} (hi : tgName n nm = some i) (he : EOk G T C b0 X W e x) : SSb G X W (.Assign [.Name nm px] e pz) (fun ρ st => xs T C b0 w (.set i x) ρ st) := by
  obtain ⟨h1, h2⟩ := tgName_ok hi
  have hN : X.N[i]? = some nm := by rw [xo.hN]; exact h2
  have hL : L2.Loc X.env.scope nm := by rw [xo.sc]; exact loc_of h1
  have hf : X.fn nm = true ∨ X.env.scope.names.lookup nm = some .local := .inl (to.fn nm)
  intro ρ st σ F H α D R S p
  simp only [xs] at p
  have plain : swapsWith e (some (.Name nm px)) pz.line X.env = pure false → wS X (.Assign [.Name nm px] e pz) D σ H := fun hs =>
    ps_w (ps_set xo.nd hN hL (wE_pe X e) hs hf) (SE.step he.se R S p fun d F1 H1 α1 s1 v R1 S1 X1 r1 p1 => p1.here R1 _ (S1.put i r1))
  cases hl : isLc e with
  | false => exact plain (swaps_of hl)
  | true =>
    obtain ⟨elt, tg, it, ifs, scope, pos, own, g, tts, te, rfl, hset, q2, q3, q4, q5, q6⟩ := he.sl hl
    obtain ⟨b, e1, e2⟩ := swaps_lc (elt := elt) (gs := [⟨tg, it, ifs, 0⟩]) (scope := scope) (pos := pos) (py := px) (y := nm) (l := pz.line) (env := X.env)
    cases b with
    | false => exact plain e1
    | true =>
      refine ps_w (ps_setLc xo.calm xo.nd hN (e2 rfl) e1 (wI_pi X tg it) q5 q2 q3 q4 (folded_of hset)) ?_
      refine q6 R S (p.bind.imp fun d F1 H1 α1 s1 R1 X1 p1 v r1 => ?_)
      exact p1.here R1 _ ((S.mono X1).put i r1)
theorem ss_par (xo : XOk G gf T C kk n X) (to : TOk X) {x1 x2 : Str} {i j : Nat} {a b : Expr} {ya yb : Ex} {px py pt pz : Pos} {kt k2 : Nat} {pt2 : Pos} (hsw : swapB n.sc [.Name x1 px, .Name x2 py] [a, b] = true) (hi : tgName n x1 = some i) (hj : tgName n x2 = some j)
    (ha : SE G X W a (fun ρ st => ev T C b0 ρ ya st)) (hb : SE G X W b (fun ρ st => ev T C b0 ρ yb st)) : SSt G X W (.Assign [.Tuple [.Name x1 px, .Name x2 py] kt pt] (.Tuple [a, b] k2 pt2) pz) (fun ρ st => xs T C b0 w (.par i j ya yb) ρ st) := by
  unfold swapB at hsw
  simp only [Bool.and_eq_true, Bool.not_eq_true'] at hsw
  obtain ⟨⟨⟨⟨⟨⟨h1, h2⟩, h3⟩, h4⟩, h5⟩, h6⟩, h7⟩ := hsw
  have l1 : n.sc.names.lookup x1 = some .local ∧ n.sc.names.lookup x2 = some .local := by
    split at h1
    · rename_i e1 e2; exact ⟨e1, e2⟩
    · cases h1
  obtain ⟨_, hN1⟩ := tgName_ok hi
  obtain ⟨_, hN2⟩ := tgName_ok hj
  have hij : i ≠ j := fun z => by
    subst z
    rw [hN1] at hN2
    have : x1 = x2 := Option.some.inj hN2
    rw [this] at h3
    simp at h3
  intro ρ st σ F H α D E R S p hE
  simp only [xs] at p
  intro pins s I
  have hk : X.env.scope.kind = .function := I.ok.kind
  refine (ps_par xo.calm xo.nd (by rw [xo.hN]; exact hN1) (by rw [xo.hN]; exact hN2) hij (by rw [xo.sc]; exact l1.1) (by rw [xo.sc]; exact l1.2) (pa_cons (wE_pe X a) (pa_cons (wE_pe X b) pa_nil (star_cons h5)) (star_cons h4)) ?_ rfl).run pins s σ H D I ?_
  · have k1 : X.env.kindOf x1 = some .local := by unfold PySem.Env.kindOf; rw [xo.sc]; exact l1.1
    have k2 : X.env.kindOf x2 = some .local := by unfold PySem.Env.kindOf; rw [xo.sc]; exact l1.2
    exact swapped_two hk k1 k2 h2 h3 h4 h5 h6 h7
  · refine ha.stp R S p hE fun d F1 H1 α1 s1 v R1 S1 X1 r1 p1 => ?_
    refine hb.stp R1 S1 p1 hE fun d2 F2 H2 α2 s2 v2 R2 S2 X2 r2 p2 => ?_
    exact ⟨v, v2, rfl, p2.here R2 _ ((S2.put i (r1.ext X2)).put j r2)⟩
theorem view_tup {F H : Hp} {α : List Addr} {st : Sto} {v : V} {d : D} {ds : List D} (R : SR G F H α st) (r : Rp G F α v d) (e : view st d = .tup ds) : Rp G F α v (.tup ds) := by
  cases d with
  | ref m =>
    obtain ⟨p, en, rfl, h1, h2, h3⟩ := r.refAt R
    unfold view at e
    simp only [h2] at e
    cases en with
    | fz d => simp only at e; subst e; exact h3.2.2
    | _ => simp at e
  | tup xs => unfold view at e; simp only at e; rw [← e]; exact r
  | _ => unfold view at e; simp at e
theorem ss_setT (xo : XOk G gf T C kk n X) (to : TOk X) {ts : List Expr} {is : List Nat} {e : Expr} {x : Ex} {q1 : Nat} {q2 pz : Pos} (ht : tgOf n (.Tuple ts q1 q2) = some (is, true)) (hl : isLc e = false) (htup : isTup e = false) (he : SE G X W e (fun ρ st => ev T C b0 ρ x st)) :
    SSt G X W (.Assign [.Tuple ts q1 q2] e pz) (fun ρ st => xs T C b0 w (.setT is x) ρ st) := by
  intro ρ st σ F H α D E R S p hE
  simp only [xs] at p
  have hg := pg_tg (X := X) xo.calm xo.hN xo.sc xo.nd ht (fun e _ x p h => .inl (to.fn x))
  refine ps_w (ps_asg (wE_pe X e) hg swaps_tup (swapped_tup htup) rfl) (he.stp R S p hE fun d F1 H1 α1 s1 v R1 S1 X1 r1 p1 => ?_)
  cases ev : view s1 d with
  | tup ds =>
    rw [ev] at p1
    cases et : target ρ is true (.tup ds) with
    | none => rw [et] at p1; exact p1.elim
    | some ρ' =>
      rw [et] at p1
      exact gOf_ok R1 xo.hK (.inl (view_tup R1 r1 ev)) S1 et fun σ' S' _ => p1.here R1 _ S'
  | _ => rw [ev] at p1; exact p1.elim
/-! ### fields, items -/
theorem rfs_put {F : Hp} {α : List Addr} {nm : Str} {f : Nat} {v : V} {d : D} (hf : G.fnm f = nm ∧ ∀ g, G.fnm g = nm → g = f) (rv : Rp G F α v d) : ∀ {fvs : List (Str × V)} {gs : List Nat} {ds : List D}, Rfs G F α fvs gs ds → Rfs G F α (putF nm v fvs) (putf gs ds f d).1 (putf gs ds f d).2
  | _, _, _, .nil => .cons hf.1.symm rv .nil
  | _, _, _, .cons (x := x) (f := g) (v := u) (d := du) (fvs := fvs) (fs := fs) (ds := ds) e h r => by
    unfold putF putf
    by_cases hg : g = f
    · subst hg
      rw [if_pos (e.trans hf.1), if_pos rfl]
      exact .cons e rv r
    · rw [if_neg (fun z => hg (hf.2 g (e.symm.trans z))), if_neg hg]
      exact .cons e h (rfs_put hf rv r)
theorem Rfs.len {F : Hp} {α : List Addr} : ∀ {fvs : List (Str × V)} {gs : List Nat} {ds : List D}, Rfs G F α fvs gs ds → fvs.length = gs.length
  | _, _, _, .nil => rfl
  | _, _, _, .cons _ _ r => by rw [List.length_cons, List.length_cons, r.len]
theorem ss_setF (xo : XOk G gf T C kk n X) {o e : Expr} {xo' xe : Ex} {nm : Str} {f : Nat} {q pz : Pos} (hf : n.fld nm = some f) (ho : SE G X W o (fun ρ st => ev T C b0 ρ xo' st)) (he : SE G X W e (fun ρ st => ev T C b0 ρ xe st)) :
    SSt G X W (.Assign [.Attribute o nm q] e pz) (fun ρ st => xs T C b0 w (.setF xo' f xe) ρ st) := by
  intro ρ st σ F H α D E R S p hE
  simp only [xs] at p
  refine ps_w (ps_fld (wE_pe X o) (wE_pe X e) swaps_attr) (he.stp R S p hE fun d F1 H1 α1 s1 v R1 S1 X1 r1 p1 => ?_)
  refine ho.stp R1 S1 p1 hE fun a F2 H2 α2 s2 u R2 S2 X2 r2 p2 => ?_
  have hx := view_ok R2 r2
  cases es : stF T b0 a f d s2 with
  | none => rw [es] at p2; exact p2.elim
  | some s3 =>
    rw [es] at p2
    unfold stF at es
    split at es
    · rename_i m c fs vs ev
      rw [ev] at hx
      obtain ⟨p0, dx, fvs, rfl, h1, rr⟩ := hx
      split at es
      · rename_i hc
        rw [Bool.and_eq_true, decide_eq_true_eq] at hc
        unfold wr at es
        split at es
        · rename_i hw
          rw [Bool.and_eq_true] at hw
          cases es
          obtain ⟨p', hn, ep, hl, hF⟩ := wr_at R2 r2 (e := .ins c (putf fs vs f d).1 (putf fs vs f d).2) (ok := LS.D.nr d) (b := b0)
          cases ep
          have hF := hF hw.1
          refine ⟨p0, _, dx, fvs, rfl, h1, by rw [xo.hK]; exact (xo.tie.cls c hc.2).1, by rw [xo.hK]; exact xo.tie.noat c nm f hc.2 hf, by rw [rr.len]; omega, ?_⟩
          obtain ⟨R3, X3⟩ := R2.write (o := .ins (G.cad c) dx (putF nm v fvs)) (e := .ins c (putf fs vs f d).1 (putf fs vs f d).2) hn hF ⟨hF, dx, _, upd_same, rfs_put (xo.tie.fld nm f hf) (r1.ext X2) rr⟩
          exact p2.now R3 X3 _ (S2.mono X3)
        · cases es
      · cases es
    · cases es
def wPut (X : Cx) : TSet := fun o i v H Q => ∃ t, PSet X t ∧ t o i v H Q
theorem wPut_p (X : Cx) : PSet X (wPut X) := fun pins s σ H o i v ov iv u Q I ro ri rv h => by
  obtain ⟨t, ht, q⟩ := h
  exact ht pins s σ H o i v ov iv u Q I ro ri rv q
theorem ss_setI (xo : XOk G gf T C kk n X) {o i e : Expr} {yo yi ye : Ex} {q pz : Pos} (hsl : isSlice i = false) (ho : SE G X W o (fun ρ st => ev T C b0 ρ yo st)) (hi : SE G X W i (fun ρ st => ev T C b0 ρ yi st)) (he : SE G X W e (fun ρ st => ev T C b0 ρ ye st)) :
    SSt G X W (.Assign [.Subscript o i q] e pz) (fun ρ st => xs T C b0 w (.setI yo yi ye) ρ st) := by
  intro ρ st σ F H α D E R S p hE
  simp only [xs] at p
  refine ps_w (ps_asg (wE_pe X e) (pg_sub (wE_pe X o) (wE_pe X i) (wPut_p X) (assign_sub hsl)) swaps_sub swapped_sub rfl) (he.stp R S p hE fun d F1 H1 α1 s1 v R1 S1 X1 r1 p1 => ?_)
  refine ho.stp R1 S1 p1 hE fun a F2 H2 α2 s2 u R2 S2 X2 r2 p2 => ?_
  refine hi.stp R2 S2 p2 hE fun k F3 H3 α3 s3 z R3 S3 X3 r3 p3 => ?_
  have r2' := r2.ext X3
  have r1' := (r1.ext X2).ext X3
  have hx := view_ok R3 r2'
  cases es : stI b0 a k d s3 with
  | none => rw [es] at p3; exact p3.elim
  | some s4 =>
    rw [es] at p3
    unfold stI at es
    split at es
    · rename_i m xs ev
      rw [ev] at hx
      obtain ⟨p0, vs, rfl, h1, rr⟩ := hx
      split at es
      rotate_left
      · cases es
      rename_i j
      cases ep : plc xs.length j with
      | none => rw [ep] at es; cases es
      | some jj =>
        rw [ep] at es
        have es : wr b0 s3 m (.lst (xs.set jj d)) (LS.D.nr d) = some s4 := es
        unfold wr at es
        split at es
        · rename_i hw
          rw [Bool.and_eq_true] at hw
          cases es
          obtain ⟨p', hn, ep2, hl, hF⟩ := wr_at R3 r2' (e := .lst (xs.set jj d)) (ok := LS.D.nr d) (b := b0)
          cases ep2
          have hF := hF hw.1
          cases r3
          obtain ⟨R4, X4⟩ := R3.write (o := .lst (vs.set jj v)) (e := .lst (xs.set jj d)) hn hF ⟨hF, _, upd_same, rr.set jj r1'⟩
          exact ⟨_, set_list, p0, vs, j, jj, rfl, rfl, h1, by rw [rr.len]; exact ep, p3.now R4 X4 _ (S3.mono X4)⟩
        · cases es
    · rename_i m ks vs ev
      rw [ev] at hx
      obtain ⟨p0, kvs, rfl, h1, rr⟩ := hx
      split at es
      · rename_i hk
        rw [Bool.and_eq_true, decide_eq_true_eq] at hk
        unfold wr at es
        split at es
        · rename_i hw
          rw [Bool.and_eq_true] at hw
          cases es
          obtain ⟨p', hn, ep2, hl, hF⟩ := wr_at R3 r2' (e := .dic (putd ks vs k d).1 (putd ks vs k d).2) (ok := LS.D.nr k && LS.D.nr d) (b := b0)
          cases ep2
          have hF := hF hw.1
          have hkr : ∀ m, k ≠ .ref m := fun m z => by subst z; simp [isKey] at hk
          obtain ⟨ky, rfl, rfl, rk⟩ := key_of_d (r3.inH R3.sub hkr) hk.1
          obtain ⟨R4, X4⟩ := R3.write (o := .dK (putK kvs ky v)) (e := .dic (putd ks vs (keyD ky) d).1 (putd ks vs (keyD ky) d).2) hn hF ⟨hF, _, upd_same, putK_put rr rk r1'⟩
          exact ⟨_, set_dict (by have := xu xo.room; omega), p0, _, rfl, .inl ⟨kvs, ky, h1, rfl, by rw [rr.len]; exact hk.2, rfl⟩, p3.now R4 X4 _ (S3.mono X4)⟩
        · cases es
      · cases es
    · cases es
theorem ss_aug (xo : XOk G gf T C kk n X) (to : TOk X) {nm : Str} {i : Nat} {e : Expr} {x : Ex} {q pz : Pos} (hi : tgName n nm = some i) (he : SE G X W e (fun ρ st => ev T C b0 ρ x st)) : SSt G X W (.AugAssign (.Name nm q) .Add e pz) (fun ρ st => xs T C b0 w (.aug i .add x) ρ st) := by
  obtain ⟨h1, h2⟩ := tgName_ok hi
  intro ρ st σ F H α D E R S p hE
  simp only [xs] at p
  split at p
  · rename_i a ha
    obtain ⟨v0, hv, rv⟩ := S.2 i a ha
    refine ps_w (ps_aug xo.nd (by rw [xo.hN]; exact h2) (by rw [xo.sc]; exact loc_of h1) (wE_pe X e) ip_add (.inl (to.fn nm))) ⟨v0, hv, he.stp R S p hE fun d F1 H1 α1 s1 v R1 S1 X1 r1 p1 => ?_⟩
    cases a with
    | int j1 =>
      cases d with
      | int j2 =>
        cases rv
        cases r1
        exact ⟨j1, j2, rfl, rfl, p1.here R1 _ (S1.put i (.int _))⟩
      | _ => exact p1.elim
    | _ => exact p1.elim
  · exact p.elim
/-! ### freezing -/
theorem rkv_vals {F : Hp} {α : List Addr} : ∀ {kvs : List (Key × V)} {ks ds : List LS.D}, Rkv G F α kvs ks ds → Rps G F α (kvs.map (·.2)) ds
  | _, _, _, .nil => .nil
  | _, _, _, .cons _ _ h r => .cons h (rkv_vals r)
theorem rkv_with {F : Hp} {α : List Addr} : ∀ {kvs : List (Key × V)} {ks ds es : List LS.D}, Rkv G F α kvs ks ds → Rps G F α (kvs.map (·.2)) es → Rkv G F α kvs ks es
  | _, _, _, _, .nil, .nil => .nil
  | _, _, _, _, .cons e ok _ r, .cons h' r' => .cons e ok h' (rkv_with r r')
theorem rfs_vals {F : Hp} {α : List Addr} : ∀ {kvs : List (Str × V)} {ks : List Nat} {ds : List LS.D}, Rfs G F α kvs ks ds → Rps G F α (kvs.map (·.2)) ds
  | _, _, _, .nil => .nil
  | _, _, _, .cons _ h r => .cons h (rfs_vals r)
theorem rfs_with {F : Hp} {α : List Addr} : ∀ {kvs : List (Str × V)} {ks : List Nat} {ds es : List LS.D}, Rfs G F α kvs ks ds → Rps G F α (kvs.map (·.2)) es → Rfs G F α kvs ks es
  | _, _, _, _, .nil, .nil => .nil
  | _, _, _, _, .cons e _ r, .cons h' r' => .cons e h' (rfs_with r r')
theorem frz_ok : ∀ (k : Nat) {v : V} {d d' : LS.D} {st st' : Sto} {F H : Hp} {α : List Addr}, SR G F H α st → Rp G F α v d → freeze b0 k d st = .ok d' st' → ∃ F', SR G F' H α st' ∧ Ext F H α F' H α ∧ Rp G F' α v d' := by
  intro k
  induction k with
  | zero =>
    intro v d d' st st' F H α R r h
    cases d <;> simp only [freeze] at h <;> first | (cases h; exact ⟨F, R, Ext.refl, r⟩) | cases h
  | succ k ih =>
    have ih1 : ∀ {xs ys : List LS.D} {vs : List V} {st st' : Sto} {F H : Hp} {α : List Addr}, SR G F H α st → Rps G F α vs xs → freeze.frz1 b0 k xs st = .ok ys st' → ∃ F', SR G F' H α st' ∧ Ext F H α F' H α ∧ Rps G F' α vs ys := by
      intro xs
      induction xs with
      | nil =>
        intro ys vs st st' F H α R r h
        simp only [freeze.frz1] at h
        cases h
        cases r
        exact ⟨F, R, Ext.refl, .nil⟩
      | cons x xs ihx =>
        intro ys vs st st' F H α R r h
        simp only [freeze.frz1] at h
        cases r with
        | cons h1 r =>
          cases e1 : freeze b0 k x st with
          | no => rw [e1] at h; cases h
          | ex _ _ _ _ => rw [e1] at h; cases h
          | ok y s1 =>
            rw [e1] at h
            simp only [Rs.bind_ok] at h
            obtain ⟨F1, R1, X1, r1⟩ := ih R h1 e1
            cases e2 : freeze.frz1 b0 k xs s1 with
            | no => rw [e2] at h; cases h
            | ex _ _ _ _ => rw [e2] at h; cases h
            | ok ys' s2 =>
              rw [e2] at h
              cases h
              obtain ⟨F2, R2, X2, r2⟩ := ihx R1 (r.ext X1) e2
              exact ⟨F2, R2, X1.trans X2, .cons (r1.ext X2) r2⟩
    intro v d d' st st' F H α R r h
    have wrap : ∀ {n : Nat} {a : Addr} {s s' : Sto} {F1 : Hp} {o : HO} {d0 : LS.D} {ok : Bool}, SR G F1 H α s → Ext F H α F1 H α → α[n]? = some a → H a = some o → (∀ m, d0 ≠ .ref m) → Rp G F1 α (.ref a) (.ref n) → (F1 a = none → Rp G (upd F1 a o) α (.ref a) d0) → wr b0 s n (.fz d0) ok = some s' →
        ∃ F', SR G F' H α s' ∧ Ext F H α F' H α ∧ Rp G F' α (.ref a) d0 := by
      intro n a s s' F1 o d0 ok R1 X1 hn hH hr rn hd hw
      unfold wr at hw
      split at hw
      · rename_i hc
        rw [Bool.and_eq_true] at hc
        cases hw
        obtain ⟨p', hn', ep, hl, hF⟩ := wr_at R1 rn (e := .fz d0) (ok := ok) (b := b0)
        cases ep
        have hF := hF hc.1
        obtain ⟨R2, X2⟩ := R1.still (d := d0) hn hF hH hr (hd hF)
        exact ⟨_, R2, X1.trans X2, hd hF⟩
      · cases hw
    cases d with
    | ref m =>
      obtain ⟨p, e, rfl, h1, h2, h3⟩ := r.refAt R
      simp only [freeze, h2] at h
      cases e with
      | fz d0 => cases h; exact ⟨F, R, Ext.refl, h3.2.2⟩
      | lst xs =>
        simp only at h
        obtain ⟨hF, vs, hH, rr⟩ := h3
        cases e1 : freeze.frz1 b0 k xs st with
        | no => rw [e1] at h; cases h
        | ex _ _ _ _ => rw [e1] at h; cases h
        | ok ys s1 =>
          rw [e1] at h
          simp only [Rs.bind_ok] at h
          obtain ⟨F1, R1, X1, r1⟩ := ih1 R rr e1
          split at h
          · rename_i s' hw
            cases h
            exact wrap R1 X1 h1 hH (fun m z => by cases z) (.ref h1) (fun hF1 => .lst upd_same (r1.mono (same_upd hF1) (List.prefix_refl _))) hw
          · cases h
      | dic ks vs0 =>
        simp only at h
        obtain ⟨hF, kvs, hH, rr⟩ := h3
        cases e1 : freeze.frz1 b0 k vs0 st with
        | no => rw [e1] at h; cases h
        | ex _ _ _ _ => rw [e1] at h; cases h
        | ok ys s1 =>
          rw [e1] at h
          simp only [Rs.bind_ok] at h
          obtain ⟨F1, R1, X1, r1⟩ := ih1 R (rkv_vals rr) e1
          split at h
          · rename_i s' hw
            cases h
            exact wrap R1 X1 h1 hH (fun m z => by cases z) (.ref h1) (fun hF1 => .dic upd_same ((rkv_with (rr.mono X1.f X1.a) r1).mono (same_upd hF1) (List.prefix_refl _))) hw
          · cases h
      | ins c fs vs0 =>
        simp only at h
        obtain ⟨hF, dx, fvs, hH, rr⟩ := h3
        cases e1 : freeze.frz1 b0 k vs0 st with
        | no => rw [e1] at h; cases h
        | ex _ _ _ _ => rw [e1] at h; cases h
        | ok ys s1 =>
          rw [e1] at h
          simp only [Rs.bind_ok] at h
          obtain ⟨F1, R1, X1, r1⟩ := ih1 R (rfs_vals rr) e1
          split at h
          · rename_i s' hw
            cases h
            exact wrap R1 X1 h1 hH (fun m z => by cases z) (.ref h1) (fun hF1 => .ins upd_same ((rfs_with (rr.mono X1.f X1.a) r1).mono (same_upd hF1) (List.prefix_refl _))) hw
          · cases h
    | _ => simp only [freeze] at h; cases h; exact ⟨F, R, Ext.refl, r⟩
theorem frz_ex : ∀ (k : Nat) {d : LS.D} {st : Sto} {c1 : Nat} {c2 : List Nat} {c3 : List LS.D} {c4 : Sto}, freeze b0 k d st ≠ .ex c1 c2 c3 c4 := by
  intro k
  induction k with
  | zero => intro d st c1 c2 c3 c4 h; cases d <;> simp only [freeze] at h <;> cases h
  | succ k ih =>
    have ih1 : ∀ {xs : List LS.D} {st : Sto} {c1 : Nat} {c2 : List Nat} {c3 : List LS.D} {c4 : Sto}, freeze.frz1 b0 k xs st ≠ .ex c1 c2 c3 c4 := by
      intro xs
      induction xs with
      | nil => intro st c1 c2 c3 c4 h; simp only [freeze.frz1] at h; cases h
      | cons x xs ihx =>
        intro st c1 c2 c3 c4 h
        simp only [freeze.frz1] at h
        cases e1 : freeze b0 k x st with
        | no => rw [e1] at h; cases h
        | ex _ _ _ _ => exact ih e1
        | ok y s1 =>
          rw [e1] at h
          simp only [Rs.bind_ok] at h
          cases e2 : freeze.frz1 b0 k xs s1 with
          | no => rw [e2] at h; cases h
          | ex _ _ _ _ => exact ihx e2
          | ok _ _ => rw [e2] at h; cases h
    intro d st c1 c2 c3 c4 h
    cases d with
    | ref m =>
      simp only [freeze] at h
      split at h
      · cases h
      · rename_i xs _
        cases e1 : freeze.frz1 b0 k xs st with
        | no => rw [e1] at h; cases h
        | ex _ _ _ _ => exact ih1 e1
        | ok _ _ => rw [e1] at h; simp only [Rs.bind_ok] at h; split at h <;> cases h
      · rename_i xs _
        cases e1 : freeze.frz1 b0 k xs st with
        | no => rw [e1] at h; cases h
        | ex _ _ _ _ => exact ih1 e1
        | ok _ _ => rw [e1] at h; simp only [Rs.bind_ok] at h; split at h <;> cases h
      · rename_i xs _
        cases e1 : freeze.frz1 b0 k xs st with
        | no => rw [e1] at h; cases h
        | ex _ _ _ _ => exact ih1 e1
        | ok _ _ => rw [e1] at h; simp only [Rs.bind_ok] at h; split at h <;> cases h
      · cases h
    | _ => simp only [freeze] at h; cases h
theorem ss_ret {e : Expr} {x : Ex} {pz : Pos} (he : SE G X W e (fun ρ st => ev T C b0 ρ x st)) : SSt G X W (.Return (some e) pz) (fun ρ st => xs T C b0 w (.ret x) ρ st) := by
  intro ρ st σ F H α D E R S p hE
  simp only [xs] at p
  refine ps_w (ps_ret (wE_pe X e)) (he.stp R S p hE fun d F1 H1 α1 s1 v R1 S1 X1 r1 p1 => ?_)
  cases ef : freeze b0 6 d s1 with
  | no => rw [ef] at p1; exact p1.elim
  | ex _ _ _ _ => exact absurd ef (frz_ex 6)
  | ok d' s' =>
    rw [ef] at p1
    obtain ⟨F2, R2, X2, r2⟩ := frz_ok 6 R1 r1 ef
    exact p1.now R2 X2 _ r2
theorem ss_ret0 {pz : Pos} : SSt G X W (.Return none pz) (fun ρ st => xs T C b0 w (.ret (.k .non)) ρ st) := by
  intro ρ st σ F H α D E R S p hE
  simp only [xs, ev, Rs.bind_ok, freeze] at p
  exact ps_w ps_retN (p.here R _ .non)
end
end LS
end
section
set_option Elab.async false
set_option linter.all false
set_option maxRecDepth 10000
/-! LS, part 14: blocks, loops, exceptions. -/
namespace LS
open PySem PySem.Spec PyProof.Rows L2
section
variable {G : Gm} {gf : Gf} {T : Tb} {C : Nat → List D → Sto → Rs D} {kk b0 : Nat} {X : Cx} {W : WX} {n : Cn} {w : Nat}
theorem sss_nil : SSs G X W [] (fun ρ st => xss T C b0 w [] ρ st) := by
  intro ρ st σ F H α D E R S p hE
  simp only [xss] at p
  exact pss_w pss_nil (p.here R _ S)
theorem sss_cons {s : Stmt} {ss : List Stmt} {x : Sx} {xs' : List Sx} (h1 : SSt G X W s (fun ρ st => xs T C b0 w x ρ st)) (h2 : SSs G X W ss (fun ρ st => xss T C b0 w xs' ρ st)) : SSs G X W (s :: ss) (fun ρ st => xss T C b0 w (x :: xs') ρ st) := by
  intro ρ st σ F H α D E R S p hE
  simp only [xss] at p
  refine pss_w (pss_cons (wS_ps X s) (wSs_pss X ss)) (h1 R S (p.bind.imp fun fl F1 H1 α1 s1 R1 X1 p1 => ?_) hE)
  cases fl with
  | nx ρ1 => exact fun σ1 S1 => h2 R1 S1 p1 hE
  | bk ρ1 => exact p1.here R1
  | ct ρ1 => exact p1.here R1
  | rt d => exact p1.here R1
theorem ss_iff {t : Expr} {a b : List Stmt} {tx : Ex} {ax bx : List Sx} {pz : Pos} (ht : STe G X W t (fun ρ st => ev T C b0 ρ tx st)) (ha : SSs G X W a (fun ρ st => xss T C b0 w ax ρ st)) (hb : SSs G X W b (fun ρ st => xss T C b0 w bx ρ st)) :
    SSt G X W (.If t a b pz) (fun ρ st => xs T C b0 w (.iff tx ax bx) ρ st) := by
  intro ρ st σ F H α D E R S p hE
  simp only [xs] at p
  refine ps_w (ps_if (wT_pt X t) (wSs_pss X a) (wSs_pss X b)) (ht.stp R S p hE (fun d s h => by cases d <;> first | rfl | exact absurd rfl (h _)) fun bb F1 H1 α1 s1 R1 S1 X1 p1 => ?_)
  cases bb with
  | true => exact ha R1 S1 p1 hE
  | false => exact hb R1 S1 p1 hE
theorem ss_for (xo : XOk G gf T C kk n X) (to : TOk X) (hp : PassesOwn (model X.prog X.w) X.A X.env X.xe) {tg it : Expr} {is : List Nat} {tt : Bool} {itx : Ex} {bd : List Stmt} {bx : List Sx} {pz : Pos} (ht : tgOf n tg = some (is, tt)) (hset : isSet it = false)
    (hi : SI G X W tg tt it (fun ρ st => wk T C b0 ρ itx st)) (hb : SSs G X W bd (fun ρ st => xss T C b0 w bx ρ st)) : SSt G X W (.For tg it bd [] pz) (fun ρ st => xs T C b0 w (.for is tt itx bx) ρ st) := by
  intro ρ st σ F H α D E R S p hE
  simp only [xs] at p
  have hg := pg_tg (X := X) xo.calm xo.hN xo.sc xo.nd ht (by unfold StoT; split <;> first | exact fun e _ x p h => .inl (to.fn x) | exact fun x p h => .inl (to.fn x))
  refine ps_w (ps_for hp xo.calm (wI_pi X tg it) hg (wSs_pss X bd) (folded_of hset)) ?_
  refine hi R S ((p.bind.imp fun ds F1 H1 α1 s1 R1 X1 p1 => ?_).impE fun c d H h => hE c d σ H h)
  intro J hJ
  refine ⟨fun i m σ' H' => ∃ F' α' s' ρ', SR G F' H' α' s' ∧ Ext F1 H1 α1 F' H' α' ∧ SlR G F' α' σ' ρ' ∧ i + m = ds.length ∧ Pst G F' H' α' (forL (fun d ρ1 s1 => match target ρ1 is tt d with
      | some ρ2 => xss T C b0 w bx ρ2 s1
      | none => .no) (ds.drop i) ρ' s') (KF G D) E, ⟨ds.length, F1, α1, s1, ρ, R1, Ext.refl, S.mono X1, Nat.zero_add _, p1⟩, ?_⟩
  rintro i m σ' H' ⟨F', α', s', ρ', R', X', S', him, p'⟩
  obtain ⟨w1, w2⟩ := hJ i F' H' α' s' R' X'
  cases m with
  | zero =>
    have hi' : i = ds.length := by omega
    subst hi'
    rw [List.drop_length] at p'
    unfold forL at p'
    exact .inl ⟨w1 (Nat.le_refl _), p'.here R' _ S'⟩
  | succ m =>
    have hlt : i < ds.length := by omega
    have hd : ds[i]? = some ds[i] := List.getElem?_eq_getElem hlt
    rw [List.drop_eq_getElem_cons hlt] at p'
    obtain ⟨g1, g2⟩ := w2 _ hd
    unfold forL at p'
    refine .inr ⟨g1, _, fun σ2 H2 h => ⟨m, Nat.lt_succ_self _, h⟩, fun v H2 hy => ?_⟩
    obtain ⟨R2, X2, rT⟩ := g2 v H2 hy
    have p2 := p'.ext X2
    cases et : target ρ' is tt ds[i] with
    | none => simp only [et, Rs.bind_no] at p2; exact p2.elim
    | some ρ2 =>
      simp only [et] at p2
      refine gOf_ok R2 xo.hK rT (S'.mono X2) et fun σ3 S3 _ => hb R2 S3 (p2.bind.imp fun fl F4 H4 α4 s4 R4 X4 p4 => ?_) hE
      cases fl with
      | nx ρ4 => exact fun σ4 S4 => ⟨F4, α4, s4, ρ4, R4, (X'.trans X2).trans X4, S4, by omega, p4⟩
      | ct ρ4 => exact fun σ4 S4 => ⟨F4, α4, s4, ρ4, R4, (X'.trans X2).trans X4, S4, by omega, p4⟩
      | bk ρ4 => exact p4.here R4
      | rt d => exact p4.here R4
theorem ss_whl (xo : XOk G gf T C kk n X) (hp : PassesOwn (model X.prog X.w) X.A X.env X.xe) {t : Expr} {tx : Ex} {bd : List Stmt} {bx : List Sx} {pz : Pos} (ht : STe G X W t (fun ρ st => ev T C b0 ρ tx st)) (hb : SSs G X W bd (fun ρ st => xss T C b0 w bx ρ st)) :
    SSt G X W (.While t bd [] pz) (fun ρ st => xs T C b0 w (.whl tx bx) ρ st) := by
  intro ρ st σ F H α D E R S p hE
  simp only [xs] at p
  refine ps_w (ps_while hp (wT_pt X t) (wSs_pss X bd)) ?_
  refine ⟨fun m σ' H' => ∃ F' α' s' ρ', SR G F' H' α' s' ∧ SlR G F' α' σ' ρ' ∧ Pst G F' H' α' (whL (fun ρ1 s1 => ev T C b0 ρ1 tx s1) (fun ρ1 s1 => xss T C b0 w bx ρ1 s1) m ρ' s') (KF G D) E, ⟨w, F, α, st, ρ, R, S, p⟩, ?_⟩
  rintro m σ' H' ⟨F', α', s', ρ', R', S', p'⟩
  cases m with
  | zero => unfold whL at p'; exact p'.elim
  | succ m =>
    unfold whL at p'
    refine ht.stp R' S' p' hE (fun d s h => by cases d <;> first | rfl | exact absurd rfl (h _)) fun bb F1 H1 α1 s1 R1 S1 X1 p1 => ?_
    cases bb with
    | false => exact p1.here R1 _ S1
    | true =>
      simp only [if_true]
      refine ⟨_, fun σ2 H2 h => ⟨m, Nat.lt_succ_self _, h⟩, hb R1 S1 (p1.bind.imp fun fl F4 H4 α4 s4 R4 X4 p4 => ?_) hE⟩
      cases fl with
      | nx ρ4 => exact fun σ4 S4 => ⟨F4, α4, s4, ρ4, R4, S4, p4⟩
      | ct ρ4 => exact fun σ4 S4 => ⟨F4, α4, s4, ρ4, R4, S4, p4⟩
      | bk ρ4 => exact p4.here R4
      | rt d => exact p4.here R4
theorem ss_brk {pz : Pos} : SSt G X W (.Break pz) (fun ρ st => xs T C b0 w .brk ρ st) := by
  intro ρ st σ F H α D E R S p hE
  simp only [xs] at p
  exact ps_w ps_break (p.here R _ S)
theorem ss_cnt {pz : Pos} : SSt G X W (.Continue pz) (fun ρ st => xs T C b0 w .cnt ρ st) := by
  intro ρ st σ F H α D E R S p hE
  simp only [xs] at p
  exact ps_w ps_continue (p.here R _ S)
theorem ss_pass {pz : Pos} : SSt G X W (.Pass pz) (fun ρ st => xs T C b0 w .pass ρ st) := by
  intro ρ st σ F H α D E R S p hE
  simp only [xs] at p
  exact ps_w ps_pass (p.here R _ S)
/-! ### raise, try -/
theorem ss_rais (xo : XOk G gf T C kk n X) (tk : Takes X W) {x m : Str} {c j : Nat} {p1 p2 p3 pz : Pos} (hc : n.cl x = some c) (hk : n.kd c = 1) (hg : Gl X x) (hdb : (x == ("__debug__" : Str)) = false) :
    SSt G X W (.Raise (some (.Call (.Name x p1) [.Constant (.str m) j p2] [] p3)) none pz) (fun ρ st => xs T C b0 w (.rais c) ρ st) := by
  intro ρ st σ F H α D E R S p hE
  simp only [xs] at p
  obtain ⟨⟨B, newId, initId, bmB, f1, f2⟩, f3, f4⟩ := xo.tie.rs x c hc hk
  obtain ⟨h1, h2, h3, h4⟩ := xo.tie.cl x c hc
  refine ps_w (ps_raise xo.calm tk (pmk_own f1 (by rw [xo.hK]; exact f2) h1 (by rw [xo.hK]; exact h4) (raises_own (by rw [xo.hK]; exact f3) (by rw [xo.hK]; exact f4)) hg hdb)) ?_
  exact hE _ _ _ _ (p F H α R Ext.refl rfl rfl)
theorem ss_tryK (xo : XOk G gf T C kk n X) (to : TOk X) (tk : Takes X W) {x y : Str} {c i j : Nat} {cn : Const} {v : V} {d0 : LS.D} {bd : Stmt} {bx : Sx} {p1 p2 p3 p4 p5 pz : Pos} (hc : n.cl x = some c) (hg : Gl X x) (hdb : (x == ("__debug__" : Str)) = false) (hi : tgName n y = some i)
    (hb : ∀ (W' : WX) (pn : List (Addr × Obj)) (xe : Value → Shared → Prop), Takes (X.tr pn xe) W' → SSb G (X.tr pn xe) W' bd (fun ρ st => xs T C b0 w bx ρ st)) (hv : ∀ X' : Cx, PE X' (.Constant cn j p2) (tC v)) (hr : ∀ F α, Rp G F α v d0) :
    SSt G X W (.Try [bd] [.ExceptHandler (some (.Name x p1)) none [.Assign [.Name y p3] (.Constant cn j p2) p4] p5] [] [] pz) (fun ρ st => xs T C b0 w (.tryK bx c i d0) ρ st) := by
  obtain ⟨h1, h2⟩ := tgName_ok hi
  intro ρ st σ F H α D E R S p hE
  simp only [xs] at p
  refine ps_w (ps_try_only (c := .ref (G.cad c)) (tb := fun W' D σ H => ∀ (pn : List (Addr × Obj)) (xe : Value → Shared → Prop), Takes (X.tr pn xe) W' → wSs (X.tr pn xe) [bd] D σ H) (ts := fun _ _ _ => tAsg (tC v) (gName i)) to.stk to.fr ⟨hg, hdb, .inl (xo.tie.cl x c hc).1⟩ tk
    (fun W' pn xe tk' _ => ⟨fun pins s σ H D I h => h pn xe tk' pins s I⟩) (fun a oe cls d pn _ _ => pss_one (ps_set xo.nd (show X.N[i]? = some y by rw [xo.hN]; exact h2) (show L2.Loc X.env.scope y by rw [xo.sc]; exact loc_of h1) (hv _) (by rfl) (.inl (to.fn y))))) ?_
  intro pn xe tk'
  refine pss_w (pss_one (wS_ps (X.tr pn xe) bd)) (hb _ pn xe tk' R S ?_)
  show Pst G F H α (xs T C b0 w bx ρ st) _ _
  cases hx : xs T C b0 w bx ρ st with
  | no => rw [hx] at p; exact p.elim
  | ok fl s => rw [hx] at p; exact p
  | ex e fs vs s =>
    rw [hx] at p
    intro F1 H1 α1 R1 X1 e1 e2
    subst e1 e2
    simp only at p
    split at p
    · rename_i hex
      refine ⟨T.sub e c, by rw [xo.hK]; exact xo.tie.exm e c hex, fun hb a _ => ?_, fun hb => ?_⟩
      · rw [if_pos hb] at p
        exact p.now R1 X1 _ ((S.mono X1).put i (hr _ _))
      · rw [if_neg (by rw [hb]; exact Bool.false_ne_true)] at p
        exact hE _ _ _ _ (p F1 H1 α1 R1 X1 rfl rfl)
    · exact p.elim
end
/-- a caught exception is known from now on -/
theorem inv_track {X : Cx} {pins : List (Addr × Obj)} {σ : L2.St} {H : Hp} {s : Shared} {a : Addr} {oe : Obj} {cls : Value} (I : Inv X ((a, oe) :: pins) σ H s) (hz : Zc cls none oe) (hv : ∃ vs, oe.data = .fields vs) (h0 : X.s_0.heap.get? a = none) (hp : ∀ p ∈ X.pn ++ pins, p.1 ≠ a) :
    Inv X pins σ (upd H a (ExH cls a)) s := by
  obtain ⟨p1, p2, p3, p4, p5⟩ := I.pin (a, oe) (List.mem_append_right _ (List.mem_cons_self ..))
  have ne : ∀ {b : Addr} {u : HO}, H b = some u → b ≠ a := fun {b u} e z => by rw [z, p2] at e; cases e
  refine ⟨I.ok, I.os, I.bare, ⟨I.base.keep, I.base.slot, fun b o e h hx => ?_, I.base.there, fun b xs e => ?_, fun b o u e => ?_, fun b ps e => ?_⟩, I.loc, I.cell, ?_, fun x c e => ?_, fun p h => ?_, fun b u e => ?_, I.len⟩
  · rw [upd_ne (fun z => by rw [z, h0] at e; cases e)]; exact I.base.free b o e h hx
  · have q := I.base.tups b xs e; rw [upd_ne (ne q)]; exact q
  · have q := I.base.frzs b o u e; rw [upd_ne (ne q)]; exact q
  · obtain ⟨m, q⟩ := I.base.tbls b ps e; exact ⟨m, by rw [upd_ne (ne q)]; exact q⟩
  · rw [upd_ne (Ne.symm p3)]; exact I.free
  · obtain ⟨v, o, ho, hd⟩ := I.cell x c e
    rw [upd_ne (fun z => by rw [z, p1] at ho; cases ho; exact p5 v hd)]; exact I.freeC x c e
  · obtain ⟨q1, q2, q3, q4, q5⟩ := I.pin p (by rcases List.mem_append.mp h with h | h; exact List.mem_append_left _ h; exact List.mem_append_right _ (List.mem_cons_of_mem _ h))
    exact ⟨q1, by rw [upd_ne (hp p h)]; exact q2, q3, q4, q5⟩
  · by_cases hb : b = a
    · subst hb
      rw [upd_same] at e
      cases e
      obtain ⟨vs, hvs⟩ := hv
      exact ⟨⟨oe, vs, p1, hz, hvs⟩, ⟨oe, p1⟩, fun h1 h2 ⟨o, ws, g1, g2, g3⟩ k => ⟨o, ws, k o g1, g2, g3⟩⟩
    · rw [upd_ne hb] at e
      exact (I.hok b u e).stay (fun _ _ _ q => q) (fun c q => by rw [upd_ne (ne q)]; exact q) fun c ys q => by rw [upd_ne (ne q)]; exact q
end LS
end
section
set_option Elab.async false
set_option linter.all false
set_option maxRecDepth 10000
/-! LS, part 15: try .. except X as m: y = m; all statements. -/
namespace LS
open PySem PySem.Spec PyProof.Rows L2
/-- what such a clause wishes: slot i is the clause's name, slot j is given the exception, which is known from now on -/
def wAsE (K : PySem.W.Frag) (c : Value) (i j : Nat) (Wout : WX) (D : Ends) : WX := fun cls d σ H =>
  ∃ b, PySem.W.exmOne K cls c = some b ∧ (b = true → d = none ∧ ∀ a, H a = none → D.nx (((σ.set i (some (.ref a))).set j (some (.ref a))).set i none) (upd H a (ExH cls a))) ∧ (b = false → Wout cls d σ H)
theorem ps_try_asE {X : Cx} {x m y : Str} {c : Value} {i j : Nat} {body : List Stmt} {np p1 p2 p3 pos pos' : Pos} {tb : WX → TS} {Wout : WX} (hex : X.ex = []) (hs : X.stack = X.env :: X.outer) (hf : X.env.frame = some X.env.locals) (hN : X.N.Nodup) (hi : X.N[i]? = some m) (hj : X.N[j]? = some y) (hln : X.env.kindOf m = some .local)
    (hly : L2.Loc X.env.scope y) (hfy : X.fn y = true) (hom : okName m = true) (hc : Names X x c) (tk : Takes X Wout) (hb : ∀ (W : WX) (pn : List (Addr × Obj)) (xe : Value → Shared → Prop), Takes (X.tr pn xe) W → PassesOwn (model X.prog X.w) X.A X.env xe → PSs (X.tr pn xe) body (tb W)) :
    PS X (.Try body [.ExceptHandler (some (.Name x np)) (some m) [.Assign [.Name y p1] (.Name m p2) p3] pos'] [] [] pos) (fun D σ H => tb (wAsE X.K c i j Wout D) D σ H) := by
  refine ⟨fun pins s σ H D I h => ?_⟩
  have ok := I.ok; have hfr : X.A.frames = some (X.env :: X.outer) := by rw [ok.frames, hs]
  have hloc : L2.Loc X.env.scope m := .inl hln
  refine wpAny_Try_except ?_
  refine wpAny_mono ((hb (wAsE X.K c i j Wout D) (X.pn ++ pins) (fun e s₁ => wpAny (model X.prog X.w) X.A (noteFrame e X.env) (fun _ s₂ => wpAny (model X.prog X.w) X.A (setFlight e none) (fun _ s₃ => wpAny (model X.prog X.w) X.A (handleBy e X.env [.ExceptHandler (some (.Name x np)) (some m) [.Assign [.Name y p1] (.Name m p2) p3] pos']) (SP X pins D) X.xe s₃) X.xe s₂) X.xe s₁) (fun u s' xx => ?_) PassesOwn.looking).run [] s σ H D (I.toTry _) h) (fun f s1 hsp => ?_) (fun e s1 he => he)
  · obtain ⟨a, B, sI, pins', σ', H', cls, d, rfl, J', nb, up, sky, na, os, ag, b, hb1, hyes, hno⟩ := xx; have J : Inv X pins σ' H' sI := J'.ofTry ok
    have sky' : Sky B (X.env :: X.outer) a (Zc cls d) X.env.locals s'.heap := by rw [← hs]; exact sky
    show wpAny (model X.prog X.w) X.A (noteFrame (.ref a) X.env) _ _ _
    refine Sky.land Zc.steady hfr hf sky' fun h3 fl3 up3 => ?_
    have J3 : Inv X pins σ' H' { s' with heap := h3 } := J.landed nb fl3.1 (up.trans up3) os ag; obtain ⟨oe3, vs3, he3, hz3, hd3⟩ := fl3.there
    have nfr : a ∉ frs (X.env :: X.outer) := fun hm => by
      obtain ⟨_, o', e', hnf⟩ := fl3.2.2.1.mem hm
      have e'' := he3; rw [e''] at e'; cases e'; exact hnf _ hd3
    have nL : a ≠ X.env.locals := fun z => nfr (List.mem_filterMap.mpr ⟨X.env, List.mem_cons_self, by rw [hf, z]⟩)
    have nF : a ∉ X.fs := fun hm => by obtain ⟨e, he, q⟩ := List.mem_filterMap.mp hm; exact nfr (List.mem_filterMap.mpr ⟨e, List.mem_cons_of_mem _ he, q⟩)
    have newI : sI.heap.get? a = none := by
      cases e : sI.heap.get? a with
      | none => rfl
      | some o => have := nb a o e (by rw [hs]; exact nfr); rw [fl3.2.1] at this; cases this
    have new0 : X.s_0.heap.get? a = none := by
      cases e : X.s_0.heap.get? a with
      | none => rfl
      | some o => obtain ⟨o', e'⟩ := J.base.there a o e (by rw [hex]; exact List.not_mem_nil); rw [newI] at e'; cases e'
    have newP : ∀ p ∈ X.pn ++ pins, p.1 ≠ a := fun p hp z => by have := (J.pin p hp).1; rw [z, newI] at this; cases this
    have S3 := J3.suite he3 hd3 na nL nF
    refine wpAny_handleBy_cons (codeAny_handlers_test ?_) (by intro q; cases q)
    have LT : PySem.W.Looks (model X.prog X.w) h3 (typeOf (.ref a)) cls := fun A Q E s k q => wpAny_typeOf_ref (k _ _ he3) (by rw [hz3.1]; exact q)
    have LM := PySem.W.exm_one (M := model X.prog X.w) (J3.kIn) LT hb1
    have test : ∀ {Q : Value → Shared → Prop} {E : Value → Shared → Prop}, Q c { s' with heap := h3 } → wpAny (model X.prog X.w) (X.A.mark (some (.ref a))) (eval (.Name x np) X.env) Q E { s' with heap := h3 } := fun {Q E} q => by
      obtain ⟨hg, hdbg, hm | ⟨hm, hv, hnn⟩⟩ := hc
      · exact ld_glob (X := X.suite a ((a, oe3) :: (X.pn ++ pins))) S3 hg hm q hdbg
      · exact ld_blt (X := X.suite a ((a, oe3) :: (X.pn ++ pins))) S3 hg hm hv q hnn hdbg
    refine test (LM.here ?_)
    cases b with
    | true =>
      obtain ⟨hd0, hgo⟩ := hyes rfl; subst hd0
      refine codeAny_handlers_suite_as ?_
      refine HandSPX.lands_againZ fl3 fun h4 fl4 up4 => ?_
      have J4 : Inv X pins σ' H' { s' with heap := h4 } := J.landed nb fl4.1 ((up.trans up3).trans up4) os ag; obtain ⟨oe4, vs4, he4, hz4, hd4⟩ := fl4.there
      have S4 := J4.suite he4 hd4 na nL nF
      have suite : PSs (X.suite a ((a, oe4) :: (X.pn ++ pins))) [.Assign [.Name y p1] (.Name m p2) p3] (tAsg (tVar i) (gName j)) := pss_one (ps_set hN hj hly (pe_var hi (.inl hln) (okn hom).1 (okn hom).2.1) (by rfl) (.inl hfy))
      refine store_ok (X := X.suite a ((a, oe4) :: (X.pn ++ pins))) (v := .ref a) S4 hN hi hloc rfl (fun s5 S5 => ?_) (.inr hln)
      have li : i < σ'.length := by rw [J.len]; exact (List.getElem?_eq_some_iff.mp hi).1
      refine wpAny_mono (suite.run [] s5 _ H' { nx := fun σ6 H6 => σ6 = (σ'.set i (some (.ref a))).set j (some (.ref a)) ∧ H6 = H', rt := fun _ _ => False } S5 ⟨.ref a, by rw [List.getElem?_set_self li], rfl, rfl⟩) (fun f s6 hsp => ?_) (fun _ _ z => False.elim z)
      cases f with
      | next =>
        obtain ⟨σ6, H6, S6, e6, e7⟩ := hsp
        subst e6 e7
        have K6 : Inv X ((a, oe4) :: pins) ((σ'.set i (some (.ref a))).set j (some (.ref a))) H6 s6 := ⟨ok, S6.os, S6.bare, S6.base, S6.loc, S6.cell, S6.free, S6.freeC, fun p hp => S6.pin p (List.mem_append_left _ (by
          rcases List.mem_append.mp hp with q | q
          · exact List.mem_cons_of_mem _ (List.mem_append_left _ q)
          · rcases List.mem_cons.mp q with q | q
            · rw [q]; exact List.mem_cons_self ..
            · exact List.mem_cons_of_mem _ (List.mem_append_right _ q))), S6.hok, S6.len⟩
        exact gone_ok K6 hN hi hln fun s7 K7 => ⟨_, _, inv_track K7 hz4 ⟨_, hd4⟩ new0 newP, hgo a na⟩
      | brk => obtain ⟨_, _, _, q⟩ := hsp; exact q.elim
      | cont => obtain ⟨_, _, _, q⟩ := hsp; exact q.elim
      | ret u => obtain ⟨_, _, _, _, _, q⟩ := hsp; exact q.elim
    | false =>
      show wpAny _ X.A (handleBy (.ref a) X.env []) _ _ _
      refine wpAny_handleBy_nil ?_
      obtain ⟨k1, k2, k3, oe, vs, T, oT, ts', he, hz, hd, h1, hr⟩ := id fl3; unfold PySem.passOn
      refine wpAny_bind (wpAny_field he hd h1 ?_); rw [if_neg (show ¬ ((Value.ref T == Value.none) = true) from by simp)]
      have fin : wpAny (model X.prog X.w) X.A (setFlight (.ref a) X.env.frame) (fun _ s4 => wpAny (model X.prog X.w) X.A (throw (.ref a) : Sem Flow) (SP X pins D) X.xe s4) X.xe { s' with heap := h3 } := by
        rw [hf]; refine HandSPX.setFlight_upZ fl3 fun h4 hh4 up4 => wpAny_throw (tk _ _ ?_); exact ⟨a, B, sI, pins, σ', H', cls, d, rfl, J, nb, (up.trans up3).trans up4, .inr (.inr (by rw [hs]; exact hh4)), na, os, ag, hno rfl⟩
      first | exact wpAny_bind (wpAny_pure (wpAny_bind fin)) | exact wpAny_bind fin
  · cases f with
    | next => obtain ⟨σ', H', J', q⟩ := hsp; exact wpAny_execs_nil ⟨σ', H', J'.ofTry ok, q⟩
    | brk => obtain ⟨σ', H', J', q⟩ := hsp; exact ⟨σ', H', J'.ofTry ok, q⟩
    | cont => obtain ⟨σ', H', J', q⟩ := hsp; exact ⟨σ', H', J'.ofTry ok, q⟩
    | ret u => obtain ⟨v, σ', H', J', r, q⟩ := hsp; exact ⟨v, σ', H', J'.ofTry ok, r, q⟩
section
variable {G : Gm} {gf : Gf} {T : Tb} {C : Nat → List D → Sto → Rs D} {kk b0 : Nat} {X : Cx} {W : WX} {n : Cn} {w : Nat}
theorem ss_tryE (xo : XOk G gf T C kk n X) (to : TOk X) (tk : Takes X W) {x y m : Str} {c i j : Nat} {bd : Stmt} {bx : Sx} {p1 p2 p3 p4 p5 pz : Pos} (hc : n.cl x = some c) (hg : Gl X x) (hdb : (x == ("__debug__" : Str)) = false) (hj : tgName n y = some j) (hi : tgName n m = some i) (hij : i ≠ j) (hm : n.sc.names.lookup m = some .local) (hom : okName m = true)
    (hb : ∀ (W' : WX) (pn : List (Addr × Obj)) (xe : Value → Shared → Prop), Takes (X.tr pn xe) W' → SSb G (X.tr pn xe) W' bd (fun ρ st => xs T C b0 w bx ρ st)) :
    SSt G X W (.Try [bd] [.ExceptHandler (some (.Name x p1)) (some m) [.Assign [.Name y p2] (.Name m p3) p4] p5] [] [] pz) (fun ρ st => xs T C b0 w (.tryE bx c i j) ρ st) := by
  obtain ⟨g1, g2⟩ := tgName_ok hi
  obtain ⟨h1, h2⟩ := tgName_ok hj
  intro ρ st σ F H α D E R S p hE
  simp only [xs] at p
  refine ps_w (ps_try_asE (c := .ref (G.cad c)) (i := i) (j := j) (tb := fun W' D σ H => ∀ (pn : List (Addr × Obj)) (xe : Value → Shared → Prop), Takes (X.tr pn xe) W' → wSs (X.tr pn xe) [bd] D σ H) to.ex to.stk to.fr xo.nd (by rw [xo.hN]; exact g2) (by rw [xo.hN]; exact h2)
    (by unfold PySem.Env.kindOf; rw [xo.sc]; exact hm) (by rw [xo.sc]; exact loc_of h1) (to.fn y) hom ⟨hg, hdb, .inl (xo.tie.cl x c hc).1⟩ tk (fun W' pn xe tk' _ => ⟨fun pins s σ H D I h => h pn xe tk' pins s I⟩)) ?_
  intro pn xe tk'
  refine pss_w (pss_one (wS_ps (X.tr pn xe) bd)) (hb _ pn xe tk' R S ?_)
  show Pst G F H α (xs T C b0 w bx ρ st) _ _
  cases hx : xs T C b0 w bx ρ st with
  | no => rw [hx] at p; exact p.elim
  | ok fl s => rw [hx] at p; exact p
  | ex e fs vs s =>
    rw [hx] at p
    intro F1 H1 α1 R1 X1 e1 e2
    subst e1 e2
    simp only at p
    split at p
    · rename_i hex
      refine ⟨T.sub e c, by rw [xo.hK]; exact xo.tie.exm e c hex, fun hb => ⟨rfl, fun a ha => ?_⟩, fun hb => ?_⟩
      · rw [if_pos hb] at p
        obtain ⟨R2, X2⟩ := R1.frozen (ExH (.ref (G.cad e)) a) ha
        have S2 := ((((S.mono X1).mono X2).putN i (some (.ref a))).put j (Rp.exc (G := G) (α := α1) (c := e) (upd_same (H := F1) (a := a) (o := ExH (.ref (G.cad e)) a)))).putN i none
        have eq : (((ρ.set i none).set j (some (LS.D.exc e [] []))).set i none) = (ρ.set j (some (LS.D.exc e [] []))).set i none := by
          rw [List.set_comm _ _ hij, List.set_set]
        rw [eq] at S2
        exact p.now R2 (X1.trans X2) _ S2
      · rw [if_neg (by rw [hb]; exact Bool.false_ne_true)] at p
        exact hE _ _ _ _ (p F1 H1 α1 R1 X1 rfl rfl)
    · exact p.elim
/-! ### all statements -/
theorem XOk.tr (xo : XOk G gf T C kk n X) (pn : List (Addr × Obj)) (xe : Value → Shared → Prop) : XOk G gf T C kk n (X.tr pn xe) :=
  ⟨xo.tie, xo.hK, xo.calm, xo.nd, xo.room, xo.hN, xo.sc, fun i h => let g := xo.fng i h; ⟨g.ok, g.kp, g.bd⟩, xo.cno, xo.ctr⟩
theorem TOk.tr (to : TOk X) (pn : List (Addr × Obj)) (xe : Value → Shared → Prop) : TOk (X.tr pn xe) := ⟨to.fn, to.stk, to.fr, to.ex⟩
theorem eok {k : Nat} (xo : XOk G gf T C kk n X) (tk : Takes X W) {lv : Bool} {e : Expr} {x : Ex} (h : cE k n lv e = some x) : EOk G T C b0 X W e x := (expr_ok k k (Nat.le_refl _)).E _ _ _ xo tk _ _ _ h
theorem iok {k : Nat} (xo : XOk G gf T C kk n X) (tk : Takes X W) {pr : Bool} {e : Expr} {x : Ex} (h : cI k n pr e = some x) {tg : Expr} (ht : isTup tg = pr) : SI G X W tg pr e (fun ρ st => wk T C b0 ρ x st) := (expr_ok k k (Nat.le_refl _)).I _ _ _ xo tk _ _ _ h _ ht
theorem hand_ok {k : Nat} (xo : XOk G gf T C kk n X) (to : TOk X) (tk : Takes X W) {s : Stmt} {x : Sx} (h : cS k n s = some x) (hh : handB s = true) : SSb G X W s (fun ρ st => xs T C b0 w x ρ st) := by
  cases k with
  | zero => simp [cS] at h
  | succ k =>
  unfold handB at hh
  split at hh
  · simp only [cS] at h
    obtain ⟨i, h1, h⟩ := bind_some h
    obtain ⟨_, h⟩ := when_some h
    obtain ⟨x1, h2, rfl⟩ := map_some h
    exact sb_set xo to h1 (eok xo tk h2)
  · simp only [cS] at h
    obtain ⟨h0, h⟩ := when_some h
    obtain ⟨x1, h2, rfl⟩ := map_some h
    exact sb_ex (by simpa using h0) (eok xo tk h2).se
  · cases hh
theorem const_ok {k : Nat} {lv : Bool} {cn : Const} {j : Nat} {p : Pos} {d : LS.D} (h : cE k n lv (.Constant cn j p) = some (.k d)) : ∃ v, (∀ X' : Cx, PE X' (.Constant cn j p) (tC v)) ∧ ∀ F α, Rp G F α v d := by
  cases k with
  | zero => simp [cE] at h
  | succ k =>
    simp only [cE] at h
    split at h
    · cases h; exact ⟨.non, fun _ => pe_non, fun _ _ => .non⟩
    · cases h; exact ⟨.bl _, fun _ => pe_bl, fun _ _ => .bl _⟩
    · cases h; exact ⟨.int _, fun _ => pe_int, fun _ _ => .int _⟩
    · obtain ⟨h1, h2⟩ := when_some h
      cases h2; exact ⟨.str _, fun _ => pe_str, fun _ _ => .str h1⟩
    · cases h
theorem local_of {sc : Scope} {m : Str} (h : (match sc.names.lookup m with | some .local => true | _ => false) = true) : sc.names.lookup m = some .local := by
  split at h
  · rename_i e; exact e
  · cases h
theorem tgName_nm {m : Str} {j : Nat} (h : tgName n m = some j) : okName m = true := by
  unfold tgName at h
  obtain ⟨q, _⟩ := when_some h
  rw [Bool.and_eq_true] at q
  exact q.2
structure SHs (G : Gm) (gf : Gf) (T : Tb) (C : Nat → List D → Sto → Rs D) (kk b0 w k : Nat) : Prop where
  S : ∀ (n : Cn) (X : Cx) (W : WX), XOk G gf T C kk n X → TOk X → Takes X W → PassesOwn (model X.prog X.w) X.A X.env X.xe → ∀ (s : Stmt) (x : Sx), cS k n s = some x → SSt G X W s (fun ρ st => xs T C b0 w x ρ st)
  B : ∀ (n : Cn) (X : Cx) (W : WX), XOk G gf T C kk n X → TOk X → Takes X W → PassesOwn (model X.prog X.w) X.A X.env X.xe → ∀ (s : List Stmt) (x : List Sx), cSs k n s = some x → SSs G X W s (fun ρ st => xss T C b0 w x ρ st)
theorem stepS {k : Nat} (ih : SHs G gf T C kk b0 w k) (xo : XOk G gf T C kk n X) (to : TOk X) (tk : Takes X W) (hp : PassesOwn (model X.prog X.w) X.A X.env X.xe) {s : Stmt} {x : Sx} (h : cS (k + 1) n s = some x) : SSt G X W s (fun ρ st => xs T C b0 w x ρ st) := by
  unfold cS at h
  split at h
  · obtain ⟨h0, h⟩ := when_some h
    obtain ⟨x1, h2, rfl⟩ := map_some h
    exact SSb.st (sb_ex (by simpa using h0) (eok xo tk h2).se)
  · obtain ⟨i, h1, h⟩ := bind_some h
    obtain ⟨_, h⟩ := when_some h
    obtain ⟨x1, h2, rfl⟩ := map_some h
    exact SSb.st (sb_set xo to h1 (eok xo tk h2))
  · split at h
    · rename_i hsw
      split at h
      · obtain ⟨i, h1, h⟩ := bind_some h
        obtain ⟨j, h2, h⟩ := bind_some h
        obtain ⟨x1, h3, h⟩ := bind_some h
        obtain ⟨x2, h4, rfl⟩ := map_some h
        exact ss_par xo to hsw h1 h2 (eok xo tk h3).se (eok xo tk h4).se
      · cases h
    · cases h
  · obtain ⟨h0, h⟩ := when_some h
    simp only [Bool.and_eq_true, Bool.not_eq_true'] at h0
    obtain ⟨t, h1, h⟩ := bind_some h
    obtain ⟨x1, h2, rfl⟩ := map_some h
    have ht : t.2 = true := tg_pr h1
    intro ρ st σ F H α D E R S p hE
    exact ss_setT (b0 := b0) (w := w) (is := t.1) xo to (by rw [h1]; congr 1; exact Prod.ext rfl ht) h0.2 h0.1 (eok xo tk h2).se R S p hE
  · obtain ⟨f, h1, h⟩ := bind_some h
    obtain ⟨x1, h2, h⟩ := bind_some h
    obtain ⟨x2, h3, rfl⟩ := map_some h
    exact ss_setF xo h1 (eok xo tk h2).se (eok xo tk h3).se
  · obtain ⟨h0, h⟩ := when_some h
    obtain ⟨x1, h1, h⟩ := bind_some h
    obtain ⟨x2, h2, h⟩ := bind_some h
    obtain ⟨x3, h3, rfl⟩ := map_some h
    exact ss_setI xo (by simpa using h0) (eok xo tk h1).se (eok xo tk h2).se (eok xo tk h3).se
  · obtain ⟨i, h1, h⟩ := bind_some h
    obtain ⟨x1, h2, rfl⟩ := map_some h
    exact ss_aug xo to h1 (eok xo tk h2).se
  · cases h
    exact ss_ret0
  · obtain ⟨x1, h2, rfl⟩ := map_some h
    exact ss_ret (eok xo tk h2).se
  · obtain ⟨h0, h⟩ := when_some h
    obtain ⟨x1, h1, h⟩ := bind_some h
    obtain ⟨x2, h2, h⟩ := bind_some h
    obtain ⟨x3, h3, rfl⟩ := map_some h
    exact ss_iff ((eok xo tk h1).st (not_if h0)) (ih.B _ _ _ xo to tk hp _ _ h2) (ih.B _ _ _ xo to tk hp _ _ h3)
  · rename_i tg it bd pz
    obtain ⟨h0, h⟩ := when_some h
    obtain ⟨x1, h1, h⟩ := bind_some h
    obtain ⟨t, h2, h⟩ := bind_some h
    obtain ⟨x3, h3, rfl⟩ := map_some h
    have hpr := tg_pr h2
    have hi : ∀ {tt : Bool}, tt = isTup tg → SI G X W tg tt it (fun ρ st => wk T C b0 ρ x1 st) := fun {tt} e => by subst e; exact iok xo tk h1 rfl
    intro ρ st σ F H α D E R S p hE
    exact ss_for (b0 := b0) (w := w) (is := t.1) (tt := t.2) xo to hp h2 (by simpa using h0) (hi hpr) (ih.B _ _ _ xo to tk hp _ _ h3) R S p hE
  · obtain ⟨h0, h⟩ := when_some h
    obtain ⟨x1, h1, h⟩ := bind_some h
    obtain ⟨x3, h3, rfl⟩ := map_some h
    exact ss_whl xo hp ((eok xo tk h1).st (not_if h0)) (ih.B _ _ _ xo to tk hp _ _ h3)
  · cases h; exact ss_brk
  · cases h; exact ss_cnt
  · cases h; exact ss_pass
  · obtain ⟨h0, h⟩ := when_some h
    rw [Bool.and_eq_true] at h0
    obtain ⟨c, h1, h⟩ := bind_some h
    obtain ⟨h2, h⟩ := when_some h
    cases h
    exact ss_rais xo tk h1 (eq_of_beq h2) (glb_of xo.sc h0.1) (okn h0.2).1
  · obtain ⟨h0, h⟩ := when_some h
    simp only [Bool.and_eq_true] at h0
    obtain ⟨c, h1, h⟩ := bind_some h
    obtain ⟨i, h2, h⟩ := bind_some h
    obtain ⟨bx, h3, h⟩ := bind_some h
    obtain ⟨dx, h4, h⟩ := bind_some h
    split at h
    · cases h
      obtain ⟨v, hv, hr⟩ := const_ok (G := G) h4
      intro ρ st σ F H α D E R S p hE
      exact ss_tryK (b0 := b0) (w := w) xo to tk h1 (glb_of xo.sc h0.1.1) (okn h0.1.2).1 h2 (fun W' pn xe tk' => hand_ok (xo.tr pn xe) (to.tr pn xe) tk' h3 h0.2) hv hr R S p hE
    · cases h
  · rename_i bd x p1 m y q1 m' q2 q3 q4 q5
    have hh0 := when_some h
    clear h
    obtain ⟨h0, h⟩ := hh0
    simp only [Bool.and_eq_true] at h0
    obtain ⟨⟨⟨⟨hg, hok⟩, hh⟩, hmm⟩, hl⟩ := h0
    have hmm := eq_of_beq hmm
    subst hmm
    obtain ⟨c, h1, h⟩ := bind_some h
    obtain ⟨i, h2, h⟩ := bind_some h
    obtain ⟨j, h3, h⟩ := bind_some h
    obtain ⟨h4, h⟩ := when_some h
    obtain ⟨bx, h5, rfl⟩ := map_some h
    have hne : j ≠ i := fun z => by subst z; simp at h4
    intro ρ st σ F H α D E R S p hE
    exact ss_tryE (b0 := b0) (w := w) xo to tk h1 (glb_of xo.sc hg) (okn hok).1 h2 h3 hne (local_of hl) (tgName_nm h3) (fun W' pn xe tk' => hand_ok (xo.tr pn xe) (to.tr pn xe) tk' h5 hh) R S p hE
  · cases h
theorem stmt_ok : ∀ k, SHs G gf T C kk b0 w k
  | 0 => ⟨fun _ _ _ _ _ _ _ _ _ h => (by simp [cS] at h), fun _ _ _ _ _ _ _ _ _ h => (by simp [cSs] at h)⟩
  | k + 1 => by
    have ih := stmt_ok k
    refine ⟨fun _ _ _ xo to tk hp _ _ h => stepS ih xo to tk hp h, fun n X W xo to tk hp s x h => ?_⟩
    cases s with
    | nil => cases h; exact sss_nil
    | cons s ss =>
      simp only [cSs] at h
      obtain ⟨x1, h1, h⟩ := bind_some h
      obtain ⟨x2, h2, rfl⟩ := map_some h
      exact sss_cons (ih.S _ _ _ xo to tk hp _ _ h1) (ih.B _ _ _ xo to tk hp _ _ h2)
end
end LS
end
section
set_option Elab.async false
set_option linter.all false
set_option maxRecDepth 10000
/-! LS, part 17: every def of the module keeps its promise. -/
namespace LS
open PySem PySem.Spec PyProof.Rows L2
/-- the module as it stands, def by def -/
structure MOk (G : Gm) (gf : Gf) (md : Md) (T : Tb) (mg : Str → Option Value) : Prop where
  len : T.fns.length = md.fns.length
  fn : ∀ i fc, md.fns[i]? = some fc → ∃ fn params, T.fns[i]? = some fn ∧ md.fn fc = some fn ∧ gf.ps i = fc.ps ∧ FunD G.K fc.nm fc.qual params (defBody fc.st) (defScope fc.st) [] [] (gf.fa i) (gf.fd i) ∧ FnScope fc.N fc.ps (defScope fc.st) ∧ Binds G.K (gf.fd i) (gf.ps i) [] ∧ Tie G gf T (md.cn fc) mg
section
variable {G : Gm} {gf : Gf} {md : Md} {T : Tb} {w0 : Nat} {P : Program} {w : World} {mg : Str → Option Value} {base : Heap}
theorem cal_none {n b i : Nat} {ds : List LS.D} {st : Sto} (h : T.fns[i]? = none) : cal T w0 n b i ds st = .no := by
  cases n with
  | zero => unfold cal; rfl
  | succ n => unfold cal; rw [h]
theorem fns_get (M : MOk G gf md T mg) {i : Nat} (h : (T.fns[i]?).isSome = true) : ∃ fc, md.fns[i]? = some fc := by
  have hi : i < T.fns.length := by
    cases e : T.fns[i]? with
    | none => rw [e] at h; cases h
    | some _ => exact (List.getElem?_eq_some_iff.mp e).1
  exact ⟨_, List.getElem?_eq_getElem (by rw [← M.len]; exact hi)⟩
theorem map_some_get {α : Type} : ∀ {xs : List α} {k i : Nat} {x : α}, (xs.map some ++ List.replicate k none)[i]? = some (some x) → xs[i]? = some x
  | [], k, i, x, h => by
    rw [List.map_nil, List.nil_append, List.getElem?_replicate] at h
    split at h <;> cases h
  | y :: ys, k, 0, x, h => by simpa using h
  | y :: ys, k, i + 1, x, h => by
    rw [List.getElem?_cons_succ]
    exact map_some_get (k := k) (by simpa using h)
theorem start_slr {F : Hp} {α : List Addr} {N : List Str} {vs : List V} {ds : List LS.D} {np ns : Nat} (r : Rps G F α vs ds) (h1 : ds.length = np) (h2 : ns = N.length) : SlR G F α (start N vs) (ds.map some ++ List.replicate (ns - np) none) := by
  have hl := r.len
  refine ⟨?_, fun i d h => ?_⟩
  · unfold L2.start
    rw [List.length_append, List.length_append, List.length_map, List.length_map, List.length_replicate, List.length_replicate, h2, hl, h1]
  · obtain ⟨v, hv, rv⟩ := r.get (map_some_get h)
    refine ⟨v, ?_, rv⟩
    unfold L2.start
    have hi : i < vs.length := (List.getElem?_eq_some_iff.mp hv).1
    rw [List.getElem?_append_left (by rw [List.length_map]; exact hi), List.getElem?_map, hv]
    rfl
/-- a def's end -/
theorem end_ok {F H : Hp} {α : List Addr} {st : Sto} {tr : Bool} {r : Rs Fl} {Q : VK} {E : XK} (R : SR G F H α st) (hk : tr = true → Kp st.length r) (p : Pst G F H α (ending tr st.length r) (KV1 G Q) E) : Pst G F H α r (KF G { nx := fun _ H' => Q .non H', rt := Q }) E := by
  have cutR : ∀ {F' H' : Hp} {α' : List Addr} {s : Sto}, st.length ≤ s.length → Clo st.length s → SR G F' H' α' s → Ext F H α F' H' α' → SR G F' H' α (s.take st.length) ∧ Ext F H α F' H' α := fun {F' H' α' s} h1 h2 R' X' => by
    have q := R'.trunc h1 h2
    rw [← R.len, pre_take X'.a] at q
    rw [← R.len]
    exact ⟨q, X'.cut⟩
  cases r with
  | no => exact p.elim
  | ok fl s =>
    cases fl with
    | bk ρ => exact p.elim
    | ct ρ => exact p.elim
    | nx ρ =>
      intro F' H' α' R' X' σ _
      unfold ending at p
      cases tr with
      | true =>
        obtain ⟨q1, q2⟩ := cutR (hk rfl).1 (hk rfl).2 R' X'
        exact p.now q1 q2 _ .non
      | false => exact p.now R' X' _ .non
    | rt d =>
      intro F' H' α' R' X' v rv
      unfold ending at p
      cases tr with
      | true =>
        simp only [if_true] at p
        split at p
        · rename_i hn
          obtain ⟨q1, q2⟩ := cutR (hk rfl).1 (hk rfl).2 R' X'
          have rt := rv.trunc (m := st.length) (lt_of_nr _ _ hn)
          rw [← R.len, pre_take X'.a] at rt
          exact p.now q1 q2 _ rt
        · exact p.elim
      | false => exact p.now R' X' _ rv
  | ex c fs vs s =>
    intro F' H' α' R' X' e1 e2
    subst e1 e2
    unfold ending at p
    simp only [LS.D.nrs, if_true] at p
    cases tr with
    | true =>
      obtain ⟨q1, q2⟩ := cutR (hk rfl).1 (hk rfl).2 R' X'
      exact p F' H' α q1 q2 rfl rfl
    | false => exact p F' H' α' R' X' rfl rfl
theorem md_fn {fc : FnC} {fn : Fn} (h : md.fn fc = some fn) : ∃ b, cSs 60 (md.cn fc) (defBody fc.st) = some b ∧ fn = ⟨fc.ps.length, fc.N.length, fc.tr, b⟩ := by
  unfold Md.fn at h
  obtain ⟨b, h1, h2⟩ := map_some h
  exact ⟨b, h1, h2.symm⟩
/-- THE RULE: every def, as deep as n calls -/
theorem all_fns (M : MOk G gf md T mg) : ∀ (n b i : Nat) (fc : FnC), md.fns[i]? = some fc → FnOk P w G.K mg base (L2.CX P w) (2 * n) (gf.fa i) (gf.fd i) (gf.ps i) (spC G (cal T w0 n b) i)
  | 0, b, i, fc, hi => by
    have no : ∀ {vs H Q E}, spC G (cal T w0 0 b) i vs H Q E → False := fun {vs H Q E} ⟨F, α, st, ds, R, r, p⟩ => by unfold cal at p; exact p
    exact ⟨fun _ _ _ _ h => (no h).elim, fun _ _ _ _ _ _ _ _ _ _ _ _ _ h => (no h).elim⟩
  | n + 1, b, i, fc, hi => by
    obtain ⟨fn, params, h1, h2, h3, h4, h5, h6, h7⟩ := M.fn i fc hi
    obtain ⟨body, h8, rfl⟩ := md_fn h2
    rw [h3]
    refine h4.ok (k := 2 * n + 1) h5 (fun vs H Q E h => ?_) fun cdv A outer s H vs Q E hr h => ?_
    · obtain ⟨F, α, st, ds, R, r, p⟩ := h
      unfold cal at p
      simp only [h1] at p
      split at p
      · rename_i hl
        rw [r.len, hl]
      · exact p.elim
    · obtain ⟨F, α, st, ds, R, r, p⟩ := h
      unfold cal at p
      simp only [h1] at p
      split at p
      rotate_left
      · exact p.elim
      rename_i hl
      refine ⟨wSs _ (defBody fc.st), wSs_pss _ _, ?_⟩
      have xo : XOk G gf T (cal T w0 n (if fc.tr = true then st.length else b)) (2 * n) (md.cn fc) (cxOf (L2.CX P w) P w G.K mg base fc.N fc.qual (defScope fc.st) (gf.fa i) cdv A outer s H E) :=
        { tie := h7, hK := rfl, calm := rfl, nd := h5.nd, room := hr, hN := rfl, sc := rfl
          fng := fun j hj => by
            obtain ⟨fc', hf'⟩ := fns_get M hj
            obtain ⟨fn', params', g1, g2, g3, g4, g5, g6, g7⟩ := M.fn j fc' hf'
            exact ⟨all_fns M n _ j fc' hf', g4.kp, g6⟩
          cno := fun j ds st h => cal_none h
          ctr := fun j ds' st' d s' m ht he hm hc => by
            have q := kp_cal (T := T) (w := w0) (m := m) n (b := if fc.tr = true then st.length else b) (f := j) (ds := ds') (.inr ht) hm hc
            rw [he] at q
            exact q }
      have to : TOk (cxOf (L2.CX P w) P w G.K mg base fc.N fc.qual (defScope fc.st) (gf.fa i) cdv A outer s H E) := ⟨fun _ => rfl, rfl, rfl, rfl⟩
      have tk : Takes (cxOf (L2.CX P w) P w G.K mg base fc.N fc.qual (defScope fc.st) (gf.fa i) cdv A outer s H E) (fun cls d _ H' => E cls d H') := takes_of rfl rfl rfl rfl
      have hp : PassesOwn (model P w) (cxOf (L2.CX P w) P w G.K mg base fc.N fc.qual (defScope fc.st) (gf.fa i) cdv A outer s H E).A (cxOf (L2.CX P w) P w G.K mg base fc.N fc.qual (defScope fc.st) (gf.fa i) cdv A outer s H E).env (cxOf (L2.CX P w) P w G.K mg base fc.N fc.qual (defScope fc.st) (gf.fa i) cdv A outer s H E).xe := passes_of (X := cxOf (L2.CX P w) P w G.K mg base fc.N fc.qual (defScope fc.st) (gf.fa i) cdv A outer s H E) rfl
      refine (stmt_ok (b0 := if fc.tr = true then st.length else b) (w := w0) 60).B _ _ _ xo to tk hp _ _ h8 R (start_slr r hl rfl) ?_ (fun c d σ' H' h => h)
      refine end_ok R (fun htr => ?_) p
      have hb' : st.length ≤ (if fc.tr = true then st.length else b) := by rw [if_pos htr]; exact Nat.le_refl _
      exact kp_xss hb' (fun f ds st' g1 g2 => kp_cal n (.inl hb') g1 g2) body (Nat.le_refl _) R.clo
end
end LS
end
section
set_option Elab.async false
set_option linter.all false
set_option maxRecDepth 10000
/-! LS, part 18: the module's facts by one Bool; the Hook. -/
namespace LS
open PySem PySem.Spec PyProof.Rows L2
open PySem.W (nsIn findIn keepIn isFn makesIn plainGet hasDictIn plainOver specialIn takesIn mroIn subIn typeIn excIn kitOne exmOne)
def cadM (md : Md) (K : PySem.W.Frag) (c : Nat) : Addr := match md.cls[c]? with | some k => He.ga K k.nm | none => 0
def fnmM (md : Md) (f : Nat) : Str := match md.fld[f]? with | some x => x | none => ""
def gmM (md : Md) (K : PySem.W.Frag) : Gm := ⟨K, cadM md K, fnmM md⟩
def atM (md : Md) (i : Nat) : Str × Option Str := match md.fns[i]? with | some g => g.at_ | none => ("", none)
def faM (md : Md) (K : PySem.W.Frag) (i : Nat) : Addr := He.fAd K (atM md i)
def globB (K : PySem.W.Frag) (x : Str) : Bool := He.eqO (nsIn K mainGlobals x) (some (some (.ref (He.ga K x))))
def bFn (md : Md) (K : PySem.W.Frag) : Bool := md.fns.all fun g => keepIn K (.ref (He.fAd K g.at_)) && (!g.at_.2.isNone || globB K g.at_.1)
def bCl (md : Md) (K : PySem.W.Frag) : Bool := md.cls.all fun k => globB K k.nm && keepIn K (.ref (He.ga K k.nm))
def glB1 (K : PySem.W.Frag) (x : Str) (d : D) : Bool := match d, nsIn K mainGlobals x with
  | .int i, some (some (.int j _)) => decide (j = i)
  | .str s, some (some (.str z _)) => decide (z = s) && PyData.strOk s
  | _, _ => false
def bGl (md : Md) (K : PySem.W.Frag) : Bool := md.gls.all fun q => glB1 K q.1 q.2
def bBl (K : PySem.W.Frag) : Bool := bltN.all fun x => He.eqO (nsIn K mainGlobals x) (some none)
def bFl (md : Md) : Bool := decide md.fld.Nodup && !md.fld.contains ""
def bMt (md : Md) : Bool := md.mth.all fun x => !md.fld.contains x && !(x == "")
def bPl1 (md : Md) (K : PySem.W.Frag) (k : ClC) : Bool :=
  (plainGet K (He.ga K k.nm) Str.empty && (hasDictIn K (He.ga K k.nm) && (plainOver K (He.ga K k.nm) && He.eqO (findIn K (.ref (He.ga K k.nm)) "__setattr__") (some (some (.builtin "object.__setattr__")))))) &&
  ((He.eqO (findIn K (.ref (He.ga K k.nm)) "__class__") (some (some (.builtin "object.__class__"))) && (He.eqO (specialIn K (.builtin "object.__class__") "__get__") (some (some (.builtin "getset_descriptor.__get__"))) &&
    (decide (takesIn K (.builtin "object.__class__") = some true) && decide (mroIn K (He.ga K k.nm) (.type "object") = some true)))) &&
  ((md.fld.all fun f => He.eqO (findIn K (.ref (He.ga K k.nm)) f) (some none)) &&
  ((k.mth.all fun p => He.eqO (findIn K (.ref (He.ga K k.nm)) p.1) (some (some (.ref (faM md K p.2)))) && (isFn K (.ref (faM md K p.2)) && keepIn K (.ref (faM md K p.2)))) &&
  (makesIn K (He.ga K k.nm) && (match k.ini with
    | some i => He.eqO (findIn K (.ref (He.ga K k.nm)) "__init__") (some (some (.ref (faM md K i)))) && isFn K (.ref (faM md K i))
    | none => He.eqO (findIn K (.ref (He.ga K k.nm)) "__init__") (some (some (.builtin "object.__init__"))))))))
def bPl (md : Md) (K : PySem.W.Frag) : Bool := md.cls.all fun k => !(k.kd == 0) || bPl1 md K k
def kds (md : Md) : List Kd := [.non, .bl, .int, .str, .tup, .lst] ++ (List.range md.cls.length).map .own
def tys (md : Md) : List Ty := [.int, .bool, .str, .tuple, .list, .verr] ++ (List.range md.cls.length).map .cls
def bKt (md : Md) (K : PySem.W.Frag) (T : Tb) : Bool := (kds md).all fun k => (tys md).all fun t => match kdIs T k t with
  | some b => decide (kitOne K (kdU (gmM md K) k) (tyU (gmM md K) t) = some b)
  | none => true
def bEx1 (K : PySem.W.Frag) (C : Addr) : Bool :=
  He.eqO (findIn K (.ref C) "__getattribute__") (some (some (.builtin "BaseException.__getattribute__"))) && (He.eqO (findIn K (.ref C) "__getattr__") (some none) && (decide (subIn K (.ref C) (.type "BaseException") = some true) && (hasDictIn K C &&
    (He.eqO (findIn K (.ref C) "__class__") (some (some (.builtin "object.__class__"))) && (He.eqO (specialIn K (.builtin "object.__class__") "__get__") (some (some (.builtin "getset_descriptor.__get__"))) && (decide (takesIn K (.builtin "object.__class__") = some true) && decide (mroIn K C (.type "object") = some true)))))))
def bEx (md : Md) (K : PySem.W.Frag) : Bool := md.cls.all fun k => k.kd == 0 || bEx1 K (He.ga K k.nm)
def bRs (md : Md) (K : PySem.W.Frag) : Bool := md.cls.all fun k => !(k.kd == 1) || (excIn K (He.ga K k.nm) He.veBase "ValueError.__new__" && (decide (subIn K (.ref (He.ga K k.nm)) (.type "BaseException") = some true) && decide (typeIn K (.ref (He.ga K k.nm)) = some (.type "type"))))
def bEm (md : Md) (K : PySem.W.Frag) (T : Tb) : Bool := (List.range md.cls.length).all fun e => (List.range md.cls.length).all fun c => !excB T e c || decide (exmOne K (.ref (cadM md K e)) (.ref (cadM md K c)) = some (T.sub e c))
/-- all of it -/
def tieB (md : Md) (T : Tb) (K : PySem.W.Frag) : Bool := bFn md K && (bCl md K && (bGl md K && (bBl K && (bFl md && (bMt md && (bPl md K && (bKt md K T && (bEx md K && (bRs md K && bEm md K T)))))))))
theorem fidx {α : Type} {p : α → Bool} {xs : List α} {i : Nat} (h : xs.findIdx? p = some i) : ∃ x, xs[i]? = some x ∧ p x = true := by
  obtain ⟨hi, hp, _⟩ := List.findIdx?_eq_some_iff_getElem.mp h
  exact ⟨xs[i], List.getElem?_eq_getElem hi, hp⟩
theorem all_at {α : Type} {p : α → Bool} {xs : List α} (h : xs.all p = true) {i : Nat} {x : α} (e : xs[i]? = some x) : p x = true := List.all_eq_true.mp h x (List.mem_of_getElem? e)
theorem lookup_mem {α : Type} : ∀ {xs : List (Str × α)} {x : Str} {d : α}, xs.lookup x = some d → (x, d) ∈ xs
  | [], x, d, h => by cases h
  | (y, e) :: r, x, d, h => by
    rw [List.lookup_cons] at h
    split at h
    · rename_i hb
      cases h
      rw [eq_of_beq hb]
      exact List.mem_cons_self ..
    · exact List.mem_cons_of_mem _ (lookup_mem h)
theorem lookupN_mem {α : Type} : ∀ {xs : List (Nat × α)} {x : Nat} {d : α}, xs.lookup x = some d → (x, d) ∈ xs
  | [], x, d, h => by cases h
  | (y, e) :: r, x, d, h => by
    rw [List.lookup_cons] at h
    split at h
    · rename_i hb
      cases h
      rw [eq_of_beq hb]
      exact List.mem_cons_self ..
    · exact List.mem_cons_of_mem _ (lookupN_mem h)
section
variable {md : Md} {fns : List Fn} {K : PySem.W.Frag} {h : Heap} {mg : Str → Option Value} {fdf : Nat → FuncData}
def gfM (md : Md) (K : PySem.W.Frag) (fdf : Nat → FuncData) : Gf := ⟨faM md K, fdf, fun i => match md.fns[i]? with | some g => g.ps | none => []⟩
theorem cls_get {c : Nat} {cl : Cl} (e : (md.tb fns).cls[c]? = some cl) : ∃ k, md.cls[c]? = some k ∧ cl = ⟨k.mth.filterMap fun p => (md.mth.findIdx? fun y => y == p.1).map fun i => (i, p.2), k.ini⟩ := by
  have e : (md.cls.map fun c => (⟨c.mth.filterMap fun p => (md.mth.findIdx? fun y => y == p.1).map fun i => (i, p.2), c.ini⟩ : Cl))[c]? = some cl := e
  rw [List.getElem?_map] at e
  obtain ⟨k, h1, h2⟩ := map_some e
  exact ⟨k, h1, h2.symm⟩
theorem cls_some {c : Nat} (e : ((md.tb fns).cls[c]?).isSome = true) : ∃ k, md.cls[c]? = some k := by
  cases e2 : (md.tb fns).cls[c]? with
  | none => rw [e2] at e; cases e
  | some cl => obtain ⟨k, h1, _⟩ := cls_get e2; exact ⟨k, h1⟩
theorem exc_at {c : Nat} {k : ClC} (e : md.cls[c]? = some k) : (md.tb fns).exc c = !(k.kd == 0) := by
  show (match md.cls[c]? with | some k => !(k.kd == 0) | none => false) = _
  rw [e]
theorem plain_get {c : Nat} (hp : plain (md.tb fns) c = true) : ∃ k, md.cls[c]? = some k ∧ (k.kd == 0) = true := by
  unfold plain at hp
  rw [Bool.and_eq_true] at hp
  obtain ⟨k, h1⟩ := cls_some hp.1
  refine ⟨k, h1, ?_⟩
  have := hp.2
  rw [exc_at h1] at this
  simpa using this
theorem cad_at {c : Nat} {k : ClC} (e : md.cls[c]? = some k) : cadM md K c = He.ga K k.nm := by unfold cadM; rw [e]
theorem isSome_at {c : Nat} {k : ClC} (e : md.cls[c]? = some k) : ((md.tb fns).cls[c]?).isSome = true := by
  show ((md.cls.map _)[c]?).isSome = true
  rw [List.getElem?_map, e]; rfl
theorem own_range {c : Nat} (e : ((md.tb fns).cls[c]?).isSome = true) : c < md.cls.length := by
  obtain ⟨k, h1⟩ := cls_some e
  exact (List.getElem?_eq_some_iff.mp h1).1
/-- THE RULE -/
theorem tie_of (X : K.In h) (Gn : h.Ns mainGlobals mg) (t : tieB md (md.tb fns) K = true) (fc : FnC) : Tie (gmM md K) (gfM md K fdf) (md.tb fns) (md.cn fc) mg := by
  unfold tieB at t
  simp only [Bool.and_eq_true] at t
  obtain ⟨t1, t2, t3, t4, t5, t6, t7, t8, t9, t10, t11⟩ := t
  have pl : ∀ {c : Nat} {k : ClC}, md.cls[c]? = some k → (k.kd == 0) = true → bPl1 md K k = true := fun {c k} e hk => by
    have q := all_at t7 e
    simp only [hk, Bool.not_true, Bool.false_or] at q
    exact q
  refine ⟨fun x i m hx => ?_, fun x c hx => ?_, fun x d hx => ?_, fun x hx => ?_, fun x f hx => ?_, fun c x f hp hx => ?_, fun c hp => ?_, fun x m hx => ?_, fun c cl i hp hc hi => ?_, fun c cl hp hc hi => ?_, fun k ty b ho hk => ?_, fun c hs hx => ?_, fun x c hx hk => ?_, fun e c hx => ?_⟩
  · obtain ⟨j, h1, h2⟩ := bind_some (show ((md.fns.findIdx? fun g => g.at_.2.isNone && g.at_.1 == x).bind fun i => (md.fns[i]?).map fun g => (i, g.ps.length)) = some (i, m) from hx)
    obtain ⟨g, h3, h4⟩ := map_some h2
    cases h4
    obtain ⟨g', h5, h6⟩ := fidx h1
    have eg : g' = g := by rw [h3] at h5; exact (Option.some.inj h5).symm
    rw [eg, Bool.and_eq_true] at h6
    have q := all_at t1 h3
    simp only [Bool.and_eq_true, Bool.or_eq_true, Bool.not_eq_true'] at q
    have hgl : globB K g.at_.1 = true := q.2.resolve_left (by rw [h6.1]; exact Bool.noConfusion)
    have hx' := eq_of_beq h6.2
    have hat : g.at_ = (x, none) := by
      have hn : g.at_.2 = none := by simpa using h6.1
      exact Prod.ext hx' hn
    have hfa : (gfM md K fdf).fa i = He.ga K x := by
      show He.fAd K (match md.fns[i]? with | some g => g.at_ | none => ("", none)) = _
      rw [h3]
      simp only
      rw [hat]
      rfl
    refine ⟨?_, ?_⟩
    · rw [hfa]
      have := PySem.W.mg_of X Gn (He.eqO_ok hgl)
      rw [hx'] at this
      exact this
    · have := q.1
      rw [hat] at this
      rw [hfa]
      exact this
  · obtain ⟨k, h1, h2⟩ := fidx (show md.cls.findIdx? (fun c => c.nm == x) = some c from hx)
    have hx' := eq_of_beq h2
    have q := all_at t2 h1
    rw [Bool.and_eq_true] at q
    have hc : (gmM md K).cad c = He.ga K k.nm := cad_at h1
    refine ⟨?_, isSome_at h1, fun hk => ?_, by rw [hc]; exact q.2⟩
    · rw [hc]
      have := PySem.W.mg_of X Gn (He.eqO_ok q.1)
      rw [hx'] at this ⊢
      exact this
    · have hk : (match md.cls[c]? with | some c => c.kd | none => 9) = 0 := hk
      rw [h1] at hk
      unfold plain
      rw [isSome_at h1, exc_at h1]
      have hk : k.kd = 0 := hk
      rw [hk]; rfl
  · have q := List.all_eq_true.mp t3 _ (lookup_mem (show md.gls.lookup x = some d from hx))
    unfold glB1 at q
    split at q
    · rename_i i j tk e1 e2
      have hj : j = i := of_decide_eq_true q
      subst hj
      cases e1
      exact ⟨.int _, _, PySem.W.mg_of X Gn e2, ⟨_, rfl⟩, fun _ _ => .int _⟩
    · rename_i s z tk e1 e2
      rw [Bool.and_eq_true] at q
      have hj : z = s := of_decide_eq_true q.1
      subst hj
      cases e1
      exact ⟨.str _, _, PySem.W.mg_of X Gn e2, ⟨_, rfl⟩, fun _ _ => .str q.2⟩
    · cases q
  · exact PySem.W.mg_none_of X Gn (He.eqO_ok (List.all_eq_true.mp t4 x hx))
  · obtain ⟨y, h1, h2⟩ := fidx (show md.fld.findIdx? (fun y => y == x) = some f from hx)
    have hy := eq_of_beq h2
    subst hy
    unfold bFl at t5
    simp only [Bool.and_eq_true, Bool.not_eq_true', decide_eq_true_eq] at t5
    refine ⟨by show fnmM md f = y; unfold fnmM; rw [h1], fun g hg => ?_⟩
    have hg : fnmM md g = y := hg
    unfold fnmM at hg
    cases e : md.fld[g]? with
    | none =>
      rw [e] at hg
      have hm : y ∈ md.fld := List.mem_of_getElem? h1
      have := t5.2
      rw [← hg] at hm
      have : md.fld.contains "" = true := by simpa using hm
      rw [t5.2] at this
      cases this
    | some z =>
      rw [e] at hg
      have hg : z = y := hg
      subst hg
      obtain ⟨a1, a2⟩ := List.getElem?_eq_some_iff.mp e
      obtain ⟨b1, b2⟩ := List.getElem?_eq_some_iff.mp h1
      exact (List.getElem_inj t5.1).mp (a2.trans b2.symm)
  · obtain ⟨k, h1, h2⟩ := plain_get hp
    obtain ⟨y, h3, h4⟩ := fidx (show md.fld.findIdx? (fun y => y == x) = some f from hx)
    have hy := eq_of_beq h4
    subst hy
    have q := pl h1 h2
    unfold bPl1 at q
    simp only [Bool.and_eq_true] at q
    show NoAttr K (cadM md K c) y
    rw [cad_at h1]
    exact He.eqO_ok (all_at q.2.2.1 h3)
  · obtain ⟨k, h1, h2⟩ := plain_get hp
    have q := pl h1 h2
    unfold bPl1 at q
    simp only [Bool.and_eq_true] at q
    obtain ⟨⟨q1, q2, q3, q4⟩, ⟨q5, q6, q7, q8⟩, _⟩ := q
    show Cls K (cadM md K c) ∧ OwnC K (cadM md K c)
    rw [cad_at h1]
    exact ⟨⟨q1, q2, q3, He.eqO_ok q4⟩, ⟨He.eqO_ok q5, He.eqO_ok q6, of_decide_eq_true q7, of_decide_eq_true q8⟩⟩
  · obtain ⟨y, h3, h4⟩ := fidx (show md.mth.findIdx? (fun y => y == x) = some m from hx)
    have hy := eq_of_beq h4
    subst hy
    have q := all_at t6 h3
    simp only [Bool.and_eq_true, Bool.not_eq_true'] at q
    refine ⟨fun g hg => ?_, fun c cl i hp hc hl => ?_⟩
    · have hg : fnmM md g = y := hg
      unfold fnmM at hg
      cases e : md.fld[g]? with
      | none =>
        rw [e] at hg
        rw [← hg] at q
        simp at q
      | some z =>
        rw [e] at hg
        have hg : z = y := hg
        subst hg
        have : md.fld.contains z = true := by simpa using List.mem_of_getElem? e
        rw [q.1] at this
        cases this
    · obtain ⟨k, h1, h2⟩ := plain_get hp
      obtain ⟨k', h1', hcl⟩ := cls_get hc
      rw [h1] at h1'
      cases h1'
      subst hcl
      have hm := lookupN_mem hl
      rw [List.mem_filterMap] at hm
      obtain ⟨p, hp1, hp2⟩ := hm
      obtain ⟨i', e1, e2⟩ := map_some hp2
      cases e2
      obtain ⟨y', f1, f2⟩ := fidx e1
      rw [h3] at f1
      cases f1
      have hy := eq_of_beq f2
      have q := pl h1 h2
      unfold bPl1 at q
      simp only [Bool.and_eq_true] at q
      have r := List.all_eq_true.mp q.2.2.2.1 p hp1
      simp only [Bool.and_eq_true] at r
      show Meth K (cadM md K c) y (faM md K p.2)
      rw [cad_at h1, hy]
      exact ⟨He.eqO_ok r.1, r.2.1, r.2.2⟩
  · obtain ⟨k, h1, h2⟩ := plain_get hp
    obtain ⟨k', h1', hcl⟩ := cls_get hc
    rw [h1] at h1'
    cases h1'
    subst hcl
    have q := pl h1 h2
    unfold bPl1 at q
    simp only [Bool.and_eq_true] at q
    have r := q.2.2.2.2.2
    have hi : k.ini = some i := hi
    rw [hi] at r
    simp only [Bool.and_eq_true] at r
    have q2 := all_at t2 h1
    rw [Bool.and_eq_true] at q2
    show Mk K (cadM md K c) (faM md K i)
    rw [cad_at h1]
    exact ⟨q.2.2.2.2.1, He.eqO_ok r.1, r.2, q2.2⟩
  · obtain ⟨k, h1, h2⟩ := plain_get hp
    obtain ⟨k', h1', hcl⟩ := cls_get hc
    rw [h1] at h1'
    cases h1'
    subst hcl
    have q := pl h1 h2
    unfold bPl1 at q
    simp only [Bool.and_eq_true] at q
    have r := q.2.2.2.2.2
    have hi : k.ini = none := hi
    rw [hi] at r
    show Mk0 K (cadM md K c)
    rw [cad_at h1]
    exact ⟨q.2.2.2.2.1, He.eqO_ok r⟩
  · have hkm : k ∈ kds md := by
      unfold kds
      cases k with
      | own c => exact List.mem_append_right _ (List.mem_map.mpr ⟨c, List.mem_range.mpr (own_range (ho c rfl)), rfl⟩)
      | _ => exact List.mem_append_left _ (by simp)
    have htm : ty ∈ tys md := by
      unfold tys
      cases ty with
      | cls c =>
        refine List.mem_append_right _ (List.mem_map.mpr ⟨c, List.mem_range.mpr ?_, rfl⟩)
        simp only [kdIs] at hk
        split at hk
        · rename_i hs; exact own_range hs
        · cases hk
      | _ => exact List.mem_append_left _ (by simp)
    have q := List.all_eq_true.mp (List.all_eq_true.mp t8 k hkm) ty htm
    rw [hk] at q
    exact of_decide_eq_true q
  · obtain ⟨k, h1⟩ := cls_some hs
    rw [exc_at h1] at hx
    have q := all_at t9 h1
    rw [Bool.or_eq_true] at q
    have q := q.resolve_left (by intro z; rw [z] at hx; cases hx)
    unfold bEx1 at q
    simp only [Bool.and_eq_true] at q
    obtain ⟨q1, q2, q3, q4, q5, q6, q7, q8⟩ := q
    show ExcC K (cadM md K c)
    rw [cad_at h1]
    exact ⟨He.eqO_ok q1, He.eqO_ok q2, of_decide_eq_true q3, q4, He.eqO_ok q5, He.eqO_ok q6, of_decide_eq_true q7, of_decide_eq_true q8⟩
  · obtain ⟨k, h1, h2⟩ := fidx (show md.cls.findIdx? (fun c => c.nm == x) = some c from hx)
    have hk : (match md.cls[c]? with | some c => c.kd | none => 9) = 1 := hk
    rw [h1] at hk
    have hk : k.kd = 1 := hk
    have q := all_at t10 h1
    rw [Bool.or_eq_true] at q
    have q := q.resolve_left (by rw [hk]; intro z; cases z)
    simp only [Bool.and_eq_true] at q
    show Rsb K (cadM md K c)
    rw [cad_at h1]
    exact ⟨⟨_, _, _, _, PySem.F.excBase_ValueError, q.1⟩, of_decide_eq_true q.2.1, of_decide_eq_true q.2.2⟩
  · have hx0 := hx
    unfold excB at hx
    simp only [Bool.and_eq_true] at hx
    have q := List.all_eq_true.mp (List.all_eq_true.mp t11 e (List.mem_range.mpr (own_range hx.1.1))) c (List.mem_range.mpr (own_range hx.2.1))
    rw [Bool.or_eq_true] at q
    exact of_decide_eq_true (q.resolve_left (by rw [hx0]; exact Bool.noConfusion))
end
end LS
end
section
set_option Elab.async false
set_option linter.all false
set_option maxRecDepth 10000
/-! LS, part 19: the Hook; the law's def keeps its promise. -/
namespace LS
open PySem PySem.Spec PyProof.Rows L2
def dOf (fc : FnC) : He.DefD := ⟨fc.at_, fc.nm, fc.qual, defArgs fc.st, defBody fc.st, defScope fc.st, [], []⟩
def obsL (md : Md) (T : Tb) (K : PySem.W.Frag) : He.AlD := ((md.fns.all fun fc => (dOf fc).ok K) && tieB md T K, md.fns.map fun fc => He.fnW K fc.at_)
def valL (md : Md) : He.AlD := (true, md.fns.map fun fc => (dOf fc).val)
def SaysL (md : Md) (T : Tb) (K : PySem.W.Frag) : Prop := obsL md T K = valL md
def obsLG (n : Nat) (md : Md) (T : Tb) (g : Addr → Option Obj) : He.AlD := obsL md T (He.frG g (He.asD g n))
def hookL (n : Nat) (md : Md) (T : Tb) : PySem.W.Hook where
  α := He.AlD
  obs := fun s => obsLG n md T s.heap.get?
  val := fun _ => valL md
  says := fun _ h => ∃ K : PySem.W.Frag, K.In h ∧ SaysL md T K
  of := fun _ _ e => ⟨_, He.frG_in, e⟩
  keeps := fun _ _ _ ⟨K, hK, c⟩ k => ⟨K, PySem.W.Frag.In.keeps hK k, c⟩
theorem obsLG_eq {n : Nat} {md : Md} {T : Tb} {g : Addr → Option Obj} {s : Shared} (h : ∀ a, g a = s.heap.get? a) : obsLG n md T g = (hookL n md T).obs s := by
  have e : g = s.heap.get? := funext h
  rw [e]; rfl
/-- the parameters are bound as written -/
def BindP (fc : FnC) : Prop := ∀ (kV doc pm : Value) (an : Option Addr) (cdv ct : Value) (us : List Value), us.length = fc.ps.length → bindArgs (PySem.W.fnOf fc.nm fc.qual (defArgs fc.st) (defBody fc.st) (defScope fc.st) .none kV doc pm an cdv ct) ⟨us, []⟩ = pure (fc.ps.zip us)
def scB (fc : FnC) : Bool := (match (defScope fc.st).kind with | .function => true | _ => false) && (!(defScope fc.st).isCoroutine && (!(defScope fc.st).isGenerator && (decide fc.N.Nodup && (decide (fc.N.take fc.ps.length = fc.ps) &&
  ((fc.ps.all fun x => locB (defScope fc.st) x) && (defScope fc.st).names.all fun y => match y.2 with | .free => false | _ => true)))))
theorem scB_ok {fc : FnC} (h : scB fc = true) : FnScope fc.N fc.ps (defScope fc.st) := by
  unfold scB at h
  simp only [Bool.and_eq_true, Bool.not_eq_true', decide_eq_true_eq] at h
  obtain ⟨h1, h2, h3, h4, h5, h6, h7⟩ := h
  refine ⟨?_, h2, h3, h4, h5, fun x hx => loc_of (List.all_eq_true.mp h6 x hx), fun y hy z => ?_⟩
  · split at h1
    · assumption
    · cases h1
  · have := List.all_eq_true.mp h7 y hy
    rw [z] at this
    cases this
section
variable {md : Md} {fns : List Fn} {K : PySem.W.Frag} {h : Heap} {mg : Str → Option Value}
theorem says_fn (c : SaysL md (md.tb fns) K) {i : Nat} {fc : FnC} (e : md.fns[i]? = some fc) : ∃ fd, FunD K fc.nm fc.qual (defArgs fc.st) (defBody fc.st) (defScope fc.st) [] [] (He.fAd K fc.at_) fd := by
  have c2 := (He.ba (show ((md.fns.all fun fc => (dOf fc).ok K) && tieB md (md.tb fns) K) = true from congrArg (fun z : He.AlD => z.1) c)).1
  have e1 : md.fns.map (fun fc => He.fnW K fc.at_) = md.fns.map fun fc => (dOf fc).val := congrArg (fun z : He.AlD => z.2) c
  have e2 : (md.fns.map fun fc => He.fnW K fc.at_)[i]? = (md.fns.map fun fc => (dOf fc).val)[i]? := by rw [e1]
  rw [List.getElem?_map, List.getElem?_map, e] at e2
  exact He.DefD.funD (d := dOf fc) (Option.some.inj e2) (all_at c2 e)
theorem says_tie (c : SaysL md (md.tb fns) K) : tieB md (md.tb fns) K = true :=
  (He.ba (show ((md.fns.all fun fc => (dOf fc).ok K) && tieB md (md.tb fns) K) = true from congrArg (fun z : He.AlD => z.1) c)).2
/-- everything stands -/
theorem mok_of (X : K.In h) (Gn : h.Ns mainGlobals mg) (c : SaysL md (md.tb fns) K) (hsc : md.fns.all scB = true) (hfe : md.fns.map md.fn = fns.map some) (hb : ∀ fc ∈ md.fns, BindP fc) {li : Nat} {lf : FnC} (hl : md.fns[li]? = some lf) :
    ∃ fdf : Nat → FuncData, MOk (gmM md K) (gfM md K fdf) md (md.tb fns) mg ∧ FunD K lf.nm lf.qual (defArgs lf.st) (defBody lf.st) (defScope lf.st) [] [] (He.fAd K lf.at_) (fdf li) := by
  have ex : ∀ i : Nat, ∃ fd : FuncData, ∀ fc, md.fns[i]? = some fc → FunD K fc.nm fc.qual (defArgs fc.st) (defBody fc.st) (defScope fc.st) [] [] (He.fAd K fc.at_) fd := fun i => by
    cases e : md.fns[i]? with
    | none =>
      obtain ⟨fd, _⟩ := says_fn c hl
      exact ⟨fd, fun fc z => by cases z⟩
    | some fc =>
      obtain ⟨fd, q⟩ := says_fn c e
      exact ⟨fd, fun fc' z => by cases z; exact q⟩
  refine ⟨fun i => Classical.choose (ex i), ⟨?_, fun i fc e => ?_⟩, Classical.choose_spec (ex li) lf hl⟩
  · have := congrArg List.length hfe
    rw [List.length_map, List.length_map] at this
    exact this.symm
  · have F := Classical.choose_spec (ex i) fc e
    have e3 : (md.fns.map md.fn)[i]? = (fns.map some)[i]? := by rw [hfe]
    rw [List.getElem?_map, List.getElem?_map, e] at e3
    obtain ⟨fn, h1, h2⟩ : ∃ fn, fns[i]? = some fn ∧ md.fn fc = some fn := by
      cases e4 : fns[i]? with
      | none => rw [e4] at e3; cases e3
      | some fn => rw [e4] at e3; exact ⟨fn, rfl, Option.some.inj e3⟩
    have hps : (gfM md K (fun i => Classical.choose (ex i))).ps i = fc.ps := by
      show (match md.fns[i]? with | some g => g.ps | none => []) = _
      rw [e]
    have hfa : (gfM md K (fun i => Classical.choose (ex i))).fa i = He.fAd K fc.at_ := by
      show He.fAd K (match md.fns[i]? with | some g => g.at_ | none => ("", none)) = _
      rw [e]
    refine ⟨fn, defArgs fc.st, h1, h2, hps, ?_, scB_ok (all_at hsc e), ?_, tie_of X Gn (says_tie c) fc⟩
    · rw [hfa]; exact F
    · rw [hps]
      exact F.bindsN (hb fc (List.mem_of_getElem? e))
/-- the law: li its number; good: what the evaluator says of every script -/
theorem law_ok {P : Program} {w : World} {w0 n0 li nm : Nat} {lf : FnC} {x : Str} {fa : Addr} (X : K.In h) (Gn : h.Ns mainGlobals mg) (c : SaysL md (md.tb fns) K) (hsc : md.fns.all scB = true) (hfe : md.fns.map md.fn = fns.map some) (hb : ∀ fc ∈ md.fns, BindP fc) (hl : md.fns[li]? = some lf) (hps : lf.ps = [x]) (hat : lf.at_ = (("law" : Str), none))
    (hfa : mg ("law" : Str) = some (.ref fa)) (good : ∀ ns : List Int, ns.length ≤ nm → ∃ st, cal (md.tb fns) w0 n0 0 li [.scr ns] [] = .ok (.bl true) st) :
    ∃ (fd : FuncData) (sp : Sp), (∀ (s : Shared) (u : Value), BindsTo s fd ⟨[u], []⟩ [(x, u)]) ∧ (∀ (H : Hp) (a : Addr) (ns : List Int), ns.length ≤ nm → SqL K H a (ns.map V.int) → sp [.ref a] H (fun v _ => v = .bl true) fun _ _ _ => False) ∧
      ∀ base : Heap, K.In base → base.Ns mainGlobals mg → FnOk P w K mg base (L2.CX P w) (2 * n0) fa fd [x] sp := by
  obtain ⟨fdf, M, F⟩ := mok_of X Gn c hsc hfe hb hl
  have ea : He.fAd K lf.at_ = fa := by
    obtain ⟨fn, params, h1, h2, h3, h4, h5, h6, h7⟩ := M.fn li lf hl
    have q := all_at (show (md.fns.all fun g => PySem.W.keepIn K (.ref (He.fAd K g.at_)) && (!g.at_.2.isNone || globB K g.at_.1)) = true from by
      have t := says_tie c
      unfold tieB at t
      rw [Bool.and_eq_true] at t
      exact t.1) hl
    rw [hat] at q ⊢
    simp only [Bool.and_eq_true] at q
    have hg : globB K "law" = true := by simpa using q.2
    have := PySem.W.mg_of X Gn (He.eqO_ok hg)
    rw [hfa] at this
    cases this
    rfl
  refine ⟨fdf li, spC (gmM md K) (cal (md.tb fns) w0 n0 0) li, fun s v => ?_, fun H a ns hnm hS => ?_, fun base _ _ => ?_⟩
  · have q := F.bindsA (hb lf (List.mem_of_getElem? hl)) s [v] (by rw [hps]; rfl)
    rw [hps] at q
    exact q
  · obtain ⟨st, e⟩ := good ns hnm
    refine ⟨fun b => H b, [], [], [.scr ns], ⟨fun _ _ z => z, List.nodup_nil, rfl, fun i a e h1 _ => by simp at h1⟩, .cons (.scr hS) .nil, ?_⟩
    rw [e]
    intro F' H' α' R' X' v rv
    cases rv
    rfl
  · have q := all_fns (P := P) (w := w) (w0 := w0) (base := base) M n0 0 li lf hl
    have e1 : (gfM md K fdf).fa li = fa := by
      show He.fAd K (match md.fns[li]? with | some g => g.at_ | none => ("", none)) = _
      rw [hl]; exact ea
    have e2 : (gfM md K fdf).ps li = [x] := by
      show (match md.fns[li]? with | some g => g.ps | none => []) = _
      rw [hl]; exact hps
    rw [e1, e2] at q
    exact q
end
theorem cx_false {P : Program} {w : World} {H : Hp} {s : Shared} {e : Value} {s' : Shared} (h : L2.CX P w [] H s (fun _ _ _ => False) e s') : False := by
  obtain ⟨_, _, _, _, _, _, _, _, _, _, _, _, z⟩ := h
  exact z
/-- a law's end, the exceptions' word by the world -/
theorem walk_ls {l : PySem.W.OpenLaw} {n n0 li : Nat} {q : Program} {loose : List Str} {XP : (Str → Option Value) → Heap → Prop} {d : DefRec} {x : Str} {md : Md} {fns : List Fn} {w0 : Nat} {lf : FnC}
    (hn : l.most = some n) (hn2 : n ≤ sizeLine) (hdf : d.params.defaults = []) (hr : Room (2 * n0) callerA) (hd : d.name = ("law" : Str)) (hsc : md.fns.all scB = true) (hfe : md.fns.map md.fn = fns.map some) (hb : ∀ fc ∈ md.fns, BindP fc) (hl : md.fns[li]? = some lf) (hps : lf.ps = [x]) (hat : lf.at_ = (("law" : Str), none))
    (good : ∀ ns : List Int, ns.length ≤ n → ∃ st, cal (md.tb fns) w0 n0 0 li [.scr ns] [] = .ok (.bl true) st) :
    PySem.W.WalkO q loose XP (fun _ h => ∃ K : PySem.W.Frag, K.In h ∧ SaysL md (md.tb fns) K) l.row.toRowW d [] (fun f vs => PySem.call f vs) := by
  refine Att.attach_call hn hdf fun w s₀ s₁ mg mb fa o pm cd doc a vs ns G Y ho hd' hcd hmg hobj hints hlen hg => ?_
  obtain ⟨K, KX, c⟩ := Y
  rw [hd] at hmg
  obtain ⟨fd, sp, e1, e2, e3⟩ := law_ok (P := l.prog) (w := w) (w0 := w0) (n0 := n0) KX G.T.g c hsc hfe hb hl hps hat hmg good
  exact law_call KX G.T.g G.T.b G.T.builtins G.T.nolimit hg hobj hints (Nat.le_trans hlen hn2) hr e3 e1 (fun H _ hS => e2 H a ns hlen hS) fun H e s' z => cx_false z
end LS
end
section
set_option Elab.async false
set_option linter.all false
set_option maxRecDepth 10000
/-! LS, part 20: the evaluator, step by step (for plain laws). -/
namespace LS
open PySem
section
variable {T : Tb} {C : Nat → List D → Sto → Rs D} {b w : Nat} {ρ ρ' : Env} {st s s' s2 : Sto} {x y z e : Ex} {es : List Ex} {a c d : D} {ds : List D} {rest : List Sx}
theorem e_k : ev T C b ρ (.k d) st = .ok d st := by rw [ev]
theorem e_v {i : Nat} (h : ρ[i]? = some (some d)) : ev T C b ρ (.v i) st = .ok d st := by rw [ev, h]
theorem e_bin {o : Bop} (h1 : ev T C b ρ x st = .ok a s) (h2 : ev T C b ρ y s = .ok c s') (h : bop o (view s' a) (view s' c) = some d) : ev T C b ρ (.bin o x y) st = .ok d s' := by
  rw [ev, h1, Rs.bind_ok, h2, Rs.bind_ok, h]; rfl
theorem e_cmp {o : Cop} {k : Bool} (h1 : ev T C b ρ x st = .ok a s) (h2 : ev T C b ρ y s = .ok c s') (h : cop o (view s' a) (view s' c) = some k) : ev T C b ρ (.cmp o x y) st = .ok (.bl k) s' := by
  rw [ev, h1, Rs.bind_ok, h2, Rs.bind_ok, h]; rfl
theorem e_chain {o o' : Cop} {k k' : Bool} (h1 : ev T C b ρ x st = .ok a s) (h2 : ev T C b ρ y s = .ok c s') (h : cop o (view s' a) (view s' c) = some k) (h3 : k = true → ev T C b ρ z s' = .ok d s' ∧ cop o' (view s' c) (view s' d) = some k') (hk : k = false → k' = false) : ev T C b ρ (.chain o o' x y z) st = .ok (.bl k') s' := by
  rw [ev, h1, Rs.bind_ok, h2, Rs.bind_ok, h]
  cases k with
  | true =>
    obtain ⟨e1, e2⟩ := h3 rfl
    simp only [e1, Rs.bind_ok, e2]; rfl
  | false => rw [hk rfl]
theorem e_isN (h1 : ev T C b ρ x st = .ok a s) : ev T C b ρ (.isN x) st = .ok (.bl (D.isN a)) s := by rw [ev, h1]; rfl
theorem e_notN (h1 : ev T C b ρ x st = .ok a s) : ev T C b ρ (.notN x) st = .ok (.bl (!D.isN a)) s := by rw [ev, h1]; rfl
theorem e_and_t {k : Bool} (h1 : ev T C b ρ x st = .ok (.bl true) s) (h2 : ev T C b ρ y s = .ok (.bl k) s') : ev T C b ρ (.and x y) st = .ok (.bl k) s' := by rw [ev, h1, Rs.bind_ok]; simp only [h2, Rs.bind_ok]
theorem e_and_f (h1 : ev T C b ρ x st = .ok (.bl false) s) : ev T C b ρ (.and x y) st = .ok (.bl false) s := by rw [ev, h1, Rs.bind_ok]
theorem e_or_f {k : Bool} (h1 : ev T C b ρ x st = .ok (.bl false) s) (h2 : ev T C b ρ y s = .ok (.bl k) s') : ev T C b ρ (.or x y) st = .ok (.bl k) s' := by rw [ev, h1, Rs.bind_ok]; simp only [h2, Rs.bind_ok]
theorem e_or_t (h1 : ev T C b ρ x st = .ok (.bl true) s) : ev T C b ρ (.or x y) st = .ok (.bl true) s := by rw [ev, h1, Rs.bind_ok]
/-- the same store throughout -/
theorem e_and {k k' : Bool} (h1 : ev T C b ρ x st = .ok (.bl k) s) (h2 : k = true → ev T C b ρ y s = .ok (.bl k') s) : ev T C b ρ (.and x y) st = .ok (.bl (k && k')) s := by
  cases k with
  | true => rw [e_and_t h1 (h2 rfl)]; rfl
  | false => rw [e_and_f h1]; rfl
theorem e_or {k k' : Bool} (h1 : ev T C b ρ x st = .ok (.bl k) s) (h2 : k = false → ev T C b ρ y s = .ok (.bl k') s) : ev T C b ρ (.or x y) st = .ok (.bl (k || k')) s := by
  cases k with
  | true => rw [e_or_t h1]; rfl
  | false => rw [e_or_f h1 (h2 rfl)]; rfl
theorem e_not {k : Bool} (h1 : ev T C b ρ x st = .ok (.bl k) s) : ev T C b ρ (.not x) st = .ok (.bl (!k)) s := by rw [ev, h1, Rs.bind_ok]
theorem e_ite_t {t : Ex} {r : Rs D} (h1 : ev T C b ρ t st = .ok (.bl true) s) (h2 : ev T C b ρ x s = r) : ev T C b ρ (.ite t x y) st = r := by rw [ev, h1, Rs.bind_ok]; exact h2
theorem e_ite_f {t : Ex} {r : Rs D} (h1 : ev T C b ρ t st = .ok (.bl false) s) (h2 : ev T C b ρ y s = r) : ev T C b ρ (.ite t x y) st = r := by rw [ev, h1, Rs.bind_ok]; exact h2
theorem e_tup (h : evs T C b ρ es st = .ok ds s) (hz : ds.length ≤ SZ) : ev T C b ρ (.tup es) st = .ok (.tup ds) s := by rw [ev, h, Rs.bind_ok, if_pos hz]
theorem e_lst {lv : Bool} (h : evs T C b ρ es st = .ok ds s) (hz : ds.length ≤ SZ) : ev T C b ρ (.lst lv es) st = mkL lv ds s := by rw [ev, h, Rs.bind_ok, if_pos hz]
theorem e_edic {lv : Bool} : ev T C b ρ (.edic lv) st = mkD lv [] [] st := by rw [ev]
theorem e_fld {f : Nat} (h1 : ev T C b ρ x st = .ok a s) (h : fldOf T (view s a) f = some d) : ev T C b ρ (.fld x f) st = .ok d s := by rw [ev, h1, Rs.bind_ok, h]; rfl
theorem e_ix (h1 : ev T C b ρ x st = .ok a s) (h2 : ev T C b ρ y s = .ok c s') (h : index (view s' a) c = some d) : ev T C b ρ (.ix x y) st = .ok d s' := by rw [ev, h1, Rs.bind_ok, h2, Rs.bind_ok, h]; rfl
theorem e_sl {lo hi : Option Int} (h1 : ev T C b ρ x st = .ok a s) (h2 : evo T C b ρ y s = .ok lo s') (h3 : evo T C b ρ z s' = .ok hi s2) (h : slice (view s2 a) lo hi = some d) : ev T C b ρ (.sl x y z) st = .ok d s2 := by
  rw [ev, h1, Rs.bind_ok, h2, Rs.bind_ok, h3, Rs.bind_ok, h]; rfl
theorem eo_nil : evo T C b ρ .nil st = .ok none st := by rw [evo]
theorem eo_int {i : Int} (hx : x ≠ .nil) (h : ev T C b ρ x st = .ok (.int i) s) : evo T C b ρ x st = .ok (some i) s := by
  rw [evo.eq_2 T C b ρ x st (fun e => hx e), h, Rs.bind_ok]
theorem e_rev {xs : List D} (h1 : ev T C b ρ x st = .ok a s) (h : view s a = .lst xs) : ev T C b ρ (.rev x) st = .ok (.lst xs.reverse) s := by rw [ev, h1, Rs.bind_ok, h]
theorem e_call {f : Nat} {r : Rs D} (h : evs T C b ρ es st = .ok ds s) (h2 : C f ds s = r) : ev T C b ρ (.call f es) st = r := by rw [ev, h, Rs.bind_ok]; exact h2
theorem e_new {k : Nat} {lv : Bool} {r : Rs D} (h : evs T C b ρ es st = .ok ds s) (h2 : mkNew T C k lv ds s = r) : ev T C b ρ (.new k lv es) st = r := by rw [ev, h, Rs.bind_ok]; exact h2
theorem e_mth {m f : Nat} {r : Rs D} (h1 : ev T C b ρ x st = .ok a s) (h : mthOf T (view s a) m = some f) (h2 : evs T C b ρ es s = .ok ds s') (h3 : C f (a :: ds) s' = r) : ev T C b ρ (.mth x m es) st = r := by
  rw [ev, h1, Rs.bind_ok, h]; simp only [h2, Rs.bind_ok]; exact h3
theorem e_bf {k : Bf} {lv : Bool} {r : Rs D} (h : evs T C b ρ es st = .ok ds s) (h2 : bfn k lv (ds.map (view s)) s = r) : ev T C b ρ (.bf k lv es) st = r := by rw [ev, h, Rs.bind_ok]; exact h2
theorem e_bm {k : Bm} {t : BT} {r : Rs D} (h1 : ev T C b ρ x st = .ok a s) (h : recv k (view s a) = some t) (h2 : evs T C b ρ es s = .ok ds s') (h3 : bmt k b a (view s' a) ds s' = r) : ev T C b ρ (.bm k x es) st = r := by
  rw [ev, h1, Rs.bind_ok, h]; simp only [h2, Rs.bind_ok]; exact h3
theorem e_isa {ts : List Ty} {k : Kd} {bb : Bool} (h1 : ev T C b ρ x st = .ok a s) (h : kdOf T (view s a) = some k) (h2 : isAny T k ts = some bb) : ev T C b ρ (.isa x ts) st = .ok (.bl bb) s := by
  rw [ev, h1, Rs.bind_ok, h, Option.bind_some, h2]; rfl
theorem es_nil : evs T C b ρ [] st = .ok [] st := by rw [evs]
theorem es_cons (h1 : ev T C b ρ e st = .ok d s) (h2 : evs T C b ρ es s = .ok ds s') : evs T C b ρ (e :: es) st = .ok (d :: ds) s' := by rw [evs, h1, Rs.bind_ok, h2, Rs.bind_ok]
theorem es_one (h1 : ev T C b ρ e st = .ok d s) : evs T C b ρ [e] st = .ok [d] s := es_cons h1 es_nil
/-- a comprehension over one name: f what a turn says -/
theorem e_lc {lv : Bool} {own : List Nat} {i : Nat} {it : Ex} {rs : List D} {r : Rs D} (h1 : wk T C b ρ it st = .ok ds s) (h2 : lcL (fun d s1 => (ev T C b ((wipeE ρ own).set i (some d)) e s1).noex.bind fun r s3 => .ok (some r) s3) ds [] s = .ok rs s') (h3 : mkL lv rs s' = r) :
    ev T C b ρ (.lc lv e own [i] false it (.k (.bl true))) st = r := by
  have q : ev T C b ρ (.lc lv e own [i] false it (.k (.bl true))) st = (wk T C b ρ it st).bind fun ds s => (lcL (fun d s1 => (ev T C b ((wipeE ρ own).set i (some d)) e s1).noex.bind fun r s3 => .ok (some r) s3) ds [] s).bind fun rs s' => mkL lv rs s' := by simp [ev, target]
  rw [q, h1, Rs.bind_ok, h2, Rs.bind_ok]; exact h3
theorem e_lcIf {lv : Bool} {own : List Nat} {i : Nat} {it t : Ex} {rs : List D} {r : Rs D} (h1 : wk T C b ρ it st = .ok ds s) (h2 : lcL (fun d s1 => (ev T C b ((wipeE ρ own).set i (some d)) t s1).noex.bind fun k s2 => (match k with
        | .bl true => (ev T C b ((wipeE ρ own).set i (some d)) e s2).noex.bind fun r s3 => .ok (some r) s3
        | .bl false => .ok none s2
        | _ => .no)) ds [] s = .ok rs s') (h3 : mkL lv rs s' = r) :
    ev T C b ρ (.lc lv e own [i] false it t) st = r := by
  have q : ev T C b ρ (.lc lv e own [i] false it t) st = (wk T C b ρ it st).bind fun ds s => (lcL (fun d s1 => (ev T C b ((wipeE ρ own).set i (some d)) t s1).noex.bind fun k s2 => (match k with
        | .bl true => (ev T C b ((wipeE ρ own).set i (some d)) e s2).noex.bind fun r s3 => .ok (some r) s3
        | .bl false => .ok none s2
        | _ => .no)) ds [] s).bind fun rs s' => mkL lv rs s' := by rw [ev]; rfl
  rw [q, h1, Rs.bind_ok, h2, Rs.bind_ok]; exact h3
theorem w_rng {xs : List D} (h : evs T C b ρ es st = .ok ds s) (h2 : rngOf ds = some xs) : wk T C b ρ (.rng es) st = .ok xs s := by rw [wk, h, Rs.bind_ok, h2]; rfl
theorem w_enum {xs : List D} (h : ev T C b ρ x st = .ok a s) (h2 : seqOf (still s a) = some xs) : wk T C b ρ (.enum x) st = .ok (enumL 0 xs) s := by rw [wk, h, Rs.bind_ok, h2]; rfl
theorem w_val {xs : List D} (hv : isVal x = true) (h : ev T C b ρ x st = .ok a s) (h2 : walkOf (still s a) = some xs) : wk T C b ρ x st = .ok xs s := by
  have q : wk T C b ρ x st = (ev T C b ρ x st).bind fun a s => pur (walkOf (still s a)) s := by
    cases x <;> first | (simp only [wk]; done) | (simp [isVal] at hv)
  rw [q, h, Rs.bind_ok, h2]; rfl
/-! ### statements -/
theorem x_nil : xss T C b w [] ρ st = .ok (.nx ρ) st := by rw [xss]
theorem x_set {i : Nat} (h : ev T C b ρ e st = .ok d s) : xss T C b w (.set i e :: rest) ρ st = xss T C b w rest (ρ.set i (some d)) s := by rw [xss, xs, h]; rfl
theorem x_ex (h : ev T C b ρ e st = .ok d s) : xss T C b w (.ex e :: rest) ρ st = xss T C b w rest ρ s := by rw [xss, xs, h]; rfl
theorem x_exX {k : Nat} {fs : List Nat} {vs : List D} (h : ev T C b ρ e st = .ex k fs vs s) : xss T C b w (.ex e :: rest) ρ st = .ex k fs vs s := by rw [xss, xs, h]; rfl
theorem x_setX {i : Nat} {k : Nat} {fs : List Nat} {vs : List D} (h : ev T C b ρ e st = .ex k fs vs s) : xss T C b w (.set i e :: rest) ρ st = .ex k fs vs s := by rw [xss, xs, h]; rfl
theorem x_par {i j : Nat} (h1 : ev T C b ρ x st = .ok a s) (h2 : ev T C b ρ y s = .ok c s') : xss T C b w (.par i j x y :: rest) ρ st = xss T C b w rest ((ρ.set i (some a)).set j (some c)) s' := by
  rw [xss, xs, h1, Rs.bind_ok, h2]; rfl
theorem x_setF {o : Ex} {f : Nat} (h1 : ev T C b ρ e st = .ok d s) (h2 : ev T C b ρ o s = .ok a s') (h : stF T b a f d s' = some s2) : xss T C b w (.setF o f e :: rest) ρ st = xss T C b w rest ρ s2 := by
  rw [xss, xs, h1, Rs.bind_ok, h2, Rs.bind_ok, h]; rfl
theorem x_setI {o i : Ex} {s3 : Sto} (h1 : ev T C b ρ e st = .ok d s) (h2 : ev T C b ρ o s = .ok a s') (h3 : ev T C b ρ i s' = .ok c s2) (h : stI b a c d s2 = some s3) : xss T C b w (.setI o i e :: rest) ρ st = xss T C b w rest ρ s3 := by
  rw [xss, xs, h1, Rs.bind_ok, h2, Rs.bind_ok, h3, Rs.bind_ok, h]; rfl
theorem x_aug {i : Nat} {p q : Int} (h : ρ[i]? = some (some (.int p))) (h1 : ev T C b ρ e st = .ok (.int q) s) : xss T C b w (.aug i .add e :: rest) ρ st = xss T C b w rest (ρ.set i (some (.int (p + q)))) s := by
  rw [xss, xs, h]; simp only [h1, Rs.bind_ok, bop]; rfl
theorem x_ret (h : ev T C b ρ e st = .ok d s) (hf : freeze b 6 d s = .ok a s') : xss T C b w (.ret e :: rest) ρ st = .ok (.rt a) s' := by rw [xss, xs, h, Rs.bind_ok, hf]; rfl
theorem x_retX {k : Nat} {fs : List Nat} {vs : List D} (h : ev T C b ρ e st = .ex k fs vs s) : xss T C b w (.ret e :: rest) ρ st = .ex k fs vs s := by rw [xss, xs, h]; rfl
theorem x_iff_t {t : Ex} {p q : List Sx} (h : ev T C b ρ t st = .ok (.bl true) s) : xss T C b w (.iff t p q :: rest) ρ st = (xss T C b w p ρ s).bind fun f s => (match f with
    | .nx ρ' => xss T C b w rest ρ' s
    | g => .ok g s) := by rw [xss, xs, h]; rfl
theorem x_iff_f {t : Ex} {p q : List Sx} (h : ev T C b ρ t st = .ok (.bl false) s) : xss T C b w (.iff t p q :: rest) ρ st = (xss T C b w q ρ s).bind fun f s => (match f with
    | .nx ρ' => xss T C b w rest ρ' s
    | g => .ok g s) := by rw [xss, xs, h]; rfl
/-- an if with nothing behind it that is not taken -/
theorem x_iff_no {t : Ex} {p : List Sx} (h : ev T C b ρ t st = .ok (.bl false) s) : xss T C b w (.iff t p [] :: rest) ρ st = xss T C b w rest ρ s := by rw [x_iff_f h, x_nil]; rfl
theorem x_iff_ret {t : Ex} {p q : List Sx} {r : D} (h : ev T C b ρ t st = .ok (.bl true) s) (h2 : xss T C b w p ρ s = .ok (.rt r) s') : xss T C b w (.iff t p q :: rest) ρ st = .ok (.rt r) s' := by rw [x_iff_t h, h2]; rfl
theorem x_iff_nx {t : Ex} {p q : List Sx} (h : ev T C b ρ t st = .ok (.bl true) s) (h2 : xss T C b w p ρ s = .ok (.nx ρ') s') : xss T C b w (.iff t p q :: rest) ρ st = xss T C b w rest ρ' s' := by rw [x_iff_t h, h2]; rfl
theorem x_iff_ex {t : Ex} {p q : List Sx} {k : Nat} {fs : List Nat} {vs : List D} (h : ev T C b ρ t st = .ok (.bl true) s) (h2 : xss T C b w p ρ s = .ex k fs vs s') : xss T C b w (.iff t p q :: rest) ρ st = .ex k fs vs s' := by rw [x_iff_t h, h2]; rfl
theorem x_rais {k : Nat} : xss T C b w (.rais k :: rest) ρ st = .ex k [] [] st := by rw [xss, xs]; rfl
theorem x_for {tg : List Nat} {tt : Bool} {it : Ex} {bd : List Sx} {xs' : List D} {r : Rs Fl} (h : wk T C b ρ it st = .ok xs' s) (h2 : forL (fun d ρ1 s1 => match target ρ1 tg tt d with
      | some ρ2 => xss T C b w bd ρ2 s1
      | none => .no) xs' ρ s = r) : xss T C b w (.for tg tt it bd :: rest) ρ st = r.bind fun f s => (match f with
    | .nx ρ' => xss T C b w rest ρ' s
    | g => .ok g s) := by rw [xss, xs, h, Rs.bind_ok]; rw [← h2] <;> rfl
end
end LS
end
section
set_option Elab.async false
set_option linter.all false
set_option maxRecDepth 10000
/-! PS, part 1: an evaluator without a store, for defs that change nothing but their own flat things. -/
namespace LS
open PySem
/-- a slot's content: a value, or a thing of the def's own that is still changed -/
inductive PVl where | s (d : D) | l (e : Ent)
abbrev PEnv := List (Option PVl)
inductive PR (α : Type) where
  | ok (a : α) | ex (c : Nat) (fs : List Nat) (vs : List D) | no
def PR.bind {α β : Type} (r : PR α) (k : α → PR β) : PR β := match r with
  | .ok a => k a
  | .ex c fs vs => .ex c fs vs
  | .no => .no
@[simp] theorem PR.bind_ok {α β : Type} (a : α) (k : α → PR β) : (PR.ok a).bind k = k a := rfl
@[simp] theorem PR.bind_ex {α β : Type} (c fs vs) (k : α → PR β) : (PR.ex c fs vs : PR α).bind k = .ex c fs vs := rfl
@[simp] theorem PR.bind_no {α β : Type} (k : α → PR β) : (PR.no : PR α).bind k = .no := rfl
def PR.noex {α : Type} : PR α → PR α
  | .ok a => .ok a
  | _ => .no
@[simp] theorem PR.noex_ok {α : Type} (a : α) : (PR.ok a).noex = .ok a := rfl
def ppur {α : Type} (o : Option α) : PR α := match o with | some a => .ok a | none => .no
@[simp] theorem ppur_some {α : Type} (a : α) : ppur (some a) = .ok a := rfl
@[simp] theorem ppur_none {α : Type} : ppur (none : Option α) = .no := rfl
def entD : Ent → D
  | .lst xs => .lst xs | .dic ks vs => .dic ks vs | .ins c fs vs => .ins c fs vs | .fz d => d
/-- what is asked of an expression: its value, what it looks like, what it is walked as, a slice's part -/
inductive Md4 where | st | vw | wk | op
def post (m : Md4) (d : D) : PR D := match m with
  | .st => .ok d
  | .vw => .ok d
  | .wk => ppur ((walkOf d).map .lst)
  | .op => match d with | .int i => .ok (.int i) | _ => .no
/-- the calls: defs, classes -/
structure Orc where
  C : Nat → List D → PR D
  N : Nat → List D → PR D
def pvar (m : Md4) (ρ : PEnv) (i : Nat) : PR D := match ρ[i]? with
  | some (some (.s d)) => post m d
  | some (some (.l e)) => match m with
    | .vw => .ok (entD e)
    | _ => .no
  | _ => .no
def pwipe (ρ : PEnv) : List Nat → PEnv
  | [] => ρ
  | i :: is => (pwipe ρ is).set i none
def psetN (ρ : PEnv) : List Nat → List D → PEnv
  | i :: is, d :: ds => psetN (ρ.set i (some (.s d))) is ds
  | _, _ => ρ
def ptarget (ρ : PEnv) (tg : List Nat) (tt : Bool) (d : D) : Option PEnv := if tt then (match d with
    | .tup ds => if ds.length = tg.length then some (psetN ρ tg ds) else none
    | _ => none) else (match tg with | [i] => some (ρ.set i (some (.s d))) | _ => none)
/-- a comprehension's turns -/
def plc1 (f : D → PR (Option D)) : List D → List D → PR (List D)
  | [], acc => .ok acc
  | x :: xs, acc => (f x).bind fun o => match o with
    | none => plc1 f xs acc
    | some d => if acc.length < SZ then plc1 f xs (acc ++ [d]) else .no
def pbfn (b : Bf) (ds : List D) : PR D := match bfn b false ds [] with
  | .ok d _ => .ok d
  | _ => .no
def pbmt (b : Bm) (a : D) (ds : List D) : PR D := match bmt b 0 .non a ds [] with
  | .ok d _ => .ok d
  | _ => .no
section
variable (T : Tb) (O : Orc)
mutual
def pe (ρ : PEnv) : Md4 → Ex → PR D
  | .op, .nil => .ok .non
  | m, .k d => if D.nr d then post m d else .no
  | m, .v i => pvar m ρ i
  | m, .bin o x y => (pe ρ .vw x).bind fun a => (pe ρ .vw y).bind fun c => (ppur (bop o a c)).bind (post m)
  | m, .cmp o x y => (pe ρ .vw x).bind fun a => (pe ρ .vw y).bind fun c => (ppur (cop o a c)).bind fun k => post m (.bl k)
  | m, .chain o o' x y z => (pe ρ .vw x).bind fun a => (pe ρ .vw y).bind fun c => (match cop o a c with
      | some true => (pe ρ .vw z).bind fun d => (ppur (cop o' c d)).bind fun k => post m (.bl k)
      | some false => post m (.bl false)
      | none => .no)
  | m, .isN x => (pe ρ .st x).bind fun a => post m (.bl (D.isN a))
  | m, .notN x => (pe ρ .st x).bind fun a => post m (.bl (!D.isN a))
  | m, .and x y => (pe ρ .st x).bind fun a => (match a with
      | .bl true => (pe ρ .st y).bind fun c => (match c with | .bl k => post m (.bl k) | _ => .no)
      | .bl false => post m (.bl false)
      | _ => .no)
  | m, .or x y => (pe ρ .st x).bind fun a => (match a with
      | .bl true => post m (.bl true)
      | .bl false => (pe ρ .st y).bind fun c => (match c with | .bl k => post m (.bl k) | _ => .no)
      | _ => .no)
  | m, .not x => (pe ρ .st x).bind fun a => (match a with | .bl k => post m (.bl (!k)) | _ => .no)
  | m, .ite t x y => (pe ρ .st t).bind fun a => (match a with
      | .bl true => (pe ρ .st x).bind (post m)
      | .bl false => (pe ρ .st y).bind (post m)
      | _ => .no)
  | m, .tup es => (pes ρ .st es).bind fun ds => if ds.length ≤ SZ then post m (.tup ds) else .no
  | m, .lst false es => (pes ρ .st es).bind fun ds => if ds.length ≤ SZ then post m (.lst ds) else .no
  | m, .edic false => post m (.dic [] [])
  | m, .fld e f => (pe ρ .vw e).bind fun a => (ppur (fldOf T a f)).bind (post m)
  | m, .ix x y => (pe ρ .vw x).bind fun a => (pe ρ .st y).bind fun c => (ppur (index a c)).bind (post m)
  | m, .sl x lo hi => (pe ρ .vw x).bind fun a => (pe ρ .op lo).bind fun l => (pe ρ .op hi).bind fun h => (ppur ((part l).bind fun l => (part h).bind fun h => slice a l h)).bind (post m)
  | m, .rev x => (pe ρ .vw x).bind fun a => (match a with | .lst xs => post m (.lst xs.reverse) | _ => .no)
  | m, .call f es => (pes ρ .st es).bind fun ds => (O.C f ds).bind (post m)
  | m, .new c false es => (pes ρ .st es).bind fun ds => (O.N c ds).bind (post m)
  | m, .mth e k es => (pe ρ .st e).bind fun a => (match mthOf T a k with
      | some f => (pes ρ .st es).bind fun ds => (O.C f (a :: ds)).bind (post m)
      | none => .no)
  | m, .bf k false es => (pes ρ .vw es).bind fun ds => (pbfn k ds).bind (post m)
  | m, .bm k e es => (pe ρ .vw e).bind fun a => (match recv k a with
      | some _ => (pes ρ .st es).bind fun ds => (pbmt k a ds).bind (post m)
      | none => .no)
  | m, .isa e ts => (pe ρ .vw e).bind fun a => (ppur ((kdOf T a).bind fun k => isAny T k ts)).bind fun k => post m (.bl k)
  | m, .lc false elt own tg tt it c => (pe ρ .wk it).bind fun w => (match w with
      | .lst ds => (plc1 (fun d => match ptarget (pwipe ρ own) tg tt d with
        | some ρ' => (pe ρ' .st c).noex.bind fun k => (match k with
          | .bl true => (pe ρ' .st elt).noex.bind fun r => .ok (some r)
          | .bl false => .ok none
          | _ => .no)
        | none => .no) ds []).bind fun rs => post m (.lst rs)
      | _ => .no)
  | .wk, .rng es => (pes ρ .st es).bind fun ds => (ppur (rngOf ds)).bind fun xs => .ok (.lst xs)
  | .wk, .enum e => (pe ρ .st e).bind fun a => (ppur (seqOf a)).bind fun xs => .ok (.lst (enumL 0 xs))
  | .wk, .zip x y => (pe ρ .st x).bind fun a => (pe ρ .st y).bind fun c => (ppur ((lstOf a).bind fun xs => (lstOf c).map fun ys => zipL xs ys)).bind fun xs => .ok (.lst xs)
  | .wk, .rvd e => (pe ρ .st e).bind fun a => (ppur (lstOf a)).bind fun xs => .ok (.lst xs.reverse)
  | _, _ => .no
def pes (ρ : PEnv) (m : Md4) : List Ex → PR (List D)
  | [] => .ok []
  | e :: es => (pe ρ m e).bind fun d => (pes ρ m es).bind fun ds => .ok (d :: ds)
end
end
end LS
end
section
set_option Elab.async false
set_option linter.all false
set_option maxRecDepth 10000
/-! PS, part 2: statements. -/
namespace LS
open PySem
inductive PFl where | nx (ρ : PEnv) | bk (ρ : PEnv) | ct (ρ : PEnv) | rt (d : D)
def forP (f : D → PEnv → PR PFl) : List D → PEnv → PR PFl
  | [], ρ => .ok (.nx ρ)
  | x :: xs, ρ => (f x ρ).bind fun r => (match r with
    | .nx ρ' => forP f xs ρ'
    | .ct ρ' => forP f xs ρ'
    | .bk ρ' => .ok (.nx ρ')
    | .rt d => .ok (.rt d))
def whP (t : PEnv → PR D) (f : PEnv → PR PFl) : Nat → PEnv → PR PFl
  | 0, _ => .no
  | w + 1, ρ => (t ρ).bind fun a => (match a with
    | .bl true => (f ρ).bind fun r => (match r with
      | .nx ρ' => whP t f w ρ'
      | .ct ρ' => whP t f w ρ'
      | .bk ρ' => .ok (.nx ρ')
      | .rt d => .ok (.rt d))
    | .bl false => .ok (.nx ρ)
    | _ => .no)
section
variable (T : Tb) (O : Orc)
/-- what is set: a fresh thing that is still changed, or a value -/
def pfr (ρ : PEnv) : Ex → PR PVl
  | .lst true es => (pes T O ρ .st es).bind fun ds => if ds.length ≤ SZ then .ok (.l (.lst ds)) else .no
  | .edic true => .ok (.l (.dic [] []))
  | .bf k true es => (pes T O ρ .vw es).bind fun ds => (match k, ds with
      | .list, [.lst xs] => .ok (.l (.lst xs))
      | .list, [.tup xs] => .ok (.l (.lst xs))
      | _, _ => .no)
  | .lc true elt own tg tt it c => (pe T O ρ .st (.lc false elt own tg tt it c)).bind fun d => (match d with
      | .lst xs => .ok (.l (.lst xs))
      | _ => .no)
  | e => (pe T O ρ .st e).bind fun d => .ok (.s d)
def lvAt (ρ : PEnv) (i : Nat) : Option Ent := match ρ[i]? with
  | some (some (.l e)) => some e
  | _ => none
def psetF (ρ : PEnv) (i f : Nat) (d : D) : Option PEnv := match lvAt ρ i with
  | some (.ins c fs vs) => if fs.length < 900 && plain T c then some (ρ.set i (some (.l (.ins c (putf fs vs f d).1 (putf fs vs f d).2)))) else none
  | _ => none
def psetI (ρ : PEnv) (i : Nat) (k d : D) : Option PEnv := match lvAt ρ i with
  | some (.lst xs) => (match k with
    | .int j => (plc xs.length j).map fun j => ρ.set i (some (.l (.lst (xs.set j d))))
    | _ => none)
  | some (.dic ks vs) => if isKey k && decide (ks.length < SZ) then some (ρ.set i (some (.l (.dic (putd ks vs k d).1 (putd ks vs k d).2)))) else none
  | _ => none
/-- what is given back -/
def pret (ρ : PEnv) : Ex → PR D
  | .v i => (match lvAt ρ i with
    | some e => .ok (entD e)
    | none => pe T O ρ .st (.v i))
  | e => pe T O ρ .st e
mutual
def pxs (w : Nat) : Sx → PEnv → PR PFl
  | .ex (.bm .append (.v i) [e]), ρ => (match lvAt ρ i with
      | some (.lst xs) => (pe T O ρ .st e).bind fun d => if xs.length < SZ then .ok (.nx (ρ.set i (some (.l (.lst (xs ++ [d])))))) else .no
      | _ => .no)
  | .ex e, ρ => (pe T O ρ .st e).bind fun _ => .ok (.nx ρ)
  | .set i e, ρ => (pfr T O ρ e).bind fun p => .ok (.nx (ρ.set i (some p)))
  | .setT is e, ρ => (pe T O ρ .vw e).bind fun d => ppur ((ptarget ρ is true d).map .nx)
  | .par i j x y, ρ => (pe T O ρ .st x).bind fun d => (pe T O ρ .st y).bind fun d' => .ok (.nx ((ρ.set i (some (.s d))).set j (some (.s d'))))
  | .setF (.v i) f e, ρ => (pe T O ρ .st e).bind fun d => ppur ((psetF T ρ i f d).map .nx)
  | .setI (.v i) k e, ρ => if (lvAt ρ i).isSome then (pe T O ρ .st e).bind fun d => (pe T O ρ .st k).bind fun k => ppur ((psetI ρ i k d).map .nx) else .no
  | .aug i .add e, ρ => (pe T O ρ .st (.v i)).bind fun a => (pe T O ρ .st e).bind fun d => (match a, d with
      | .int p, .int q => .ok (.nx (ρ.set i (some (.s (.int (p + q))))))
      | _, _ => .no)
  | .ret e, ρ => (pret T O ρ e).bind fun d => .ok (.rt d)
  | .iff t x y, ρ => (pe T O ρ .st t).bind fun a => (match a with
      | .bl true => pxss w x ρ
      | .bl false => pxss w y ρ
      | _ => .no)
  | .for tg tt it bd, ρ => (pe T O ρ .wk it).bind fun d => (match d with
      | .lst ds => forP (fun d ρ1 => match ptarget ρ1 tg tt d with
        | some ρ2 => pxss w bd ρ2
        | none => .no) ds ρ
      | _ => .no)
  | .whl t bd, ρ => whP (fun ρ1 => pe T O ρ1 .st t) (fun ρ1 => pxss w bd ρ1) w ρ
  | .brk, ρ => .ok (.bk ρ)
  | .cnt, ρ => .ok (.ct ρ)
  | .pass, ρ => .ok (.nx ρ)
  | .rais c, ρ => .ex c [] []
  | .tryK (.set j e) c i d, ρ => if D.nr d then (match pe T O ρ .st e with
      | .ex e fs vs => if excB T e c then (if T.sub e c then .ok (.nx (ρ.set i (some (.s d)))) else .ex e fs vs) else .no
      | .ok d => .ok (.nx (ρ.set j (some (.s d))))
      | .no => .no) else .no
  | .tryE (.set j e) c n i, ρ => (match pe T O ρ .st e with
      | .ex e fs vs => if excB T e c then (if T.sub e c then .ok (.nx ((ρ.set i (some (.s (.exc e fs vs)))).set n none)) else .ex e fs vs) else .no
      | .ok d => .ok (.nx (ρ.set j (some (.s d))))
      | .no => .no)
  | _, _ => .no
def pxss (w : Nat) : List Sx → PEnv → PR PFl
  | [], ρ => .ok (.nx ρ)
  | x :: r, ρ => (pxs w x ρ).bind fun f => (match f with
    | .nx ρ' => pxss w r ρ'
    | g => .ok g)
end
def pend (r : PR PFl) : PR D := match r with
  | .ok (.nx _) => .ok .non
  | .ok (.rt d) => .ok d
  | .ex c fs vs => .ex c fs vs
  | _ => .no
/-- a def called with these arguments -/
def pfn (w : Nat) (fn : Fn) (ds : List D) : PR D := pend (pxss T O w fn.body (ds.map (fun d => some (.s d)) ++ List.replicate (fn.ns - fn.np) none))
/-- a new thing of a class made by its __init__ -/
def pini (w : Nat) (fn : Fn) (c : Nat) (ds : List D) : PR D := match pxss T O w fn.body (some (.l (.ins c [] [])) :: ds.map (fun d => some (.s d)) ++ List.replicate (fn.ns - fn.np) none) with
  | .ok (.nx ρ) => (match lvAt ρ 0 with | some (.ins c fs vs) => .ok (.ins c fs vs) | _ => .no)
  | .ex c fs vs => .ex c fs vs
  | _ => .no
end
end LS
end
section
set_option Elab.async false
set_option linter.all false
set_option maxRecDepth 10000
/-! PS, part 3: the evaluator without a store says the same: expressions. -/
namespace LS
open PySem
def entOk : Ent → Bool
  | .lst xs => D.nrs xs | .dic ks vs => D.nrs ks && D.nrs vs | .ins _ _ vs => D.nrs vs | .fz _ => false
structure PRel (b : Nat) (st : Sto) (ρ : PEnv) (σ : Env) : Prop where
  len : σ.length = ρ.length
  s : ∀ (i : Nat) (d : D), ρ[i]? = some (some (PVl.s d)) → σ[i]? = some (some d) ∧ D.nr d = true
  l : ∀ (i : Nat) (e : Ent), ρ[i]? = some (some (PVl.l e)) → ∃ n, σ[i]? = some (some (D.ref n)) ∧ b ≤ n ∧ st[n]? = some e ∧ entOk e = true
  inj : ∀ (i j : Nat) (e e' : Ent) (n : Nat), ρ[i]? = some (some (PVl.l e)) → ρ[j]? = some (some (PVl.l e')) → σ[i]? = some (some (D.ref n)) → σ[j]? = some (some (D.ref n)) → i = j
  ins : ∀ (i c : Nat) (fs : List Nat) (vs : List D), ρ[i]? = some (some (PVl.l (.ins c fs vs))) → σ[i]? = some (some (D.ref b))
/-- what stood ahead of the base is as it was -/
structure Ge (b : Nat) (st st' : Sto) : Prop where
  h : ∀ n, n < b → st'[n]? = st[n]?
  l : b ≤ st'.length
/-- a call's end, whatever the store -/
def lifts (r : PR D) (st : Sto) (L : Rs D) : Prop := match r with
  | .ok d => D.nr d = true ∧ L = .ok d st
  | .ex c fs vs => D.nrs vs = true ∧ ∃ s, Ge st.length st s ∧ L = .ex c fs vs s
  | .no => True
structure OrcOk (T : Tb) (CL : Nat → List D → Sto → Rs D) (O : Orc) : Prop where
  c : ∀ f ds st, lifts (O.C f ds) st (CL f ds st)
  n : ∀ c ds st, lifts (O.N c ds) st (mkNew T CL c false ds st)
theorem view_nr {st : Sto} {d : D} (h : D.nr d = true) : view st d = d := by cases d <;> first | rfl | simp [D.nr] at h
theorem still_nr {st : Sto} {d : D} (h : D.nr d = true) : still st d = d := by cases d <;> first | rfl | simp [D.nr] at h
theorem nrs_mem {xs : List D} (h : D.nrs xs = true) : ∀ d ∈ xs, D.nr d = true := by
  induction xs with
  | nil => intro d hd; cases hd
  | cons x xs ih =>
    simp only [D.nrs, Bool.and_eq_true] at h
    intro d hd
    rcases List.mem_cons.mp hd with rfl | hd
    · exact h.1
    · exact ih h.2 d hd
theorem nrs_all {xs : List D} (h : ∀ d ∈ xs, D.nr d = true) : D.nrs xs = true := by
  induction xs with
  | nil => rfl
  | cons x xs ih =>
    simp only [D.nrs, Bool.and_eq_true]
    exact ⟨h x (List.mem_cons_self ..), ih fun d hd => h d (List.mem_cons_of_mem _ hd)⟩
theorem nrs_app {xs ys : List D} (h : D.nrs xs = true) (h2 : D.nrs ys = true) : D.nrs (xs ++ ys) = true :=
  nrs_all fun d hd => (List.mem_append.mp hd).elim (nrs_mem h d) (nrs_mem h2 d)
theorem nr_get {xs : List D} {j : Nat} {d : D} (h : D.nrs xs = true) (e : xs[j]? = some d) : D.nr d = true := nrs_mem h d (List.mem_of_getElem? e)
section
variable {T : Tb} {C : Nat → List D → Sto → Rs D} {b : Nat} {O : Orc}
def EG (T : Tb) (C : Nat → List D → Sto → Rs D) (b : Nat) (σ : Env) (st : Sto) (m : Md4) (e : Ex) (r : PR D) : Prop := match r with
  | .no => True
  | .ok d => D.nr d = true ∧ (match m with
    | .st => ev T C b σ e st = .ok d st
    | .vw => ∃ a, ev T C b σ e st = .ok a st ∧ view st a = d
    | .wk => ∃ xs, d = .lst xs ∧ wk T C b σ e st = .ok xs st
    | .op => ∃ o, part d = some o ∧ evo T C b σ e st = .ok o st)
  | .ex c fs vs => D.nrs vs = true ∧ ∃ s, Ge st.length st s ∧ (match m with
    | .st => ev T C b σ e st = .ex c fs vs s
    | .vw => ev T C b σ e st = .ex c fs vs s
    | .wk => wk T C b σ e st = .ex c fs vs s
    | .op => evo T C b σ e st = .ex c fs vs s)
theorem pwk_val {σ : Env} {st : Sto} {x : Ex} (hv : isVal x = true) : wk T C b σ x st = (ev T C b σ x st).bind fun a s => pur (walkOf (still s a)) s := by
  cases x <;> first | (simp only [wk]; done) | (simp [isVal] at hv)
theorem evo_val {σ : Env} {st : Sto} {x : Ex} (hv : isVal x = true) : evo T C b σ x st = (ev T C b σ x st).bind fun d s => (match d with | .int i => .ok (some i) s | _ => .no) := by
  rw [evo.eq_2 T C b σ x st (fun e => by rw [e] at hv; cases hv)] <;> rfl
theorem signs_nr (s : Str) : D.nrs (signs s) = true := nrs_all fun d hd => by
  obtain ⟨c, _, rfl⟩ := List.mem_map.mp hd; rfl
theorem walk_nr {d : D} {xs : List D} (h : D.nr d = true) (e : walkOf d = some xs) : D.nrs xs = true := by
  cases d <;> simp only [walkOf] at e <;> cases e
  · exact signs_nr _
  · simpa [D.nr] using h
  · simpa [D.nr] using h
theorem post_val {σ : Env} {st : Sto} {m : Md4} {e : Ex} {d : D} (hv : isVal e = true) (hd : D.nr d = true) (h : ev T C b σ e st = .ok d st) : EG T C b σ st m e (post m d) := by
  cases m with
  | st => exact ⟨hd, h⟩
  | vw => exact ⟨hd, d, h, view_nr hd⟩
  | wk =>
    unfold post
    cases hw : walkOf d with
    | none => exact trivial
    | some xs =>
      refine ⟨by simpa [D.nr] using walk_nr hd hw, xs, rfl, ?_⟩
      rw [pwk_val hv, h, Rs.bind_ok, still_nr hd, hw]; rfl
  | op =>
    unfold post
    cases d <;> try exact trivial
    rename_i i
    refine ⟨rfl, some i, rfl, ?_⟩
    rw [evo_val hv, h]; rfl
theorem ex_val {σ : Env} {st : Sto} {m : Md4} {e : Ex} {c : Nat} {fs : List Nat} {vs : List D} {P : Sto → Prop} (hv : isVal e = true) (hd : D.nrs vs = true ∧ ∃ s, Ge st.length st s ∧ P s) (h : ∀ s, P s → ev T C b σ e st = .ex c fs vs s) : EG T C b σ st m e (.ex c fs vs) := by
  obtain ⟨hd, s, hg, hp⟩ := hd
  have h := h s hp
  cases m with
  | st => exact ⟨hd, s, hg, h⟩
  | vw => exact ⟨hd, s, hg, h⟩
  | wk => exact ⟨hd, s, hg, by rw [pwk_val hv, h]; rfl⟩
  | op => exact ⟨hd, s, hg, by rw [evo_val hv, h]; rfl⟩
def EGs (T : Tb) (C : Nat → List D → Sto → Rs D) (b : Nat) (σ : Env) (st : Sto) (m : Md4) (es : List Ex) (r : PR (List D)) : Prop := match r with
  | .no => True
  | .ok ds => D.nrs ds = true ∧ (match m with
    | .st => evs T C b σ es st = .ok ds st
    | .vw => ∃ as, evs T C b σ es st = .ok as st ∧ as.map (view st) = ds
    | _ => True)
  | .ex c fs vs => D.nrs vs = true ∧ ∃ s, Ge st.length st s ∧ (match m with
    | .st => evs T C b σ es st = .ex c fs vs s
    | .vw => evs T C b σ es st = .ex c fs vs s
    | _ => True)
/-! ### what the operators give is no reference -/
theorem bop_nr {o : Bop} {a c d : D} (ha : D.nr a = true) (hc : D.nr c = true) (h : bop o a c = some d) : D.nr d = true := by
  unfold bop at h
  split at h <;> (try split at h) <;> cases h <;> first | rfl | skip
  · simp only [D.nr] at ha hc ⊢; exact nrs_app ha hc
  · simp only [D.nr] at ha hc ⊢; exact nrs_app ha hc
theorem lkd_mem {g : D} : ∀ {ks vs : List D} {d : D}, lkd ks vs g = some d → d ∈ vs
  | [], _, _, h => by simp [lkd] at h
  | k :: ks, [], _, h => by simp [lkd] at h
  | k :: ks, v :: vs, d, h => by
    rw [lkd] at h
    split at h
    · cases h; exact List.mem_cons_self ..
    · exact List.mem_cons_of_mem _ (lkd_mem h)
theorem lkp_mem {g : Nat} : ∀ {ks : List Nat} {vs : List D} {d : D}, lkp ks vs g = some d → d ∈ vs
  | [], _, _, h => by simp [lkp] at h
  | k :: ks, [], _, h => by simp [lkp] at h
  | k :: ks, v :: vs, d, h => by
    rw [lkp] at h
    split at h
    · cases h; exact List.mem_cons_self ..
    · exact List.mem_cons_of_mem _ (lkp_mem h)
theorem index_nr {a c d : D} (ha : D.nr a = true) (h : index a c = some d) : D.nr d = true := by
  unfold index at h
  split at h
  · obtain ⟨j, _, h⟩ := Option.bind_eq_some_iff.mp h
    exact nr_get (by simpa [D.nr] using ha) h
  · obtain ⟨j, _, h⟩ := Option.bind_eq_some_iff.mp h
    exact nr_get (by simpa [D.nr] using ha) h
  · obtain ⟨j, _, h⟩ := Option.bind_eq_some_iff.mp h
    obtain ⟨i, _, rfl⟩ := Option.map_eq_some_iff.mp h
    rfl
  · split at h
    · obtain ⟨j, _, h⟩ := Option.bind_eq_some_iff.mp h
      obtain ⟨i, _, rfl⟩ := Option.map_eq_some_iff.mp h
      rfl
    · cases h
  · split at h
    · simp only [D.nr, Bool.and_eq_true] at ha
      exact nrs_mem ha.2 _ (lkd_mem h)
    · cases h
  · cases h
theorem cut_nr {xs : List D} {lo hi : Option Int} (h : D.nrs xs = true) : D.nrs (cut xs lo hi) = true :=
  nrs_all fun d hd => nrs_mem h d (List.mem_of_mem_drop (List.mem_of_mem_take hd))
theorem slice_nr {a d : D} {lo hi : Option Int} (ha : D.nr a = true) (h : slice a lo hi = some d) : D.nr d = true := by
  unfold slice at h
  split at h
  · cases h; simp only [D.nr] at ha ⊢; exact cut_nr ha
  · cases h; simp only [D.nr] at ha ⊢; exact cut_nr ha
  · split at h <;> cases h; rfl
  · cases h
theorem fld_nr {a d : D} {f : Nat} (ha : D.nr a = true) (h : fldOf T a f = some d) : D.nr d = true := by
  unfold fldOf at h
  split at h
  · split at h
    · simp only [D.nr] at ha
      exact nrs_mem ha _ (lkp_mem h)
    · cases h
  · cases h
theorem pur_ok {α : Type} {o : Option α} {st s : Sto} {a : α} (h : pur o st = .ok a s) : o = some a ∧ s = st := by
  cases o <;> cases h; exact ⟨rfl, rfl⟩
end
end LS
end
section
set_option Elab.async false
set_option linter.all false
set_option maxRecDepth 10000
/-! PS, part 4: what built-ins give; slots. -/
namespace LS
open PySem
section
variable {T : Tb} {C : Nat → List D → Sto → Rs D} {b : Nat} {O : Orc}
theorem prs_nr : ∀ {xs : List D} {r : List D × List D}, D.nrs xs = true → prs xs = some r → D.nrs r.1 = true ∧ D.nrs r.2 = true
  | [], r, _, h => by cases h; exact ⟨rfl, rfl⟩
  | x :: xs, r, hn, h => by
    simp only [D.nrs, Bool.and_eq_true] at hn
    unfold prs at h
    split at h
    · rename_i hh; cases hh
    · rename_i k v ys hh
      cases hh
      split at h
      · obtain ⟨r', h1, rfl⟩ := Option.map_eq_some_iff.mp h
        obtain ⟨a1, a2⟩ := prs_nr hn.2 h1
        have h3 := hn.1
        simp only [D.nr, D.nrs, Bool.and_eq_true] at h3
        exact ⟨by simp only [D.nrs, Bool.and_eq_true]; exact ⟨h3.1, a1⟩, by simp only [D.nrs, Bool.and_eq_true]; exact ⟨h3.2.1, a2⟩⟩
      · cases h
    · cases h
theorem repd_nr {g d : D} (hd : D.nr d = true) : ∀ {ks vs : List D}, D.nrs vs = true → D.nrs (repd ks vs g d) = true
  | [], _, _ => by simp [repd, D.nrs]
  | k :: ks, [], _ => by simp [repd, D.nrs]
  | k :: ks, v :: vs, h => by
    simp only [D.nrs, Bool.and_eq_true] at h
    simp only [repd, D.nrs, Bool.and_eq_true]
    refine ⟨?_, repd_nr hd h.2⟩
    split
    · exact hd
    · exact h.1
theorem putd_nr {ks vs : List D} {g d : D} (h1 : D.nrs ks = true) (h2 : D.nrs vs = true) (hg : D.nr g = true) (hd : D.nr d = true) : D.nrs (putd ks vs g d).1 = true ∧ D.nrs (putd ks vs g d).2 = true := by
  unfold putd
  split
  · exact ⟨h1, repd_nr hd h2⟩
  · exact ⟨nrs_app h1 (by simp [D.nrs, hg]), nrs_app h2 (by simp [D.nrs, hd])⟩
theorem merge_nr : ∀ {ks vs : List D} {acc : List D × List D}, D.nrs ks = true → D.nrs vs = true → D.nrs acc.1 = true → D.nrs acc.2 = true → D.nrs (merge acc ks vs).1 = true ∧ D.nrs (merge acc ks vs).2 = true
  | [], _, acc, _, _, h3, h4 => by simp [merge, h3, h4]
  | k :: ks, [], acc, _, _, h3, h4 => by simp [merge, h3, h4]
  | k :: ks, v :: vs, acc, h1, h2, h3, h4 => by
    simp only [D.nrs, Bool.and_eq_true] at h1 h2
    rw [merge]
    have := putd_nr h3 h4 h1.1 h2.1
    exact merge_nr h1.2 h2.2 this.1 this.2
theorem strs_nr (ss : List Str) : D.nrs (ss.map .str) = true := nrs_all fun d hd => by obtain ⟨s, _, rfl⟩ := List.mem_map.mp hd; rfl
def stOf (r : Rs D) (st : Sto) : Rs D := match r with | .ok d _ => .ok d st | _ => .no
theorem pur_st {o : Option D} {st : Sto} : pur o st = stOf (pur o []) st := by cases o <;> rfl
theorem bfn_st {k : Bf} {ds : List D} {st : Sto} : bfn k false ds st = stOf (bfn k false ds []) st := by
  unfold bfn
  split
  all_goals first
    | rfl
    | exact pur_st
    | (split <;> first | rfl | (split <;> rfl))
    | skip
theorem pur_nr {o : Option D} {st s : Sto} {d : D} (h : pur o st = .ok d s) (hn : ∀ x, o = some x → D.nr x = true) : D.nr d = true := by
  obtain ⟨rfl, _⟩ := pur_ok h
  exact hn d rfl
theorem bfn_nr {k : Bf} {ds : List D} {st s : Sto} {d : D} (hd : D.nrs ds = true) (h : bfn k false ds st = .ok d s) : D.nr d = true := by
  unfold bfn at h
  split at h
  all_goals first
    | (cases h; done)
    | (cases h; rfl)
    | (refine pur_nr h fun x hx => ?_; obtain ⟨_, _, rfl⟩ := Option.map_eq_some_iff.mp hx; rfl)
    | (cases h; simpa [D.nrs, D.nr] using hd)
    | skip
  · split at h <;> cases h; rfl
  · split at h
    · split at h
      · cases h; simp only [D.nr]; exact strs_nr _
      · cases h
    · cases h
  · split at h
    · rename_i hp
      cases h
      have := prs_nr (by simpa [D.nrs, D.nr] using hd) hp
      have := merge_nr (acc := ([], [])) this.1 this.2 rfl rfl
      simp only [D.nr, this.1, this.2, Bool.and_self]
    · cases h
  · split at h
    · rename_i hp
      cases h
      have := prs_nr (by simpa [D.nrs, D.nr] using hd) hp
      have := merge_nr (acc := ([], [])) this.1 this.2 rfl rfl
      simp only [D.nr, this.1, this.2, Bool.and_self]
    · cases h
  · split at h <;> cases h; rfl
theorem pbfn_ok {k : Bf} {ds : List D} {d : D} {st : Sto} (hd : D.nrs ds = true) (h : pbfn k ds = .ok d) : D.nr d = true ∧ bfn k false ds st = .ok d st := by
  unfold pbfn at h
  split at h
  · rename_i d' s e
    cases h
    exact ⟨bfn_nr hd e, by rw [bfn_st, e]; rfl⟩
  · cases h
theorem pbfn_nex {k : Bf} {ds : List D} {c fs vs} : pbfn k ds ≠ .ex c fs vs := by
  unfold pbfn
  split <;> intro h <;> cases h
theorem pbmt_ok {k : Bm} {a : D} {ds : List D} {d : D} {bb : Nat} {o : D} {st : Sto} (h : pbmt k a ds = .ok d) : D.nr d = true ∧ bmt k bb o a ds st = .ok d st := by
  unfold pbmt at h
  split at h
  · rename_i d' s e
    cases h
    unfold bmt at e
    split at e
    · rename_i hh; cases hh
    · rename_i o' xs x
      split at e
      · rename_i hc
        obtain ⟨h1, _⟩ := pur_ok e
        obtain ⟨j, _, rfl⟩ := Option.map_eq_some_iff.mp h1
        exact ⟨rfl, by simp only [bmt, hc, if_true, h1, pur_some]⟩
      · cases e
    · rename_i xs x
      split at e
      · rename_i hc
        cases e
        exact ⟨rfl, by simp only [bmt, hc]⟩
      · cases e
    · rename_i xs x
      split at e
      · rename_i hc
        split at e
        · rename_i hz
          cases e
          exact ⟨rfl, by simp only [bmt, hc]; rw [if_pos hz]⟩
        · cases e
      · cases e
    · cases e
  · cases h
theorem pbmt_nex {k : Bm} {a : D} {ds : List D} {c fs vs} : pbmt k a ds ≠ .ex c fs vs := by
  unfold pbmt
  split <;> intro h <;> cases h
/-! ### slots -/
theorem set_get {α : Type} {xs : List α} {i j : Nat} {x y : α} (h : (xs.set i x)[j]? = some y) : (i = j ∧ y = x ∧ i < xs.length) ∨ (i ≠ j ∧ xs[j]? = some y) := by
  by_cases e : i = j
  · subst e
    rw [List.getElem?_set_self'] at h
    cases hx : xs[i]? with
    | none => rw [hx] at h; cases h
    | some z =>
      rw [hx] at h
      cases h
      exact .inl ⟨rfl, rfl, (List.getElem?_eq_some_iff.mp hx).1⟩
  · rw [List.getElem?_set_ne e] at h
    exact .inr ⟨e, h⟩
theorem set_at {α : Type} {xs : List α} {i : Nat} {x : α} (h : i < xs.length) : (xs.set i x)[i]? = some x := List.getElem?_set_self h
/-- a slot is given a value, or nothing -/
theorem PRel.setN {st : Sto} {ρ : PEnv} {σ : Env} {i : Nat} (h : PRel b st ρ σ) : PRel b st (ρ.set i none) (σ.set i none) where
  len := by rw [List.length_set, List.length_set]; exact h.len
  s := fun j d e => by
    rcases set_get e with ⟨_, h2, _⟩ | ⟨h1, h2⟩
    · cases h2
    · rw [List.getElem?_set_ne h1]; exact h.s j d h2
  l := fun j d e => by
    rcases set_get e with ⟨_, h2, _⟩ | ⟨h1, h2⟩
    · cases h2
    · rw [List.getElem?_set_ne h1]; exact h.l j d h2
  inj := fun j k e e' n h1 h2 h3 h4 => by
    rcases set_get h1 with ⟨_, z, _⟩ | ⟨n1, h1⟩
    · cases z
    rcases set_get h2 with ⟨_, z, _⟩ | ⟨n2, h2⟩
    · cases z
    rw [List.getElem?_set_ne n1] at h3
    rw [List.getElem?_set_ne n2] at h4
    exact h.inj j k e e' n h1 h2 h3 h4
  ins := fun j c fs vs e => by
    rcases set_get e with ⟨_, h2, _⟩ | ⟨h1, h2⟩
    · cases h2
    · rw [List.getElem?_set_ne h1]; exact h.ins j c fs vs h2
theorem PRel.set {st : Sto} {ρ : PEnv} {σ : Env} {i : Nat} {d : D} (h : PRel b st ρ σ) (hd : D.nr d = true) : PRel b st (ρ.set i (some (.s d))) (σ.set i (some d)) where
  len := by rw [List.length_set, List.length_set]; exact h.len
  s := fun j d' e => by
    rcases set_get e with ⟨h1, h2, h3⟩ | ⟨h1, h2⟩
    · cases h2
      subst h1
      exact ⟨set_at (by rw [h.len]; exact h3), hd⟩
    · rw [List.getElem?_set_ne h1]; exact h.s j d' h2
  l := fun j d' e => by
    rcases set_get e with ⟨_, h2, _⟩ | ⟨h1, h2⟩
    · cases h2
    · rw [List.getElem?_set_ne h1]; exact h.l j d' h2
  inj := fun j k e e' n h1 h2 h3 h4 => by
    rcases set_get h1 with ⟨_, z, _⟩ | ⟨n1, h1⟩
    · cases z
    rcases set_get h2 with ⟨_, z, _⟩ | ⟨n2, h2⟩
    · cases z
    rw [List.getElem?_set_ne n1] at h3
    rw [List.getElem?_set_ne n2] at h4
    exact h.inj j k e e' n h1 h2 h3 h4
  ins := fun j c fs vs e => by
    rcases set_get e with ⟨_, h2, _⟩ | ⟨h1, h2⟩
    · cases h2
    · rw [List.getElem?_set_ne h1]; exact h.ins j c fs vs h2
theorem PRel.wipe {st : Sto} {ρ : PEnv} {σ : Env} (h : PRel b st ρ σ) : ∀ own : List Nat, PRel b st (pwipe ρ own) (wipeE σ own)
  | [] => h
  | i :: own => (h.wipe own).setN
theorem PRel.setNs {st : Sto} : ∀ {tg : List Nat} {ds : List D} {ρ : PEnv} {σ : Env}, PRel b st ρ σ → D.nrs ds = true → PRel b st (psetN ρ tg ds) (LS.setN σ tg ds)
  | [], ds, ρ, σ, h, _ => by simp only [psetN, LS.setN]; exact h
  | i :: tg, [], ρ, σ, h, _ => by simp only [psetN, LS.setN]; exact h
  | i :: tg, d :: ds, ρ, σ, h, hd => by
    simp only [D.nrs, Bool.and_eq_true] at hd
    simp only [psetN, LS.setN]
    exact PRel.setNs (h.set hd.1) hd.2
theorem PRel.target {st : Sto} {ρ ρ' : PEnv} {σ : Env} {tg : List Nat} {tt : Bool} {d : D} (h : PRel b st ρ σ) (hd : D.nr d = true) (e : ptarget ρ tg tt d = some ρ') : ∃ σ', LS.target σ tg tt d = some σ' ∧ PRel b st ρ' σ' := by
  unfold ptarget at e
  unfold LS.target
  cases tt with
  | true =>
    simp only [if_true] at e ⊢
    split at e
    · split at e
      · rename_i hl
        cases e
        simp only [hl, if_true]
        exact ⟨_, rfl, h.setNs (by simpa [D.nr] using hd)⟩
      · cases e
    · cases e
  | false =>
    simp only [Bool.false_eq_true, if_false] at e ⊢
    split at e
    · cases e
      exact ⟨_, rfl, h.set hd⟩
    · cases e
end
end LS
end
section
set_option Elab.async false
set_option linter.all false
set_option maxRecDepth 10000
set_option maxHeartbeats 1000000
/-! PS, part 5: expressions. -/
namespace LS
open PySem
section
variable {T : Tb} {C : Nat → List D → Sto → Rs D} {b b0 : Nat} {O : Orc}
theorem pvar_ok {st : Sto} {ρ : PEnv} {σ : Env} {m : Md4} {i : Nat} (R : PRel b0 st ρ σ) : EG T C b σ st m (.v i) (pvar m ρ i) := by
  unfold pvar
  split
  · rename_i d h
    obtain ⟨h1, h2⟩ := R.s i d h
    exact post_val rfl h2 (e_v h1)
  · rename_i e h
    obtain ⟨n, h1, _, h3, h4⟩ := R.l i e h
    cases m <;> try exact trivial
    have hv : view st (.ref n) = entD e := by
      cases e <;> simp only [view, h3, entD]
    refine ⟨?_, .ref n, e_v h1, hv⟩
    cases e <;> simp only [entOk, entD, D.nr] at h4 ⊢
    · exact h4
    · exact h4
    · exact h4
    · cases h4
  · exact trivial
theorem plc1_ok {f : D → PR (Option D)} {g : D → Sto → Rs (Option D)} {st : Sto} : ∀ {ds acc rs : List D}, (∀ d ∈ ds, ∀ o, f d = .ok o → g d st = .ok o st ∧ ∀ x, o = some x → D.nr x = true) → D.nrs acc = true → plc1 f ds acc = .ok rs → lcL g ds acc st = .ok rs st ∧ D.nrs rs = true
  | [], acc, rs, _, ha, h => by
    cases h
    exact ⟨by simp [lcL], ha⟩
  | x :: ds, acc, rs, hf, ha, h => by
    rw [plc1] at h
    cases hx : f x with
    | no => rw [hx] at h; cases h
    | ex c fs vs => rw [hx] at h; cases h
    | ok o =>
      rw [hx] at h
      obtain ⟨h1, h2⟩ := hf x (List.mem_cons_self ..) o hx
      simp only [PR.bind_ok] at h
      rw [lcL, h1, Rs.bind_ok]
      cases o with
      | none => exact plc1_ok (fun d hd => hf d (List.mem_cons_of_mem _ hd)) ha h
      | some d =>
        simp only at h ⊢
        split at h
        · rename_i hz
          rw [if_pos hz]
          exact plc1_ok (fun d hd => hf d (List.mem_cons_of_mem _ hd)) (nrs_app ha (by simp [D.nrs, h2 d rfl])) h
        · cases h
theorem plc1_nex {f : D → PR (Option D)} {c fs vs} (hf : ∀ d, ∀ c fs vs, f d ≠ .ex c fs vs) : ∀ {ds acc : List D}, plc1 f ds acc ≠ .ex c fs vs
  | [], acc => by rw [plc1]; intro h; cases h
  | x :: ds, acc => by
    rw [plc1]
    cases hx : f x with
    | no => intro h; cases h
    | ex c fs vs => exact absurd hx (hf x c fs vs)
    | ok o =>
      simp only [PR.bind_ok]
      cases o with
      | none => exact plc1_nex hf
      | some d =>
        simp only
        split
        · exact plc1_nex hf
        · intro h; cases h
theorem enumL_nr : ∀ {i : Nat} {xs : List D}, D.nrs xs = true → D.nrs (enumL i xs) = true
  | _, [], _ => rfl
  | i, x :: xs, h => by
    simp only [D.nrs, Bool.and_eq_true] at h
    simp only [enumL, D.nrs, D.nr, Bool.and_eq_true, h.1]
    exact ⟨⟨trivial, trivial, trivial⟩, enumL_nr h.2⟩
theorem zipL_nr : ∀ {xs ys : List D}, D.nrs xs = true → D.nrs ys = true → D.nrs (zipL xs ys) = true
  | [], _, _, _ => by simp [zipL, D.nrs]
  | x :: xs, [], _, _ => by simp [zipL, D.nrs]
  | x :: xs, y :: ys, h, h2 => by
    simp only [D.nrs, Bool.and_eq_true] at h h2
    simp only [zipL, D.nrs, D.nr, Bool.and_eq_true, h.1, h2.1]
    exact ⟨⟨trivial, trivial, trivial⟩, zipL_nr h.2 h2.2⟩
theorem rng_nr {ds xs : List D} (h : rngOf ds = some xs) : D.nrs xs = true := by
  have q : ∀ lo n, D.nrs (rngL lo n) = true := fun lo n => nrs_all fun d hd => by
    obtain ⟨i, _, rfl⟩ := List.mem_map.mp hd; rfl
  unfold rngOf at h
  split at h
  · split at h <;> cases h; exact q _ _
  · split at h <;> cases h; exact q _ _
  · cases h
def plcF (T : Tb) (O : Orc) (ρ : PEnv) (elt : Ex) (own tg : List Nat) (tt : Bool) (c : Ex) : D → PR (Option D) := fun d => match ptarget (pwipe ρ own) tg tt d with
  | some ρ' => (pe T O ρ' .st c).noex.bind fun k => (match k with
    | .bl true => (pe T O ρ' .st elt).noex.bind fun r => .ok (some r)
    | .bl false => .ok none
    | _ => .no)
  | none => .no
def llcF (T : Tb) (C : Nat → List D → Sto → Rs D) (b : Nat) (σ : Env) (elt : Ex) (own tg : List Nat) (tt : Bool) (c : Ex) : D → Sto → Rs (Option D) := fun d s1 => match target (wipeE σ own) tg tt d with
  | some ρ' => (ev T C b ρ' c s1).noex.bind fun k s2 => (match k with
    | .bl true => (ev T C b ρ' elt s2).noex.bind fun r s3 => .ok (some r) s3
    | .bl false => .ok none s2
    | _ => .no)
  | none => .no
mutual
theorem pe_ok (K : OrcOk T C O) {st : Sto} {ρ : PEnv} {σ : Env} (R : PRel b0 st ρ σ) : ∀ (e : Ex) (m : Md4), EG T C b σ st m e (pe T O ρ m e)
  | .nil, m => by
    cases m <;> simp only [pe] <;> first | exact trivial | exact ⟨rfl, none, rfl, eo_nil⟩
  | .k d, m => by
    have : pe T O ρ m (.k d) = if D.nr d then post m d else .no := by cases m <;> rfl
    rw [this]
    split
    · rename_i h; exact post_val rfl h e_k
    · exact trivial
  | .v i, m => by
    have : pe T O ρ m (.v i) = pvar m ρ i := by cases m <;> rfl
    rw [this]
    exact pvar_ok R
  | .bin o x y, m => by
    have : pe T O ρ m (.bin o x y) = (pe T O ρ .vw x).bind fun a => (pe T O ρ .vw y).bind fun c => (ppur (bop o a c)).bind (post m) := by cases m <;> rfl
    rw [this]
    have hx := pe_ok K R x .vw
    cases ex : pe T O ρ .vw x with
    | no => exact trivial
    | ex c fs vs => rw [ex] at hx; exact ex_val rfl hx fun s he_ => by rw [ev, he_]; rfl
    | ok a =>
      rw [ex] at hx
      obtain ⟨n1, a', ha, va⟩ := hx
      have hy := pe_ok K R y .vw
      cases ey : pe T O ρ .vw y with
      | no => exact trivial
      | ex c fs vs => rw [ey] at hy; exact ex_val rfl hy fun s he_ => by rw [ev, ha, Rs.bind_ok, he_]; rfl
      | ok c =>
        rw [ey] at hy
        obtain ⟨n2, c', hc, vc⟩ := hy
        simp only [PR.bind_ok]
        cases ho : bop o a c with
        | none => exact trivial
        | some d => exact post_val rfl (bop_nr n1 n2 ho) (e_bin ha hc (by rw [va, vc]; exact ho))
  | .cmp o x y, m => by
    have : pe T O ρ m (.cmp o x y) = (pe T O ρ .vw x).bind fun a => (pe T O ρ .vw y).bind fun c => (ppur (cop o a c)).bind fun k => post m (.bl k) := by cases m <;> rfl
    rw [this]
    have hx := pe_ok K R x .vw
    cases ex : pe T O ρ .vw x with
    | no => exact trivial
    | ex c fs vs => rw [ex] at hx; exact ex_val rfl hx fun s he_ => by rw [ev, he_]; rfl
    | ok a =>
      rw [ex] at hx
      obtain ⟨n1, a', ha, va⟩ := hx
      have hy := pe_ok K R y .vw
      cases ey : pe T O ρ .vw y with
      | no => exact trivial
      | ex c fs vs => rw [ey] at hy; exact ex_val rfl hy fun s he_ => by rw [ev, ha, Rs.bind_ok, he_]; rfl
      | ok c =>
        rw [ey] at hy
        obtain ⟨n2, c', hc, vc⟩ := hy
        simp only [PR.bind_ok]
        cases ho : cop o a c with
        | none => exact trivial
        | some d => exact post_val rfl rfl (e_cmp ha hc (by rw [va, vc]; exact ho))
  | .chain o o' x y z, m => by
    have : pe T O ρ m (.chain o o' x y z) = (pe T O ρ .vw x).bind fun a => (pe T O ρ .vw y).bind fun c => (match cop o a c with
      | some true => (pe T O ρ .vw z).bind fun d => (ppur (cop o' c d)).bind fun k => post m (.bl k)
      | some false => post m (.bl false)
      | none => .no) := by cases m <;> rfl
    rw [this]
    have hx := pe_ok K R x .vw
    cases ex : pe T O ρ .vw x with
    | no => exact trivial
    | ex c fs vs => rw [ex] at hx; exact ex_val rfl hx fun s he_ => by rw [ev, he_]; rfl
    | ok a =>
      rw [ex] at hx
      obtain ⟨n1, a', ha, va⟩ := hx
      have hy := pe_ok K R y .vw
      cases ey : pe T O ρ .vw y with
      | no => exact trivial
      | ex c fs vs => rw [ey] at hy; exact ex_val rfl hy fun s he_ => by rw [ev, ha, Rs.bind_ok, he_]; rfl
      | ok c =>
        rw [ey] at hy
        obtain ⟨n2, c', hc, vc⟩ := hy
        simp only [PR.bind_ok]
        cases ho : cop o a c with
        | none => exact trivial
        | some k =>
          cases k with
          | false => exact post_val rfl rfl (e_chain (k := false) (d := .non) ha hc (by rw [va, vc]; exact ho) (fun h => by cases h) (fun _ => rfl))
          | true =>
            simp only
            have hz := pe_ok K R z .vw
            cases ez : pe T O ρ .vw z with
            | no => exact trivial
            | ex c fs vs => rw [ez] at hz; exact ex_val rfl hz fun s he_ => by rw [ev, ha, Rs.bind_ok, hc, Rs.bind_ok, va, vc, ho]; simp only [he_]; rfl
            | ok d =>
              rw [ez] at hz
              obtain ⟨n3, d', hd, vd⟩ := hz
              simp only [PR.bind_ok]
              cases ho' : cop o' c d with
              | none => exact trivial
              | some k' => exact post_val rfl rfl (e_chain (k := true) ha hc (by rw [va, vc]; exact ho) (fun _ => ⟨hd, by rw [vc, vd]; exact ho'⟩) (fun h => by cases h))
  | .isN x, m => by
    have : pe T O ρ m (.isN x) = (pe T O ρ .st x).bind fun a => post m (.bl (D.isN a)) := by cases m <;> rfl
    rw [this]
    have hx := pe_ok K R x .st
    cases ex : pe T O ρ .st x with
    | no => exact trivial
    | ex c fs vs => rw [ex] at hx; exact ex_val rfl hx fun s he_ => by rw [ev, he_]; rfl
    | ok a => rw [ex] at hx; exact post_val rfl rfl (e_isN hx.2)
  | .notN x, m => by
    have : pe T O ρ m (.notN x) = (pe T O ρ .st x).bind fun a => post m (.bl (!D.isN a)) := by cases m <;> rfl
    rw [this]
    have hx := pe_ok K R x .st
    cases ex : pe T O ρ .st x with
    | no => exact trivial
    | ex c fs vs => rw [ex] at hx; exact ex_val rfl hx fun s he_ => by rw [ev, he_]; rfl
    | ok a => rw [ex] at hx; exact post_val rfl rfl (e_notN hx.2)
  | .not x, m => by
    have : pe T O ρ m (.not x) = (pe T O ρ .st x).bind fun a => (match a with | .bl k => post m (.bl (!k)) | _ => .no) := by cases m <;> rfl
    rw [this]
    have hx := pe_ok K R x .st
    cases ex : pe T O ρ .st x with
    | no => exact trivial
    | ex c fs vs => rw [ex] at hx; exact ex_val rfl hx fun s he_ => by rw [ev, he_]; rfl
    | ok a =>
      rw [ex] at hx
      cases a <;> try exact trivial
      exact post_val rfl rfl (e_not hx.2)
  | .and x y, m => by
    have : pe T O ρ m (.and x y) = (pe T O ρ .st x).bind fun a => (match a with
      | .bl true => (pe T O ρ .st y).bind fun c => (match c with | .bl k => post m (.bl k) | _ => .no)
      | .bl false => post m (.bl false)
      | _ => .no) := by cases m <;> rfl
    rw [this]
    have hx := pe_ok K R x .st
    cases ex : pe T O ρ .st x with
    | no => exact trivial
    | ex c fs vs => rw [ex] at hx; exact ex_val rfl hx fun s he_ => by rw [ev, he_]; rfl
    | ok a =>
      rw [ex] at hx
      cases a <;> try exact trivial
      rename_i k
      cases k with
      | false => exact post_val rfl rfl (e_and_f hx.2)
      | true =>
        simp only [PR.bind_ok]
        have hy := pe_ok K R y .st
        cases ey : pe T O ρ .st y with
        | no => exact trivial
        | ex c fs vs => rw [ey] at hy; exact ex_val rfl hy fun s he_ => by rw [ev, hx.2, Rs.bind_ok]; simp only [he_]; rfl
        | ok c =>
          rw [ey] at hy
          cases c <;> try exact trivial
          exact post_val rfl rfl (e_and_t hx.2 hy.2)
  | .or x y, m => by
    have : pe T O ρ m (.or x y) = (pe T O ρ .st x).bind fun a => (match a with
      | .bl true => post m (.bl true)
      | .bl false => (pe T O ρ .st y).bind fun c => (match c with | .bl k => post m (.bl k) | _ => .no)
      | _ => .no) := by cases m <;> rfl
    rw [this]
    have hx := pe_ok K R x .st
    cases ex : pe T O ρ .st x with
    | no => exact trivial
    | ex c fs vs => rw [ex] at hx; exact ex_val rfl hx fun s he_ => by rw [ev, he_]; rfl
    | ok a =>
      rw [ex] at hx
      cases a <;> try exact trivial
      rename_i k
      cases k with
      | true => exact post_val rfl rfl (e_or_t hx.2)
      | false =>
        simp only [PR.bind_ok]
        have hy := pe_ok K R y .st
        cases ey : pe T O ρ .st y with
        | no => exact trivial
        | ex c fs vs => rw [ey] at hy; exact ex_val rfl hy fun s he_ => by rw [ev, hx.2, Rs.bind_ok]; simp only [he_]; rfl
        | ok c =>
          rw [ey] at hy
          cases c <;> try exact trivial
          exact post_val rfl rfl (e_or_f hx.2 hy.2)
  | .ite t x y, m => by
    have : pe T O ρ m (.ite t x y) = (pe T O ρ .st t).bind fun a => (match a with
      | .bl true => (pe T O ρ .st x).bind (post m)
      | .bl false => (pe T O ρ .st y).bind (post m)
      | _ => .no) := by cases m <;> rfl
    rw [this]
    have ht := pe_ok K R t .st
    cases et : pe T O ρ .st t with
    | no => exact trivial
    | ex c fs vs => rw [et] at ht; exact ex_val rfl ht fun s he_ => by rw [ev, he_]; rfl
    | ok a =>
      rw [et] at ht
      cases a <;> try exact trivial
      rename_i k
      cases k with
      | true =>
        simp only [PR.bind_ok]
        have hx := pe_ok K R x .st
        cases ex : pe T O ρ .st x with
        | no => exact trivial
        | ex c fs vs => rw [ex] at hx; exact ex_val rfl hx fun s he_ => e_ite_t ht.2 he_
        | ok a => rw [ex] at hx; exact post_val rfl hx.1 (e_ite_t ht.2 hx.2)
      | false =>
        simp only [PR.bind_ok]
        have hx := pe_ok K R y .st
        cases ex : pe T O ρ .st y with
        | no => exact trivial
        | ex c fs vs => rw [ex] at hx; exact ex_val rfl hx fun s he_ => e_ite_f ht.2 he_
        | ok a => rw [ex] at hx; exact post_val rfl hx.1 (e_ite_f ht.2 hx.2)
  | .tup es, m => by
    have : pe T O ρ m (.tup es) = (pes T O ρ .st es).bind fun ds => if ds.length ≤ SZ then post m (.tup ds) else .no := by cases m <;> rfl
    rw [this]
    have hx := pes_ok K R es .st
    cases ex : pes T O ρ .st es with
    | no => exact trivial
    | ex c fs vs => rw [ex] at hx; exact ex_val rfl hx fun s he_ => by rw [ev, he_]; rfl
    | ok ds =>
      rw [ex] at hx
      simp only [PR.bind_ok]
      split
      · rename_i hz; exact post_val rfl (by simp only [D.nr]; exact hx.1) (e_tup hx.2 hz)
      · exact trivial
  | .lst lv es, m => by
    cases lv with
    | true => cases m <;> simp only [pe] <;> exact trivial
    | false =>
      have : pe T O ρ m (.lst false es) = (pes T O ρ .st es).bind fun ds => if ds.length ≤ SZ then post m (.lst ds) else .no := by cases m <;> rfl
      rw [this]
      have hx := pes_ok K R es .st
      cases ex : pes T O ρ .st es with
      | no => exact trivial
      | ex c fs vs => rw [ex] at hx; exact ex_val rfl hx fun s he_ => by rw [ev, he_]; rfl
      | ok ds =>
        rw [ex] at hx
        simp only [PR.bind_ok]
        split
        · rename_i hz; exact post_val rfl (by simp only [D.nr]; exact hx.1) ((e_lst hx.2 hz).trans rfl)
        · exact trivial
  | .edic lv, m => by
    cases lv with
    | true => cases m <;> simp only [pe] <;> exact trivial
    | false =>
      have : pe T O ρ m (.edic false) = post m (.dic [] []) := by cases m <;> rfl
      rw [this]
      exact post_val rfl rfl (e_edic.trans rfl)
  | .fld e f, m => by
    have : pe T O ρ m (.fld e f) = (pe T O ρ .vw e).bind fun a => (ppur (fldOf T a f)).bind (post m) := by cases m <;> rfl
    rw [this]
    have hx := pe_ok K R e .vw
    cases ex : pe T O ρ .vw e with
    | no => exact trivial
    | ex c fs vs => rw [ex] at hx; exact ex_val rfl hx fun s he_ => by rw [ev, he_]; rfl
    | ok a =>
      rw [ex] at hx
      obtain ⟨n1, a', ha, va⟩ := hx
      simp only [PR.bind_ok]
      cases ho : fldOf T a f with
      | none => exact trivial
      | some d => exact post_val rfl (fld_nr n1 ho) (e_fld ha (by rw [va]; exact ho))
  | .ix x y, m => by
    have : pe T O ρ m (.ix x y) = (pe T O ρ .vw x).bind fun a => (pe T O ρ .st y).bind fun c => (ppur (index a c)).bind (post m) := by cases m <;> rfl
    rw [this]
    have hx := pe_ok K R x .vw
    cases ex : pe T O ρ .vw x with
    | no => exact trivial
    | ex c fs vs => rw [ex] at hx; exact ex_val rfl hx fun s he_ => by rw [ev, he_]; rfl
    | ok a =>
      rw [ex] at hx
      obtain ⟨n1, a', ha, va⟩ := hx
      have hy := pe_ok K R y .st
      cases ey : pe T O ρ .st y with
      | no => exact trivial
      | ex c fs vs => rw [ey] at hy; exact ex_val rfl hy fun s he_ => by rw [ev, ha, Rs.bind_ok, he_]; rfl
      | ok c =>
        rw [ey] at hy
        simp only [PR.bind_ok]
        cases ho : index a c with
        | none => exact trivial
        | some d => exact post_val rfl (index_nr n1 ho) (e_ix ha hy.2 (by rw [va]; exact ho))
  | .sl x lo hi, m => by
    have : pe T O ρ m (.sl x lo hi) = (pe T O ρ .vw x).bind fun a => (pe T O ρ .op lo).bind fun l => (pe T O ρ .op hi).bind fun h => (ppur ((part l).bind fun l => (part h).bind fun h => slice a l h)).bind (post m) := by cases m <;> rfl
    rw [this]
    have hx := pe_ok K R x .vw
    cases ex : pe T O ρ .vw x with
    | no => exact trivial
    | ex c fs vs => rw [ex] at hx; exact ex_val rfl hx fun s he_ => by rw [ev, he_]; rfl
    | ok a =>
      rw [ex] at hx
      obtain ⟨n1, a', ha, va⟩ := hx
      have hy := pe_ok K R lo .op
      cases ey : pe T O ρ .op lo with
      | no => exact trivial
      | ex c fs vs => rw [ey] at hy; exact ex_val rfl hy fun s he_ => by rw [ev, ha, Rs.bind_ok, he_]; rfl
      | ok l =>
        rw [ey] at hy
        obtain ⟨_, l', pl, hl⟩ := hy
        have hz := pe_ok K R hi .op
        cases ez : pe T O ρ .op hi with
        | no => exact trivial
        | ex c fs vs => rw [ez] at hz; exact ex_val rfl hz fun s he_ => by rw [ev, ha, Rs.bind_ok, hl, Rs.bind_ok, he_]; rfl
        | ok h =>
          rw [ez] at hz
          obtain ⟨_, h', ph, hh⟩ := hz
          simp only [PR.bind_ok, pl, ph, Option.bind_some]
          cases ho : slice a l' h' with
          | none => exact trivial
          | some d => exact post_val rfl (slice_nr n1 ho) (e_sl ha hl hh (by rw [va]; exact ho))
  | .rev x, m => by
    have : pe T O ρ m (.rev x) = (pe T O ρ .vw x).bind fun a => (match a with | .lst xs => post m (.lst xs.reverse) | _ => .no) := by cases m <;> rfl
    rw [this]
    have hx := pe_ok K R x .vw
    cases ex : pe T O ρ .vw x with
    | no => exact trivial
    | ex c fs vs => rw [ex] at hx; exact ex_val rfl hx fun s he_ => by rw [ev, he_]; rfl
    | ok a =>
      rw [ex] at hx
      obtain ⟨n1, a', ha, va⟩ := hx
      cases a <;> try exact trivial
      refine post_val rfl ?_ (e_rev ha va)
      simp only [D.nr] at n1 ⊢
      exact nrs_all fun d hd => nrs_mem n1 d (List.mem_reverse.mp hd)
  | .call f es, m => by
    have : pe T O ρ m (.call f es) = (pes T O ρ .st es).bind fun ds => (O.C f ds).bind (post m) := by cases m <;> rfl
    rw [this]
    have hx := pes_ok K R es .st
    cases ex : pes T O ρ .st es with
    | no => exact trivial
    | ex c fs vs => rw [ex] at hx; exact ex_val rfl hx fun s he_ => by rw [ev, he_]; rfl
    | ok ds =>
      rw [ex] at hx
      simp only [PR.bind_ok]
      cases eo : O.C f ds with
      | no => exact trivial
      | ex c fs vs =>
        have := K.c f ds st
        rw [eo] at this
        exact ex_val rfl this fun s he_ => e_call hx.2 he_
      | ok d =>
        have := K.c f ds st
        rw [eo] at this
        exact post_val rfl this.1 (e_call hx.2 this.2)
  | .new k lv es, m => by
    cases lv with
    | true => cases m <;> simp only [pe] <;> exact trivial
    | false =>
      have : pe T O ρ m (.new k false es) = (pes T O ρ .st es).bind fun ds => (O.N k ds).bind (post m) := by cases m <;> rfl
      rw [this]
      have hx := pes_ok K R es .st
      cases ex : pes T O ρ .st es with
      | no => exact trivial
      | ex c fs vs => rw [ex] at hx; exact ex_val rfl hx fun s he_ => by rw [ev, he_]; rfl
      | ok ds =>
        rw [ex] at hx
        simp only [PR.bind_ok]
        cases eo : O.N k ds with
        | no => exact trivial
        | ex c fs vs =>
          have := K.n k ds st
          rw [eo] at this
          exact ex_val rfl this fun s he_ => e_new hx.2 he_
        | ok d =>
          have := K.n k ds st
          rw [eo] at this
          exact post_val rfl this.1 (e_new hx.2 this.2)
  | .mth e k es, m => by
    have : pe T O ρ m (.mth e k es) = (pe T O ρ .st e).bind fun a => (match mthOf T a k with
      | some f => (pes T O ρ .st es).bind fun ds => (O.C f (a :: ds)).bind (post m)
      | none => .no) := by cases m <;> rfl
    rw [this]
    have he := pe_ok K R e .st
    cases ee : pe T O ρ .st e with
    | no => exact trivial
    | ex c fs vs => rw [ee] at he; exact ex_val rfl he fun s he_ => by rw [ev, he_]; rfl
    | ok a =>
      rw [ee] at he
      simp only [PR.bind_ok]
      cases hm : mthOf T a k with
      | none => exact trivial
      | some f =>
        simp only
        have hv : mthOf T (view st a) k = some f := by rw [view_nr he.1]; exact hm
        have hx := pes_ok K R es .st
        cases ex : pes T O ρ .st es with
        | no => exact trivial
        | ex c fs vs => rw [ex] at hx; exact ex_val rfl hx fun s he_ => by rw [ev, he.2, Rs.bind_ok, hv]; simp only [he_]; rfl
        | ok ds =>
          rw [ex] at hx
          simp only [PR.bind_ok]
          cases eo : O.C f (a :: ds) with
          | no => exact trivial
          | ex c fs vs =>
            have := K.c f (a :: ds) st
            rw [eo] at this
            exact ex_val rfl this fun s he_ => e_mth he.2 hv hx.2 he_
          | ok d =>
            have := K.c f (a :: ds) st
            rw [eo] at this
            exact post_val rfl this.1 (e_mth he.2 hv hx.2 this.2)
  | .bf k lv es, m => by
    cases lv with
    | true => cases m <;> simp only [pe] <;> exact trivial
    | false =>
      have : pe T O ρ m (.bf k false es) = (pes T O ρ .vw es).bind fun ds => (pbfn k ds).bind (post m) := by cases m <;> rfl
      rw [this]
      have hx := pes_ok K R es .vw
      cases ex : pes T O ρ .vw es with
      | no => exact trivial
      | ex c fs vs => rw [ex] at hx; exact ex_val rfl hx fun s he_ => by rw [ev, he_]; rfl
      | ok ds =>
        rw [ex] at hx
        obtain ⟨n1, as, ha, va⟩ := hx
        simp only [PR.bind_ok]
        cases eo : pbfn k ds with
        | no => exact trivial
        | ex c fs vs => exact absurd eo pbfn_nex
        | ok d =>
          have := pbfn_ok (st := st) n1 eo
          exact post_val rfl this.1 (e_bf ha (by rw [va]; exact this.2))
  | .bm k e es, m => by
    have : pe T O ρ m (.bm k e es) = (pe T O ρ .vw e).bind fun a => (match recv k a with
      | some _ => (pes T O ρ .st es).bind fun ds => (pbmt k a ds).bind (post m)
      | none => .no) := by cases m <;> rfl
    rw [this]
    have he := pe_ok K R e .vw
    cases ee : pe T O ρ .vw e with
    | no => exact trivial
    | ex c fs vs => rw [ee] at he; exact ex_val rfl he fun s he_ => by rw [ev, he_]; rfl
    | ok a =>
      rw [ee] at he
      obtain ⟨n1, a', ha, va⟩ := he
      simp only [PR.bind_ok]
      cases hm : recv k a with
      | none => exact trivial
      | some t =>
        simp only
        have hv : recv k (view st a') = some t := by rw [va]; exact hm
        have hx := pes_ok K R es .st
        cases ex : pes T O ρ .st es with
        | no => exact trivial
        | ex c fs vs => rw [ex] at hx; exact ex_val rfl hx fun s he_ => by rw [ev, ha, Rs.bind_ok, hv]; simp only [he_]; rfl
        | ok ds =>
          rw [ex] at hx
          simp only [PR.bind_ok]
          cases eo : pbmt k a ds with
          | no => exact trivial
          | ex c fs vs => exact absurd eo pbmt_nex
          | ok d =>
            have := pbmt_ok (bb := b) (o := a') (st := st) eo
            exact post_val rfl this.1 (e_bm ha hv hx.2 (by rw [va]; exact this.2))
  | .isa e ts, m => by
    have : pe T O ρ m (.isa e ts) = (pe T O ρ .vw e).bind fun a => (ppur ((kdOf T a).bind fun k => isAny T k ts)).bind fun k => post m (.bl k) := by cases m <;> rfl
    rw [this]
    have hx := pe_ok K R e .vw
    cases ex : pe T O ρ .vw e with
    | no => exact trivial
    | ex c fs vs => rw [ex] at hx; exact ex_val rfl hx fun s he_ => by rw [ev, he_]; rfl
    | ok a =>
      rw [ex] at hx
      obtain ⟨n1, a', ha, va⟩ := hx
      simp only [PR.bind_ok]
      cases hk : kdOf T a with
      | none => exact trivial
      | some k =>
        cases hb : isAny T k ts with
        | none => simp only [Option.bind_some, hb]; exact trivial
        | some bb =>
          simp only [Option.bind_some, hb]
          exact post_val rfl rfl (e_isa ha (by rw [va]; exact hk) hb)
  | .lc lv elt own tg tt it c, m => by
    cases lv with
    | true => cases m <;> simp only [pe] <;> exact trivial
    | false =>
      have : pe T O ρ m (.lc false elt own tg tt it c) = (pe T O ρ .wk it).bind fun w => (match w with
        | .lst ds => (plc1 (plcF T O ρ elt own tg tt c) ds []).bind fun rs => post m (.lst rs)
        | _ => .no) := by cases m <;> rfl
      rw [this]
      have hx := pe_ok K R it .wk
      cases ex : pe T O ρ .wk it with
      | no => exact trivial
      | ex c' fs vs => rw [ex] at hx; exact ex_val rfl hx fun s he_ => by rw [ev, he_]; rfl
      | ok w =>
        rw [ex] at hx
        obtain ⟨n1, ds, rfl, hw⟩ := hx
        simp only [PR.bind_ok]
        simp only [D.nr] at n1
        have hf : ∀ d ∈ ds, ∀ o, plcF T O ρ elt own tg tt c d = .ok o → llcF T C b σ elt own tg tt c d st = .ok o st ∧ ∀ x, o = some x → D.nr x = true := by
          intro d hd o ho
          unfold plcF at ho
          unfold llcF
          cases ht : ptarget (pwipe ρ own) tg tt d with
          | none => rw [ht] at ho; cases ho
          | some ρ' =>
            rw [ht] at ho
            obtain ⟨σ', h1, R'⟩ := (R.wipe own).target (nrs_mem n1 d hd) ht
            rw [h1]
            simp only at ho ⊢
            have hc := pe_ok K R' c .st
            cases ec : pe T O ρ' .st c with
            | no => rw [ec] at ho; cases ho
            | ex c' fs vs => rw [ec] at ho; cases ho
            | ok k =>
              rw [ec] at ho hc
              rw [hc.2]
              simp only [PR.noex_ok, PR.bind_ok, Rs.noex_ok, Rs.bind_ok] at ho ⊢
              cases k <;> try (cases ho; done)
              rename_i kk
              cases kk with
              | false => cases ho; exact ⟨rfl, fun x h => by cases h⟩
              | true =>
                simp only at ho ⊢
                have he := pe_ok K R' elt .st
                cases ee : pe T O ρ' .st elt with
                | no => rw [ee] at ho; cases ho
                | ex c' fs vs => rw [ee] at ho; cases ho
                | ok r =>
                  rw [ee] at ho he
                  rw [he.2]
                  cases ho
                  exact ⟨rfl, fun x h => by cases h; exact he.1⟩
        cases el : plc1 (plcF T O ρ elt own tg tt c) ds [] with
        | no => exact trivial
        | ex c' fs vs =>
          exfalso
          refine plc1_nex (fun d c' fs vs h => ?_) el
          unfold plcF at h
          split at h
          · rename_i ρ' _
            cases ec : pe T O ρ' .st c with
            | no => rw [ec] at h; cases h
            | ex c fs vs => rw [ec] at h; cases h
            | ok k =>
              rw [ec] at h
              simp only [PR.noex_ok, PR.bind_ok] at h
              split at h
              · cases ee : pe T O ρ' .st elt with
                | no => rw [ee] at h; cases h
                | ex c fs vs => rw [ee] at h; cases h
                | ok k => rw [ee] at h; cases h
              · cases h
              · cases h
          · cases h
        | ok rs =>
          obtain ⟨h1, h2⟩ := plc1_ok hf rfl el
          refine post_val rfl (by simp only [D.nr]; exact h2) ?_
          have q : ev T C b σ (.lc false elt own tg tt it c) st = (wk T C b σ it st).bind fun ds s => (lcL (llcF T C b σ elt own tg tt c) ds [] s).bind fun rs s' => mkL false rs s' := by rw [ev]; rfl
          rw [q, hw, Rs.bind_ok, h1, Rs.bind_ok]; rfl
  | .rng es, m => by
    cases m <;> try (simp only [pe]; exact trivial)
    simp only [pe]
    have hx := pes_ok K R es .st
    cases ex : pes T O ρ .st es with
    | no => exact trivial
    | ex c fs vs => rw [ex] at hx; exact ⟨hx.1, let ⟨s, hg, he_⟩ := hx.2; ⟨s, hg, by rw [wk, he_]; rfl⟩⟩
    | ok ds =>
      rw [ex] at hx
      simp only [PR.bind_ok]
      cases eo : rngOf ds with
      | none => exact trivial
      | some xs => exact ⟨by simp only [D.nr]; exact rng_nr eo, xs, rfl, w_rng hx.2 eo⟩
  | .enum e, m => by
    cases m <;> try (simp only [pe]; exact trivial)
    simp only [pe]
    have hx := pe_ok K R e .st
    cases ex : pe T O ρ .st e with
    | no => exact trivial
    | ex c fs vs => rw [ex] at hx; exact ⟨hx.1, let ⟨s, hg, he_⟩ := hx.2; ⟨s, hg, by rw [wk, he_]; rfl⟩⟩
    | ok a =>
      rw [ex] at hx
      simp only [PR.bind_ok]
      cases eo : seqOf a with
      | none => exact trivial
      | some xs =>
        refine ⟨?_, enumL 0 xs, rfl, w_enum hx.2 (by rw [still_nr hx.1]; exact eo)⟩
        have := hx.1
        simp only [D.nr]
        refine enumL_nr ?_
        cases a <;> cases eo
        · simpa [D.nr] using this
        · simpa [D.nr] using this
  | .zip x y, m => by
    cases m <;> try (simp only [pe]; exact trivial)
    simp only [pe]
    have hx := pe_ok K R x .st
    cases ex : pe T O ρ .st x with
    | no => exact trivial
    | ex c fs vs => rw [ex] at hx; exact ⟨hx.1, let ⟨s, hg, he_⟩ := hx.2; ⟨s, hg, by rw [wk, he_]; rfl⟩⟩
    | ok a =>
      rw [ex] at hx
      simp only [PR.bind_ok]
      have hy := pe_ok K R y .st
      cases ey : pe T O ρ .st y with
      | no => exact trivial
      | ex c fs vs => rw [ey] at hy; exact ⟨hy.1, let ⟨s, hg, he_⟩ := hy.2; ⟨s, hg, by rw [wk, hx.2, Rs.bind_ok, he_]; rfl⟩⟩
      | ok c =>
        rw [ey] at hy
        simp only [PR.bind_ok]
        cases eo : lstOf a with
        | none => exact trivial
        | some xs =>
          cases eo2 : lstOf c with
          | none => exact trivial
          | some ys =>
            have h1 := hx.1
            have h2 := hy.1
            refine ⟨?_, zipL xs ys, rfl, ?_⟩
            · simp only [D.nr]
              cases a <;> cases eo
              cases c <;> cases eo2
              exact zipL_nr (by simpa [D.nr] using h1) (by simpa [D.nr] using h2)
            · rw [wk, hx.2, Rs.bind_ok, hy.2, Rs.bind_ok, still_nr h1, still_nr h2, eo, eo2]; rfl
  | .rvd e, m => by
    cases m <;> try (simp only [pe]; exact trivial)
    simp only [pe]
    have hx := pe_ok K R e .st
    cases ex : pe T O ρ .st e with
    | no => exact trivial
    | ex c fs vs => rw [ex] at hx; exact ⟨hx.1, let ⟨s, hg, he_⟩ := hx.2; ⟨s, hg, by rw [wk, he_]; rfl⟩⟩
    | ok a =>
      rw [ex] at hx
      simp only [PR.bind_ok]
      cases eo : lstOf a with
      | none => exact trivial
      | some xs =>
        have h1 := hx.1
        refine ⟨?_, xs.reverse, rfl, ?_⟩
        · cases a <;> cases eo
          simp only [D.nr] at h1 ⊢
          exact nrs_all fun d hd => nrs_mem h1 d (List.mem_reverse.mp hd)
        · rw [wk, hx.2, Rs.bind_ok, still_nr h1, eo]; rfl
theorem pes_ok (K : OrcOk T C O) {st : Sto} {ρ : PEnv} {σ : Env} (R : PRel b0 st ρ σ) : ∀ (es : List Ex) (m : Md4), EGs T C b σ st m es (pes T O ρ m es)
  | [], m => by
    rw [pes]
    refine ⟨rfl, ?_⟩
    cases m
    · exact es_nil
    · exact ⟨[], es_nil, rfl⟩
    · exact trivial
    · exact trivial
  | e :: es, m => by
    rw [pes]
    have hx := pe_ok K R e m
    have hy := pes_ok K R es m
    cases ex : pe T O ρ m e with
    | no => exact trivial
    | ex c fs vs =>
      rw [ex] at hx
      obtain ⟨h1, s, hg, he_⟩ := hx
      refine ⟨h1, s, hg, ?_⟩
      cases m
      · show evs _ _ _ _ _ _ = _; rw [evs, he_]; rfl
      · show evs _ _ _ _ _ _ = _; rw [evs, he_]; rfl
      · exact trivial
      · exact trivial
    | ok d =>
      rw [ex] at hx
      simp only [PR.bind_ok]
      cases ey : pes T O ρ m es with
      | no => exact trivial
      | ex c fs vs =>
        rw [ey] at hy
        obtain ⟨h1, s, hg, he_⟩ := hy
        refine ⟨h1, s, hg, ?_⟩
        cases m
        · show evs _ _ _ _ _ _ = _; rw [evs, hx.2, Rs.bind_ok, he_]; rfl
        · obtain ⟨_, a, ha, _⟩ := hx
          show evs _ _ _ _ _ _ = _; rw [evs, ha, Rs.bind_ok, he_]; rfl
        · exact trivial
        · exact trivial
      | ok ds =>
        rw [ey] at hy
        refine ⟨by simp only [D.nrs, Bool.and_eq_true]; exact ⟨hx.1, hy.1⟩, ?_⟩
        cases m
        · exact es_cons hx.2 hy.2
        · obtain ⟨_, a, ha, va⟩ := hx
          obtain ⟨_, as, has, vas⟩ := hy
          exact ⟨a :: as, es_cons ha has, by rw [List.map_cons, va, vas]⟩
        · exact trivial
        · exact trivial
end
end
end LS
end
section
set_option Elab.async false
set_option linter.all false
set_option maxRecDepth 10000
set_option maxHeartbeats 1000000
/-! PS, part 6: statements. -/
namespace LS
open PySem
section
variable {T : Tb} {C : Nat → List D → Sto → Rs D} {b b0 : Nat} {O : Orc}
theorem Ge.refl {st : Sto} (h : b ≤ st.length) : Ge b st st := ⟨fun _ _ => rfl, h⟩
theorem Ge.trans {a c d : Sto} (h : Ge b a c) (h2 : Ge b c d) : Ge b a d := ⟨fun n hn => (h2.h n hn).trans (h.h n hn), h2.l⟩
theorem Ge.app {st : Sto} {e : Ent} (h : b ≤ st.length) : Ge b st (st ++ [e]) := ⟨fun n hn => List.getElem?_append_left (by omega), by rw [List.length_append]; omega⟩
theorem Ge.set {st : Sto} {n : Nat} {e : Ent} (h : b ≤ st.length) (hn : b ≤ n) : Ge b st (st.set n e) := ⟨fun m hm => List.getElem?_set_ne (by omega), by rw [List.length_set]; exact h⟩
theorem PRel.fresh {st : Sto} {ρ : PEnv} {σ : Env} {i : Nat} {e : Ent} (R : PRel b st ρ σ) (he : entOk e = true) (hb : b ≤ st.length) (hni : ∀ c fs vs, e ≠ .ins c fs vs) : PRel b (st ++ [e]) (ρ.set i (some (.l e))) (σ.set i (some (.ref st.length))) where
  len := by rw [List.length_set, List.length_set]; exact R.len
  s := fun j d h => by
    rcases set_get h with ⟨_, h2, _⟩ | ⟨h1, h2⟩
    · cases h2
    · rw [List.getElem?_set_ne h1]; exact R.s j d h2
  l := fun j d h => by
    rcases set_get h with ⟨h1, h2, h3⟩ | ⟨h1, h2⟩
    · cases h2
      subst h1
      exact ⟨st.length, set_at (by rw [R.len]; exact h3), hb, by rw [List.getElem?_append_right (Nat.le_refl _), Nat.sub_self]; rfl, he⟩
    · obtain ⟨n, q1, q2, q3, q4⟩ := R.l j d h2
      exact ⟨n, by rw [List.getElem?_set_ne h1]; exact q1, q2, by rw [List.getElem?_append_left (List.getElem?_eq_some_iff.mp q3).1]; exact q3, q4⟩
  inj := fun j k e1 e2 n h1 h2 h3 h4 => by
    have big : ∀ {j : Nat} {e1 : Ent}, ρ[j]? = some (some (PVl.l e1)) → σ[j]? = some (some (D.ref st.length)) → False := fun {j e1} q1 q2 => by
      obtain ⟨n, z1, _, z3, _⟩ := R.l j e1 q1
      rw [z1] at q2
      cases q2
      have := (List.getElem?_eq_some_iff.mp z3).1
      omega
    rcases set_get h1 with ⟨a1, a2, a3⟩ | ⟨a1, a2⟩ <;> rcases set_get h2 with ⟨b1, b2, b3⟩ | ⟨b1, b2⟩
    · omega
    · exfalso
      subst a1
      rw [set_at (by rw [R.len]; exact a3)] at h3
      cases h3
      rw [List.getElem?_set_ne b1] at h4
      exact big b2 h4
    · exfalso
      subst b1
      rw [set_at (by rw [R.len]; exact b3)] at h4
      cases h4
      rw [List.getElem?_set_ne a1] at h3
      exact big a2 h3
    · rw [List.getElem?_set_ne a1] at h3
      rw [List.getElem?_set_ne b1] at h4
      exact R.inj j k e1 e2 n a2 b2 h3 h4
  ins := fun j c fs vs h => by
    rcases set_get h with ⟨_, h2, _⟩ | ⟨h1, h2⟩
    · cases h2; exact absurd rfl (hni c fs vs)
    · rw [List.getElem?_set_ne h1]; exact R.ins j c fs vs h2
theorem lvAt_some {ρ : PEnv} {i : Nat} {e : Ent} (h : lvAt ρ i = some e) : ρ[i]? = some (some (.l e)) := by
  unfold lvAt at h
  split at h
  · rename_i e' he; cases h; exact he
  · cases h
theorem PRel.upd {st : Sto} {ρ : PEnv} {σ : Env} {i : Nat} {e e' : Ent} (R : PRel b st ρ σ) (h : lvAt ρ i = some e) (he : entOk e' = true) (hin : ∀ c fs vs, e' = .ins c fs vs → ∃ c fs vs, e = .ins c fs vs) : ∃ n, σ[i]? = some (some (.ref n)) ∧ b ≤ n ∧ st[n]? = some e ∧ PRel b (st.set n e') (ρ.set i (some (.l e'))) σ := by
  have hi := lvAt_some h
  obtain ⟨n, h1, h2, h3, h4⟩ := R.l i e hi
  refine ⟨n, h1, h2, h3, ?_⟩
  have key : ∀ {j : Nat} {e1 : Ent}, (ρ.set i (some (.l e')))[j]? = some (some (PVl.l e1)) → ∃ e2, ρ[j]? = some (some (PVl.l e2)) := fun {j e1} q => by
    rcases set_get q with ⟨a1, a2, a3⟩ | ⟨a1, a2⟩
    · subst a1; exact ⟨e, hi⟩
    · exact ⟨e1, a2⟩
  refine ⟨by rw [List.length_set]; exact R.len, fun j d q => ?_, fun j d q => ?_, fun j k e1 e2 m q1 q2 q3 q4 => ?_, fun j c fs vs q => ?_⟩
  · rcases set_get q with ⟨_, a2, _⟩ | ⟨a1, a2⟩
    · cases a2
    · exact R.s j d a2
  · rcases set_get q with ⟨a1, a2, a3⟩ | ⟨a1, a2⟩
    · cases a2
      subst a1
      exact ⟨n, h1, h2, set_at (List.getElem?_eq_some_iff.mp h3).1, he⟩
    · obtain ⟨m, z1, z2, z3, z4⟩ := R.l j d a2
      have hm : n ≠ m := fun z => a1 (R.inj i j e d n hi a2 h1 (by rw [z]; exact z1))
      exact ⟨m, z1, z2, by rw [List.getElem?_set_ne hm]; exact z3, z4⟩
  · obtain ⟨_, p1⟩ := key q1
    obtain ⟨_, p2⟩ := key q2
    exact R.inj j k _ _ m p1 p2 q3 q4
  · rcases set_get q with ⟨a1, a2, a3⟩ | ⟨a1, a2⟩
    · cases a2
      subst a1
      obtain ⟨c', fs', vs', rfl⟩ := hin c fs vs rfl
      exact R.ins i c' fs' vs' hi
    · exact R.ins j c fs vs a2
theorem ent_live {e : Ent} (h : entOk e = true) : liveE (some e) = true := by cases e <;> first | rfl | cases h
theorem wr_ok {st : Sto} {n : Nat} {e e' : Ent} (h : st[n]? = some e) (he : entOk e = true) {k : Bool} (hk : k = true) : wr b st n e' k = some (st.set n e') := by
  unfold wr
  rw [h, ent_live he, hk]
  simp
theorem ent_nr {e : Ent} (h : entOk e = true) : D.nr (entD e) = true := by
  cases e <;> simp only [entOk, entD, D.nr] at h ⊢
  · exact h
  · exact h
  · exact h
  · cases h
theorem frz_nr {k : Nat} {d : D} {st : Sto} (h : D.nr d = true) : freeze b k d st = .ok d st := by
  cases d <;> cases k <;> simp only [freeze]
  all_goals simp [D.nr] at h
theorem frz1_nr {k : Nat} {st : Sto} : ∀ {xs : List D}, D.nrs xs = true → freeze.frz1 b k xs st = .ok xs st
  | [], _ => by simp [freeze.frz1]
  | x :: xs, h => by
    simp only [D.nrs, Bool.and_eq_true] at h
    rw [freeze.frz1, frz_nr h.1, Rs.bind_ok, frz1_nr h.2, Rs.bind_ok]
theorem frz_ent {st : Sto} {n : Nat} {e : Ent} (h : st[n]? = some e) (he : entOk e = true) : freeze b 6 (.ref n) st = .ok (entD e) (st.set n (.fz (entD e))) := by
  rw [freeze]
  cases e with
  | lst xs =>
    simp only [entOk] at he
    simp only [h]
    rw [frz1_nr he, Rs.bind_ok, wr_ok h (by exact he) (by exact he)]; rfl
  | dic ks vs =>
    simp only [entOk, Bool.and_eq_true] at he
    simp only [h]
    rw [frz1_nr he.2, Rs.bind_ok, wr_ok h (by simp [entOk, he.1, he.2]) (by simp [he.1, he.2])]; rfl
  | ins c fs vs =>
    simp only [entOk] at he
    simp only [h]
    rw [frz1_nr he, Rs.bind_ok, wr_ok h (by exact he) (by exact he)]; rfl
  | fz d => cases he
theorem view_ent {st : Sto} {n : Nat} {e : Ent} (h : st[n]? = some e) : view st (.ref n) = entD e := by
  cases e <;> simp only [view, h, entD]
def FRel (b0 : Nat) (st : Sto) : PFl → Fl → Prop
  | .nx ρ, .nx σ => PRel b0 st ρ σ
  | .bk ρ, .bk σ => PRel b0 st ρ σ
  | .ct ρ, .ct σ => PRel b0 st ρ σ
  | .rt d, .rt d' => d' = d ∧ D.nr d = true
  | _, _ => False
def SG (b0 : Nat) (st : Sto) (r : PR PFl) (L : Rs Fl) : Prop := match r with
  | .no => True
  | .ok fl => ∃ fl' st', L = .ok fl' st' ∧ Ge b0 st st' ∧ FRel b0 st' fl fl'
  | .ex c fs vs => D.nrs vs = true ∧ ∃ st', L = .ex c fs vs st' ∧ Ge b0 st st'
def VG (T : Tb) (C : Nat → List D → Sto → Rs D) (b b0 : Nat) (σ : Env) (st : Sto) (ρ : PEnv) (i : Nat) (e : Ex) (r : PR PVl) : Prop := match r with
    | .no => True
    | .ok p => ∃ d st', ev T C b σ e st = .ok d st' ∧ Ge b0 st st' ∧ PRel b0 st' (ρ.set i (some p)) (σ.set i (some d))
    | .ex c fs vs => D.nrs vs = true ∧ ∃ s, Ge st.length st s ∧ ev T C b σ e st = .ex c fs vs s
/-- a plain value is set, or a fresh thing -/
theorem pfr_ok (K : OrcOk T C O) {st : Sto} {ρ : PEnv} {σ : Env} (R : PRel b0 st ρ σ) (hb : b0 ≤ st.length) {i : Nat} {e : Ex} : VG T C b b0 σ st ρ i e (pfr T O ρ e) := by
  have plain : ∀ e, VG T C b b0 σ st ρ i e ((pe T O ρ .st e).bind fun d => PR.ok (PVl.s d)) := by
    intro e
    have he := pe_ok (b := b) K R e .st
    cases ee : pe T O ρ .st e with
    | no => exact trivial
    | ex c fs vs => rw [ee] at he; exact he
    | ok d => rw [ee] at he; exact ⟨d, st, he.2, Ge.refl hb, R.set he.1⟩
  unfold pfr
  split
  · rename_i es
    have he := pes_ok (b := b) K R es .st
    cases ee : pes T O ρ .st es with
    | no => exact trivial
    | ex c fs vs => rw [ee] at he; exact ⟨he.1, let ⟨s, hg, he_⟩ := he.2; ⟨s, hg, by rw [ev, he_]; rfl⟩⟩
    | ok ds =>
      rw [ee] at he
      simp only [PR.bind_ok]
      by_cases hz : ds.length ≤ SZ
      · rw [if_pos hz]
        exact ⟨.ref st.length, st ++ [.lst ds], (e_lst he.2 hz).trans rfl, Ge.app hb, R.fresh (by exact he.1) hb (fun _ _ _ h => by cases h)⟩
      · rw [if_neg hz]; exact trivial
  · exact ⟨.ref st.length, st ++ [.dic [] []], e_edic.trans rfl, Ge.app hb, R.fresh rfl hb (fun _ _ _ h => by cases h)⟩
  · rename_i k es
    have he := pes_ok (b := b) K R es .vw
    cases ee : pes T O ρ .vw es with
    | no => exact trivial
    | ex c fs vs => rw [ee] at he; exact ⟨he.1, let ⟨s, hg, he_⟩ := he.2; ⟨s, hg, by rw [ev, he_]; rfl⟩⟩
    | ok ds =>
      rw [ee] at he
      obtain ⟨n1, as, ha, va⟩ := he
      simp only [PR.bind_ok]
      split
      · rename_i xs
        refine ⟨.ref st.length, st ++ [.lst xs], e_bf ha (by rw [va]; rfl), Ge.app hb, R.fresh ?_ hb (fun _ _ _ h => by cases h)⟩
        simpa [D.nrs, D.nr, entOk] using n1
      · rename_i xs
        refine ⟨.ref st.length, st ++ [.lst xs], e_bf ha (by rw [va]; rfl), Ge.app hb, R.fresh ?_ hb (fun _ _ _ h => by cases h)⟩
        simpa [D.nrs, D.nr, entOk] using n1
      · exact trivial
  · rename_i elt own tg tt it c
    have he := pe_ok (b := b) K R (.lc false elt own tg tt it c) .st
    have q : ∀ lv, ev T C b σ (.lc lv elt own tg tt it c) st = (wk T C b σ it st).bind fun ds s => (lcL (llcF T C b σ elt own tg tt c) ds [] s).bind fun rs s' => mkL lv rs s' := by intro lv; rw [ev]; rfl
    cases ee : pe T O ρ .st (.lc false elt own tg tt it c) with
    | no => exact trivial
    | ex c' fs vs =>
      rw [ee] at he
      obtain ⟨he1, s0, hg, he_⟩ := he
      refine ⟨he1, s0, hg, ?_⟩
      have h2 : ev T C b σ (.lc false elt own tg tt it c) st = .ex c' fs vs s0 := he_
      rw [q] at h2 ⊢
      cases hw : wk T C b σ it st with
      | no => rw [hw] at h2; cases h2
      | ex a1 a2 a3 a4 => rw [hw] at h2; cases h2; rfl
      | ok ds s =>
        rw [hw] at h2
        simp only [Rs.bind_ok] at h2 ⊢
        cases hl : lcL (llcF T C b σ elt own tg tt c) ds [] s with
        | no => rw [hl] at h2; cases h2
        | ex a1 a2 a3 a4 => rw [hl] at h2; cases h2; rfl
        | ok rs s' => rw [hl] at h2; cases h2
    | ok d =>
      rw [ee] at he
      simp only [PR.bind_ok]
      cases d <;> try exact trivial
      rename_i xs
      have h2 : ev T C b σ (.lc false elt own tg tt it c) st = .ok (.lst xs) st := he.2
      refine ⟨.ref st.length, st ++ [.lst xs], ?_, Ge.app hb, R.fresh (by simpa [D.nr, entOk] using he.1) hb (fun _ _ _ h => by cases h)⟩
      rw [q] at h2 ⊢
      cases hw : wk T C b σ it st with
      | no => rw [hw] at h2; cases h2
      | ex a1 a2 a3 a4 => rw [hw] at h2; cases h2
      | ok ds s =>
        rw [hw] at h2
        simp only [Rs.bind_ok] at h2 ⊢
        cases hl : lcL (llcF T C b σ elt own tg tt c) ds [] s with
        | no => rw [hl] at h2; cases h2
        | ex a1 a2 a3 a4 => rw [hl] at h2; cases h2
        | ok rs s' => rw [hl] at h2; cases h2; rfl
  · exact plain _
end
end LS
end
section
set_option Elab.async false
set_option linter.all false
set_option maxRecDepth 10000
set_option maxHeartbeats 1000000
/-! PS, part 7: statements, loops, defs. -/
namespace LS
open PySem
section
variable {T : Tb} {C : Nat → List D → Sto → Rs D} {b b0 : Nat} {O : Orc}
theorem Ge.less {st s : Sto} (hb : b0 ≤ st.length) (h : Ge st.length st s) : Ge b0 st s := ⟨fun n hn => h.h n (by omega), by have := h.l; omega⟩
theorem PRel.ge {st s : Sto} {ρ : PEnv} {σ : Env} (R : PRel b0 st ρ σ) (h : Ge st.length st s) : PRel b0 s ρ σ :=
  ⟨R.len, R.s, fun i e q => by
    obtain ⟨n, h1, h2, h3, h4⟩ := R.l i e q
    exact ⟨n, h1, h2, by rw [h.h n (List.getElem?_eq_some_iff.mp h3).1]; exact h3, h4⟩, R.inj, R.ins⟩
theorem SG_ex {st : Sto} {c : Nat} {fs : List Nat} {vs : List D} {L : Rs Fl} {P : Sto → Prop} (hb : b0 ≤ st.length) (h : D.nrs vs = true ∧ ∃ s, Ge st.length st s ∧ P s) (e : ∀ s, P s → L = .ex c fs vs s) : SG b0 st (.ex c fs vs) L := by
  obtain ⟨h1, s, h2, h3⟩ := h
  exact ⟨h1, s, e s h3, h2.less hb⟩
theorem SG.mono {st st1 : Sto} {r : PR PFl} {L : Rs Fl} (g : Ge b0 st st1) (h : SG b0 st1 r L) : SG b0 st r L := by
  cases r with
  | no => exact trivial
  | ex c fs vs => obtain ⟨h1, s, h2, h3⟩ := h; exact ⟨h1, s, h2, g.trans h3⟩
  | ok fl => obtain ⟨f, s, h2, h3, h4⟩ := h; exact ⟨f, s, h2, g.trans h3, h4⟩
theorem forP_ok {f : D → PEnv → PR PFl} {g : D → Env → Sto → Rs Fl} : ∀ {ds : List D} {ρ : PEnv} {σ : Env} {st : Sto}, (∀ d ∈ ds, ∀ ρ σ st, PRel b0 st ρ σ → b0 ≤ st.length → SG b0 st (f d ρ) (g d σ st)) → PRel b0 st ρ σ → b0 ≤ st.length → SG b0 st (forP f ds ρ) (forL g ds σ st)
  | [], ρ, σ, st, _, R, hb => by
    rw [forP, forL]
    exact ⟨_, st, rfl, Ge.refl hb, R⟩
  | d :: ds, ρ, σ, st, hf, R, hb => by
    rw [forP, forL]
    have h := hf d (List.mem_cons_self ..) ρ σ st R hb
    have ih := fun {ρ σ st} => forP_ok (f := f) (g := g) (ds := ds) (ρ := ρ) (σ := σ) (st := st) (fun d hd => hf d (List.mem_cons_of_mem _ hd))
    cases e : f d ρ with
    | no => exact trivial
    | ex c fs vs =>
      rw [e] at h
      obtain ⟨h1, s, h2, h3⟩ := h
      exact ⟨h1, s, by rw [h2]; rfl, h3⟩
    | ok fl =>
      rw [e] at h
      obtain ⟨f', s, h2, h3, h4⟩ := h
      rw [h2]
      simp only [PR.bind_ok, Rs.bind_ok]
      cases fl <;> cases f' <;> first | exact h4.elim | skip
      · exact (ih h4 h3.l).mono h3
      · exact ⟨_, s, rfl, h3, h4⟩
      · exact (ih h4 h3.l).mono h3
      · exact ⟨_, s, rfl, h3, h4⟩
theorem whP_ok {t : PEnv → PR D} {f : PEnv → PR PFl} {t' : Env → Sto → Rs D} {g : Env → Sto → Rs Fl} (ht : ∀ ρ σ st, PRel b0 st ρ σ → match t ρ with
      | .no => True
      | .ok d => D.nr d = true ∧ t' σ st = .ok d st
      | .ex c fs vs => D.nrs vs = true ∧ ∃ s, Ge st.length st s ∧ t' σ st = .ex c fs vs s) (hf : ∀ ρ σ st, PRel b0 st ρ σ → b0 ≤ st.length → SG b0 st (f ρ) (g σ st)) : ∀ {w : Nat} {ρ : PEnv} {σ : Env} {st : Sto}, PRel b0 st ρ σ → b0 ≤ st.length → SG b0 st (whP t f w ρ) (whL t' g w σ st)
  | 0, ρ, σ, st, _, _ => by rw [whP]; exact trivial
  | w + 1, ρ, σ, st, R, hb => by
    rw [whP, whL]
    have h0 := ht ρ σ st R
    cases e0 : t ρ with
    | no => exact trivial
    | ex c fs vs => rw [e0] at h0; exact SG_ex hb h0 fun s he_ => by rw [he_]; rfl
    | ok a =>
      rw [e0] at h0
      have h0 : t' σ st = .ok a st := h0.2
      rw [h0]
      clear h0
      simp only [PR.bind_ok, Rs.bind_ok]
      cases a <;> try exact trivial
      rename_i k
      cases k with
      | false => exact ⟨_, st, rfl, Ge.refl hb, R⟩
      | true =>
        simp only
        have h := hf ρ σ st R hb
        have ih := fun {ρ σ st} => whP_ok ht hf (w := w) (ρ := ρ) (σ := σ) (st := st)
        cases e : f ρ with
        | no => exact trivial
        | ex c fs vs =>
          rw [e] at h
          obtain ⟨h1, s, h2, h3⟩ := h
          exact ⟨h1, s, by rw [h2]; rfl, h3⟩
        | ok fl =>
          rw [e] at h
          obtain ⟨f', s, h2, h3, h4⟩ := h
          rw [h2]
          simp only [PR.bind_ok, Rs.bind_ok]
          cases fl <;> cases f' <;> first | exact h4.elim | skip
          · exact (ih h4 h3.l).mono h3
          · exact ⟨_, s, rfl, h3, h4⟩
          · exact (ih h4 h3.l).mono h3
          · exact ⟨_, s, rfl, h3, h4⟩
theorem pret_ok (K : OrcOk T C O) {st : Sto} {ρ : PEnv} {σ : Env} (R : PRel b0 st ρ σ) (hb : b0 ≤ st.length) {e : Ex} {w : Nat} : SG b0 st ((pret T O ρ e).bind fun d => .ok (.rt d)) (xs T C b w (.ret e) σ st) := by
  have plain : ∀ e, SG b0 st ((pe T O ρ .st e).bind fun d => .ok (.rt d)) (xs T C b w (.ret e) σ st) := by
    intro e
    have he := pe_ok (b := b) K R e .st
    cases ee : pe T O ρ .st e with
    | no => exact trivial
    | ex c fs vs => rw [ee] at he; exact SG_ex hb he fun s he_ => by rw [xs, he_]; rfl
    | ok d =>
      rw [ee] at he
      exact ⟨.rt d, st, by rw [xs, he.2, Rs.bind_ok, frz_nr he.1]; rfl, Ge.refl hb, rfl, he.1⟩
  unfold pret
  split
  · rename_i i
    split
    · rename_i e h
      obtain ⟨n, h1, h2, h3, h4⟩ := R.l i e (lvAt_some h)
      exact ⟨.rt (entD e), st.set n (.fz (entD e)), by rw [xs, e_v h1, Rs.bind_ok, frz_ent h3 h4]; rfl, Ge.set hb h2, rfl, ent_nr h4⟩
    · exact plain _
  · exact plain _
theorem putf_nr {fs : List Nat} {vs : List D} {f : Nat} {d : D} (hd : D.nr d = true) (h : D.nrs vs = true) : D.nrs (putf fs vs f d).2 = true := by
  induction fs generalizing vs with
  | nil => cases vs <;> simp [putf, D.nrs, hd]
  | cons g fs ih =>
    cases vs with
    | nil => simp [putf, D.nrs, hd]
    | cons v vs =>
      simp only [D.nrs, Bool.and_eq_true] at h
      simp only [putf]
      split
      · simp only [D.nrs, hd, h.2, Bool.and_self]
      · simp only [D.nrs, h.1, ih h.2, Bool.and_self]
theorem list_set_nr {xs : List D} {j : Nat} {d : D} (h : D.nrs xs = true) (hd : D.nr d = true) : D.nrs (xs.set j d) = true := nrs_all fun x hx => by
  rcases List.mem_or_eq_of_mem_set hx with h1 | h1
  · exact nrs_mem h x h1
  · rw [h1]; exact hd
theorem excB_ok {e c : Nat} : True := trivial
mutual
theorem pxs_ok (K : OrcOk T C O) {w : Nat} : ∀ (x : Sx) {st : Sto} {ρ : PEnv} {σ : Env}, PRel b0 st ρ σ → b0 ≤ st.length → SG b0 st (pxs T O w x ρ) (xs T C b w x σ st)
  | .ex e, st, ρ, σ, R, hb => by
    have plain : SG b0 st ((pe T O ρ .st e).bind fun _ => .ok (.nx ρ)) (xs T C b w (.ex e) σ st) := by
      have he := pe_ok (b := b) K R e .st
      cases ee : pe T O ρ .st e with
      | no => exact trivial
      | ex c fs vs => rw [ee] at he; exact SG_ex hb he fun s he_ => by rw [xs, he_]; rfl
      | ok d => rw [ee] at he; exact ⟨.nx σ, st, by rw [xs, he.2]; rfl, Ge.refl hb, R⟩
    have two : (∃ i a, e = .bm .append (.v i) [a]) ∨ pxs T O w (.ex e) ρ = (pe T O ρ .st e).bind fun _ => .ok (.nx ρ) := by
      cases e <;> try exact .inr rfl
      rename_i k o as
      cases k <;> try exact .inr rfl
      cases o <;> try exact .inr rfl
      rename_i i
      match as with
      | [] => exact .inr rfl
      | [a] => exact .inl ⟨i, a, rfl⟩
      | _ :: _ :: _ => exact .inr rfl
    rcases two with ⟨i, a, rfl⟩ | two
    · have q : pxs T O w (.ex (.bm .append (.v i) [a])) ρ = (match lvAt ρ i with
        | some (.lst xs) => (pe T O ρ .st a).bind fun d => if xs.length < SZ then .ok (.nx (ρ.set i (some (.l (.lst (xs ++ [d])))))) else .no
        | _ => .no) := rfl
      rw [q]
      have he := pe_ok (b := b) K R a .st
      cases hl : lvAt ρ i with
      | none => exact trivial
      | some en =>
        cases en <;> try exact trivial
        rename_i ys
        obtain ⟨n, h1, h2, h3, h4⟩ := R.l i _ (lvAt_some hl)
        have hv := view_ent h3
        simp only
        cases ee : pe T O ρ .st a with
        | no => exact trivial
        | ex c fs vs =>
          rw [ee] at he
          refine SG_ex hb he fun s he_ => ?_
          have : ev T C b σ (.bm .append (.v i) [a]) st = .ex c fs vs s := by
            rw [ev, e_v h1, Rs.bind_ok, hv]
            have h5 : evs T C b σ [a] st = .ex c fs vs s := by rw [evs, he_]; rfl
            simp only [recv, entD, h5]; rfl
          rw [xs, this]; rfl
        | ok d =>
          rw [ee] at he
          simp only [PR.bind_ok]
          split
          · rename_i hz
            obtain ⟨n', z1, z2, z3, R'⟩ := R.upd (e' := .lst (ys ++ [d])) hl (by simp only [entOk] at h4 ⊢; exact nrs_app h4 (by simp [D.nrs, he.1])) (fun _ _ _ h => by cases h)
            rw [h1] at z1
            cases z1
            refine ⟨.nx σ, _, ?_, Ge.set hb h2, R'⟩
            have : ev T C b σ (.bm .append (.v i) [a]) st = .ok .non (st.set n (.lst (ys ++ [d]))) :=
              e_bm (e_v h1) (t := .list) (by rw [hv]; rfl) (es_one he.2) (by
                rw [hv]
                simp only [bmt, entD, hz, if_true, wr_ok h3 h4 he.1, pur_some, Rs.bind_ok])
            rw [xs, this]; rfl
          · exact trivial
    · rw [two]; exact plain
  | .set i e, st, ρ, σ, R, hb => by
    rw [pxs]
    have he := pfr_ok (b := b) K R hb (i := i) (e := e)
    cases ee : pfr T O ρ e with
    | no => exact trivial
    | ex c fs vs => rw [ee] at he; exact SG_ex hb he fun s he_ => by rw [xs, he_]; rfl
    | ok p =>
      rw [ee] at he
      obtain ⟨d, st', h1, h2, h3⟩ := he
      exact ⟨.nx (σ.set i (some d)), st', by rw [xs, h1]; rfl, h2, h3⟩
  | .setT is e, st, ρ, σ, R, hb => by
    rw [pxs]
    have he := pe_ok (b := b) K R e .vw
    cases ee : pe T O ρ .vw e with
    | no => exact trivial
    | ex c fs vs => rw [ee] at he; exact SG_ex hb he fun s he_ => by rw [xs, he_]; rfl
    | ok d =>
      rw [ee] at he
      obtain ⟨n1, a, ha, va⟩ := he
      simp only [PR.bind_ok]
      cases ht : ptarget ρ is true d with
      | none => exact trivial
      | some ρ' =>
        obtain ⟨σ', h1, R'⟩ := R.target n1 ht
        exact ⟨.nx σ', st, by rw [xs, ha, Rs.bind_ok, va, h1]; rfl, Ge.refl hb, R'⟩
  | .par i j x y, st, ρ, σ, R, hb => by
    rw [pxs]
    have hx := pe_ok (b := b) K R x .st
    have hy := pe_ok (b := b) K R y .st
    cases ex : pe T O ρ .st x with
    | no => exact trivial
    | ex c fs vs => rw [ex] at hx; exact SG_ex hb hx fun s he_ => by rw [xs, he_]; rfl
    | ok d =>
      rw [ex] at hx
      simp only [PR.bind_ok]
      cases ey : pe T O ρ .st y with
      | no => exact trivial
      | ex c fs vs => rw [ey] at hy; exact SG_ex hb hy fun s he_ => by rw [xs, hx.2, Rs.bind_ok, he_]; rfl
      | ok d' =>
        rw [ey] at hy
        exact ⟨.nx ((σ.set i (some d)).set j (some d')), st, by rw [xs, hx.2, Rs.bind_ok, hy.2]; rfl, Ge.refl hb, (R.set hx.1).set hy.1⟩
  | .setF o f e, st, ρ, σ, R, hb => by
    have two : (∃ i, o = .v i) ∨ pxs T O w (.setF o f e) ρ = .no := by
      cases o <;> first | exact .inr rfl | exact .inl ⟨_, rfl⟩
    rcases two with ⟨i, rfl⟩ | two
    · rw [pxs]
      have he := pe_ok (b := b) K R e .st
      cases ee : pe T O ρ .st e with
      | no => exact trivial
      | ex c fs vs => rw [ee] at he; exact SG_ex hb he fun s he_ => by rw [xs, he_]; rfl
      | ok d =>
        rw [ee] at he
        simp only [PR.bind_ok]
        unfold psetF
        cases hl : lvAt ρ i with
        | none => exact trivial
        | some en =>
          cases en <;> try exact trivial
          rename_i c fs vs
          obtain ⟨n, h1, h2, h3, h4⟩ := R.l i _ (lvAt_some hl)
          have hv := view_ent h3
          simp only
          split
          · rename_i hc
            obtain ⟨n', z1, z2, z3, R'⟩ := R.upd (e' := .ins c (putf fs vs f d).1 (putf fs vs f d).2) hl (by simp only [entOk] at h4 ⊢; exact putf_nr he.1 h4) (fun _ _ _ _ => ⟨_, _, _, rfl⟩)
            rw [h1] at z1
            cases z1
            refine ⟨.nx σ, _, ?_, Ge.set hb h2, R'⟩
            rw [xs, he.2, Rs.bind_ok, e_v h1, Rs.bind_ok]
            have : stF T b (.ref n) f d st = some (st.set n (.ins c (putf fs vs f d).1 (putf fs vs f d).2)) := by
              unfold stF
              simp only [hv, entD, hc, if_true, wr_ok h3 h4 he.1]
            rw [this]; rfl
          · exact trivial
    · rw [two]; exact trivial
  | .setI o k e, st, ρ, σ, R, hb => by
    have two : (∃ i, o = .v i) ∨ pxs T O w (.setI o k e) ρ = .no := by
      cases o <;> first | exact .inr rfl | exact .inl ⟨_, rfl⟩
    rcases two with ⟨i, rfl⟩ | two
    · rw [pxs]
      unfold psetI
      cases hl : lvAt ρ i with
      | none => exact trivial
      | some en =>
        obtain ⟨n, h1, h2, h3, h4⟩ := R.l i _ (lvAt_some hl)
        have hv := view_ent h3
        simp only [Option.isSome_some, if_true]
        have he := pe_ok (b := b) K R e .st
        have hk := pe_ok (b := b) K R k .st
        cases ee : pe T O ρ .st e with
        | no => exact trivial
        | ex c fs vs => rw [ee] at he; exact SG_ex hb he fun s he_ => by rw [xs, he_]; rfl
        | ok d =>
          rw [ee] at he
          simp only [PR.bind_ok]
          cases ek : pe T O ρ .st k with
          | no => exact trivial
          | ex c fs vs => rw [ek] at hk; exact SG_ex hb hk fun s he_ => by rw [xs, he.2, Rs.bind_ok, e_v h1, Rs.bind_ok, he_]; rfl
          | ok kk =>
            rw [ek] at hk
            simp only [PR.bind_ok]
            have fin : ∀ e', entOk e' = true → (∀ c fs vs, e' ≠ .ins c fs vs) → stI b (.ref n) kk d st = some (st.set n e') → SG b0 st (.ok (.nx (ρ.set i (some (.l e'))))) (xs T C b w (.setI (.v i) k e) σ st) := by
              intro e' he' hni hs
              obtain ⟨n', z1, z2, z3, R'⟩ := R.upd (e' := e') hl he' (fun c fs vs h => absurd h (hni c fs vs))
              rw [h1] at z1
              cases z1
              refine ⟨.nx σ, _, ?_, Ge.set hb h2, R'⟩
              rw [xs, he.2, Rs.bind_ok, e_v h1, Rs.bind_ok, hk.2, Rs.bind_ok, hs]; rfl
            cases en with
            | ins c fs vs => exact trivial
            | fz d => exact trivial
            | lst ys =>
              simp only [entOk] at h4
              simp only
              cases kk <;> try exact trivial
              rename_i j
              simp only
              cases hp : plc ys.length j with
              | none => exact trivial
              | some j' =>
                refine fin (.lst (ys.set j' d)) (by simp only [entOk]; exact list_set_nr h4 he.1) (fun _ _ _ h => by cases h) ?_
                unfold stI
                simp only [hv, entD, hp, Option.bind_some, wr_ok h3 (show entOk (.lst ys) = true from h4) he.1]
            | dic ks vs =>
              simp only [entOk, Bool.and_eq_true] at h4
              simp only
              split
              · rename_i hc
                have := putd_nr h4.1 h4.2 hk.1 he.1
                refine fin (.dic (putd ks vs kk d).1 (putd ks vs kk d).2) (by simp only [entOk, this.1, this.2, Bool.and_self]) (fun _ _ _ h => by cases h) ?_
                unfold stI
                simp only [hv, entD, hc, if_true, wr_ok h3 (show entOk (.dic ks vs) = true by simp only [entOk, h4.1, h4.2, Bool.and_self]) (show (D.nr kk && D.nr d) = true by rw [hk.1, he.1]; rfl)]
              · exact trivial
    · rw [two]; exact trivial
  | .aug i o e, st, ρ, σ, R, hb => by
    have two : o = .add ∨ pxs T O w (.aug i o e) ρ = .no := by
      cases o <;> first | exact .inl rfl | exact .inr rfl
    rcases two with rfl | two
    · rw [pxs]
      have hi := pe_ok (b := b) K R (.v i) .st
      have he := pe_ok (b := b) K R e .st
      cases ei : pe T O ρ .st (.v i) with
      | no => exact trivial
      | ex c fs vs =>
        exfalso
        have : pvar .st ρ i = .ex c fs vs := ei
        unfold pvar at this
        split at this <;> cases this
      | ok a =>
        rw [ei] at hi
        simp only [PR.bind_ok]
        have h1 : σ[i]? = some (some a) := by
          have : pvar .st ρ i = .ok a := ei
          unfold pvar at this
          split at this
          · rename_i d h; cases this; exact (R.s i _ h).1
          · cases this
          · cases this
        cases ee : pe T O ρ .st e with
        | no => exact trivial
        | ex c fs vs => rw [ee] at he; exact SG_ex hb he fun s he_ => by rw [xs, h1]; simp only [he_]; rfl
        | ok d =>
          rw [ee] at he
          simp only [PR.bind_ok]
          cases a <;> try exact trivial
          cases d <;> try exact trivial
          rename_i p q
          exact ⟨.nx (σ.set i (some (.int (p + q)))), st, by rw [xs, h1]; simp only [he.2, Rs.bind_ok, bop]; rfl, Ge.refl hb, R.set rfl⟩
    · rw [two]; exact trivial
  | .ret e, st, ρ, σ, R, hb => by rw [pxs]; exact pret_ok K R hb
  | .iff t x y, st, ρ, σ, R, hb => by
    rw [pxs]
    have ht := pe_ok (b := b) K R t .st
    cases et : pe T O ρ .st t with
    | no => exact trivial
    | ex c fs vs => rw [et] at ht; exact SG_ex hb ht fun s he_ => by rw [xs, he_]; rfl
    | ok a =>
      rw [et] at ht
      simp only [PR.bind_ok]
      cases a <;> try exact trivial
      rename_i k
      rw [xs, ht.2, Rs.bind_ok]
      cases k with
      | true => exact pxss_ok K x R hb
      | false => exact pxss_ok K y R hb
  | .for tg tt it bd, st, ρ, σ, R, hb => by
    rw [pxs]
    have hw := pe_ok (b := b) K R it .wk
    cases ew : pe T O ρ .wk it with
    | no => exact trivial
    | ex c fs vs => rw [ew] at hw; exact SG_ex hb hw fun s he_ => by rw [xs, he_]; rfl
    | ok d =>
      rw [ew] at hw
      obtain ⟨n1, ds, rfl, h1⟩ := hw
      simp only [D.nr] at n1
      simp only [PR.bind_ok]
      rw [xs, h1, Rs.bind_ok]
      refine forP_ok (fun d hd ρ1 σ1 st1 R1 hb1 => ?_) R hb
      cases ht : ptarget ρ1 tg tt d with
      | none => exact trivial
      | some ρ2 =>
        obtain ⟨σ2, h2, R2⟩ := R1.target (nrs_mem n1 d hd) ht
        rw [h2]
        exact pxss_ok K bd R2 hb1
  | .whl t bd, st, ρ, σ, R, hb => by
    rw [pxs, xs]
    refine whP_ok (fun ρ1 σ1 st1 R1 => ?_) (fun ρ1 σ1 st1 R1 hb1 => pxss_ok K bd R1 hb1) R hb
    have ht := pe_ok (b := b) K R1 t .st
    cases et : pe T O ρ1 .st t with
    | no => exact trivial
    | ex c fs vs => rw [et] at ht; exact ht
    | ok a => rw [et] at ht; exact ht
  | .brk, st, ρ, σ, R, hb => by rw [pxs, xs]; exact ⟨_, st, rfl, Ge.refl hb, R⟩
  | .cnt, st, ρ, σ, R, hb => by rw [pxs, xs]; exact ⟨_, st, rfl, Ge.refl hb, R⟩
  | .pass, st, ρ, σ, R, hb => by rw [pxs, xs]; exact ⟨_, st, rfl, Ge.refl hb, R⟩
  | .rais c, st, ρ, σ, R, hb => by rw [pxs, xs]; exact ⟨rfl, st, rfl, Ge.refl hb⟩
  | .tryK bd c i d0, st, ρ, σ, R, hb => by
    have two : (∃ j e, bd = .set j e) ∨ pxs T O w (.tryK bd c i d0) ρ = .no := by
      cases bd <;> first | exact .inr rfl | exact .inl ⟨_, _, rfl⟩
    rcases two with ⟨j, e, rfl⟩ | two
    · rw [pxs]
      split
      · rename_i hd0
        have he := pe_ok (b := b) K R e .st
        cases ee : pe T O ρ .st e with
        | no => exact trivial
        | ok d =>
          rw [ee] at he
          exact ⟨.nx (σ.set j (some d)), st, by rw [xs, xs, he.2]; rfl, Ge.refl hb, R.set he.1⟩
        | ex c' fs vs =>
          rw [ee] at he
          obtain ⟨he1, s, hg, he_⟩ := he
          have hx : xs T C b w (.set j e) σ st = .ex c' fs vs s := by rw [xs, he_]; rfl
          have q : xs T C b w (.tryK (.set j e) c i d0) σ st = if excB T c' c then (if T.sub c' c then .ok (.nx (σ.set i (some d0))) s else .ex c' fs vs s) else .no := by rw [xs, hx]
          rw [q]
          simp only
          split
          · split
            · exact ⟨_, s, rfl, hg.less hb, (R.ge hg).set hd0⟩
            · exact ⟨he1, s, rfl, hg.less hb⟩
          · exact trivial
      · exact trivial
    · rw [two]; exact trivial
  | .tryE bd c n i, st, ρ, σ, R, hb => by
    have two : (∃ j e, bd = .set j e) ∨ pxs T O w (.tryE bd c n i) ρ = .no := by
      cases bd <;> first | exact .inr rfl | exact .inl ⟨_, _, rfl⟩
    rcases two with ⟨j, e, rfl⟩ | two
    · rw [pxs]
      have he := pe_ok (b := b) K R e .st
      cases ee : pe T O ρ .st e with
      | no => exact trivial
      | ok d =>
        rw [ee] at he
        exact ⟨.nx (σ.set j (some d)), st, by rw [xs, xs, he.2]; rfl, Ge.refl hb, R.set he.1⟩
      | ex c' fs vs =>
        rw [ee] at he
        obtain ⟨he1, s, hg, he_⟩ := he
        have hx : xs T C b w (.set j e) σ st = .ex c' fs vs s := by rw [xs, he_]; rfl
        have q : xs T C b w (.tryE (.set j e) c n i) σ st = if excB T c' c then (if T.sub c' c then .ok (.nx ((σ.set i (some (.exc c' fs vs))).set n none)) s else .ex c' fs vs s) else .no := by rw [xs, hx]
        rw [q]
        simp only
        split
        · split
          · exact ⟨_, s, rfl, hg.less hb, ((R.ge hg).set (by simp only [D.nr]; exact he1)).setN⟩
          · exact ⟨he1, s, rfl, hg.less hb⟩
        · exact trivial
    · rw [two]; exact trivial
theorem pxss_ok (K : OrcOk T C O) {w : Nat} : ∀ (x : List Sx) {st : Sto} {ρ : PEnv} {σ : Env}, PRel b0 st ρ σ → b0 ≤ st.length → SG b0 st (pxss T O w x ρ) (xss T C b w x σ st)
  | [], st, ρ, σ, R, hb => by rw [pxss, xss]; exact ⟨_, st, rfl, Ge.refl hb, R⟩
  | x :: r, st, ρ, σ, R, hb => by
    rw [pxss, xss]
    have h := pxs_ok K (w := w) x R hb
    cases e : pxs T O w x ρ with
    | no => exact trivial
    | ex c fs vs =>
      rw [e] at h
      obtain ⟨h1, s, h2, h3⟩ := h
      exact ⟨h1, s, by rw [h2]; rfl, h3⟩
    | ok fl =>
      rw [e] at h
      obtain ⟨f', s, h2, h3, h4⟩ := h
      rw [h2]
      simp only [PR.bind_ok, Rs.bind_ok]
      cases fl <;> cases f' <;> first | exact h4.elim | skip
      · exact (pxss_ok K r h4 h3.l).mono h3
      · exact ⟨_, s, rfl, h3, h4⟩
      · exact ⟨_, s, rfl, h3, h4⟩
      · exact ⟨_, s, rfl, h3, h4⟩
end
end
end LS
end
section
set_option Elab.async false
set_option linter.all false
set_option maxRecDepth 10000
set_option maxHeartbeats 1000000
/-! PS, part 8: what a def does, whatever the store. -/
namespace LS
open PySem
section
variable {T : Tb} {w : Nat}
/-- called with these, n deep at most, the def f ends so and changes nothing -/
def Spec (T : Tb) (w n f : Nat) (ds : List D) (r : PR D) : Prop := r ≠ .no ∧ ∀ b st, lifts r st (cal T w n b f ds st)
def SpecN (T : Tb) (w n c : Nat) (ds : List D) (r : PR D) : Prop := r ≠ .no ∧ ∀ b st, lifts r st (mkNew T (cal T w n b) c false ds st)
open Classical in
noncomputable def orc (T : Tb) (w n : Nat) : Orc where
  C := fun f ds => if h : ∃ r, Spec T w n f ds r then choose h else .no
  N := fun c ds => if h : ∃ r, SpecN T w n c ds r then choose h else .no
theorem lifts_inj {r r' : PR D} {st : Sto} {L : Rs D} (h0 : r ≠ .no) (h0' : r' ≠ .no) (h : lifts r st L) (h' : lifts r' st L) : r = r' := by
  cases r with
  | no => exact absurd rfl h0
  | ok d =>
    cases r' with
    | no => exact absurd rfl h0'
    | ok d' => have := h.2.symm.trans h'.2; cases this; rfl
    | ex c fs vs => obtain ⟨_, s, _, e⟩ := h'; have := h.2.symm.trans e; cases this
  | ex c fs vs =>
    obtain ⟨_, s, _, e⟩ := h
    cases r' with
    | no => exact absurd rfl h0'
    | ok d' => have := e.symm.trans h'.2; cases this
    | ex c fs vs => obtain ⟨_, s', _, e'⟩ := h'; have := e.symm.trans e'; cases this; rfl
theorem orc_C {n f : Nat} {ds : List D} {r : PR D} (h : Spec T w n f ds r) : (orc T w n).C f ds = r := by
  have ex : ∃ r, Spec T w n f ds r := ⟨r, h⟩
  unfold orc
  simp only [dif_pos ex]
  exact lifts_inj (Classical.choose_spec ex).1 h.1 ((Classical.choose_spec ex).2 0 []) (h.2 0 [])
theorem orc_N {n f : Nat} {ds : List D} {r : PR D} (h : SpecN T w n f ds r) : (orc T w n).N f ds = r := by
  have ex : ∃ r, SpecN T w n f ds r := ⟨r, h⟩
  unfold orc
  simp only [dif_pos ex]
  exact lifts_inj (Classical.choose_spec ex).1 h.1 ((Classical.choose_spec ex).2 0 []) (h.2 0 [])
theorem orc_ok {n b : Nat} : OrcOk T (cal T w n b) (orc T w n) where
  c := fun f ds st => by
    by_cases ex : ∃ r, Spec T w n f ds r
    · obtain ⟨r, hr⟩ := ex
      rw [orc_C hr]
      exact hr.2 b st
    · unfold orc
      simp only [dif_neg ex]
      exact trivial
  n := fun f ds st => by
    by_cases ex : ∃ r, SpecN T w n f ds r
    · obtain ⟨r, hr⟩ := ex
      rw [orc_N hr]
      exact hr.2 b st
    · unfold orc
      simp only [dif_neg ex]
      exact trivial
theorem prel_args {b : Nat} {st : Sto} {k : Nat} : ∀ {ds : List D}, D.nrs ds = true → PRel b st (ds.map (fun d => some (PVl.s d)) ++ List.replicate k none) (ds.map some ++ List.replicate k none)
  | ds, h => by
    have key : ∀ (i : Nat) (p : PVl), (ds.map (fun d => some (PVl.s d)) ++ List.replicate k none)[i]? = some (some p) → ∃ d, ds[i]? = some d ∧ p = PVl.s d := fun i p e => by
      by_cases hi : i < ds.length
      · rw [List.getElem?_append_left (by rw [List.length_map]; exact hi), List.getElem?_map] at e
        obtain ⟨d, h1, h2⟩ := Option.map_eq_some_iff.mp e
        cases h2
        exact ⟨d, h1, rfl⟩
      · rw [List.getElem?_append_right (by rw [List.length_map]; omega), List.getElem?_replicate] at e
        split at e <;> cases e
    refine ⟨by simp, fun i d e => ?_, fun i d e => ?_, fun i j e e' n h1 h2 h3 h4 => ?_, fun i c fs vs e => ?_⟩
    · obtain ⟨d', h1, h2⟩ := key i _ e
      cases h2
      refine ⟨?_, nrs_mem h _ (List.mem_of_getElem? h1)⟩
      have hi : i < ds.length := (List.getElem?_eq_some_iff.mp h1).1
      rw [List.getElem?_append_left (by rw [List.length_map]; exact hi), List.getElem?_map, h1]; rfl
    · obtain ⟨d', h1, h2⟩ := key i _ e
      cases h2
    · obtain ⟨d', z1, z2⟩ := key i _ h1
      cases z2
    · obtain ⟨d', z1, z2⟩ := key i _ e
      cases z2
theorem take_ge {b : Nat} {st st' : Sto} (h : Ge b st st') (hb : b = st.length) : st'.take st.length = st := by
  subst hb
  refine List.ext_getElem? fun n => ?_
  rw [List.getElem?_take]
  by_cases hn : n < st.length
  · rw [if_pos hn, h.h n hn]
  · rw [if_neg hn, List.getElem?_eq_none (by omega)]
theorem spec_of {n f : Nat} {fn : Fn} {ds : List D} {r : PR D} (hf : T.fns[f]? = some fn) (htr : fn.tr = true) (hl : ds.length = fn.np) (hd : D.nrs ds = true) (h : pfn T (orc T w n) w fn ds = r) (hr : r ≠ .no) : Spec T w (n + 1) f ds r := by
  refine ⟨hr, fun b st => ?_⟩
  rw [cal, hf]
  simp only [hl, if_true, htr]
  have g := pxss_ok (b := st.length) (b0 := st.length) (orc_ok (T := T) (w := w) (n := n) (b := st.length)) (w := w) fn.body (st := st) (prel_args (k := fn.ns - fn.np) hd) (Nat.le_refl _)
  have h2 : pend (pxss T (orc T w n) w fn.body (ds.map (fun d => some (PVl.s d)) ++ List.replicate (fn.ns - fn.np) none)) = r := h
  cases e : pxss T (orc T w n) w fn.body (ds.map (fun d => some (PVl.s d)) ++ List.replicate (fn.ns - fn.np) none) with
  | no => rw [e] at h2; exact absurd h2.symm hr
  | ex c fs vs =>
    rw [e] at h2 g
    obtain ⟨h3, s, h4, h5⟩ := g
    subst h2
    rw [h4]
    refine ⟨h3, st, Ge.refl (Nat.le_refl _), ?_⟩
    simp only [ending, h3, if_true, take_ge h5 rfl]
  | ok fl =>
    rw [e] at h2 g
    obtain ⟨f', s, h4, h5, h6⟩ := g
    rw [h4]
    cases fl <;> cases f' <;> first | exact h6.elim | (exact absurd h2.symm hr) | skip
    · subst h2
      refine ⟨rfl, ?_⟩
      simp only [ending, if_true, take_ge h5 rfl]
    · subst h2
      obtain ⟨rfl, h7⟩ := h6
      refine ⟨h7, ?_⟩
      simp only [ending, if_true, h7, take_ge h5 rfl]
theorem prel_ini {b c : Nat} {st : Sto} {k : Nat} {ds : List D} (hd : D.nrs ds = true) (hb : b = st.length) : PRel b (st ++ [.ins c [] []]) (some (PVl.l (.ins c [] [])) :: ds.map (fun d => some (PVl.s d)) ++ List.replicate k none) (some (.ref st.length) :: ds.map some ++ List.replicate k none) := by
  have A := prel_args (b := b) (st := st) (k := k) hd
  refine ⟨?_, fun i d e => ?_, fun i d e => ?_, fun i j e e' n h1 h2 h3 h4 => ?_, fun i c' fs vs e => ?_⟩
  · simp
  · cases i with
    | zero => cases e
    | succ i => exact A.s i d e
  · cases i with
    | zero =>
      cases e
      exact ⟨st.length, rfl, by omega, by rw [List.getElem?_append_right (Nat.le_refl _), Nat.sub_self]; rfl, rfl⟩
    | succ i =>
      obtain ⟨n, h1, h2, h3, h4⟩ := A.l i d e
      exact ⟨n, h1, h2, by rw [List.getElem?_append_left (List.getElem?_eq_some_iff.mp h3).1]; exact h3, h4⟩
  · have no : ∀ (i : Nat) (e : Ent), (ds.map (fun d => some (PVl.s d)) ++ List.replicate k none)[i]? = some (some (PVl.l e)) → False := fun i e h => by
      by_cases hi : i < ds.length
      · rw [List.getElem?_append_left (by rw [List.length_map]; exact hi), List.getElem?_map] at h
        obtain ⟨d, _, h2⟩ := Option.map_eq_some_iff.mp h
        cases h2
      · rw [List.getElem?_append_right (by rw [List.length_map]; omega), List.getElem?_replicate] at h
        split at h <;> cases h
    cases i with
    | zero =>
      cases j with
      | zero => rfl
      | succ j => exact (no j _ h2).elim
    | succ i => exact (no i _ h1).elim
  · cases i with
    | zero => rw [hb]; rfl
    | succ i => exact A.ins i c' fs vs e
theorem take_succ {st s : Sto} {x : Ent} (h : Ge st.length st s) (hx : s[st.length]? = some x) : s.take (st.length + 1) = st ++ [x] := by
  rw [List.take_add_one, take_ge h rfl, hx]; rfl
/-- a new thing whose __init__ is f -/
theorem specN_of {n f c : Nat} {cl : Cl} {fn : Fn} {ds : List D} {r : PR D} (hc : T.cls[c]? = some cl) (hi : cl.ini = some f) (hf : T.fns[f]? = some fn) (htr : fn.tr = true) (hl : ds.length + 1 = fn.np) (hd : D.nrs ds = true) (h : pini T (orc T w n) w fn c ds = r) (hr : r ≠ .no) : SpecN T w (n + 1) c ds r := by
  refine ⟨hr, fun b st => ?_⟩
  unfold mkNew
  simp only [hc, hi]
  rw [cal, hf]
  simp only [show (D.ref st.length :: ds).length = fn.np from hl, if_true, htr]
  have g := pxss_ok (b := (st ++ [Ent.ins c [] []]).length) (b0 := st.length) (orc_ok (T := T) (w := w) (n := n) (b := (st ++ [Ent.ins c [] []]).length)) (w := w) fn.body (st := st ++ [.ins c [] []]) (prel_ini (c := c) (k := fn.ns - fn.np) hd rfl) (by rw [List.length_append]; omega)
  have gt : Ge st.length st (st ++ [Ent.ins c [] []]) := Ge.app (Nat.le_refl _)
  have htr' : isTr T f = true := by unfold isTr; rw [hf]; exact htr
  unfold pini at h
  rw [show (List.map some (D.ref st.length :: ds)) = some (D.ref st.length) :: ds.map some from rfl]
  have hlen : (st ++ [Ent.ins c [] []]).length = st.length + 1 := by rw [List.length_append]; rfl
  cases e : pxss T (orc T w n) w fn.body (some (PVl.l (.ins c [] [])) :: ds.map (fun d => some (PVl.s d)) ++ List.replicate (fn.ns - fn.np) none) with
  | no => rw [e] at h; exact absurd h.symm hr
  | ex c' fs vs =>
    rw [e] at h g
    obtain ⟨h3, s, h4, h5⟩ := g
    subst h
    rw [h4]
    refine ⟨h3, s.take (st ++ [Ent.ins c [] []]).length, ?_, ?_⟩
    · have h6 := gt.trans h5
      refine ⟨fun n hn => ?_, ?_⟩
      · rw [List.getElem?_take, if_pos (by omega)]
        exact h6.h n hn
      · rw [List.length_take]
        have := h6.l
        omega
    · simp only [ending, h3, if_true]; rfl
  | ok fl =>
    rw [e] at h g
    obtain ⟨f', s, h4, h5, h6⟩ := g
    rw [h4]
    cases fl <;> cases f' <;> first | exact h6.elim | (exact absurd h.symm hr) | skip
    rename_i ρ σ
    cases hl0 : lvAt ρ 0 with
    | none => simp only [hl0] at h; exact absurd h.symm hr
    | some en =>
      simp only [hl0] at h
      have hl1 := lvAt_some hl0
      obtain ⟨m, q1, q2, q3, q4⟩ := h6.l 0 en hl1
      simp only [ending, if_true, Rs.bind_ok, D.isN, hlen]
      cases en with
      | ins c1 fs vs =>
        have := h6.ins 0 c1 fs vs hl1
        rw [this] at q1
        cases q1
        rw [take_succ (gt.trans h5) q3]
        have hx : (st ++ [Ent.ins c1 fs vs])[st.length]? = some (.ins c1 fs vs) := by rw [List.getElem?_append_right (Nat.le_refl _), Nat.sub_self]; rfl
        subst h
        refine ⟨q4, ?_⟩
        simp only [entOk] at q4
        simp only [mkEnd, htr', hx, q4, if_true, Bool.false_eq_true, if_false, List.take_left, entD]
      | lst xs => exact absurd h.symm hr
      | dic ks vs => exact absurd h.symm hr
      | fz d => exact absurd h.symm hr
theorem specN_0 {n c : Nat} {cl : Cl} (hc : T.cls[c]? = some cl) (hi : cl.ini = none) : SpecN T w n c [] (.ok (.ins c [] [])) := by
  refine ⟨(fun h => by cases h), fun b st => ?_⟩
  unfold mkNew
  simp only [hc, hi]
  exact ⟨rfl, rfl⟩
end
end LS
end
section
set_option Elab.async false
set_option linter.all false
set_option maxRecDepth 10000
/-! PS, part 9: loops and comprehensions, as folds. -/
namespace LS
open PySem
theorem forP_fold {α β : Type} {enc : α → D} {f : D → PEnv → PR PFl} (E : β → PEnv → Prop) (step : β → α → β) : ∀ {xs : List α} {b : β} {ρ : PEnv}, (∀ x ∈ xs, ∀ b ρ, E b ρ → ∃ ρ', f (enc x) ρ = .ok (.nx ρ') ∧ E (step b x) ρ') → E b ρ → ∃ ρ', forP f (xs.map enc) ρ = .ok (.nx ρ') ∧ E (xs.foldl step b) ρ'
  | [], b, ρ, _, h0 => ⟨ρ, rfl, h0⟩
  | x :: xs, b, ρ, h, h0 => by
    obtain ⟨ρ1, e1, h1⟩ := h x (List.mem_cons_self ..) b ρ h0
    obtain ⟨ρ2, e2, h2⟩ := forP_fold (enc := enc) (f := f) E step (xs := xs) (fun y hy => h y (List.mem_cons_of_mem _ hy)) h1
    refine ⟨ρ2, ?_, h2⟩
    rw [List.map_cons, forP, e1]
    exact e2
/-- by the prefix that is done -/
theorem forP_inv {f : D → PEnv → PR PFl} {I : Nat → PEnv → Prop} : ∀ {ds : List D} {k : Nat} {ρ : PEnv}, (∀ i d ρ, ds[i]? = some d → I (k + i) ρ → ∃ ρ', f d ρ = .ok (.nx ρ') ∧ I (k + i + 1) ρ') → I k ρ → ∃ ρ', forP f ds ρ = .ok (.nx ρ') ∧ I (k + ds.length) ρ'
  | [], k, ρ, _, h0 => ⟨ρ, rfl, h0⟩
  | x :: xs, k, ρ, h, h0 => by
    obtain ⟨ρ1, e1, h1⟩ := h 0 x ρ rfl h0
    obtain ⟨ρ2, e2, h2⟩ := forP_inv (f := f) (I := I) (ds := xs) (k := k + 1) (fun i d ρ hd hi => by
      have := h (i + 1) d ρ (by simpa using hd) (by rw [show k + (i + 1) = k + 1 + i by omega]; exact hi)
      rw [show k + (i + 1) + 1 = k + 1 + i + 1 by omega] at this
      exact this) h1
    refine ⟨ρ2, ?_, by rw [List.length_cons, show k + (xs.length + 1) = k + 1 + xs.length by omega]; exact h2⟩
    rw [forP, e1]
    exact e2
theorem forP_app {f : D → PEnv → PR PFl} : ∀ {as bs : List D} {ρ ρ' : PEnv}, forP f as ρ = .ok (.nx ρ') → (∀ d ∈ as, ∀ ρ ρ', f d ρ ≠ .ok (.bk ρ')) → forP f (as ++ bs) ρ = forP f bs ρ'
  | [], bs, ρ, ρ', h, _ => by cases h; rfl
  | x :: as, bs, ρ, ρ', h, hb => by
    rw [List.cons_append]
    rw [forP] at h ⊢
    cases e : f x ρ with
    | no => rw [e] at h; cases h
    | ex c fs vs => rw [e] at h; cases h
    | ok fl =>
      rw [e] at h
      simp only [PR.bind_ok] at h ⊢
      cases fl with
      | nx ρ1 => exact forP_app h fun d hd => hb d (List.mem_cons_of_mem _ hd)
      | ct ρ1 => exact forP_app h fun d hd => hb d (List.mem_cons_of_mem _ hd)
      | bk ρ1 => exact absurd e (hb x (List.mem_cons_self ..) ρ ρ1)
      | rt d => cases h
/-- a turn that ends the loop otherwise -/
theorem forP_at {f : D → PEnv → PR PFl} {I : Nat → PEnv → Prop} {R : PR PFl} (hR : (∃ c fs vs, R = .ex c fs vs) ∨ ∃ d, R = .ok (.rt d)) : ∀ {j : Nat} {ds : List D} {k : Nat} {d : D} {ρ : PEnv}, ds[j]? = some d → (∀ i d ρ, i < j → ds[i]? = some d → I (k + i) ρ → ∃ ρ', f d ρ = .ok (.nx ρ') ∧ I (k + i + 1) ρ') → I k ρ → (∀ ρ, I (k + j) ρ → f d ρ = R) → forP f ds ρ = R
  | j, [], _, _, _, h, _, _, _ => by simp at h
  | 0, x :: xs, k, d, ρ, hj, h, h0, hx => by
    cases hj
    rw [forP, hx ρ h0]
    rcases hR with ⟨c, fs, vs, rfl⟩ | ⟨d, rfl⟩ <;> rfl
  | j + 1, x :: xs, k, d, ρ, hj, h, h0, hx => by
    obtain ⟨ρ1, e1, h1⟩ := h 0 x ρ (by omega) rfl h0
    rw [forP, e1]
    refine forP_at (I := I) hR (k := k + 1) (j := j) (by simpa using hj) (fun i d ρ hi hd h2 => ?_) h1 (fun ρ h2 => hx ρ (by rw [show k + (j + 1) = k + 1 + j by omega]; exact h2))
    have := h (i + 1) d ρ (by omega) (by simpa using hd) (by rw [show k + (i + 1) = k + 1 + i by omega]; exact h2)
    rw [show k + (i + 1) + 1 = k + 1 + i + 1 by omega] at this
    exact this
theorem plc1_map {α : Type} {f : D → PR (Option D)} {enc : α → D} {g : α → D} : ∀ {xs : List α} {acc : List D}, (∀ x ∈ xs, f (enc x) = .ok (some (g x))) → acc.length + xs.length ≤ SZ → plc1 f (xs.map enc) acc = .ok (acc ++ xs.map g)
  | [], acc, _, _ => by simp [plc1]
  | x :: xs, acc, h, hz => by
    rw [List.length_cons] at hz
    rw [List.map_cons, plc1, h x (List.mem_cons_self ..), PR.bind_ok]
    simp only [show acc.length < SZ by omega, if_true]
    rw [plc1_map (g := g) (fun y hy => h y (List.mem_cons_of_mem _ hy)) (by rw [List.length_append]; simp only [List.length_cons, List.length_nil]; omega)]
    simp
theorem plc1_filter {α : Type} {f : D → PR (Option D)} {enc : α → D} {g : α → D} {p : α → Bool} : ∀ {xs : List α} {acc : List D}, (∀ x ∈ xs, f (enc x) = .ok (if p x then some (g x) else none)) → acc.length + xs.length ≤ SZ → plc1 f (xs.map enc) acc = .ok (acc ++ (xs.filter p).map g)
  | [], acc, _, _ => by simp [plc1]
  | x :: xs, acc, h, hz => by
    rw [List.length_cons] at hz
    rw [List.map_cons, plc1, h x (List.mem_cons_self ..), PR.bind_ok]
    cases hp : p x with
    | true =>
      simp only [if_true, show acc.length < SZ by omega]
      rw [plc1_filter (g := g) (p := p) (fun y hy => h y (List.mem_cons_of_mem _ hy)) (by rw [List.length_append]; simp only [List.length_cons, List.length_nil]; omega)]
      simp [hp]
    | false =>
      simp only [Bool.false_eq_true, if_false]
      rw [plc1_filter (g := g) (p := p) (fun y hy => h y (List.mem_cons_of_mem _ hy)) (by omega)]
      simp [hp]
/-! ### step by step -/
section
variable {T : Tb} {O : Orc} {w : Nat} {ρ ρ' : PEnv} {x y e : Ex} {es : List Ex} {a c d : D} {ds : List D} {rest : List Sx}
theorem q_lc {m : Md4} {elt it cnd : Ex} {own tg : List Nat} {tt : Bool} {rs : List D} {R : PR D} (hw : pe T O ρ .wk it = .ok (.lst ds)) (hl : plc1 (plcF T O ρ elt own tg tt cnd) ds [] = .ok rs) (hR : post m (.lst rs) = R) : pe T O ρ m (.lc false elt own tg tt it cnd) = R := by
  have : pe T O ρ m (.lc false elt own tg tt it cnd) = (pe T O ρ .wk it).bind fun w => (match w with
    | .lst ds => (plc1 (plcF T O ρ elt own tg tt cnd) ds []).bind fun rs => post m (.lst rs)
    | _ => .no) := by cases m <;> rfl
  rw [this, hw, PR.bind_ok]
  simp only [hl, PR.bind_ok]
  exact hR
theorem plcF_t {i : Nat} {elt : Ex} {own : List Nat} {r : D} (h : pe T O ((pwipe ρ own).set i (some (.s d))) .st elt = .ok r) : plcF T O ρ elt own [i] false (.k (.bl true)) d = .ok (some r) := by
  have : plcF T O ρ elt own [i] false (.k (.bl true)) d = (pe T O ((pwipe ρ own).set i (some (.s d))) .st elt).noex.bind fun r => .ok (some r) := rfl
  rw [this, h]; rfl
theorem plcF_if {i : Nat} {elt cnd : Ex} {own : List Nat} {r : D} {k : Bool} (hc : pe T O ((pwipe ρ own).set i (some (.s d))) .st cnd = .ok (.bl k)) (h : k = true → pe T O ((pwipe ρ own).set i (some (.s d))) .st elt = .ok r) : plcF T O ρ elt own [i] false cnd d = .ok (if k then some r else none) := by
  have : plcF T O ρ elt own [i] false cnd d = (pe T O ((pwipe ρ own).set i (some (.s d))) .st cnd).noex.bind fun k => (match k with
    | .bl true => (pe T O ((pwipe ρ own).set i (some (.s d))) .st elt).noex.bind fun r => .ok (some r)
    | .bl false => .ok none
    | _ => .no) := rfl
  rw [this, hc]
  cases k with
  | true => simp only [PR.noex_ok, PR.bind_ok, h rfl]; rfl
  | false => rfl
theorem q_k {m : Md4} (h : D.nr d = true) : pe T O ρ m (.k d) = post m d := by
  have : pe T O ρ m (.k d) = if D.nr d then post m d else .no := by cases m <;> rfl
  rw [this, if_pos h]
theorem q_v {i : Nat} {m : Md4} (h : ρ[i]? = some (some (.s d))) : pe T O ρ m (.v i) = post m d := by
  have : pe T O ρ m (.v i) = pvar m ρ i := by cases m <;> rfl
  rw [this]; unfold pvar; rw [h]
theorem q_w {i : Nat} (h : ρ[i]? = some (some (.s d))) (hw : walkOf d = some ds) : pe T O ρ .wk (.v i) = .ok (.lst ds) := by
  rw [q_v h]; unfold post; simp only [hw]; rfl
theorem to_wk (h : pe T O ρ .wk e = post .wk d) (hw : walkOf d = some ds) : pe T O ρ .wk e = .ok (.lst ds) := by
  rw [h]; unfold post; simp only [hw]; rfl
theorem q_l {i : Nat} {en : Ent} (h : ρ[i]? = some (some (.l en))) : pe T O ρ .vw (.v i) = .ok (entD en) := by
  have : pe T O ρ .vw (.v i) = pvar .vw ρ i := rfl
  rw [this]; unfold pvar; rw [h]
theorem q_bin {m : Md4} {o : Bop} (h1 : pe T O ρ .vw x = .ok a) (h2 : pe T O ρ .vw y = .ok c) (h : bop o a c = some d) : pe T O ρ m (.bin o x y) = post m d := by
  have : pe T O ρ m (.bin o x y) = (pe T O ρ .vw x).bind fun a => (pe T O ρ .vw y).bind fun c => (ppur (bop o a c)).bind (post m) := by cases m <;> rfl
  rw [this, h1, PR.bind_ok, h2, PR.bind_ok, h]; rfl
theorem q_cmp {m : Md4} {o : Cop} {k : Bool} (h1 : pe T O ρ .vw x = .ok a) (h2 : pe T O ρ .vw y = .ok c) (h : cop o a c = some k) : pe T O ρ m (.cmp o x y) = post m (.bl k) := by
  have : pe T O ρ m (.cmp o x y) = (pe T O ρ .vw x).bind fun a => (pe T O ρ .vw y).bind fun c => (ppur (cop o a c)).bind fun k => post m (.bl k) := by cases m <;> rfl
  rw [this, h1, PR.bind_ok, h2, PR.bind_ok, h]; rfl
theorem q_chain {m : Md4} {o o' : Cop} {z : Ex} {k k' : Bool} (h1 : pe T O ρ .vw x = .ok a) (h2 : pe T O ρ .vw y = .ok c) (h : cop o a c = some k) (h3 : k = true → pe T O ρ .vw z = .ok d ∧ cop o' c d = some k') (hk : k = false → k' = false) : pe T O ρ m (.chain o o' x y z) = post m (.bl k') := by
  have : pe T O ρ m (.chain o o' x y z) = (pe T O ρ .vw x).bind fun a => (pe T O ρ .vw y).bind fun c => (match cop o a c with
      | some true => (pe T O ρ .vw z).bind fun d => (ppur (cop o' c d)).bind fun k => post m (.bl k)
      | some false => post m (.bl false)
      | none => .no) := by cases m <;> rfl
  rw [this, h1, PR.bind_ok, h2, PR.bind_ok, h]
  cases k with
  | true =>
    obtain ⟨e1, e2⟩ := h3 rfl
    simp only [e1, PR.bind_ok, e2]; rfl
  | false => rw [hk rfl]
theorem q_isN {m : Md4} (h1 : pe T O ρ .st x = .ok a) : pe T O ρ m (.isN x) = post m (.bl (D.isN a)) := by
  have : pe T O ρ m (.isN x) = (pe T O ρ .st x).bind fun a => post m (.bl (D.isN a)) := by cases m <;> rfl
  rw [this, h1]; rfl
theorem q_notN {m : Md4} (h1 : pe T O ρ .st x = .ok a) : pe T O ρ m (.notN x) = post m (.bl (!D.isN a)) := by
  have : pe T O ρ m (.notN x) = (pe T O ρ .st x).bind fun a => post m (.bl (!D.isN a)) := by cases m <;> rfl
  rw [this, h1]; rfl
theorem q_and_t {m : Md4} {k : Bool} (h1 : pe T O ρ .st x = .ok (.bl true)) (h2 : pe T O ρ .st y = .ok (.bl k)) : pe T O ρ m (.and x y) = post m (.bl k) := by
  have : pe T O ρ m (.and x y) = (pe T O ρ .st x).bind fun a => (match a with
      | .bl true => (pe T O ρ .st y).bind fun c => (match c with | .bl k => post m (.bl k) | _ => .no)
      | .bl false => post m (.bl false)
      | _ => .no) := by cases m <;> rfl
  rw [this, h1, PR.bind_ok]; simp only [h2, PR.bind_ok]
theorem q_and_f {m : Md4} (h1 : pe T O ρ .st x = .ok (.bl false)) : pe T O ρ m (.and x y) = post m (.bl false) := by
  have : pe T O ρ m (.and x y) = (pe T O ρ .st x).bind fun a => (match a with
      | .bl true => (pe T O ρ .st y).bind fun c => (match c with | .bl k => post m (.bl k) | _ => .no)
      | .bl false => post m (.bl false)
      | _ => .no) := by cases m <;> rfl
  rw [this, h1, PR.bind_ok]
theorem q_or_f {m : Md4} {k : Bool} (h1 : pe T O ρ .st x = .ok (.bl false)) (h2 : pe T O ρ .st y = .ok (.bl k)) : pe T O ρ m (.or x y) = post m (.bl k) := by
  have : pe T O ρ m (.or x y) = (pe T O ρ .st x).bind fun a => (match a with
      | .bl true => post m (.bl true)
      | .bl false => (pe T O ρ .st y).bind fun c => (match c with | .bl k => post m (.bl k) | _ => .no)
      | _ => .no) := by cases m <;> rfl
  rw [this, h1, PR.bind_ok]; simp only [h2, PR.bind_ok]
theorem q_or_t {m : Md4} (h1 : pe T O ρ .st x = .ok (.bl true)) : pe T O ρ m (.or x y) = post m (.bl true) := by
  have : pe T O ρ m (.or x y) = (pe T O ρ .st x).bind fun a => (match a with
      | .bl true => post m (.bl true)
      | .bl false => (pe T O ρ .st y).bind fun c => (match c with | .bl k => post m (.bl k) | _ => .no)
      | _ => .no) := by cases m <;> rfl
  rw [this, h1, PR.bind_ok]
theorem q_and {m : Md4} {k k' : Bool} (h1 : pe T O ρ .st x = .ok (.bl k)) (h2 : k = true → pe T O ρ .st y = .ok (.bl k')) : pe T O ρ m (.and x y) = post m (.bl (k && k')) := by
  cases k with
  | true => exact q_and_t h1 (h2 rfl)
  | false => exact q_and_f h1
theorem q_or {m : Md4} {k k' : Bool} (h1 : pe T O ρ .st x = .ok (.bl k)) (h2 : k = false → pe T O ρ .st y = .ok (.bl k')) : pe T O ρ m (.or x y) = post m (.bl (k || k')) := by
  cases k with
  | true => exact q_or_t h1
  | false => exact q_or_f h1 (h2 rfl)
theorem q_not {m : Md4} {k : Bool} (h1 : pe T O ρ .st x = .ok (.bl k)) : pe T O ρ m (.not x) = post m (.bl (!k)) := by
  have : pe T O ρ m (.not x) = (pe T O ρ .st x).bind fun a => (match a with | .bl k => post m (.bl (!k)) | _ => .no) := by cases m <;> rfl
  rw [this, h1, PR.bind_ok]
theorem q_ite_t {m : Md4} {t : Ex} {r : PR D} (h1 : pe T O ρ .st t = .ok (.bl true)) (h2 : pe T O ρ .st x = r) : pe T O ρ m (.ite t x y) = r.bind (post m) := by
  have : pe T O ρ m (.ite t x y) = (pe T O ρ .st t).bind fun a => (match a with
      | .bl true => (pe T O ρ .st x).bind (post m)
      | .bl false => (pe T O ρ .st y).bind (post m)
      | _ => .no) := by cases m <;> rfl
  rw [this, h1, PR.bind_ok]; simp only [h2]
theorem q_ite_f {m : Md4} {t : Ex} {r : PR D} (h1 : pe T O ρ .st t = .ok (.bl false)) (h2 : pe T O ρ .st y = r) : pe T O ρ m (.ite t x y) = r.bind (post m) := by
  have : pe T O ρ m (.ite t x y) = (pe T O ρ .st t).bind fun a => (match a with
      | .bl true => (pe T O ρ .st x).bind (post m)
      | .bl false => (pe T O ρ .st y).bind (post m)
      | _ => .no) := by cases m <;> rfl
  rw [this, h1, PR.bind_ok]; simp only [h2]
theorem q_tup {m : Md4} (h : pes T O ρ .st es = .ok ds) (hz : ds.length ≤ SZ) : pe T O ρ m (.tup es) = post m (.tup ds) := by
  have : pe T O ρ m (.tup es) = (pes T O ρ .st es).bind fun ds => if ds.length ≤ SZ then post m (.tup ds) else .no := by cases m <;> rfl
  rw [this, h, PR.bind_ok, if_pos hz]
theorem q_lst {m : Md4} (h : pes T O ρ .st es = .ok ds) (hz : ds.length ≤ SZ) : pe T O ρ m (.lst false es) = post m (.lst ds) := by
  have : pe T O ρ m (.lst false es) = (pes T O ρ .st es).bind fun ds => if ds.length ≤ SZ then post m (.lst ds) else .no := by cases m <;> rfl
  rw [this, h, PR.bind_ok, if_pos hz]
theorem q_fld {m : Md4} {f : Nat} (h1 : pe T O ρ .vw x = .ok a) (h : fldOf T a f = some d) : pe T O ρ m (.fld x f) = post m d := by
  have : pe T O ρ m (.fld x f) = (pe T O ρ .vw x).bind fun a => (ppur (fldOf T a f)).bind (post m) := by cases m <;> rfl
  rw [this, h1, PR.bind_ok, h]; rfl
theorem q_ix {m : Md4} (h1 : pe T O ρ .vw x = .ok a) (h2 : pe T O ρ .st y = .ok c) (h : index a c = some d) : pe T O ρ m (.ix x y) = post m d := by
  have : pe T O ρ m (.ix x y) = (pe T O ρ .vw x).bind fun a => (pe T O ρ .st y).bind fun c => (ppur (index a c)).bind (post m) := by cases m <;> rfl
  rw [this, h1, PR.bind_ok, h2, PR.bind_ok, h]; rfl
theorem q_sl {m : Md4} {lo hi : Ex} {l h' : D} {l2 h2' : Option Int} (h1 : pe T O ρ .vw x = .ok a) (h2 : pe T O ρ .op lo = .ok l) (h3 : pe T O ρ .op hi = .ok h') (hl : part l = some l2) (hh : part h' = some h2') (h : slice a l2 h2' = some d) : pe T O ρ m (.sl x lo hi) = post m d := by
  have : pe T O ρ m (.sl x lo hi) = (pe T O ρ .vw x).bind fun a => (pe T O ρ .op lo).bind fun l => (pe T O ρ .op hi).bind fun h => (ppur ((part l).bind fun l => (part h).bind fun h => slice a l h)).bind (post m) := by cases m <;> rfl
  rw [this, h1, PR.bind_ok, h2, PR.bind_ok, h3, PR.bind_ok, hl, hh]
  simp only [Option.bind_some, h]; rfl
theorem q_rev {m : Md4} {xs : List D} (h1 : pe T O ρ .vw x = .ok (.lst xs)) : pe T O ρ m (.rev x) = post m (.lst xs.reverse) := by
  have : pe T O ρ m (.rev x) = (pe T O ρ .vw x).bind fun a => (match a with | .lst xs => post m (.lst xs.reverse) | _ => .no) := by cases m <;> rfl
  rw [this, h1, PR.bind_ok]
theorem q_call {m : Md4} {f : Nat} {r : PR D} (h : pes T O ρ .st es = .ok ds) (h2 : O.C f ds = r) : pe T O ρ m (.call f es) = r.bind (post m) := by
  have : pe T O ρ m (.call f es) = (pes T O ρ .st es).bind fun ds => (O.C f ds).bind (post m) := by cases m <;> rfl
  rw [this, h, PR.bind_ok, h2]
theorem q_new {m : Md4} {k : Nat} {r : PR D} (h : pes T O ρ .st es = .ok ds) (h2 : O.N k ds = r) : pe T O ρ m (.new k false es) = r.bind (post m) := by
  have : pe T O ρ m (.new k false es) = (pes T O ρ .st es).bind fun ds => (O.N k ds).bind (post m) := by cases m <;> rfl
  rw [this, h, PR.bind_ok, h2]
theorem q_mth {m : Md4} {k f : Nat} {r : PR D} (h1 : pe T O ρ .st x = .ok a) (h : mthOf T a k = some f) (h2 : pes T O ρ .st es = .ok ds) (h3 : O.C f (a :: ds) = r) : pe T O ρ m (.mth x k es) = r.bind (post m) := by
  have : pe T O ρ m (.mth x k es) = (pe T O ρ .st x).bind fun a => (match mthOf T a k with
      | some f => (pes T O ρ .st es).bind fun ds => (O.C f (a :: ds)).bind (post m)
      | none => .no) := by cases m <;> rfl
  rw [this, h1, PR.bind_ok, h]; simp only [h2, PR.bind_ok, h3]
theorem q_bf {m : Md4} {k : Bf} {r : PR D} (h : pes T O ρ .vw es = .ok ds) (h2 : pbfn k ds = r) : pe T O ρ m (.bf k false es) = r.bind (post m) := by
  have : pe T O ρ m (.bf k false es) = (pes T O ρ .vw es).bind fun ds => (pbfn k ds).bind (post m) := by cases m <;> rfl
  rw [this, h, PR.bind_ok, h2]
theorem q_bm {m : Md4} {k : Bm} {t : BT} {r : PR D} (h1 : pe T O ρ .vw x = .ok a) (h : recv k a = some t) (h2 : pes T O ρ .st es = .ok ds) (h3 : pbmt k a ds = r) : pe T O ρ m (.bm k x es) = r.bind (post m) := by
  have : pe T O ρ m (.bm k x es) = (pe T O ρ .vw x).bind fun a => (match recv k a with
      | some _ => (pes T O ρ .st es).bind fun ds => (pbmt k a ds).bind (post m)
      | none => .no) := by cases m <;> rfl
  rw [this, h1, PR.bind_ok, h]; simp only [h2, PR.bind_ok, h3]
theorem q_isa {m : Md4} {ts : List Ty} {k : Kd} {bb : Bool} (h1 : pe T O ρ .vw x = .ok a) (h : kdOf T a = some k) (h2 : isAny T k ts = some bb) : pe T O ρ m (.isa x ts) = post m (.bl bb) := by
  have : pe T O ρ m (.isa x ts) = (pe T O ρ .vw x).bind fun a => (ppur ((kdOf T a).bind fun k => isAny T k ts)).bind fun k => post m (.bl k) := by cases m <;> rfl
  rw [this, h1, PR.bind_ok, h, Option.bind_some, h2]; rfl
theorem qs_nil {m : Md4} : pes T O ρ m [] = .ok [] := by rw [pes]
theorem qs_cons {m : Md4} (h1 : pe T O ρ m e = .ok d) (h2 : pes T O ρ m es = .ok ds) : pes T O ρ m (e :: es) = .ok (d :: ds) := by rw [pes, h1, PR.bind_ok, h2, PR.bind_ok]
theorem qs_one {m : Md4} (h1 : pe T O ρ m e = .ok d) : pes T O ρ m [e] = .ok [d] := qs_cons h1 qs_nil
theorem px_nil : pxss T O w [] ρ = .ok (.nx ρ) := rfl
theorem px_set {i : Nat} {p : PVl} (h : pfr T O ρ e = .ok p) : pxss T O w (.set i e :: rest) ρ = pxss T O w rest (ρ.set i (some p)) := by rw [pxss, pxs, h]; rfl
def isFr : Ex → Bool | .lst lv _ => lv | .edic lv => lv | .bf _ lv _ => lv | .lc lv _ _ _ _ _ _ => lv | _ => false
theorem fr_val (h : pe T O ρ .st e = .ok d) (hf : isFr e = false) : pfr T O ρ e = .ok (.s d) := by
  have q : pfr T O ρ e = (pe T O ρ .st e).bind fun d => .ok (.s d) := by
    cases e with
    | lst lv es => cases lv with | false => rfl | true => cases hf
    | edic lv => cases lv with | false => rfl | true => cases hf
    | bf k lv es => cases lv with | false => rfl | true => cases hf
    | lc lv a b c d e f => cases lv with | false => rfl | true => cases hf
    | _ => rfl
  rw [q, h]; rfl
theorem px_setv {i : Nat} (h : pe T O ρ .st e = .ok d) (hf : isFr e = false := by rfl) : pxss T O w (.set i e :: rest) ρ = pxss T O w rest (ρ.set i (some (.s d))) := px_set (fr_val h hf)
theorem px_setX {i c' : Nat} {fs : List Nat} {vs : List D} (h : pfr T O ρ e = .ex c' fs vs) : pxss T O w (.set i e :: rest) ρ = .ex c' fs vs := by rw [pxss, pxs, h]; rfl
theorem px_app {i : Nat} {xs : List D} (hl : lvAt ρ i = some (.lst xs)) (h : pe T O ρ .st e = .ok d) (hz : xs.length < SZ) : pxss T O w (.ex (.bm .append (.v i) [e]) :: rest) ρ = pxss T O w rest (ρ.set i (some (.l (.lst (xs ++ [d]))))) := by
  have q : pxs T O w (.ex (.bm .append (.v i) [e])) ρ = (match lvAt ρ i with
      | some (.lst xs) => (pe T O ρ .st e).bind fun d => if xs.length < SZ then .ok (.nx (ρ.set i (some (.l (.lst (xs ++ [d])))))) else .no
      | _ => .no) := rfl
  rw [pxss, q, hl]
  simp only [h, PR.bind_ok, hz, if_true]
theorem px_call {f : Nat} (h : pe T O ρ .st (.call f es) = .ok d) : pxss T O w (.ex (.call f es) :: rest) ρ = pxss T O w rest ρ := by
  have q : pxs T O w (.ex (.call f es)) ρ = (pe T O ρ .st (.call f es)).bind fun _ => .ok (.nx ρ) := rfl
  rw [pxss, q, h]; rfl
theorem px_callX {f c' : Nat} {fs : List Nat} {vs : List D} (h : pe T O ρ .st (.call f es) = .ex c' fs vs) : pxss T O w (.ex (.call f es) :: rest) ρ = .ex c' fs vs := by
  have q : pxs T O w (.ex (.call f es)) ρ = (pe T O ρ .st (.call f es)).bind fun _ => .ok (.nx ρ) := rfl
  rw [pxss, q, h]; rfl
theorem px_setI {i : Nat} {k : Ex} (hl : (lvAt ρ i).isSome = true) (h : pe T O ρ .st e = .ok d) (hk : pe T O ρ .st k = .ok a) (hs : psetI ρ i a d = some ρ') : pxss T O w (.setI (.v i) k e :: rest) ρ = pxss T O w rest ρ' := by
  rw [pxss, pxs, hl]
  simp only [if_true, h, hk, PR.bind_ok, hs]; rfl
theorem px_setF {i f : Nat} (h : pe T O ρ .st e = .ok d) (hs : psetF T ρ i f d = some ρ') : pxss T O w (.setF (.v i) f e :: rest) ρ = pxss T O w rest ρ' := by
  rw [pxss, pxs, h]
  simp only [PR.bind_ok, hs]; rfl
theorem px_setFX {i f c' : Nat} {fs : List Nat} {vs : List D} (h : pe T O ρ .st e = .ex c' fs vs) : pxss T O w (.setF (.v i) f e :: rest) ρ = .ex c' fs vs := by
  rw [pxss, pxs, h]; rfl
theorem px_ret (h : pret T O ρ e = .ok d) : pxss T O w (.ret e :: rest) ρ = .ok (.rt d) := by rw [pxss, pxs, h]; rfl
def isV : Ex → Bool | .v _ => true | _ => false
theorem pret_e (hf : isV e = false) : pret T O ρ e = pe T O ρ .st e := by
  cases e <;> first | rfl | cases hf
theorem px_rete (h : pe T O ρ .st e = .ok d) (hf : isV e = false := by rfl) : pxss T O w (.ret e :: rest) ρ = .ok (.rt d) := px_ret (by rw [pret_e hf]; exact h)
theorem px_reteX {c' : Nat} {fs : List Nat} {vs : List D} (h : pe T O ρ .st e = .ex c' fs vs) (hf : isV e = false := by rfl) : pxss T O w (.ret e :: rest) ρ = .ex c' fs vs := by rw [pxss, pxs, pret_e hf, h]; rfl
theorem px_retv {i : Nat} (h : ρ[i]? = some (some (.s d))) : pxss T O w (.ret (.v i) :: rest) ρ = .ok (.rt d) := px_ret (by
  show (match lvAt ρ i with | some e => PR.ok (entD e) | none => pe T O ρ .st (.v i)) = _
  have : lvAt ρ i = none := by unfold lvAt; rw [h]
  rw [this]
  exact q_v h)
theorem px_retl {i : Nat} {en : Ent} (h : lvAt ρ i = some en) : pxss T O w (.ret (.v i) :: rest) ρ = .ok (.rt (entD en)) := px_ret (by
  show (match lvAt ρ i with | some e => PR.ok (entD e) | none => pe T O ρ .st (.v i)) = _
  rw [h])
theorem px_retX {c' : Nat} {fs : List Nat} {vs : List D} (h : pret T O ρ e = .ex c' fs vs) : pxss T O w (.ret e :: rest) ρ = .ex c' fs vs := by rw [pxss, pxs, h]; rfl
theorem px_aug {i : Nat} {p q : Int} (h : pe T O ρ .st (.v i) = .ok (.int p)) (h1 : pe T O ρ .st e = .ok (.int q)) : pxss T O w (.aug i .add e :: rest) ρ = pxss T O w rest (ρ.set i (some (.s (.int (p + q))))) := by
  rw [pxss, pxs, h]; simp only [h1, PR.bind_ok]
theorem px_iff_t {t : Ex} {p q : List Sx} (h : pe T O ρ .st t = .ok (.bl true)) : pxss T O w (.iff t p q :: rest) ρ = (pxss T O w p ρ).bind fun f => (match f with
    | .nx ρ' => pxss T O w rest ρ'
    | g => .ok g) := by rw [pxss, pxs, h]; rfl
theorem px_iff_f {t : Ex} {p q : List Sx} (h : pe T O ρ .st t = .ok (.bl false)) : pxss T O w (.iff t p q :: rest) ρ = (pxss T O w q ρ).bind fun f => (match f with
    | .nx ρ' => pxss T O w rest ρ'
    | g => .ok g) := by rw [pxss, pxs, h]; rfl
theorem px_iff_no {t : Ex} {p : List Sx} (h : pe T O ρ .st t = .ok (.bl false)) : pxss T O w (.iff t p [] :: rest) ρ = pxss T O w rest ρ := by rw [px_iff_f h]; rfl
theorem px_iff_ret {t : Ex} {p q : List Sx} {r : D} (h : pe T O ρ .st t = .ok (.bl true)) (h2 : pxss T O w p ρ = .ok (.rt r)) : pxss T O w (.iff t p q :: rest) ρ = .ok (.rt r) := by rw [px_iff_t h, h2]; rfl
theorem px_iff_nx {t : Ex} {p q : List Sx} (h : pe T O ρ .st t = .ok (.bl true)) (h2 : pxss T O w p ρ = .ok (.nx ρ')) : pxss T O w (.iff t p q :: rest) ρ = pxss T O w rest ρ' := by rw [px_iff_t h, h2]; rfl
theorem px_iff_ex {t : Ex} {p q : List Sx} {k : Nat} {fs : List Nat} {vs : List D} (h : pe T O ρ .st t = .ok (.bl true)) (h2 : pxss T O w p ρ = .ex k fs vs) : pxss T O w (.iff t p q :: rest) ρ = .ex k fs vs := by rw [px_iff_t h, h2]; rfl
theorem px_rais {k : Nat} : pxss T O w (.rais k :: rest) ρ = .ex k [] [] := rfl
theorem px_for {tg : List Nat} {tt : Bool} {it : Ex} {bd : List Sx} {r : PR PFl} (h : pe T O ρ .wk it = .ok (.lst ds)) (h2 : forP (fun d ρ1 => match ptarget ρ1 tg tt d with
      | some ρ2 => pxss T O w bd ρ2
      | none => .no) ds ρ = r) : pxss T O w (.for tg tt it bd :: rest) ρ = r.bind fun f => (match f with
    | .nx ρ' => pxss T O w rest ρ'
    | g => .ok g) := by rw [pxss, pxs, h, PR.bind_ok]; subst h2; rfl
theorem px_forN {tg : List Nat} {tt : Bool} {it : Ex} {bd : List Sx} (h : pe T O ρ .wk it = .ok (.lst ds)) (h2 : forP (fun d ρ1 => match ptarget ρ1 tg tt d with
      | some ρ2 => pxss T O w bd ρ2
      | none => .no) ds ρ = .ok (.nx ρ')) : pxss T O w (.for tg tt it bd :: rest) ρ = pxss T O w rest ρ' := by rw [px_for h h2]; rfl
theorem px_forX {tg : List Nat} {tt : Bool} {it : Ex} {bd : List Sx} {c' : Nat} {fs : List Nat} {vs : List D} (h : pe T O ρ .wk it = .ok (.lst ds)) (h2 : forP (fun d ρ1 => match ptarget ρ1 tg tt d with
      | some ρ2 => pxss T O w bd ρ2
      | none => .no) ds ρ = .ex c' fs vs) : pxss T O w (.for tg tt it bd :: rest) ρ = .ex c' fs vs := by rw [px_for h h2]; rfl
end
end LS
end
section
set_option Elab.async false
set_option linter.all false
set_option maxRecDepth 100000
namespace LS
open PySem L2
def top (i : Nat) : Stmt := PySem.Challenge.pw_lateshelf_k57_fences_put_in.main.body.getD i (.Pass ⟨0, 0, 0, 0⟩)
def d0 : FnC := ⟨("Row", some "told"), "told", "Row.told", inClass (top 15) 0, ["self"], ["self"], [], true⟩
def d1 : FnC := ⟨("Row", some "puts"), "puts", "Row.puts", inClass (top 15) 1, ["self"], ["self"], [], true⟩
def d2 : FnC := ⟨("Row", some "sees"), "sees", "Row.sees", inClass (top 15) 2, ["self"], ["self"], [], true⟩
def d3 : FnC := ⟨("Row", some "names"), "names", "Row.names", inClass (top 15) 3, ["self"], ["self"], [], true⟩
def d4 : FnC := ⟨("Put", some "__init__"), "__init__", "Put.__init__", inClass (top 16) 0, ["self", "box", "number"], ["self", "box", "number"], [], true⟩
def d5 : FnC := ⟨("Put", some "told"), "told", "Put.told", inClass (top 16) 1, ["self"], ["self"], [], true⟩
def d6 : FnC := ⟨("Put", some "puts"), "puts", "Put.puts", inClass (top 16) 2, ["self"], ["self"], [], true⟩
def d7 : FnC := ⟨("Read", some "__init__"), "__init__", "Read.__init__", inClass (top 17) 0, ["self", "name", "box"], ["self", "name", "box"], [], true⟩
def d8 : FnC := ⟨("Read", some "told"), "told", "Read.told", inClass (top 17) 1, ["self"], ["self"], [], true⟩
def d9 : FnC := ⟨("Read", some "sees"), "sees", "Read.sees", inClass (top 17) 2, ["self"], ["self"], [], true⟩
def d10 : FnC := ⟨("Read", some "names"), "names", "Read.names", inClass (top 17) 3, ["self"], ["self"], [], true⟩
def d11 : FnC := ⟨("Swap", some "__init__"), "__init__", "Swap.__init__", inClass (top 18) 0, ["self", "name", "box", "number"], ["self", "name", "box", "number"], [], true⟩
def d12 : FnC := ⟨("Swap", some "told"), "told", "Swap.told", inClass (top 18) 1, ["self"], ["self"], [], true⟩
def d13 : FnC := ⟨("Swap", some "puts"), "puts", "Swap.puts", inClass (top 18) 2, ["self"], ["self"], [], true⟩
def d14 : FnC := ⟨("Swap", some "sees"), "sees", "Swap.sees", inClass (top 18) 3, ["self"], ["self"], [], true⟩
def d15 : FnC := ⟨("Swap", some "names"), "names", "Swap.names", inClass (top 18) 4, ["self"], ["self"], [], true⟩
def d16 : FnC := ⟨("Fence", some "told"), "told", "Fence.told", inClass (top 19) 0, ["self"], ["self"], [], true⟩
def d17 : FnC := ⟨("Skip", some "__init__"), "__init__", "Skip.__init__", inClass (top 20) 0, ["self", "many", "name", "number"], ["self", "many", "name", "number"], [], true⟩
def d18 : FnC := ⟨("Skip", some "told"), "told", "Skip.told", inClass (top 20) 1, ["self"], ["self"], [], true⟩
def d19 : FnC := ⟨("Skip", some "names"), "names", "Skip.names", inClass (top 20) 2, ["self"], ["self"], [], true⟩
def d20 : FnC := ⟨("is_up_to", none), "is_up_to", "is_up_to", top 21, ["thing", "least", "most"], ["thing", "least", "most"], [], true⟩
def d21 : FnC := ⟨("is_word", none), "is_word", "is_word", top 22, ["thing"], ["thing", "sign"], [], true⟩
def d22 : FnC := ⟨("is_number", none), "is_number", "is_number", top 23, ["thing"], ["thing"], [], true⟩
def d23 : FnC := ⟨("row_of", none), "row_of", "row_of", top 24, ["told"], ["told", "word", "rest"], [], true⟩
def d24 : FnC := ⟨("is_whole", none), "is_whole", "is_whole", top 26, ["thing"], ["thing"], [], true⟩
def d25 : FnC := ⟨("is_pair", none), "is_pair", "is_pair", top 27, ["thing"], ["thing"], [], true⟩
def d26 : FnC := ⟨("is_event", none), "is_event", "is_event", top 28, ["thing"], ["thing"], [], true⟩
def d27 : FnC := ⟨("row_at", none), "row_at", "row_at", top 29, ["program", "event"], ["program", "event"], [], true⟩
def d28 : FnC := ⟨("need", none), "need", "need", top 36, ["good"], ["good"], [], true⟩
def d29 : FnC := ⟨("names_in", none), "names_in", "names_in", top 37, ["rows"], ["rows", "found", "row", "name"], ["found"], true⟩
def d30 : FnC := ⟨("need_boxes", none), "need_boxes", "need_boxes", top 38, ["boxes"], ["boxes", "pair"], [], true⟩
def d31 : FnC := ⟨("rows_by", none), "rows_by", "rows_by", top 39, ["hand"], ["hand", "rows", "told"], [], true⟩
def d32 : FnC := ⟨("need_hands", none), "need_hands", "need_hands", top 40, ["boxes", "hands"], ["boxes", "hands", "there", "many", "hand", "rows", "row"], [], true⟩
def d33 : FnC := ⟨("Program", some "__init__"), "__init__", "Program.__init__", inClass (top 41) 0, ["self", "boxes", "hands"], ["self", "boxes", "hands", "hand", "rows"], [], true⟩
def d34 : FnC := ⟨("Program", some "rows"), "rows", "Program.rows", inClass (top 41) 1, ["self", "hand"], ["self", "hand"], [], true⟩
def d35 : FnC := ⟨("Program", some "names"), "names", "Program.names", inClass (top 41) 2, ["self", "hand"], ["self", "hand"], [], true⟩
def d36 : FnC := ⟨("events_of", none), "events_of", "events_of", top 42, ["program"], ["program", "found", "hand", "place", "row"], ["found"], true⟩
def d37 : FnC := ⟨("fenced_hand", none), "fenced_hand", "fenced_hand", top 45, ["told", "places"], ["told", "places", "found", "place", "row", "more", "one"], ["found"], true⟩
def d38 : FnC := ⟨("fenced", none), "fenced", "fenced", top 46, ["program", "events"], ["program", "events", "there", "event", "hands", "hand", "told"], ["hands"], true⟩
def d39 : FnC := ⟨("puts_in", none), "puts_in", "puts_in", top 47, ["program"], ["program", "event"], [], true⟩
def d40 : FnC := ⟨("_law_cell_at", none), "_law_cell_at", "_law_cell_at", top 49, ["_law_script", "_law_k"], ["_law_script", "_law_k"], [], true⟩
def d41 : FnC := ⟨("_law_mixed", none), "_law_mixed", "_law_mixed", top 50, ["_law_cell", "_law_k"], ["_law_cell", "_law_k", "_law_number"], [], true⟩
def d42 : FnC := ⟨("_law_next", none), "_law_next", "_law_next", top 51, ["_law_draw", "_law_many"], ["_law_draw", "_law_many", "_law_found"], [], true⟩
def d43 : FnC := ⟨("_law_pick", none), "_law_pick", "_law_pick", top 52, ["_law_draw", "_law_some"], ["_law_draw", "_law_some"], [], true⟩
def d44 : FnC := ⟨("_law_words", none), "_law_words", "_law_words", top 53, ["_law_draw", "_law_many"], ["_law_draw", "_law_many", "_law_letters", "_law_base", "_law_at", "_law_first", "_law_found", "_law_far", "_law_k"], [], true⟩
def d45 : FnC := ⟨("_law_numbers", none), "_law_numbers", "_law_numbers", top 54, ["_law_draw"], ["_law_draw", "_law_far"], [], true⟩
def d46 : FnC := ⟨("_law_boxes", none), "_law_boxes", "_law_boxes", top 55, ["_law_draw", "_law_many", "_law_numbers_here"], ["_law_draw", "_law_many", "_law_numbers_here", "_law_word"], [], true⟩
def d47 : FnC := ⟨("_law_row", none), "_law_row", "_law_row", top 56, ["_law_draw", "_law_boxes_here", "_law_names", "_law_numbers_here"], ["_law_draw", "_law_boxes_here", "_law_names", "_law_numbers_here", "_law_box", "_law_name", "_law_number", "_law_way"], [], true⟩
def d48 : FnC := ⟨("_law_told", none), "_law_told", "_law_told", top 57, ["_law_draw", "_law_hands", "_law_rows"], ["_law_draw", "_law_hands", "_law_rows", "_law_numbers_here", "_law_boxes_here", "_law_found", "_law_k", "_law_names", "_law_j"], ["_law_found"], true⟩
def d49 : FnC := ⟨("_law_asked", none), "_law_asked", "_law_asked", top 58, ["_law_way", "_law_program", "_law_things", "_law_most"], ["_law_way", "_law_program", "_law_things", "_law_most", "_law_found", "_law_error", "e", "_law_marks", "_law_others"], [], true⟩
def d50 : FnC := ⟨("_law_fenced", none), "_law_fenced", "_law_fenced", top 59, ["_law_told_here", "_law_events_here"], ["_law_told_here", "_law_events_here", "_law_hands", "_law_hand", "_law_rows", "_law_place", "_law_row_here", "_law_more", "_law_event"], ["_law_hands", "_law_rows"], true⟩
def d51 : FnC := ⟨("_law_wide", none), "_law_wide", "_law_wide", top 60, ["_law_draw", "_law_told_here"], ["_law_draw", "_law_told_here", "_law_hands", "_law_hand", "_law_rows", "_law_row_here"], ["_law_hands", "_law_rows"], true⟩
def d52 : FnC := ⟨("_law_events", none), "_law_events", "_law_events", top 61, ["_law_told_here", "_law_word"], ["_law_told_here", "_law_word", "_law_found", "_law_hand", "_law_place"], ["_law_found"], true⟩
def d53 : FnC := ⟨("_law_due", none), "_law_due", "_law_due", top 62, ["_law_told_here", "_law_events_here"], ["_law_told_here", "_law_events_here", "_law_hands", "_law_hand"], [], true⟩
def d54 : FnC := ⟨("law", none), "law", "law", top 63, ["_law_script"], ["_law_script", "_law_k", "_law_draw", "_law_told_here", "_law_program", "_law_puts", "_law_events_here", "_law_found", "_law_due_here", "_law_odd", "_law_one", "_law_wrong", "_law_event"], ["_law_draw"], true⟩
def fnl : List FnC := [d0, d1, d2, d3, d4, d5, d6, d7, d8, d9, d10, d11, d12, d13, d14, d15, d16, d17, d18, d19, d20, d21, d22, d23, d24, d25, d26, d27, d28, d29, d30, d31, d32, d33, d34, d35, d36, d37, d38, d39, d40, d41, d42, d43, d44, d45, d46, d47, d48, d49, d50, d51, d52, d53, d54]
def cll : List ClC := [⟨"LateError", 1, [], none, [0]⟩,
  ⟨"NoRow", 1, [], none, [1, 0]⟩,
  ⟨"NoProgram", 1, [], none, [2, 0]⟩,
  ⟨"NoText", 2, [], none, [3, 0]⟩,
  ⟨"NotNow", 2, [], none, [4, 0]⟩,
  ⟨"NotWhole", 1, [], none, [5, 0]⟩,
  ⟨"NoDrawing", 1, [], none, [6, 0]⟩,
  ⟨"NoPut", 1, [], none, [7, 0]⟩,
  ⟨"TooMany", 1, [], none, [8, 0]⟩,
  ⟨"Row", 0, [("told", 0), ("puts", 1), ("sees", 2), ("names", 3)], none, [9]⟩,
  ⟨"Put", 0, [("told", 5), ("puts", 6), ("sees", 2), ("names", 3)], some 4, [10, 9]⟩,
  ⟨"Read", 0, [("told", 8), ("puts", 1), ("sees", 9), ("names", 10)], some 7, [11, 9]⟩,
  ⟨"Swap", 0, [("told", 12), ("puts", 13), ("sees", 14), ("names", 15)], some 11, [12, 9]⟩,
  ⟨"Fence", 0, [("told", 16), ("puts", 1), ("sees", 2), ("names", 3)], none, [13, 9]⟩,
  ⟨"Skip", 0, [("told", 18), ("puts", 1), ("sees", 2), ("names", 19)], some 17, [14, 9]⟩,
  ⟨"Program", 0, [("rows", 34), ("names", 35)], some 33, [15]⟩]
def gll : List (Str × D) := [("LETTERS", .str "abcdefghijklmnopqrstuvwxyz"), ("MOST_LETTERS", .int 6), ("MOST_NUMBER", .int 999999999), ("MOST_SKIP_rows", .int 12), ("MOST_BOXES", .int 3), ("MOST_HANDS", .int 3), ("MOST_ROWS", .int 12), ("MOST_IN_ALL", .int 24), ("MOST_NAMES", .int 3), ("MOST_SKIP_fences", .int 12)]
def md : Md := ⟨fnl, cll, gll, ["at", "box", "number", "name", "many", "boxes", "hands", "lines", "called"], ["told", "puts", "sees", "names", "rows"]⟩
end LS
end
section
set_option Elab.async false
set_option linter.all false
set_option maxRecDepth 100000
set_option maxHeartbeats 0
namespace LS
open PySem PySem.Spec PyProof.Rows L2
def f0 : Fn := ⟨1, 1, true, [(.ret (.tup []))]⟩
def f1 : Fn := ⟨1, 1, true, [(.ret (.k .non))]⟩
def f2 : Fn := ⟨1, 1, true, [(.ret (.k .non))]⟩
def f3 : Fn := ⟨1, 1, true, [(.ret (.tup []))]⟩
def f4 : Fn := ⟨3, 3, true, [(.setF (.v 0) 1 (.v 1)), (.setF (.v 0) 2 (.v 2))]⟩
def f5 : Fn := ⟨1, 1, true, [(.ret (.tup [(.k (.str "put")), (.fld (.v 0) 1), (.fld (.v 0) 2)]))]⟩
def f6 : Fn := ⟨1, 1, true, [(.ret (.fld (.v 0) 1))]⟩
def f7 : Fn := ⟨3, 3, true, [(.setF (.v 0) 3 (.v 1)), (.setF (.v 0) 1 (.v 2))]⟩
def f8 : Fn := ⟨1, 1, true, [(.ret (.tup [(.k (.str "read")), (.fld (.v 0) 3), (.fld (.v 0) 1)]))]⟩
def f9 : Fn := ⟨1, 1, true, [(.ret (.fld (.v 0) 1))]⟩
def f10 : Fn := ⟨1, 1, true, [(.ret (.tup [(.fld (.v 0) 3)]))]⟩
def f11 : Fn := ⟨4, 4, true, [(.setF (.v 0) 3 (.v 1)), (.setF (.v 0) 1 (.v 2)), (.setF (.v 0) 2 (.v 3))]⟩
def f12 : Fn := ⟨1, 1, true, [(.ret (.tup [(.k (.str "swap")), (.fld (.v 0) 3), (.fld (.v 0) 1), (.fld (.v 0) 2)]))]⟩
def f13 : Fn := ⟨1, 1, true, [(.ret (.fld (.v 0) 1))]⟩
def f14 : Fn := ⟨1, 1, true, [(.ret (.fld (.v 0) 1))]⟩
def f15 : Fn := ⟨1, 1, true, [(.ret (.tup [(.fld (.v 0) 3)]))]⟩
def f16 : Fn := ⟨1, 1, true, [(.ret (.tup [(.k (.str "fence"))]))]⟩
def f17 : Fn := ⟨4, 4, true, [(.setF (.v 0) 4 (.v 1)), (.setF (.v 0) 3 (.v 2)), (.setF (.v 0) 2 (.v 3))]⟩
def f18 : Fn := ⟨1, 1, true, [(.ret (.tup [(.k (.str "skip")), (.fld (.v 0) 4), (.fld (.v 0) 3), (.fld (.v 0) 2)]))]⟩
def f19 : Fn := ⟨1, 1, true, [(.ret (.tup [(.fld (.v 0) 3)]))]⟩
def f20 : Fn := ⟨3, 3, true, [(.ret (.and (.isa (.v 0) [.int]) (.and (.not (.isa (.v 0) [.bool])) (.chain .le .le (.v 1) (.v 0) (.v 2)))))]⟩
def f21 : Fn := ⟨1, 2, true, [(.iff (.or (.not (.isa (.v 0) [.str])) (.not (.chain .le .le (.k (.int 1)) (.bf .len false [(.v 0)]) (.k (.int 6))))) [(.ret (.k (.bl false)))] []), (.ret (.bf .all false [(.lc false (.cmp .inn (.v 1) (.k (.str "abcdefghijklmnopqrstuvwxyz"))) [1] [1] false (.v 0) (.k (.bl true)))]))]⟩
def f22 : Fn := ⟨1, 1, true, [(.ret (.call 20 [(.v 0), (.k (.int 0)), (.k (.int 999999999))]))]⟩
def f23 : Fn := ⟨1, 3, true, [(.iff (.or (.not (.isa (.v 0) [.tuple])) (.or (.cmp .eq (.bf .len false [(.v 0)]) (.k (.int 0))) (.not (.isa (.ix (.v 0) (.k (.int 0))) [.str])))) [(.rais 1)] []), (.par 1 2 (.ix (.v 0) (.k (.int 0))) (.sl (.v 0) (.k (.int 1)) .nil)), (.iff (.and (.cmp .eq (.v 1) (.k (.str "fence"))) (.cmp .eq (.bf .len false [(.v 2)]) (.k (.int 0)))) [(.ret (.new 13 false []))] []), (.iff (.and (.cmp .eq (.v 1) (.k (.str "put"))) (.and (.cmp .eq (.bf .len false [(.v 2)]) (.k (.int 2))) (.and (.call 21 [(.ix (.v 2) (.k (.int 0)))]) (.call 22 [(.ix (.v 2) (.k (.int 1)))])))) [(.ret (.new 10 false [(.ix (.v 2) (.k (.int 0))), (.ix (.v 2) (.k (.int 1)))]))] []), (.iff (.and (.cmp .eq (.v 1) (.k (.str "read"))) (.and (.cmp .eq (.bf .len false [(.v 2)]) (.k (.int 2))) (.and (.call 21 [(.ix (.v 2) (.k (.int 0)))]) (.call 21 [(.ix (.v 2) (.k (.int 1)))])))) [(.ret (.new 11 false [(.ix (.v 2) (.k (.int 0))), (.ix (.v 2) (.k (.int 1)))]))] []), (.iff (.and (.cmp .eq (.v 1) (.k (.str "swap"))) (.and (.cmp .eq (.bf .len false [(.v 2)]) (.k (.int 3))) (.and (.call 21 [(.ix (.v 2) (.k (.int 0)))]) (.and (.call 21 [(.ix (.v 2) (.k (.int 1)))]) (.call 22 [(.ix (.v 2) (.k (.int 2)))]))))) [(.ret (.new 12 false [(.ix (.v 2) (.k (.int 0))), (.ix (.v 2) (.k (.int 1))), (.ix (.v 2) (.k (.int 2)))]))] []), (.iff (.and (.cmp .eq (.v 1) (.k (.str "skip"))) (.and (.cmp .eq (.bf .len false [(.v 2)]) (.k (.int 3))) (.call 20 [(.ix (.v 2) (.k (.int 0))), (.k (.int 1)), (.k (.int 12))]))) [(.iff (.and (.call 21 [(.ix (.v 2) (.k (.int 1)))]) (.call 22 [(.ix (.v 2) (.k (.int 2)))])) [(.ret (.new 14 false [(.ix (.v 2) (.k (.int 0))), (.ix (.v 2) (.k (.int 1))), (.ix (.v 2) (.k (.int 2)))]))] [])] []), (.rais 1)]⟩
def f24 : Fn := ⟨1, 1, true, [(.ret (.and (.isa (.v 0) [.int]) (.not (.isa (.v 0) [.bool]))))]⟩
def f25 : Fn := ⟨1, 1, true, [(.ret (.and (.isa (.v 0) [.tuple]) (.cmp .eq (.bf .len false [(.v 0)]) (.k (.int 2)))))]⟩
def f26 : Fn := ⟨1, 1, true, [(.ret (.and (.call 25 [(.v 0)]) (.and (.call 24 [(.ix (.v 0) (.k (.int 0)))]) (.call 24 [(.ix (.v 0) (.k (.int 1)))]))))]⟩
def f27 : Fn := ⟨2, 2, true, [(.ret (.ix (.mth (.v 0) 4 [(.ix (.v 1) (.k (.int 0)))]) (.ix (.v 1) (.k (.int 1)))))]⟩
def f28 : Fn := ⟨1, 1, true, [(.iff (.not (.v 0)) [(.rais 2)] [])]⟩
def f29 : Fn := ⟨1, 4, true, [(.set 1 (.edic true)), (.for [2] false (.v 0) [(.for [3] false (.mth (.v 2) 3 []) [(.setI (.v 1) (.v 3) (.k (.bl true)))])]), (.ret (.bf .tuple false [(.bf .sorted false [(.v 1)])]))]⟩
def f30 : Fn := ⟨1, 2, true, [(.ex (.call 28 [(.and (.isa (.v 0) [.tuple]) (.chain .le .le (.k (.int 1)) (.bf .len false [(.v 0)]) (.k (.int 3))))])), (.for [1] false (.v 0) [(.ex (.call 28 [(.and (.isa (.v 1) [.tuple]) (.and (.cmp .eq (.bf .len false [(.v 1)]) (.k (.int 2))) (.and (.call 21 [(.ix (.v 1) (.k (.int 0)))]) (.call 22 [(.ix (.v 1) (.k (.int 1)))]))))]))]), (.ex (.call 28 [(.cmp .eq (.bf .len false [(.bf .dict false [(.v 0)])]) (.bf .len false [(.v 0)]))]))]⟩
def f31 : Fn := ⟨1, 3, true, [(.ex (.call 28 [(.and (.isa (.v 0) [.tuple]) (.cmp .le (.bf .len false [(.v 0)]) (.k (.int 12))))])), (.tryK (.set 1 (.lc false (.call 23 [(.v 2)]) [2] [2] false (.v 0) (.k (.bl true)))) 1 1 .non), (.ex (.call 28 [(.notN (.v 1))])), (.ret (.v 1))]⟩
def f32 : Fn := ⟨2, 7, true, [(.ex (.call 28 [(.and (.isa (.v 1) [.tuple]) (.chain .le .le (.k (.int 1)) (.bf .len false [(.v 1)]) (.k (.int 3))))])), (.set 2 (.bf .dict false [(.v 0)])), (.set 3 (.k (.int 0))), (.for [4] false (.v 1) [(.set 5 (.call 31 [(.v 4)])), (.aug 3 .add (.bf .len false [(.v 5)])), (.ex (.call 28 [(.cmp .le (.bf .len false [(.call 29 [(.v 5)])]) (.k (.int 3)))])), (.for [6] false (.v 5) [(.ex (.call 28 [(.or (.isN (.mth (.v 6) 1 [])) (.cmp .inn (.mth (.v 6) 1 []) (.v 2)))])), (.ex (.call 28 [(.or (.isN (.mth (.v 6) 2 [])) (.cmp .inn (.mth (.v 6) 2 []) (.v 2)))]))])]), (.ex (.call 28 [(.cmp .le (.v 3) (.k (.int 24)))]))]⟩
def f33 : Fn := ⟨3, 5, true, [(.ex (.call 30 [(.v 1)])), (.ex (.call 32 [(.v 1), (.v 2)])), (.setF (.v 0) 5 (.v 1)), (.setF (.v 0) 6 (.v 2)), (.setF (.v 0) 7 (.lc false (.call 31 [(.v 3)]) [3] [3] false (.v 2) (.k (.bl true)))), (.setF (.v 0) 8 (.lc false (.call 29 [(.v 4)]) [4] [4] false (.fld (.v 0) 7) (.k (.bl true))))]⟩
def f34 : Fn := ⟨2, 2, true, [(.ret (.bf .list false [(.ix (.fld (.v 0) 7) (.v 1))]))]⟩
def f35 : Fn := ⟨2, 2, true, [(.ret (.ix (.fld (.v 0) 8) (.v 1)))]⟩
def f36 : Fn := ⟨1, 5, true, [(.set 1 (.lst true [])), (.for [2] false (.rng [(.bf .len false [(.fld (.v 0) 6)])]) [(.for [3, 4] true (.enum (.ix (.fld (.v 0) 7) (.v 2))) [(.iff (.or (.notN (.mth (.v 4) 1 [])) (.notN (.mth (.v 4) 2 []))) [(.ex (.bm .append (.v 1) [(.tup [(.v 2), (.v 3)])]))] [])])]), (.ret (.v 1))]⟩
def f37 : Fn := ⟨2, 7, true, [(.set 2 (.lst true [])), (.for [3, 4] true (.enum (.v 0)) [(.iff (.cmp .eq (.ix (.v 4) (.k (.int 0))) (.k (.str "skip"))) [(.set 5 (.bf .len false [(.lc false (.v 6) [6] [6] false (.v 1) (.chain .lt .le (.v 3) (.v 6) (.bin .add (.v 3) (.ix (.v 4) (.k (.int 1))))))])), (.set 4 (.bin .add (.tup [(.k (.str "skip")), (.bf .min2 false [(.bin .add (.ix (.v 4) (.k (.int 1))) (.v 5)), (.k (.int 12))])]) (.sl (.v 4) (.k (.int 2)) .nil)))] []), (.ex (.bm .append (.v 2) [(.v 4)])), (.iff (.cmp .inn (.v 3) (.v 1)) [(.ex (.bm .append (.v 2) [(.tup [(.k (.str "fence"))])]))] [])]), (.ret (.bf .tuple false [(.v 2)]))]⟩
def f38 : Fn := ⟨2, 7, true, [(.set 2 (.call 39 [(.v 0)])), (.for [3] false (.v 1) [(.iff (.or (.not (.call 26 [(.v 3)])) (.cmp .nin (.v 3) (.v 2))) [(.rais 7)] [])]), (.set 4 (.lst true [])), (.for [5, 6] true (.enum (.fld (.v 0) 6)) [(.ex (.bm .append (.v 4) [(.call 37 [(.v 6), (.lc false (.ix (.v 3) (.k (.int 1))) [3] [3] false (.v 1) (.cmp .eq (.ix (.v 3) (.k (.int 0))) (.v 5)))])]))]), (.ret (.new 15 false [(.fld (.v 0) 5), (.bf .tuple false [(.v 4)])]))]⟩
def f39 : Fn := ⟨1, 2, true, [(.ret (.lc false (.v 1) [1] [1] false (.call 36 [(.v 0)]) (.isa (.call 27 [(.v 0), (.v 1)]) [(.cls 10)])))]⟩
def f40 : Fn := ⟨2, 2, true, [(.iff (.cmp .lt (.v 1) (.bf .len false [(.v 0)])) [(.ret (.ix (.v 0) (.v 1)))] []), (.ret (.k (.int 0)))]⟩
def f41 : Fn := ⟨2, 3, true, [(.iff (.cmp .ge (.v 0) (.bin .pow (.k (.int 10)) (.k (.int 18)))) [(.ret (.v 0))] []), (.set 2 (.bin .mod (.bin .mul (.bin .add (.bin .add (.bin .mod (.v 0) (.k (.int 2147483647))) (.bin .mul (.k (.int 7919)) (.v 1))) (.k (.int 11))) (.k (.int 48271))) (.k (.int 2147483647)))), (.ret (.bin .mod (.bin .mul (.v 2) (.v 2)) (.k (.int 2147483629))))]⟩
def f42 : Fn := ⟨2, 3, true, [(.iff (.cmp .ge (.ix (.v 0) (.k (.int 0))) (.k (.int 2147483647))) [(.set 2 (.bin .mod (.ix (.v 0) (.k (.int 0))) (.v 1))), (.setI (.v 0) (.k (.int 0)) (.bin .fdiv (.ix (.v 0) (.k (.int 0))) (.v 1))), (.ret (.v 2))] []), (.setI (.v 0) (.k (.int 0)) (.bin .mod (.bin .add (.bin .mul (.ix (.v 0) (.k (.int 0))) (.k (.int 48271))) (.k (.int 11))) (.k (.int 2147483647)))), (.ret (.bin .mod (.bin .fdiv (.ix (.v 0) (.k (.int 0))) (.k (.int 7))) (.v 1)))]⟩
def f43 : Fn := ⟨2, 2, true, [(.ret (.ix (.v 1) (.call 42 [(.v 0), (.bf .len false [(.v 1)])])))]⟩
def f44 : Fn := ⟨2, 9, true, [(.set 2 (.k (.str "abcdefghijklmnopqrstuvwxyz"))), (.set 3 (.bm .join (.k (.str "")) [(.lc false (.call 43 [(.v 0), (.v 2)]) [8] [8] false (.rng [(.call 42 [(.v 0), (.k (.int 5))])]) (.k (.bl true)))])), (.set 4 (.call 42 [(.v 0), (.bin .add (.bf .len false [(.v 3)]) (.k (.int 1)))])), (.set 5 (.call 42 [(.v 0), (.k (.int 26))])), (.set 6 (.lc false (.bin .add (.bin .add (.sl (.v 3) .nil (.v 4)) (.ix (.v 2) (.bin .mod (.bin .add (.v 5) (.v 8)) (.k (.int 26))))) (.sl (.v 3) (.v 4) .nil)) [8] [8] false (.rng [(.v 1)]) (.k (.bl true)))), (.set 7 (.call 42 [(.v 0), (.bin .add (.bin .mul (.k (.int 3)) (.v 1)) (.k (.int 1)))])), (.ret (.lc false (.ite (.cmp .ne (.v 8) (.v 7)) (.ix (.v 6) (.v 8)) (.bin .add (.k (.str "a")) (.ix (.v 6) (.v 8)))) [8] [8] false (.rng [(.v 1)]) (.k (.bl true))))]⟩
def f45 : Fn := ⟨1, 2, true, [(.set 1 (.bin .mod (.bin .mul (.ix (.v 0) (.k (.int 0))) (.k (.int 48271))) (.k (.int 1000000000)))), (.ret (.call 43 [(.v 0), (.lst false [(.lst false [(.k (.int 0)), (.k (.int 1))]), (.lst false [(.k (.int 0)), (.v 1)]), (.lst false [(.v 1), (.k (.int 999999999)), (.k (.int 0))]), (.lst false [(.k (.int 1)), (.k (.int 2)), (.k (.int 3))]), (.lst false [(.v 1)])])]))]⟩
def f46 : Fn := ⟨3, 4, true, [(.ret (.bf .tuple false [(.lc false (.tup [(.v 3), (.call 43 [(.v 0), (.v 2)])]) [3] [3] false (.call 44 [(.v 0), (.v 1)]) (.k (.bl true)))]))]⟩
def f47 : Fn := ⟨4, 8, true, [(.set 4 (.ix (.call 43 [(.v 0), (.v 1)]) (.k (.int 0)))), (.set 5 (.call 43 [(.v 0), (.v 2)])), (.set 6 (.call 43 [(.v 0), (.v 3)])), (.set 7 (.call 42 [(.v 0), (.k (.int 9))])), (.iff (.cmp .lt (.v 7) (.k (.int 3))) [(.ret (.tup [(.k (.str "put")), (.v 4), (.v 6)]))] []), (.iff (.cmp .lt (.v 7) (.k (.int 6))) [(.ret (.tup [(.k (.str "read")), (.v 5), (.v 4)]))] []), (.iff (.cmp .eq (.v 7) (.k (.int 6))) [(.ret (.tup [(.k (.str "swap")), (.v 5), (.v 4), (.v 6)]))] []), (.iff (.cmp .eq (.v 7) (.k (.int 7))) [(.ret (.tup [(.k (.str "fence"))]))] []), (.ret (.tup [(.k (.str "skip")), (.bin .add (.k (.int 1)) (.call 42 [(.v 0), (.call 43 [(.v 0), (.lst false [(.k (.int 2)), (.k (.int 2)), (.k (.int 12))])])])), (.v 5), (.v 6)]))]⟩
def f48 : Fn := ⟨3, 9, true, [(.set 3 (.call 45 [(.v 0)])), (.set 4 (.call 46 [(.v 0), (.bin .add (.k (.int 1)) (.call 42 [(.v 0), (.k (.int 3))])), (.v 3)])), (.set 5 (.lst true [])), (.for [6] false (.rng [(.v 1)]) [(.set 7 (.call 44 [(.v 0), (.bin .add (.k (.int 1)) (.call 42 [(.v 0), (.k (.int 3))]))])), (.ex (.bm .append (.v 5) [(.bf .tuple false [(.lc false (.call 47 [(.v 0), (.v 4), (.v 7), (.v 3)]) [8] [8] false (.rng [(.call 42 [(.v 0), (.bin .add (.v 2) (.k (.int 1)))])]) (.k (.bl true)))])]))]), (.ret (.tup [(.v 4), (.bf .tuple false [(.v 5)])]))]⟩
def f49 : Fn := ⟨4, 9, true, [(.set 4 (.k .non)), (.set 5 (.k .non)), (.tryE (.set 4 (.call 38 [(.v 1), (.v 2)])) 0 6 5), (.iff (.isN (.v 5)) [(.ret (.v 4))] []), (.set 7 (.lst false [(.isa (.v 5) [(.cls 8)]), (.isa (.v 5) [(.cls 7)]), (.isa (.v 5) [(.cls 2)])])), (.set 8 (.isa (.v 5) [(.cls 1), (.cls 3), (.cls 4), (.cls 5), (.cls 6)])), (.iff (.or (.v 8) (.or (.cmp .ne (.bm .count (.v 7) [(.k (.bl true))]) (.k (.int 1))) (.not (.isa (.v 5) [.verr])))) [(.ret (.k (.str "other")))] []), (.ret (.ix (.lst false [(.k (.str "many")), (.k (.str "put")), (.k (.str "program"))]) (.bm .index (.v 7) [(.k (.bl true))])))]⟩
def f50 : Fn := ⟨2, 9, true, [(.set 2 (.lst true [])), (.for [3] false (.rng [(.bf .len false [(.ix (.v 0) (.k (.int 1)))])]) [(.set 4 (.lst true [])), (.for [5] false (.rng [(.bf .len false [(.ix (.ix (.v 0) (.k (.int 1))) (.v 3))])]) [(.set 6 (.ix (.ix (.ix (.v 0) (.k (.int 1))) (.v 3)) (.v 5))), (.iff (.cmp .eq (.ix (.v 6) (.k (.int 0))) (.k (.str "skip"))) [(.set 7 (.bf .len false [(.lc false (.k (.int 1)) [8] [8] false (.v 1) (.and (.cmp .eq (.ix (.v 8) (.k (.int 0))) (.v 3)) (.chain .lt .le (.v 5) (.ix (.v 8) (.k (.int 1))) (.bin .add (.v 5) (.ix (.v 6) (.k (.int 1)))))))])), (.set 6 (.bin .add (.tup [(.k (.str "skip")), (.bf .min2 false [(.k (.int 12)), (.bin .add (.ix (.v 6) (.k (.int 1))) (.v 7))])]) (.sl (.v 6) (.k (.int 2)) .nil)))] []), (.ex (.bm .append (.v 4) [(.v 6)])), (.iff (.cmp .inn (.tup [(.v 3), (.v 5)]) (.v 1)) [(.ex (.bm .append (.v 4) [(.tup [(.k (.str "fence"))])]))] [])]), (.ex (.bm .append (.v 2) [(.bf .tuple false [(.v 4)])]))]), (.ret (.bf .tuple false [(.v 2)]))]⟩
def f51 : Fn := ⟨2, 6, true, [(.set 2 (.lst true [])), (.for [3] false (.ix (.v 1) (.k (.int 1))) [(.set 4 (.lst true [])), (.for [5] false (.v 3) [(.iff (.cmp .eq (.ix (.v 5) (.k (.int 0))) (.k (.str "skip"))) [(.set 5 (.bin .add (.tup [(.k (.str "skip")), (.bin .add (.k (.int 1)) (.call 42 [(.v 0), (.k (.int 12))]))]) (.sl (.v 5) (.k (.int 2)) .nil)))] []), (.ex (.bm .append (.v 4) [(.v 5)]))]), (.ex (.bm .append (.v 2) [(.bf .tuple false [(.v 4)])]))]), (.ret (.tup [(.ix (.v 1) (.k (.int 0))), (.bf .tuple false [(.v 2)])]))]⟩
def f52 : Fn := ⟨2, 5, true, [(.set 2 (.lst true [])), (.for [3] false (.rng [(.bf .len false [(.ix (.v 0) (.k (.int 1)))])]) [(.for [4] false (.rng [(.bf .len false [(.ix (.ix (.v 0) (.k (.int 1))) (.v 3))])]) [(.iff (.cmp .eq (.cmp .eq (.ix (.ix (.ix (.ix (.v 0) (.k (.int 1))) (.v 3)) (.v 4)) (.k (.int 0))) (.k (.str "put"))) (.cmp .eq (.v 1) (.k (.str "put")))) [(.ex (.bm .append (.v 2) [(.tup [(.v 3), (.v 4)])]))] [])])]), (.ret (.v 2))]⟩
def f53 : Fn := ⟨2, 4, true, [(.set 2 (.call 50 [(.v 0), (.v 1)])), (.iff (.or (.cmp .gt (.bf .max false [(.lc false (.bf .len false [(.v 3)]) [3] [3] false (.v 2) (.k (.bl true)))]) (.k (.int 12))) (.cmp .gt (.bf .sum false [(.lc false (.bf .len false [(.v 3)]) [3] [3] false (.v 2) (.k (.bl true)))]) (.k (.int 24)))) [(.ret (.k (.str "program")))] []), (.ret (.v 2))]⟩
def f54 : Fn := ⟨1, 13, true, [(.for [1] false (.rng [(.bf .max2 false [(.k (.int 1)), (.bf .len false [(.v 0)])])]) [(.set 2 (.lst true [(.call 41 [(.call 40 [(.v 0), (.v 1)]), (.bin .add (.k (.int 460)) (.v 1))])])), (.set 3 (.call 51 [(.v 2), (.call 48 [(.v 2), (.bin .add (.k (.int 1)) (.call 42 [(.v 2), (.k (.int 3))])), (.ix (.lst false [(.k (.int 7)), (.k (.int 8))]) (.call 42 [(.v 2), (.k (.int 2))]))])])), (.set 4 (.new 15 false [(.ix (.v 3) (.k (.int 0))), (.ix (.v 3) (.k (.int 1)))])), (.set 5 (.call 52 [(.v 3), (.k (.str "put"))])), (.set 6 (.lc false (.v 12) [12] [12] false (.v 5) (.cmp .gt (.call 42 [(.v 2), (.k (.int 4))]) (.k (.int 0))))), (.iff (.cmp .eq (.call 42 [(.v 2), (.k (.int 2))]) (.k (.int 0))) [(.set 6 (.rev (.v 6)))] []), (.set 7 (.call 49 [(.k (.int 0)), (.v 4), (.bf .tuple false [(.v 6)]), (.k (.int 0))])), (.set 8 (.call 53 [(.v 3), (.v 6)])), (.iff (.cmp .eq (.v 8) (.k (.str "program"))) [(.iff (.cmp .ne (.v 7) (.k (.str "program"))) [(.ret (.k (.bl false)))] [])] [(.iff (.or (.not (.isa (.v 7) [(.cls 15)])) (.or (.cmp .ne (.fld (.v 7) 6) (.v 8)) (.cmp .ne (.fld (.v 7) 5) (.ix (.v 3) (.k (.int 0)))))) [(.ret (.k (.bl false)))] [])]), (.set 9 (.bin .add (.call 52 [(.v 3), (.k (.str "other"))]) (.lst false [(.tup [(.k (.int 0)), (.k (.int 99))]), (.tup [(.k (.int 9)), (.k (.int 0))]), (.tup [(.k (.int 0)), (.k (.int (-1)))]), (.k .non), (.k (.int 5)), (.k (.str "00")), (.tup [(.k (.int 0))])]))), (.set 10 (.call 43 [(.v 2), (.v 9)])), (.for [11] false (.lst false [(.bin .add (.bf .tuple false [(.sl (.v 6) .nil (.k (.int 1)))]) (.tup [(.v 10)])), (.bin .add (.bf .tuple false [(.v 6)]) (.tup [(.v 10)])), (.bin .add (.tup [(.v 10)]) (.bf .tuple false [(.v 6)]))]) [(.iff (.or (.cmp .ne (.call 49 [(.k (.int 0)), (.v 4), (.v 11), (.k (.int 0))]) (.k (.str "put"))) (.cmp .ne (.fld (.v 4) 6) (.ix (.v 3) (.k (.int 1))))) [(.ret (.k (.bl false)))] [])])]), (.ret (.k (.bl true)))]⟩
def fns : List Fn := [f0, f1, f2, f3, f4, f5, f6, f7, f8, f9, f10, f11, f12, f13, f14, f15, f16, f17, f18, f19, f20, f21, f22, f23, f24, f25, f26, f27, f28, f29, f30, f31, f32, f33, f34, f35, f36, f37, f38, f39, f40, f41, f42, f43, f44, f45, f46, f47, f48, f49, f50, f51, f52, f53, f54]
theorem fns_eq : md.fns.map md.fn = fns.map some := by kernel_rfl
theorem sc_all : md.fns.all scB = true := by kernel_rfl
theorem bi0 : BindP d0 := fun _ _ _ _ _ _ us hl => match us, hl with | [_], _ => rfl
theorem bi1 : BindP d1 := fun _ _ _ _ _ _ us hl => match us, hl with | [_], _ => rfl
theorem bi2 : BindP d2 := fun _ _ _ _ _ _ us hl => match us, hl with | [_], _ => rfl
theorem bi3 : BindP d3 := fun _ _ _ _ _ _ us hl => match us, hl with | [_], _ => rfl
theorem bi4 : BindP d4 := fun _ _ _ _ _ _ us hl => match us, hl with | [_, _, _], _ => rfl
theorem bi5 : BindP d5 := fun _ _ _ _ _ _ us hl => match us, hl with | [_], _ => rfl
theorem bi6 : BindP d6 := fun _ _ _ _ _ _ us hl => match us, hl with | [_], _ => rfl
theorem bi7 : BindP d7 := fun _ _ _ _ _ _ us hl => match us, hl with | [_, _, _], _ => rfl
theorem bi8 : BindP d8 := fun _ _ _ _ _ _ us hl => match us, hl with | [_], _ => rfl
theorem bi9 : BindP d9 := fun _ _ _ _ _ _ us hl => match us, hl with | [_], _ => rfl
theorem bi10 : BindP d10 := fun _ _ _ _ _ _ us hl => match us, hl with | [_], _ => rfl
theorem bi11 : BindP d11 := fun _ _ _ _ _ _ us hl => match us, hl with | [_, _, _, _], _ => rfl
theorem bi12 : BindP d12 := fun _ _ _ _ _ _ us hl => match us, hl with | [_], _ => rfl
theorem bi13 : BindP d13 := fun _ _ _ _ _ _ us hl => match us, hl with | [_], _ => rfl
theorem bi14 : BindP d14 := fun _ _ _ _ _ _ us hl => match us, hl with | [_], _ => rfl
theorem bi15 : BindP d15 := fun _ _ _ _ _ _ us hl => match us, hl with | [_], _ => rfl
theorem bi16 : BindP d16 := fun _ _ _ _ _ _ us hl => match us, hl with | [_], _ => rfl
theorem bi17 : BindP d17 := fun _ _ _ _ _ _ us hl => match us, hl with | [_, _, _, _], _ => rfl
theorem bi18 : BindP d18 := fun _ _ _ _ _ _ us hl => match us, hl with | [_], _ => rfl
theorem bi19 : BindP d19 := fun _ _ _ _ _ _ us hl => match us, hl with | [_], _ => rfl
theorem bi20 : BindP d20 := fun _ _ _ _ _ _ us hl => match us, hl with | [_, _, _], _ => rfl
theorem bi21 : BindP d21 := fun _ _ _ _ _ _ us hl => match us, hl with | [_], _ => rfl
theorem bi22 : BindP d22 := fun _ _ _ _ _ _ us hl => match us, hl with | [_], _ => rfl
theorem bi23 : BindP d23 := fun _ _ _ _ _ _ us hl => match us, hl with | [_], _ => rfl
theorem bi24 : BindP d24 := fun _ _ _ _ _ _ us hl => match us, hl with | [_], _ => rfl
theorem bi25 : BindP d25 := fun _ _ _ _ _ _ us hl => match us, hl with | [_], _ => rfl
theorem bi26 : BindP d26 := fun _ _ _ _ _ _ us hl => match us, hl with | [_], _ => rfl
theorem bi27 : BindP d27 := fun _ _ _ _ _ _ us hl => match us, hl with | [_, _], _ => rfl
theorem bi28 : BindP d28 := fun _ _ _ _ _ _ us hl => match us, hl with | [_], _ => rfl
theorem bi29 : BindP d29 := fun _ _ _ _ _ _ us hl => match us, hl with | [_], _ => rfl
theorem bi30 : BindP d30 := fun _ _ _ _ _ _ us hl => match us, hl with | [_], _ => rfl
theorem bi31 : BindP d31 := fun _ _ _ _ _ _ us hl => match us, hl with | [_], _ => rfl
theorem bi32 : BindP d32 := fun _ _ _ _ _ _ us hl => match us, hl with | [_, _], _ => rfl
theorem bi33 : BindP d33 := fun _ _ _ _ _ _ us hl => match us, hl with | [_, _, _], _ => rfl
theorem bi34 : BindP d34 := fun _ _ _ _ _ _ us hl => match us, hl with | [_, _], _ => rfl
theorem bi35 : BindP d35 := fun _ _ _ _ _ _ us hl => match us, hl with | [_, _], _ => rfl
theorem bi36 : BindP d36 := fun _ _ _ _ _ _ us hl => match us, hl with | [_], _ => rfl
theorem bi37 : BindP d37 := fun _ _ _ _ _ _ us hl => match us, hl with | [_, _], _ => rfl
theorem bi38 : BindP d38 := fun _ _ _ _ _ _ us hl => match us, hl with | [_, _], _ => rfl
theorem bi39 : BindP d39 := fun _ _ _ _ _ _ us hl => match us, hl with | [_], _ => rfl
theorem bi40 : BindP d40 := fun _ _ _ _ _ _ us hl => match us, hl with | [_, _], _ => rfl
theorem bi41 : BindP d41 := fun _ _ _ _ _ _ us hl => match us, hl with | [_, _], _ => rfl
theorem bi42 : BindP d42 := fun _ _ _ _ _ _ us hl => match us, hl with | [_, _], _ => rfl
theorem bi43 : BindP d43 := fun _ _ _ _ _ _ us hl => match us, hl with | [_, _], _ => rfl
theorem bi44 : BindP d44 := fun _ _ _ _ _ _ us hl => match us, hl with | [_, _], _ => rfl
theorem bi45 : BindP d45 := fun _ _ _ _ _ _ us hl => match us, hl with | [_], _ => rfl
theorem bi46 : BindP d46 := fun _ _ _ _ _ _ us hl => match us, hl with | [_, _, _], _ => rfl
theorem bi47 : BindP d47 := fun _ _ _ _ _ _ us hl => match us, hl with | [_, _, _, _], _ => rfl
theorem bi48 : BindP d48 := fun _ _ _ _ _ _ us hl => match us, hl with | [_, _, _], _ => rfl
theorem bi49 : BindP d49 := fun _ _ _ _ _ _ us hl => match us, hl with | [_, _, _, _], _ => rfl
theorem bi50 : BindP d50 := fun _ _ _ _ _ _ us hl => match us, hl with | [_, _], _ => rfl
theorem bi51 : BindP d51 := fun _ _ _ _ _ _ us hl => match us, hl with | [_, _], _ => rfl
theorem bi52 : BindP d52 := fun _ _ _ _ _ _ us hl => match us, hl with | [_, _], _ => rfl
theorem bi53 : BindP d53 := fun _ _ _ _ _ _ us hl => match us, hl with | [_, _], _ => rfl
theorem bi54 : BindP d54 := fun _ _ _ _ _ _ us hl => match us, hl with | [_], _ => rfl
theorem bi_all : ∀ fc ∈ md.fns, BindP fc := by
  intro fc hfc
  simp only [md, fnl, List.mem_cons, List.not_mem_nil, or_false] at hfc
  rcases hfc with rfl | rfl | rfl | rfl | rfl | rfl | rfl | rfl | rfl | rfl | rfl | rfl | rfl | rfl | rfl | rfl | rfl | rfl | rfl | rfl | rfl | rfl | rfl | rfl | rfl | rfl | rfl | rfl | rfl | rfl | rfl | rfl | rfl | rfl | rfl | rfl | rfl | rfl | rfl | rfl | rfl | rfl | rfl | rfl | rfl | rfl | rfl | rfl | rfl | rfl | rfl | rfl | rfl | rfl | rfl
  · exact bi0
  · exact bi1
  · exact bi2
  · exact bi3
  · exact bi4
  · exact bi5
  · exact bi6
  · exact bi7
  · exact bi8
  · exact bi9
  · exact bi10
  · exact bi11
  · exact bi12
  · exact bi13
  · exact bi14
  · exact bi15
  · exact bi16
  · exact bi17
  · exact bi18
  · exact bi19
  · exact bi20
  · exact bi21
  · exact bi22
  · exact bi23
  · exact bi24
  · exact bi25
  · exact bi26
  · exact bi27
  · exact bi28
  · exact bi29
  · exact bi30
  · exact bi31
  · exact bi32
  · exact bi33
  · exact bi34
  · exact bi35
  · exact bi36
  · exact bi37
  · exact bi38
  · exact bi39
  · exact bi40
  · exact bi41
  · exact bi42
  · exact bi43
  · exact bi44
  · exact bi45
  · exact bi46
  · exact bi47
  · exact bi48
  · exact bi49
  · exact bi50
  · exact bi51
  · exact bi52
  · exact bi53
  · exact bi54
def tb : Tb := md.tb fns
end LS
end
section
set_option Elab.async false
set_option linter.all false
set_option maxRecDepth 100000
set_option maxHeartbeats 0
namespace LS
open PySem PySem.Spec PyProof.Rows L2
abbrev RW := PySem.Challenge.rw_lateshelf_k57_fences_put_in
abbrev R : PySem.W.OpenRow := PySem.W.OpenLaw.row RW

abbrev hk : PySem.W.Hook := hookL 6 md tb
def ob (s : PySem.W.SharedT) : He.AlD := obsLG 6 md tb (HandSHeadRun.getT s)
theorem ob_eq (s : PySem.W.SharedT) : ob s = hk.obs s.abs := obsLG_eq (HandSHeadRun.getT_eq s)
def names1 : List Str := ["LateError", "NoRow", "NoProgram", "NoText", "NotNow", "NotWhole", "NoDrawing", "NoPut", "TooMany", "LETTERS", "MOST_LETTERS", "MOST_NUMBER", "MOST_SKIP_rows", "Row", "Put", "Read", "Swap", "Fence", "Skip", "is_up_to", "is_word", "is_number", "row_of", "is_whole", "is_pair", "is_event", "row_at"]
def names2 : List Str := ["MOST_BOXES", "MOST_HANDS", "MOST_ROWS", "MOST_IN_ALL", "MOST_NAMES", "need", "names_in", "need_boxes", "rows_by", "need_hands", "Program", "events_of", "MOST_SKIP_fences", "fenced_hand", "fenced", "puts_in", "_law_cell_at", "_law_mixed", "_law_next", "_law_pick", "_law_words", "_law_numbers", "_law_boxes", "_law_row", "_law_told", "_law_asked", "_law_fenced", "_law_wide", "_law_events", "_law_due"]
def loose : List Str := names1 ++ names2
theorem run (w : World) : HandSHeadRun.RunEq R (PySem.W.view R.prog [63]) hk ob 9000 loose w := by
  intro os
  kernel_rfl
end LS
end
section
set_option Elab.async false
set_option linter.all false
set_option maxRecDepth 100000
namespace LS
open PySem
abbrev cl (n b i : Nat) (ds : List D) (st : Sto) : Rs D := cal tb 10 n b i ds st
theorem cal_at {n b i : Nat} {f : Fn} {ds : List D} {st : Sto} (h : tb.fns[i]? = some f) (htr : f.tr = true) (hl : ds.length = f.np) :
    cal tb 10 (n + 1) b i ds st = ending true st.length (xss tb (cal tb 10 n st.length) st.length 10 f.body (ds.map some ++ List.replicate (f.ns - f.np) none) st) := by
  rw [cal, h]
  simp only [hl, if_true, htr]
/-- what is drawn -/
def Dr (r : Nat) (st : Sto) : Prop := ∃ x : Int, st[r]? = some (.lst [.int x])
theorem Dr.len {r : Nat} {st : Sto} (h : Dr r st) : r < st.length := by
  obtain ⟨x, h⟩ := h
  exact (List.getElem?_eq_some_iff.mp h).1
theorem take_set {st : Sto} {r : Nat} {e : Ent} : List.take st.length (st.set r e) = st.set r e := by
  rw [List.take_of_length_le]; rw [List.length_set]; exact Nat.le_refl _
/-- the draw goes on -/
def Up (r : Nat) (st st' : Sto) : Prop := ∃ x : Int, st' = st.set r (.lst [.int x])
theorem Up.refl {r : Nat} {st : Sto} (h : Dr r st) : Up r st st := by
  obtain ⟨x, h⟩ := h
  refine ⟨x, ?_⟩
  obtain ⟨h1, h2⟩ := List.getElem?_eq_some_iff.mp h
  rw [← h2, List.set_getElem_self]
theorem Up.trans {r : Nat} {a b c : Sto} (h : Up r a b) (h' : Up r b c) : Up r a c := by
  obtain ⟨x, rfl⟩ := h
  obtain ⟨y, rfl⟩ := h'
  exact ⟨y, by rw [List.set_set]⟩
theorem Up.len {r : Nat} {a b : Sto} (h : Up r a b) : b.length = a.length := by
  obtain ⟨x, rfl⟩ := h
  exact List.length_set ..
theorem Up.dr {r : Nat} {a b : Sto} (h : Up r a b) (hr : r < a.length) : Dr r b := by
  obtain ⟨x, rfl⟩ := h
  exact ⟨x, List.getElem?_set_self hr⟩
theorem Up.take {r : Nat} {a b : Sto} (h : Up r a b) : b.take a.length = b := by
  rw [List.take_of_length_le (by rw [h.len]; exact Nat.le_refl _)]
theorem Dr.app {r : Nat} {st : Sto} {e : Ent} (h : Dr r st) : Dr r (st ++ [e]) := by
  obtain ⟨x, h⟩ := h
  refine ⟨x, ?_⟩
  rw [List.getElem?_append_left (List.getElem?_eq_some_iff.mp h).1]
  exact h
theorem Up.app {r : Nat} {st st' : Sto} {e : Ent} (hr : r < st.length) (h : Up r (st ++ [e]) st') : ∃ st2, Up r st st2 ∧ st' = st2 ++ [e] := by
  obtain ⟨x, rfl⟩ := h
  exact ⟨_, ⟨x, rfl⟩, by rw [List.set_append_left _ _ hr]⟩
theorem frz_id {b : Nat} {d : D} {st : Sto} (h : D.nr d = true) : freeze b 6 d st = .ok d st := by
  cases d <;> simp only [freeze]
  simp [D.nr] at h
theorem s_next {n b r : Nat} {st : Sto} {m : Int} (h : Dr r st) (h0 : 0 < m) (h1 : m < 1000) : ∃ (v : Int) (st' : Sto), 0 ≤ v ∧ v < m ∧ Up r st st' ∧ cal tb 10 (n + 1) b 42 [.ref r, .int m] st = .ok (.int v) st' := by
  obtain ⟨x, h⟩ := h
  have hl : r < st.length := (List.getElem?_eq_some_iff.mp h).1
  have h2 : m < 1073741824 := by omega
  rw [cal_at (f := f42) rfl rfl rfl]
  by_cases hx : x ≥ 2147483647
  · refine ⟨x % m, _, Int.emod_nonneg _ (by omega), Int.emod_lt_of_pos _ h0, ⟨x / m, rfl⟩, ?_⟩
    simp [f42, xss, xs, ev, evs, view, h, index, plc, cop, bop, hx, h0, h1, h2, stI, wr, liveE, D.nr, ending, freeze, Nat.not_le.mpr hl, take_set]
  · refine ⟨(x * 48271 + 11) % 2147483647 / 7 % m, _, Int.emod_nonneg _ (by omega), Int.emod_lt_of_pos _ h0, ⟨(x * 48271 + 11) % 2147483647, rfl⟩, ?_⟩
    have hs : ∀ e : Ent, (st.set r e)[r]? = some e := fun e => List.getElem?_set_self hl
    simp [f42, xss, xs, ev, evs, view, h, index, plc, cop, bop, hx, h0, h1, h2, stI, wr, liveE, D.nr, ending, freeze, Nat.not_le.mpr hl, take_set, hs]
theorem nrs_of : ∀ {xs : List D}, (∀ d ∈ xs, D.nr d = true) → D.nrs xs = true
  | [], _ => rfl
  | x :: xs, h => by
    simp only [D.nrs, Bool.and_eq_true]
    exact ⟨h x (List.mem_cons_self ..), nrs_of fun d hd => h d (List.mem_cons_of_mem _ hd)⟩
theorem end_rt {n0 : Nat} {d : D} {s : Sto} (h : D.nr d = true) : ending true n0 (.ok (.rt d) s) = .ok d (s.take n0) := by
  simp [ending, h]
theorem end_nx {n0 : Nat} {ρ : Env} {s : Sto} : ending true n0 (.ok (.nx ρ) s) = .ok .non (s.take n0) := by
  simp [ending]
theorem s_pick {n b r : Nat} {st : Sto} {xs : List D} (h : Dr r st) (h0 : 0 < xs.length) (h1 : xs.length < 1000) (hn : ∀ d ∈ xs, D.nr d = true) : ∃ (d : D) (st' : Sto), d ∈ xs ∧ Up r st st' ∧ cal tb 10 (n + 2) b 43 [.ref r, .lst xs] st = .ok d st' := by
  obtain ⟨v, st', v0, v1, u, e⟩ := s_next (n := n) (b := st.length) h (m := (xs.length : Nat)) (by omega) (by omega)
  have hv : v.toNat < xs.length := by omega
  refine ⟨xs[v.toNat], st', List.getElem_mem hv, u, ?_⟩
  have hv1 : v < (xs.length : Int) := v1
  rw [cal_at (f := f43) rfl rfl rfl]
  have hn' := hn _ (List.getElem_mem hv)
  simp [f43, xss, LS.xs, ev, evs, view, index, plc, bfn, e, v0, hv1, hv, ending, frz_id hn', hn', u.take]
theorem s_pickS {n b r : Nat} {st : Sto} {s : Str} (h : Dr r st) (h0 : 0 < s.cps.toList.length) (h1 : s.cps.toList.length < 1000) : ∃ (c : Nat) (st' : Sto), c ∈ s.cps.toList ∧ Up r st st' ∧ cal tb 10 (n + 2) b 43 [.ref r, .str s] st = .ok (sgn c) st' := by
  obtain ⟨v, st', v0, v1, u, e⟩ := s_next (n := n) (b := st.length) h (m := (s.cps.toList.length : Nat)) (by omega) (by omega)
  have hv : v.toNat < s.cps.toList.length := by omega
  refine ⟨s.cps.toList[v.toNat], st', List.getElem_mem hv, u, ?_⟩
  have hv1 : v < (s.cps.toList.length : Int) := v1
  have hsz : s.length ≤ SZ := by show s.cps.size ≤ _; rw [← Array.length_toList]; unfold SZ; omega
  have hle : (s.length : Int) = (s.cps.toList.length : Nat) := by rw [Array.length_toList]; rfl
  rw [cal_at (f := f43) rfl rfl rfl]
  simp only [f43, xss, LS.xs, ev, evs, view, bfn, hsz, if_true]
  simp only [List.map_cons, List.map_nil, List.nil_append, List.cons_append, Nat.sub_self, List.replicate_zero, List.append_nil, List.getElem?_cons_zero, List.getElem?_cons_succ, Rs.bind_ok, view, hsz, if_true, hle, e, index, plc, v0, hv1, Option.bind_some, List.getElem?_eq_getElem hv, Option.map_some, pur_some, ending]
  simp [sgn, freeze, D.nr, u.take]
/-! ### comprehensions -/
theorem lcL_pure {f : D → Sto → Rs (Option D)} {g : D → D} {st : Sto} : ∀ {ds acc : List D}, (∀ d ∈ ds, f d st = .ok (some (g d)) st) → acc.length + ds.length ≤ SZ → lcL f ds acc st = .ok (acc ++ ds.map g) st
  | [], acc, _, _ => by simp [lcL]
  | d :: ds, acc, h, hz => by
    have hz' : acc.length < SZ := by simp only [List.length_cons] at hz; omega
    rw [lcL, h d (List.mem_cons_self ..)]
    simp only [Rs.bind_ok, hz', if_true]
    rw [lcL_pure (fun d hd => h d (List.mem_cons_of_mem _ hd)) (by rw [List.length_append, List.length_singleton]; simp only [List.length_cons] at hz; omega)]
    simp
theorem lcL_filter {f : D → Sto → Rs (Option D)} {g : D → D} {p : D → Bool} {st : Sto} : ∀ {ds acc : List D}, (∀ d ∈ ds, f d st = .ok (if p d then some (g d) else none) st) → acc.length + ds.length ≤ SZ → lcL f ds acc st = .ok (acc ++ (ds.filter p).map g) st
  | [], acc, _, _ => by simp [lcL]
  | d :: ds, acc, h, hz => by
    have hz' : acc.length < SZ := by simp only [List.length_cons] at hz; omega
    rw [lcL, h d (List.mem_cons_self ..)]
    cases hp : p d with
    | true =>
      simp only [Rs.bind_ok, hz', if_true]
      rw [lcL_filter (p := p) (g := g) (fun d hd => h d (List.mem_cons_of_mem _ hd)) (by rw [List.length_append, List.length_singleton]; simp only [List.length_cons] at hz; omega)]
      simp [hp]
    | false =>
      simp only [Rs.bind_ok, Bool.false_eq_true, if_false]
      rw [lcL_filter (p := p) (g := g) (fun d hd => h d (List.mem_cons_of_mem _ hd)) (by simp only [List.length_cons] at hz; omega)]
      simp [hp]
inductive F2 {α β : Type} (P : α → β → Prop) : List α → List β → Prop where
  | nil : F2 P [] []
  | cons {a b as bs} (h : P a b) (r : F2 P as bs) : F2 P (a :: as) (b :: bs)
theorem F2.len {α β : Type} {P : α → β → Prop} : ∀ {as : List α} {bs : List β}, F2 P as bs → as.length = bs.length
  | _, _, .nil => rfl
  | _, _, .cons _ r => by rw [List.length_cons, List.length_cons, r.len]
theorem F2.mem {α β : Type} {P : α → β → Prop} : ∀ {as : List α} {bs : List β}, F2 P as bs → ∀ b ∈ bs, ∃ a ∈ as, P a b
  | _, _, .nil, b, h => by cases h
  | _, _, .cons (a := a) h r, b, hb => by
    rcases List.mem_cons.mp hb with e | hb
    · exact ⟨a, List.mem_cons_self .., by rw [e]; exact h⟩
    · obtain ⟨a', h1, h2⟩ := r.mem b hb
      exact ⟨a', List.mem_cons_of_mem _ h1, h2⟩
theorem lcL_up {f : D → Sto → Rs (Option D)} {P : D → D → Prop} {r n0 : Nat} (hr : r < n0) : ∀ {ds acc : List D} {st : Sto}, (∀ d ∈ ds, ∀ st : Sto, st.length = n0 → Dr r st → ∃ y st', P d y ∧ Up r st st' ∧ f d st = .ok (some y) st') → st.length = n0 → Dr r st → acc.length + ds.length ≤ SZ →
    ∃ ys st', F2 P ds ys ∧ Up r st st' ∧ lcL f ds acc st = .ok (acc ++ ys) st'
  | [], acc, st, _, _, hd, _ => ⟨[], st, .nil, Up.refl hd, by simp [lcL]⟩
  | d :: ds, acc, st, h, hl, hd, hz => by
    obtain ⟨y, st1, p1, u1, e1⟩ := h d (List.mem_cons_self ..) st hl hd
    have hz' : acc.length < SZ := by simp only [List.length_cons] at hz; omega
    obtain ⟨ys, st2, p2, u2, e2⟩ := lcL_up (f := f) (P := P) hr (ds := ds) (acc := acc ++ [y]) (st := st1) (fun d hd => h d (List.mem_cons_of_mem _ hd)) (by rw [u1.len]; exact hl) (u1.dr (by rw [hl]; exact hr)) (by rw [List.length_append, List.length_singleton]; simp only [List.length_cons] at hz; omega)
    refine ⟨y :: ys, st2, .cons p1 p2, u1.trans u2, ?_⟩
    rw [lcL, e1]
    simp only [Rs.bind_ok, hz', if_true, e2]
    simp
/-! ### words -/
def ltrs : List Nat := ("abcdefghijklmnopqrstuvwxyz" : Str).cps.toList
theorem ltrs_len : ltrs.length = 26 := by decide +kernel
theorem ltrs_nd : ltrs.Nodup := by decide +kernel
theorem ltrs_a : (97 : Nat) ∈ ltrs := by decide +kernel
theorem ltrs_sm : ∀ c ∈ ltrs, c < 0x110000 := by decide +kernel
theorem strsOf_sgn : ∀ cs : List Nat, strsOf (cs.map sgn) = some (cs.map fun c => (⟨#[c]⟩ : Str))
  | [] => rfl
  | c :: cs => by
    rw [List.map_cons, List.map_cons]
    show (strsOf (cs.map sgn)).map _ = _
    rw [strsOf_sgn cs]; rfl
theorem joinS_sgn : ∀ cs : List Nat, (joinS ⟨#[]⟩ (cs.map fun c => (⟨#[c]⟩ : Str))).cps.toList = cs
  | [] => rfl
  | [c] => rfl
  | c :: d :: cs => by
    have ih := joinS_sgn (d :: cs)
    show ((#[c] : Array Nat) ++ ((#[] : Array Nat) ++ (joinS ⟨#[]⟩ ((d :: cs).map fun c => (⟨#[c]⟩ : Str))).cps)).toList = _
    rw [Array.toList_append, Array.toList_append, ih]; rfl
/-- the k-th word -/
def wd0 (bs : List Nat) (p first k : Nat) : List Nat := bs.take p ++ ltrs.getD ((first + k) % 26) 0 :: bs.drop p
def wd (bs : List Nat) (p first far k : Nat) : List Nat := if k = far then 97 :: wd0 bs p first k else wd0 bs p first k
structure WdS (bs : List Nat) (p first : Nat) : Prop where
  b : ∀ c ∈ bs, c ∈ ltrs
  l : bs.length ≤ 4
  p : p ≤ bs.length
theorem wd0_len {bs : List Nat} {p first k : Nat} (h : WdS bs p first) : (wd0 bs p first k).length = bs.length + 1 := by
  unfold wd0
  have := h.p
  rw [List.length_append, List.length_cons, List.length_take, List.length_drop]; omega
theorem ltrs_at {i : Nat} (h : i < 26) : ltrs.getD i 0 ∈ ltrs := by
  have hl : i < ltrs.length := by rw [ltrs_len]; exact h
  rw [List.getD_eq_getElem?_getD, List.getElem?_eq_getElem hl]
  exact List.getElem_mem hl
theorem wd0_ok {bs : List Nat} {p first k : Nat} (h : WdS bs p first) : ∀ c ∈ wd0 bs p first k, c ∈ ltrs := by
  intro c hc
  unfold wd0 at hc
  rcases List.mem_append.mp hc with hc | hc
  · exact h.b c (List.mem_of_mem_take hc)
  · rcases List.mem_cons.mp hc with e | hc
    · rw [e]; exact ltrs_at (Nat.mod_lt _ (by decide))
    · exact h.b c (List.mem_of_mem_drop hc)
theorem wd0_inj {bs : List Nat} {p first i j : Nat} (h : WdS bs p first) (hi : i < 3) (hj : j < 3) (e : wd0 bs p first i = wd0 bs p first j) : i = j := by
  unfold wd0 at e
  have e2 := List.append_cancel_left e
  have e3 := (List.cons.inj e2).1
  have h1 : (first + i) % 26 < ltrs.length := by rw [ltrs_len]; exact Nat.mod_lt _ (by decide)
  have h2 : (first + j) % 26 < ltrs.length := by rw [ltrs_len]; exact Nat.mod_lt _ (by decide)
  rw [List.getD_eq_getElem?_getD, List.getD_eq_getElem?_getD, List.getElem?_eq_getElem h1, List.getElem?_eq_getElem h2] at e3
  have := (List.getElem_inj ltrs_nd).mp e3
  omega
theorem wd_inj {bs : List Nat} {p first far i j : Nat} (h : WdS bs p first) (hi : i < 3) (hj : j < 3) (e : wd bs p first far i = wd bs p first far j) : i = j := by
  unfold wd at e
  split at e
  · split at e
    · omega
    · have := congrArg List.length e
      rw [List.length_cons, wd0_len h, wd0_len h] at this; omega
  · split at e
    · have := congrArg List.length e
      rw [List.length_cons, wd0_len h, wd0_len h] at this; omega
    · exact wd0_inj h hi hj e
/-- a word -/
def Wd (w : Str) : Prop := 1 ≤ w.cps.toList.length ∧ w.cps.toList.length ≤ 6 ∧ ∀ c ∈ w.cps.toList, c ∈ ltrs
theorem wd_ok {bs : List Nat} {p first far k : Nat} (h : WdS bs p first) {w : Str} (e : w.cps.toList = wd bs p first far k) : Wd w := by
  have hl := h.l
  unfold Wd
  rw [e]
  unfold wd
  split
  · refine ⟨by simp, by rw [List.length_cons, wd0_len h]; omega, fun c hc => ?_⟩
    rcases List.mem_cons.mp hc with e | hc
    · rw [e]; exact ltrs_a
    · exact wd0_ok h c hc
  · exact ⟨by rw [wd0_len h]; omega, by rw [wd0_len h]; omega, wd0_ok h⟩
theorem ev_lc {C : Nat → List D → Sto → Rs D} {b i : Nat} {ρ : Env} {own : List Nat} {elt it : Ex} {st : Sto} : ev tb C b ρ (.lc false elt own [i] false it (.k (.bl true))) st =
    (wk tb C b ρ it st).bind fun ds s => (lcL (fun d s1 => (ev tb C b ((wipeE ρ own).set i (some d)) elt s1).noex.bind fun r s3 => .ok (some r) s3) ds [] s).bind fun rs s' => .ok (.lst rs) s' := by
  simp [ev, target, mkL]
theorem rngL_map (lo : Int) (n : Nat) : rngL lo n = (List.range n).map fun i => .int (lo + (i : Nat)) := rfl
theorem rngL_len (lo : Int) (n : Nat) : (rngL lo n).length = n := by rw [rngL_map, List.length_map, List.length_range]
theorem rngL_mem {lo : Int} {n : Nat} {d : D} (h : d ∈ rngL lo n) : ∃ i, i < n ∧ d = .int (lo + (i : Nat)) := by
  rw [rngL_map] at h
  obtain ⟨i, h1, h2⟩ := List.mem_map.mp h
  exact ⟨i, List.mem_range.mp h1, h2.symm⟩
theorem inB_small {i : Int} (h0 : 0 ≤ i) (h1 : i < 1000000) : inB i = true := by
  unfold inB
  rw [Bool.and_eq_true, decide_eq_true_eq, decide_eq_true_eq]
  constructor <;> omega
theorem cat_list (x y : Str) : (x ++ y).cps.toList = x.cps.toList ++ y.cps.toList := by
  show (x.cps ++ y.cps).toList = _
  rw [Array.toList_append]
theorem slen (x : Str) : x.length = x.cps.toList.length := by rw [Array.length_toList]; rfl
theorem sz_small {n : Nat} (h : n ≤ 1000) : n ≤ SZ := by unfold SZ; omega
/-- letter by letter -/
theorem ix_ltr {i : Int} (h0 : 0 ≤ i) (h1 : i < 26) : index (.str "abcdefghijklmnopqrstuvwxyz") (.int i) = some (sgn (ltrs.getD i.toNat 0)) := by
  have hz : ("abcdefghijklmnopqrstuvwxyz" : Str).length ≤ SZ := by rw [slen]; exact sz_small (by rw [show ("abcdefghijklmnopqrstuvwxyz" : Str).cps.toList = ltrs from rfl, ltrs_len]; decide)
  have hl : i.toNat < ltrs.length := by rw [ltrs_len]; omega
  have hp : plc ltrs.length i = some i.toNat := by
    unfold plc
    rw [ltrs_len, if_pos h0, if_pos (by omega)]
  unfold index
  simp only [hz, if_true]
  show (plc ltrs.length i).bind (fun j => (ltrs[j]?).map sgn) = _
  rw [hp, Option.bind_some, List.getElem?_eq_getElem hl, List.getD_eq_getElem?_getD, List.getElem?_eq_getElem hl]
  rfl
theorem six_some {n d p : Nat} (hp : p ≤ n) : six n d (some (p : Nat)) = p := by
  have e : six n d (some (p : Int)) = (if (p : Int) < 0 then ((p : Int) + (n : Int)).toNat else min (p : Int).toNat n) := rfl
  rw [e, if_neg (by omega), Int.toNat_natCast]; omega
theorem sl_pre {x : Str} {p : Nat} (hx : x.length ≤ 1000) (hp : p ≤ x.cps.toList.length) : slice (.str x) none (some (p : Nat)) = some (.str ⟨(x.cps.toList.take p).toArray⟩) := by
  have hz := sz_small hx
  have e : cut x.cps.toList none (some (p : Int)) = x.cps.toList.take p := by
    unfold cut
    rw [six_some hp, show six x.cps.toList.length 0 none = 0 from rfl, List.drop_zero, Nat.sub_zero]
  unfold slice
  simp only [hz, if_true, e]
theorem sl_suf {x : Str} {p : Nat} (hx : x.length ≤ 1000) (hp : p ≤ x.cps.toList.length) : slice (.str x) (some (p : Nat)) none = some (.str ⟨(x.cps.toList.drop p).toArray⟩) := by
  have hz := sz_small hx
  have e : cut x.cps.toList (some (p : Int)) none = x.cps.toList.drop p := by
    unfold cut
    rw [six_some hp, show six x.cps.toList.length x.cps.toList.length none = x.cps.toList.length from rfl, List.take_of_length_le (by rw [List.length_drop]; exact Nat.le_refl _)]
  unfold slice
  simp only [hz, if_true, e]
theorem len_arr (l : List Nat) : (⟨l.toArray⟩ : Str).length = l.length := List.size_toArray ..
theorem sapp (l m : List Nat) : (⟨l.toArray⟩ : Str) ++ ⟨m.toArray⟩ = ⟨(l ++ m).toArray⟩ := by
  show (⟨l.toArray ++ m.toArray⟩ : Str) = _
  rw [List.append_toArray]
theorem badd {x y : Str} (h : x.length + y.length ≤ SZ) : bop .add (.str x) (.str y) = some (.str (x ++ y)) := by simp only [bop, h, if_true]
theorem rng1 {m : Nat} (h : m < 1000000) : rngOf [.int (m : Nat)] = some (rngL 0 m) := by
  simp [rngOf, inB_small (i := (m : Int)) (by omega) (by omega)]
theorem rng1' {i : Int} (h0 : 0 ≤ i) (h : i < 1000000) : rngOf [.int i] = some (rngL 0 i.toNat) := by
  simp [rngOf, inB_small h0 h]
theorem f2_sgn : ∀ {ds ys : List D}, F2 (fun _ y => ∃ c, c ∈ ltrs ∧ y = sgn c) ds ys → ∃ cs : List Nat, ys = cs.map sgn ∧ ∀ c ∈ cs, c ∈ ltrs
  | _, _, .nil => ⟨[], rfl, fun c hc => by cases hc⟩
  | _, _, .cons h r => by
    obtain ⟨c, c1, rfl⟩ := h
    obtain ⟨cs, rfl, hc⟩ := f2_sgn r
    exact ⟨c :: cs, rfl, fun d hd => (List.mem_cons.mp hd).elim (fun e => e ▸ c1) (hc d)⟩
theorem s_words {n b r : Nat} {st : Sto} {m : Nat} (h : Dr r st) (h0 : 0 < m) (h1 : m ≤ 3) : ∃ (ws : List Str) (st' : Sto), ws.length = m ∧ ws.Nodup ∧ (∀ w ∈ ws, Wd w) ∧ Up r st st' ∧ cal tb 10 (n + 4) b 44 [.ref r, .int m] st = .ok (.lst (ws.map .str)) st' := by
  have hr := h.len
  -- the base
  obtain ⟨v1, st1, a1, a2, u1, e1⟩ := s_next (n := n + 2) (b := st.length) h (m := 5) (by decide) (by decide)
  have hP := lcL_up (r := r) (n0 := st.length) (P := fun _ y => ∃ c, c ∈ ltrs ∧ y = sgn c) (f := fun d s1 => (ev tb (cal tb 10 (n + 3) st.length) st.length ((wipeE [some (.ref r), some (.int m), some (.str "abcdefghijklmnopqrstuvwxyz"), none, none, none, none, none, none] [8]).set 8 (some d)) (.call 43 [(.v 0), (.v 2)]) s1).noex.bind fun r s3 => .ok (some r) s3) hr (ds := rngL 0 v1.toNat) (acc := []) (st := st1)
    (fun d _ s2 hl hd => by
      obtain ⟨c, s3, c1, u, e⟩ := s_pickS (n := n + 1) (b := st.length) (s := "abcdefghijklmnopqrstuvwxyz") hd (by show 0 < ltrs.length; rw [ltrs_len]; decide) (by show ltrs.length < 1000; rw [ltrs_len]; decide)
      refine ⟨sgn c, s3, ⟨c, c1, rfl⟩, u, ?_⟩
      simp [ev, evs, wipeE, e]) u1.len (u1.dr hr) (by rw [List.length_nil, rngL_len]; unfold SZ; omega)
  obtain ⟨ys, st2, p2, u2, e2⟩ := hP
  have hcs := f2_sgn p2
  obtain ⟨cs, rfl, hcs⟩ := hcs
  have hlen : cs.length ≤ 4 := by
    have := p2.len
    rw [rngL_len, List.length_map] at this
    omega
  have hbl : (joinS ⟨#[]⟩ (cs.map fun c => (⟨#[c]⟩ : Str))).cps.toList = cs := joinS_sgn cs
  obtain ⟨base, hbase⟩ : ∃ base : Str, base = joinS ⟨#[]⟩ (cs.map fun c => (⟨#[c]⟩ : Str)) := ⟨_, rfl⟩
  rw [← hbase] at hbl
  have hjo : (((cs.map fun c => (⟨#[c]⟩ : Str)).map (·.length)).sum + (cs.map fun c => (⟨#[c]⟩ : Str)).length * (⟨#[]⟩ : Str).length ≤ SZ) := by
    have : ((cs.map fun c => (⟨#[c]⟩ : Str)).map (·.length)).sum = cs.length := by
      clear hbase hbl hcs e2 p2 hlen
      induction cs with
      | nil => rfl
      | cons c cs ih => rw [List.map_cons, List.map_cons, List.sum_cons, ih, List.length_cons]; show 1 + _ = _; omega
    rw [this, show (⟨#[]⟩ : Str).length = 0 from rfl]
    exact sz_small (by omega)
  have hb4 : base.length = cs.length := by rw [slen, hbl]
  obtain ⟨v2, st3, a3, a4, u3, e3⟩ := s_next (n := n + 2) (b := st.length) (u2.dr (by rw [u1.len]; exact hr)) (m := (cs.length : Int) + 1) (by omega) (by omega)
  have l2 : st2.length = st.length := by rw [u2.len, u1.len]
  have l3 : st3.length = st.length := by rw [u3.len, l2]
  obtain ⟨v3, st4, a5, a6, u4, e4⟩ := s_next (n := n + 2) (b := st.length) (u3.dr (by rw [l2]; exact hr)) (m := 26) (by decide) (by decide)
  have l4 : st4.length = st.length := by rw [u4.len, l3]
  obtain ⟨v4, st5, a7, a8, u5, e5⟩ := s_next (n := n + 2) (b := st.length) (u4.dr (by rw [l3]; exact hr)) (m := 3 * (m : Int) + 1) (by omega) (by omega)
  obtain ⟨p, rfl⟩ := Int.eq_ofNat_of_zero_le a3
  obtain ⟨first, rfl⟩ := Int.eq_ofNat_of_zero_le a5
  obtain ⟨far, rfl⟩ := Int.eq_ofNat_of_zero_le a7
  have hS : WdS cs p first := ⟨hcs, hlen, by omega⟩
  obtain ⟨C, hC⟩ : ∃ C, C = cal tb 10 (n + 3) st.length := ⟨_, rfl⟩
  rw [← hC] at e1 e3 e4 e5 e2
  -- the five values
  have k2 : ev tb C st.length [some (.ref r), some (.int m), none, none, none, none, none, none, none] (.k (.str "abcdefghijklmnopqrstuvwxyz")) st = .ok (.str "abcdefghijklmnopqrstuvwxyz") st := by simp only [ev]
  have k3 : ev tb C st.length [some (.ref r), some (.int m), some (.str "abcdefghijklmnopqrstuvwxyz"), none, none, none, none, none, none] (.bm .join (.k (.str "")) [(.lc false (.call 43 [(.v 0), (.v 2)]) [8] [8] false (.rng [(.call 42 [(.v 0), (.k (.int 5))])]) (.k (.bl true)))]) st = .ok (.str base) st2 := by
    refine e_bm e_k rfl (es_one (e_lc (w_rng (es_one (e_call (es_cons (e_v rfl) (es_one e_k)) e1)) (rng1' a1 (by omega))) e2 rfl)) ?_
    simp only [List.nil_append, bmt, strsOf_sgn, view]
    rw [if_pos (show (((cs.map fun c => (⟨#[c]⟩ : Str)).map (·.length)).sum + (cs.map fun c => (⟨#[c]⟩ : Str)).length * ("" : Str).length ≤ SZ) from hjo), hbase]
    rfl
  have hlb : (base.length : Int) = (cs.length : Nat) := by rw [hb4]
  have k4 : ev tb C st.length [some (.ref r), some (.int m), some (.str "abcdefghijklmnopqrstuvwxyz"), some (.str base), none, none, none, none, none] (.call 42 [(.v 0), (.bin .add (.bf .len false [(.v 3)]) (.k (.int 1)))]) st2 = .ok (.int (p : Nat)) st3 :=
    e_call (es_cons (e_v rfl) (es_one (e_bin (e_bf (es_one (e_v rfl)) (by simp only [List.map_cons, List.map_nil, view, bfn]; rw [if_pos (sz_small (by omega)), hlb])) e_k rfl))) e3
  have k5 : ev tb C st.length [some (.ref r), some (.int m), some (.str "abcdefghijklmnopqrstuvwxyz"), some (.str base), some (.int (p : Nat)), none, none, none, none] (.call 42 [(.v 0), (.k (.int 26))]) st3 = .ok (.int (first : Nat)) st4 :=
    e_call (es_cons (e_v rfl) (es_one e_k)) e4
  have k6 : ev tb C st.length [some (.ref r), some (.int m), some (.str "abcdefghijklmnopqrstuvwxyz"), some (.str base), some (.int (p : Nat)), some (.int (first : Nat)), none, none, none] (.lc false (.bin .add (.bin .add (.sl (.v 3) .nil (.v 4)) (.ix (.v 2) (.bin .mod (.bin .add (.v 5) (.v 8)) (.k (.int 26))))) (.sl (.v 3) (.v 4) .nil)) [8] [8] false (.rng [(.v 1)]) (.k (.bl true))) st4
      = .ok (.lst ((rngL 0 m).map fun d => match d with | .int k => .str ⟨(wd0 cs p first k.toNat).toArray⟩ | d => d)) st4 := by
    have hl : lcL (fun d s1 => (ev tb C st.length ((wipeE [some (.ref r), some (.int m), some (.str "abcdefghijklmnopqrstuvwxyz"), some (.str base), some (.int (p : Nat)), some (.int (first : Nat)), none, none, none] [8]).set 8 (some d)) (.bin .add (.bin .add (.sl (.v 3) .nil (.v 4)) (.ix (.v 2) (.bin .mod (.bin .add (.v 5) (.v 8)) (.k (.int 26))))) (.sl (.v 3) (.v 4) .nil)) s1).noex.bind fun r s3 => .ok (some r) s3) (rngL 0 m) [] st4 = .ok ([] ++ (rngL 0 m).map fun d => match d with | .int k => .str ⟨(wd0 cs p first k.toNat).toArray⟩ | d => d) st4 := by
      refine lcL_pure (fun d hd => ?_) (by rw [List.length_nil, rngL_len]; exact sz_small (by omega))
      obtain ⟨k, hk, rfl⟩ := rngL_mem hd
      have hp : p ≤ base.cps.toList.length := by rw [hbl]; exact hS.p
      have hb1 : base.length ≤ 1000 := by omega
      have hbs : base.cps.toList.length = cs.length := by rw [hbl]
      have q : ev tb C st.length [some (.ref r), some (.int m), some (.str "abcdefghijklmnopqrstuvwxyz"), some (.str base), some (.int (p : Nat)), some (.int (first : Nat)), none, none, some (.int (0 + (k : Nat)))] (.bin .add (.bin .add (.sl (.v 3) .nil (.v 4)) (.ix (.v 2) (.bin .mod (.bin .add (.v 5) (.v 8)) (.k (.int 26))))) (.sl (.v 3) (.v 4) .nil)) st4 = .ok (.str ⟨(wd0 cs p first k).toArray⟩) st4 := by
        refine e_bin (e_bin (e_sl (e_v rfl) eo_nil (eo_int (fun z => by cases z) (e_v rfl)) (sl_pre hb1 hp)) (e_ix (e_v rfl) (e_bin (e_bin (e_v rfl) (e_v rfl) rfl) e_k rfl) (ix_ltr (Int.emod_nonneg _ (by decide)) (Int.emod_lt_of_pos _ (by decide)))) (badd ?h1)) (e_sl (e_v rfl) (eo_int (fun z => by cases z) (e_v rfl)) eo_nil (sl_suf hb1 hp)) ?h2
        case h1 =>
          rw [len_arr, List.length_take]
          show _ + 1 ≤ SZ
          exact sz_small (by omega)
        case h2 =>
          have ec : (((first : Nat) : Int) + (0 + ((k : Nat) : Int))) % 26 = (((first + k) % 26 : Nat) : Int) := by omega
          show bop .add (.str (⟨(base.cps.toList.take p).toArray⟩ ++ ⟨[ltrs.getD ((((first : Nat) : Int) + (0 + ((k : Nat) : Int))) % 26).toNat 0].toArray⟩)) (.str ⟨(base.cps.toList.drop p).toArray⟩) = _
          rw [ec, Int.toNat_natCast, badd (by rw [sapp, len_arr, len_arr]; exact sz_small (by simp only [List.length_append, List.length_take, List.length_drop, List.length_singleton]; omega)), sapp, sapp, hbl]
          unfold wd0
          simp
      show (Rs.noex (ev tb C st.length [some (.ref r), some (.int m), some (.str "abcdefghijklmnopqrstuvwxyz"), some (.str base), some (.int (p : Nat)), some (.int (first : Nat)), none, none, some (.int (0 + (k : Nat)))] _ st4)).bind _ = _
      rw [q]
      simp
    exact e_lc (w_rng (es_one (e_v rfl)) (rng1 (by omega))) hl (by simp [mkL])
  have k7 : ev tb C st.length [some (.ref r), some (.int m), some (.str "abcdefghijklmnopqrstuvwxyz"), some (.str base), some (.int (p : Nat)), some (.int (first : Nat)), some (.lst ((rngL 0 m).map fun d => match d with | .int k => .str ⟨(wd0 cs p first k.toNat).toArray⟩ | d => d)), none, none] (.call 42 [(.v 0), (.bin .add (.bin .mul (.k (.int 3)) (.v 1)) (.k (.int 1)))]) st4 = .ok (.int (far : Nat)) st5 :=
    e_call (es_cons (e_v rfl) (es_one (e_bin (e_bin e_k (e_v rfl) (by simp only [view, bop]; rw [if_pos (by omega)])) e_k rfl))) e5
  have k8 : ev tb C st.length [some (.ref r), some (.int m), some (.str "abcdefghijklmnopqrstuvwxyz"), some (.str base), some (.int (p : Nat)), some (.int (first : Nat)), some (.lst ((rngL 0 m).map fun d => match d with | .int k => .str ⟨(wd0 cs p first k.toNat).toArray⟩ | d => d)), some (.int (far : Nat)), none] (.lc false (.ite (.cmp .ne (.v 8) (.v 7)) (.ix (.v 6) (.v 8)) (.bin .add (.k (.str "a")) (.ix (.v 6) (.v 8)))) [8] [8] false (.rng [(.v 1)]) (.k (.bl true))) st5
      = .ok (.lst ((rngL 0 m).map fun d => match d with | .int k => .str ⟨(wd cs p first far k.toNat).toArray⟩ | d => d)) st5 := by
    have hl : lcL (fun d s1 => (ev tb C st.length ((wipeE [some (.ref r), some (.int m), some (.str "abcdefghijklmnopqrstuvwxyz"), some (.str base), some (.int (p : Nat)), some (.int (first : Nat)), some (.lst ((rngL 0 m).map fun d => match d with | .int k => .str ⟨(wd0 cs p first k.toNat).toArray⟩ | d => d)), some (.int (far : Nat)), none] [8]).set 8 (some d)) (.ite (.cmp .ne (.v 8) (.v 7)) (.ix (.v 6) (.v 8)) (.bin .add (.k (.str "a")) (.ix (.v 6) (.v 8)))) s1).noex.bind fun r s3 => .ok (some r) s3) (rngL 0 m) [] st5 = .ok ([] ++ (rngL 0 m).map fun d => match d with | .int k => .str ⟨(wd cs p first far k.toNat).toArray⟩ | d => d) st5 := by
      refine lcL_pure (fun d hd => ?_) (by rw [List.length_nil, rngL_len]; exact sz_small (by omega))
      obtain ⟨k, hk, rfl⟩ := rngL_mem hd
      have hix : index (.lst ((rngL 0 m).map fun d => match d with | .int k => .str ⟨(wd0 cs p first k.toNat).toArray⟩ | d => d)) (.int (0 + (k : Nat))) = some (.str ⟨(wd0 cs p first k).toArray⟩) := by
        have hp : plc ((rngL 0 m).map fun d => match d with | .int k => D.str ⟨(wd0 cs p first k.toNat).toArray⟩ | d => d).length (0 + ((k : Nat) : Int)) = some k := by
          rw [List.length_map, rngL_len]; unfold plc; rw [if_pos (by omega), if_pos (by omega)]; congr 1; omega
        unfold index
        simp only [hp, Option.bind_some]
        rw [List.getElem?_map, rngL_map, List.getElem?_map, List.getElem?_range hk]
        simp
      have q : ev tb C st.length [some (.ref r), some (.int m), some (.str "abcdefghijklmnopqrstuvwxyz"), some (.str base), some (.int (p : Nat)), some (.int (first : Nat)), some (.lst ((rngL 0 m).map fun d => match d with | .int k => .str ⟨(wd0 cs p first k.toNat).toArray⟩ | d => d)), some (.int (far : Nat)), some (.int (0 + (k : Nat)))] (.ite (.cmp .ne (.v 8) (.v 7)) (.ix (.v 6) (.v 8)) (.bin .add (.k (.str "a")) (.ix (.v 6) (.v 8)))) st5 = .ok (.str ⟨(wd cs p first far k).toArray⟩) st5 := by
        by_cases hkf : k = far
        · subst hkf
          refine e_ite_f (e_cmp (k := false) (e_v rfl) (e_v rfl) (by simp [cop, view, D.fit, D.eqb])) (e_bin e_k (e_ix (e_v rfl) (e_v rfl) hix) ?_)
          show bop .add (.str ⟨[97].toArray⟩) (.str ⟨(wd0 cs p first k).toArray⟩) = _
          rw [badd (by rw [len_arr, len_arr, wd0_len hS]; exact sz_small (by simp; omega)), sapp]
          unfold wd
          rw [if_pos rfl]; rfl
        · refine e_ite_t (e_cmp (k := true) (e_v rfl) (e_v rfl) ?_) ?_
          · have : D.eqb (.int (0 + ((k : Nat) : Int))) (.int (far : Nat)) = false := by
              simp only [D.eqb]; rw [beq_eq_false_iff_ne]; omega
            show cop .ne (.int (0 + ((k : Nat) : Int))) (.int (far : Nat)) = some true
            unfold cop
            simp only [D.fit, Bool.and_self, if_true, this]; rfl
          · have hw : wd cs p first far k = wd0 cs p first k := by unfold wd; rw [if_neg hkf]
            rw [hw]
            exact e_ix (e_v rfl) (e_v rfl) hix
      show (Rs.noex (ev tb C st.length [some (.ref r), some (.int m), some (.str "abcdefghijklmnopqrstuvwxyz"), some (.str base), some (.int (p : Nat)), some (.int (first : Nat)), some (.lst ((rngL 0 m).map fun d => match d with | .int k => .str ⟨(wd0 cs p first k.toNat).toArray⟩ | d => d)), some (.int (far : Nat)), some (.int (0 + (k : Nat)))] _ st5)).bind _ = _
      rw [q]
      simp
    exact e_lc (w_rng (es_one (e_v rfl)) (rng1 (by omega))) hl (by simp [mkL])
  refine ⟨(List.range m).map fun k => ⟨(wd cs p first far k).toArray⟩, st5, by rw [List.length_map, List.length_range], ?_, fun x hx => ?_, ((((u1.trans u2).trans u3).trans u4).trans u5), ?_⟩
  · unfold List.Nodup
    rw [List.pairwise_map]
    refine List.Pairwise.imp_of_mem (fun {i j} hi hj hij e => ?_) (List.nodup_range (n := m))
    have hi := List.mem_range.mp hi
    have hj := List.mem_range.mp hj
    have e2 : wd cs p first far i = wd cs p first far j := by
      have := congrArg (fun s : Str => s.cps.toList) e
      simpa using this
    exact hij (wd_inj hS (by omega) (by omega) e2)
  · obtain ⟨k, hk, rfl⟩ := List.mem_map.mp hx
    exact wd_ok hS rfl
  · rw [cal_at (f := f44) rfl rfl rfl, ← hC]
    have el : ((rngL 0 m).map fun d => match d with | .int k => D.str ⟨(wd cs p first far k.toNat).toArray⟩ | d => d) = ((List.range m).map fun k => (⟨(wd cs p first far k).toArray⟩ : Str)).map .str := by
      rw [rngL_map, List.map_map, List.map_map]
      refine List.map_congr_left fun k _ => ?_
      simp
    have hnr : D.nr (.lst (((List.range m).map fun k => (⟨(wd cs p first far k).toArray⟩ : Str)).map .str)) = true := by
      simp only [D.nr]
      exact nrs_of fun d hd => by obtain ⟨x, _, rfl⟩ := List.mem_map.mp hd; rfl
    have ex : xss tb C st.length 10 f44.body ([D.ref r, .int m].map some ++ List.replicate (f44.ns - f44.np) none) st = .ok (.rt (.lst (((List.range m).map fun k => (⟨(wd cs p first far k).toArray⟩ : Str)).map .str))) st5 := by
      rw [← el]
      refine (x_set k2).trans ((x_set k3).trans ((x_set k4).trans ((x_set k5).trans ((x_set k6).trans ((x_set k7).trans (x_ret k8 (frz_id ?_)))))))
      rw [el]; exact hnr
    rw [ex, end_rt hnr, ((((u1.trans u2).trans u3).trans u4).trans u5).take]
/-! ### what is told -/
def Nm (n : Int) : Prop := 0 ≤ n ∧ n ≤ 999999999
inductive Rw where
  | put (b : Str) (n : Int) | rd (nm b : Str) | sw (nm b : Str) (n : Int) | fc | sk (m : Int) (nm : Str) (n : Int)
def Rw.d : Rw → D
  | .put b n => .tup [.str "put", .str b, .int n]
  | .rd nm b => .tup [.str "read", .str nm, .str b]
  | .sw nm b n => .tup [.str "swap", .str nm, .str b, .int n]
  | .fc => .tup [.str "fence"]
  | .sk m nm n => .tup [.str "skip", .int m, .str nm, .int n]
def Rw.ok (bs ns : List Str) : Rw → Prop
  | .put b n => b ∈ bs ∧ Nm n
  | .rd nm b => nm ∈ ns ∧ b ∈ bs
  | .sw nm b n => nm ∈ ns ∧ b ∈ bs ∧ Nm n
  | .fc => True
  | .sk m nm n => 1 ≤ m ∧ m ≤ 12 ∧ nm ∈ ns ∧ Nm n
def bxD (p : Str × Int) : D := .tup [.str p.1, .int p.2]
theorem view_dr {r : Nat} {st : Sto} {x : Int} (h : st[r]? = some (.lst [.int x])) : view st (.ref r) = .lst [.int x] := by simp [view, h]
theorem rwd_nr (x : Rw) : D.nr x.d = true := by cases x <;> rfl
theorem s_numbers {n b r : Nat} {st : Sto} (h : Dr r st) : ∃ (ns : List Int) (st' : Sto), 0 < ns.length ∧ ns.length ≤ 3 ∧ (∀ v ∈ ns, Nm v) ∧ Up r st st' ∧ cal tb 10 (n + 3) b 45 [.ref r] st = .ok (.lst (ns.map .int)) st' := by
  obtain ⟨x, hx⟩ := id h
  have hf : Nm (x * 48271 % 1000000000) := ⟨Int.emod_nonneg _ (by decide), by have := Int.emod_lt_of_pos (x * 48271) (b := 1000000000) (by decide); omega⟩
  obtain ⟨far, hfar⟩ : ∃ far, far = x * 48271 % 1000000000 := ⟨_, rfl⟩
  rw [← hfar] at hf
  obtain ⟨d, st1, d1, u1, e1⟩ := s_pick (n := n) (b := st.length) (xs := [.lst [.int 0, .int 1], .lst [.int 0, .int far], .lst [.int far, .int 999999999, .int 0], .lst [.int 1, .int 2, .int 3], .lst [.int far]]) h (by simp) (by simp) (by
    intro d hd
    simp only [List.mem_cons, List.not_mem_nil, or_false] at hd
    rcases hd with rfl | rfl | rfl | rfl | rfl <;> rfl)
  have key : ∃ ns : List Int, d = .lst (ns.map .int) ∧ 0 < ns.length ∧ ns.length ≤ 3 ∧ ∀ v ∈ ns, Nm v := by
    have n0 : Nm 0 := ⟨by decide, by decide⟩
    have n1 : Nm 1 := ⟨by decide, by decide⟩
    have n2 : Nm 2 := ⟨by decide, by decide⟩
    have n3 : Nm 3 := ⟨by decide, by decide⟩
    have n9 : Nm 999999999 := ⟨by decide, by decide⟩
    simp only [List.mem_cons, List.not_mem_nil, or_false] at d1
    rcases d1 with rfl | rfl | rfl | rfl | rfl
    · exact ⟨[0, 1], rfl, by decide, by decide, by intro v hv; simp at hv; rcases hv with rfl | rfl <;> assumption⟩
    · exact ⟨[0, far], rfl, by simp, by simp, by intro v hv; simp at hv; rcases hv with rfl | rfl <;> assumption⟩
    · exact ⟨[far, 999999999, 0], rfl, by simp, by simp, by intro v hv; simp at hv; rcases hv with rfl | rfl | rfl <;> assumption⟩
    · exact ⟨[1, 2, 3], rfl, by decide, by decide, by intro v hv; simp at hv; rcases hv with rfl | rfl | rfl <;> assumption⟩
    · exact ⟨[far], rfl, by simp, by simp, by intro v hv; simp at hv; subst hv; assumption⟩
  obtain ⟨ns, rfl, k1, k2, k3⟩ := key
  refine ⟨ns, st1, k1, k2, k3, u1, ?_⟩
  have hnr : D.nr (.lst (ns.map .int)) = true := by
    simp only [D.nr]
    exact nrs_of fun d hd => by obtain ⟨x, _, rfl⟩ := List.mem_map.mp hd; rfl
  rw [cal_at (f := f45) rfl rfl rfl]
  have q1 : ev tb (cal tb 10 (n + 2) st.length) st.length [some (.ref r), none] (.bin .mod (.bin .mul (.ix (.v 0) (.k (.int 0))) (.k (.int 48271))) (.k (.int 1000000000))) st = .ok (.int far) st := by
    refine e_bin (e_bin (e_ix (d := .int x) (e_v rfl) e_k (by rw [view_dr hx]; rfl)) e_k (d := .int (x * 48271)) (by simp [view, bop])) e_k (by simp [view, bop, hfar])
  have ex : xss tb (cal tb 10 (n + 2) st.length) st.length 10 f45.body ([D.ref r].map some ++ List.replicate (f45.ns - f45.np) none) st = .ok (.rt (.lst (ns.map .int))) st1 := by
    refine (x_set q1).trans (x_ret (e_call (es_cons (e_v rfl) (es_one (e_lst (lv := false) (ds := [.lst [.int 0, .int 1], .lst [.int 0, .int far], .lst [.int far, .int 999999999, .int 0], .lst [.int 1, .int 2, .int 3], .lst [.int far]]) ?_ (by simp [SZ])))) e1) (frz_id hnr))
    have l : ∀ {es : List Ex} {ds : List D} {ρ : Env}, evs tb (cal tb 10 (n + 2) st.length) st.length ρ es st = .ok ds st → ds.length ≤ SZ → ev tb (cal tb 10 (n + 2) st.length) st.length ρ (.lst false es) st = .ok (.lst ds) st := fun {es ds ρ} h hz => by rw [e_lst h hz]; rfl
    exact es_cons (l (es_cons e_k (es_one e_k)) (by simp [SZ])) (es_cons (l (es_cons e_k (es_one (e_v rfl))) (by simp [SZ])) (es_cons (l (es_cons (e_v rfl) (es_cons e_k (es_one e_k))) (by simp [SZ])) (es_cons (l (es_cons e_k (es_cons e_k (es_one e_k))) (by simp [SZ])) (es_one (l (es_one (e_v rfl)) (by simp [SZ]))))))
  rw [ex, end_rt hnr, u1.take]
theorem walk_lst {st : Sto} {xs : List D} : walkOf (still st (.lst xs)) = some xs := rfl
/-- pairs of words and numbers -/
theorem f2_bx : ∀ {ws : List Str} {ys : List D}, F2 (fun d y => ∃ w v, d = D.str w ∧ Nm v ∧ y = bxD (w, v)) (ws.map .str) ys → ∃ bx : List (Str × Int), ys = bx.map bxD ∧ bx.map (·.1) = ws ∧ ∀ p ∈ bx, Nm p.2
  | [], _, .nil => ⟨[], rfl, rfl, fun p hp => by cases hp⟩
  | w :: ws, _, .cons h r => by
    obtain ⟨w', v, e, hv, rfl⟩ := h
    cases e
    obtain ⟨bx, rfl, h1, h2⟩ := f2_bx r
    refine ⟨(w, v) :: bx, rfl, by rw [List.map_cons, h1], fun p hp => ?_⟩
    rcases List.mem_cons.mp hp with e | hp
    · rw [e]; exact hv
    · exact h2 p hp
theorem s_boxes {n b r : Nat} {st : Sto} {m : Nat} {ns : List Int} (h : Dr r st) (h0 : 0 < m) (h1 : m ≤ 3) (k0 : 0 < ns.length) (k1 : ns.length ≤ 3) (k2 : ∀ v ∈ ns, Nm v) :
    ∃ (bx : List (Str × Int)) (st' : Sto), bx.length = m ∧ (bx.map (·.1)).Nodup ∧ (∀ p ∈ bx, Wd p.1 ∧ Nm p.2) ∧ Up r st st' ∧ cal tb 10 (n + 5) b 46 [.ref r, .int m, .lst (ns.map .int)] st = .ok (.tup (bx.map bxD)) st' := by
  have hr := h.len
  obtain ⟨ws, st1, w1, w2, w3, u1, e1⟩ := s_words (n := n) (b := st.length) h h0 h1
  have hP := lcL_up (r := r) (n0 := st.length) (P := fun d y => ∃ w v, d = .str w ∧ Nm v ∧ y = bxD (w, v)) (f := fun d s1 => (ev tb (cal tb 10 (n + 4) st.length) st.length ((wipeE [some (.ref r), some (.int m), some (.lst (ns.map .int)), none] [3]).set 3 (some d)) (.tup [(.v 3), (.call 43 [(.v 0), (.v 2)])]) s1).noex.bind fun r s3 => .ok (some r) s3) hr (ds := ws.map .str) (acc := []) (st := st1)
    (fun d hd s2 hl hd2 => by
      obtain ⟨w, hw, rfl⟩ := List.mem_map.mp hd
      obtain ⟨c, s3, c1, u, e⟩ := s_pick (n := n + 2) (b := st.length) (xs := ns.map .int) hd2 (by rw [List.length_map]; exact k0) (by rw [List.length_map]; omega) (fun d hd => by obtain ⟨v, _, rfl⟩ := List.mem_map.mp hd; rfl)
      obtain ⟨v, hv, rfl⟩ := List.mem_map.mp c1
      refine ⟨bxD (w, v), s3, ⟨w, v, rfl, k2 v hv, rfl⟩, u, ?_⟩
      have q : ev tb (cal tb 10 (n + 4) st.length) st.length [some (.ref r), some (.int m), some (.lst (ns.map .int)), some (.str w)] (.tup [(.v 3), (.call 43 [(.v 0), (.v 2)])]) s2 = .ok (bxD (w, v)) s3 :=
        e_tup (es_cons (e_v rfl) (es_one (e_call (es_cons (e_v rfl) (es_one (e_v rfl))) e))) (by simp [SZ])
      show (Rs.noex (ev tb (cal tb 10 (n + 4) st.length) st.length [some (.ref r), some (.int m), some (.lst (ns.map .int)), some (.str w)] _ s2)).bind _ = _
      rw [q]; simp) u1.len (u1.dr hr) (by rw [List.length_nil, List.length_map]; exact sz_small (by omega))
  obtain ⟨ys, st2, p2, u2, e2⟩ := hP
  have hbx := f2_bx p2
  obtain ⟨bx, rfl, b1, b2⟩ := hbx
  have hnr : D.nr (.tup (bx.map bxD)) = true := by
    simp only [D.nr]
    exact nrs_of fun d hd => by obtain ⟨x, _, rfl⟩ := List.mem_map.mp hd; rfl
  refine ⟨bx, st2, by rw [← w1, ← b1, List.length_map], by rw [b1]; exact w2, fun p hp => ⟨w3 _ (by rw [← b1]; exact List.mem_map.mpr ⟨p, hp, rfl⟩), b2 p hp⟩, u1.trans u2, ?_⟩
  rw [cal_at (f := f46) rfl rfl rfl]
  have ex : xss tb (cal tb 10 (n + 4) st.length) st.length 10 f46.body ([D.ref r, .int m, .lst (ns.map .int)].map some ++ List.replicate (f46.ns - f46.np) none) st = .ok (.rt (.tup (bx.map bxD))) st2 := by
    refine x_ret (e_bf (es_one (e_lc (w_val rfl (e_call (es_cons (e_v rfl) (es_one (e_v rfl))) e1) walk_lst) e2 rfl)) ?_) (frz_id hnr)
    rfl
  rw [ex, end_rt hnr, (u1.trans u2).take]
theorem s_pickT {n b r : Nat} {st : Sto} {xs : List D} (h : Dr r st) (h0 : 0 < xs.length) (h1 : xs.length < 1000) (hn : ∀ d ∈ xs, D.nr d = true) : ∃ (d : D) (st' : Sto), d ∈ xs ∧ Up r st st' ∧ cal tb 10 (n + 2) b 43 [.ref r, .tup xs] st = .ok d st' := by
  obtain ⟨v, st', v0, v1, u, e⟩ := s_next (n := n) (b := st.length) h (m := (xs.length : Nat)) (by omega) (by omega)
  have hv : v.toNat < xs.length := by omega
  refine ⟨xs[v.toNat], st', List.getElem_mem hv, u, ?_⟩
  have hv1 : v < (xs.length : Int) := v1
  rw [cal_at (f := f43) rfl rfl rfl]
  have hn' := hn _ (List.getElem_mem hv)
  simp [f43, xss, LS.xs, ev, evs, view, index, plc, bfn, e, v0, hv1, hv, ending, frz_id hn', hn', u.take]
theorem c_lt {i j : Int} {k : Bool} (h : decide (i < j) = k) : cop .lt (.int i) (.int j) = some k := by rw [← h]; rfl
theorem c_eqI {i j : Int} {k : Bool} (h : (i == j) = k) : cop .eq (.int i) (.int j) = some k := by rw [← h]; rfl
theorem s_row {n b r : Nat} {st : Sto} {bx : List (Str × Int)} {ws : List Str} {ns : List Int} (h : Dr r st) (b0 : 0 < bx.length) (b1 : bx.length ≤ 3) (w0 : 0 < ws.length) (w1 : ws.length ≤ 3) (k0 : 0 < ns.length) (k1 : ns.length ≤ 3) (k2 : ∀ v ∈ ns, Nm v) :
    ∃ (x : Rw) (st' : Sto), x.ok (bx.map (·.1)) ws ∧ Up r st st' ∧ cal tb 10 (n + 5) b 47 [.ref r, .tup (bx.map bxD), .lst (ws.map .str), .lst (ns.map .int)] st = .ok x.d st' := by
  have hr := h.len
  obtain ⟨d1, st1, m1, u1, e1⟩ := s_pickT (n := n + 2) (b := st.length) (xs := bx.map bxD) h (by rw [List.length_map]; exact b0) (by rw [List.length_map]; omega) (fun d hd => by obtain ⟨v, _, rfl⟩ := List.mem_map.mp hd; rfl)
  obtain ⟨⟨bw, bn⟩, hb, rfl⟩ := List.mem_map.mp m1
  have hbw : bw ∈ bx.map (·.1) := List.mem_map.mpr ⟨(bw, bn), hb, rfl⟩
  obtain ⟨d2, st2, m2, u2, e2⟩ := s_pick (n := n + 2) (b := st.length) (xs := ws.map .str) (u1.dr hr) (by rw [List.length_map]; exact w0) (by rw [List.length_map]; omega) (fun d hd => by obtain ⟨v, _, rfl⟩ := List.mem_map.mp hd; rfl)
  obtain ⟨nm, hnm, rfl⟩ := List.mem_map.mp m2
  have l1 := u1.len
  have l2 : st2.length = st.length := by rw [u2.len, l1]
  obtain ⟨d3, st3, m3, u3, e3⟩ := s_pick (n := n + 2) (b := st.length) (xs := ns.map .int) (u2.dr (by omega)) (by rw [List.length_map]; exact k0) (by rw [List.length_map]; omega) (fun d hd => by obtain ⟨v, _, rfl⟩ := List.mem_map.mp hd; rfl)
  obtain ⟨nn, hnn, rfl⟩ := List.mem_map.mp m3
  have l3 : st3.length = st.length := by rw [u3.len, l2]
  obtain ⟨v, st4, v0, v1, u4, e4⟩ := s_next (n := n + 3) (b := st.length) (u3.dr (by omega)) (m := 9) (by decide) (by decide)
  have l4 : st4.length = st.length := by rw [u4.len, l3]
  have U := ((u1.trans u2).trans u3).trans u4
  have hN := k2 nn hnn
  rw [cal_at (f := f47) rfl rfl rfl]
  obtain ⟨C, hC⟩ : ∃ C, C = cal tb 10 (n + 4) st.length := ⟨_, rfl⟩
  rw [← hC] at e1 e2 e3 e4 ⊢
  have pre : ∀ {R : Rs Fl}, xss tb C st.length 10 (f47.body.drop 4) [some (.ref r), some (.tup (bx.map bxD)), some (.lst (ws.map .str)), some (.lst (ns.map .int)), some (.str bw), some (.str nm), some (.int nn), some (.int v)] st4 = R →
      xss tb C st.length 10 f47.body ([D.ref r, .tup (bx.map bxD), .lst (ws.map .str), .lst (ns.map .int)].map some ++ List.replicate (f47.ns - f47.np) none) st = R := fun {R} h =>
    (x_set (e_ix (e_call (es_cons (e_v rfl) (es_one (e_v rfl))) e1) e_k rfl)).trans ((x_set (e_call (es_cons (e_v rfl) (es_one (e_v rfl))) e2)).trans ((x_set (e_call (es_cons (e_v rfl) (es_one (e_v rfl))) e3)).trans ((x_set (e_call (es_cons (e_v rfl) (es_one e_k)) e4)).trans h)))
  by_cases c1 : v < 3
  · refine ⟨.put bw nn, st4, ⟨hbw, hN⟩, U, ?_⟩
    rw [pre (x_iff_ret (e_cmp (k := true) (e_v rfl) e_k (c_lt (by simp [c1]))) (x_ret (e_tup (es_cons e_k (es_cons (e_v rfl) (es_one (e_v rfl)))) (by simp [SZ])) (frz_id rfl))), end_rt rfl, U.take]
    rfl
  by_cases c2 : v < 6
  · refine ⟨.rd nm bw, st4, ⟨hnm, hbw⟩, U, ?_⟩
    rw [pre ((x_iff_no (e_cmp (k := false) (e_v rfl) e_k (c_lt (by simp [c1])))).trans (x_iff_ret (e_cmp (k := true) (e_v rfl) e_k (c_lt (by simp [c2]))) (x_ret (e_tup (es_cons e_k (es_cons (e_v rfl) (es_one (e_v rfl)))) (by simp [SZ])) (frz_id rfl)))), end_rt rfl, U.take]
    rfl
  by_cases c3 : v = 6
  · refine ⟨.sw nm bw nn, st4, ⟨hnm, hbw, hN⟩, U, ?_⟩
    rw [pre ((x_iff_no (e_cmp (k := false) (e_v rfl) e_k (c_lt (by simp [c1])))).trans ((x_iff_no (e_cmp (k := false) (e_v rfl) e_k (c_lt (by simp [c2])))).trans (x_iff_ret (e_cmp (k := true) (e_v rfl) e_k (c_eqI (by simp [c3]))) (x_ret (e_tup (es_cons e_k (es_cons (e_v rfl) (es_cons (e_v rfl) (es_one (e_v rfl))))) (by simp [SZ])) (frz_id rfl))))), end_rt rfl, U.take]
    rfl
  by_cases c4 : v = 7
  · refine ⟨.fc, st4, trivial, U, ?_⟩
    rw [pre ((x_iff_no (e_cmp (k := false) (e_v rfl) e_k (c_lt (by simp [c1])))).trans ((x_iff_no (e_cmp (k := false) (e_v rfl) e_k (c_lt (by simp [c2])))).trans ((x_iff_no (e_cmp (k := false) (e_v rfl) e_k (c_eqI (by simp [c3])))).trans (x_iff_ret (e_cmp (k := true) (e_v rfl) e_k (c_eqI (by simp [c4]))) (x_ret (e_tup (es_one e_k) (by simp [SZ])) (frz_id rfl)))))), end_rt rfl, U.take]
    rfl
  · obtain ⟨d5, st5, m5, u5, e5⟩ := s_pick (n := n + 2) (b := st.length) (xs := [.int 2, .int 2, .int 12]) (u4.dr (by omega)) (by decide) (by decide) (fun d hd => by
      simp only [List.mem_cons, List.not_mem_nil, or_false] at hd
      rcases hd with rfl | rfl | rfl <;> rfl)
    have hm : ∃ m : Int, d5 = .int m ∧ 2 ≤ m ∧ m ≤ 12 := by
      simp only [List.mem_cons, List.not_mem_nil, or_false] at m5
      rcases m5 with rfl | rfl | rfl
      · exact ⟨2, rfl, by decide, by decide⟩
      · exact ⟨2, rfl, by decide, by decide⟩
      · exact ⟨12, rfl, by decide, by decide⟩
    obtain ⟨m, rfl, hm1, hm2⟩ := hm
    have l5 : st5.length = st.length := by rw [u5.len, l4]
    obtain ⟨q, st6, q0, q1, u6, e6⟩ := s_next (n := n + 3) (b := st.length) (u5.dr (by omega)) (m := m) (by omega) (by omega)
    rw [← hC] at e5 e6
    have U2 := (U.trans u5).trans u6
    refine ⟨.sk (1 + q) nm nn, st6, ⟨by omega, by omega, hnm, hN⟩, U2, ?_⟩
    rw [pre ((x_iff_no (e_cmp (k := false) (e_v rfl) e_k (c_lt (by simp [c1])))).trans ((x_iff_no (e_cmp (k := false) (e_v rfl) e_k (c_lt (by simp [c2])))).trans ((x_iff_no (e_cmp (k := false) (e_v rfl) e_k (c_eqI (by simp [c3])))).trans ((x_iff_no (e_cmp (k := false) (e_v rfl) e_k (c_eqI (by simp [c4])))).trans
      (x_ret (e_tup (es_cons e_k (es_cons (e_bin e_k (e_call (es_cons (e_v rfl) (es_one (e_call (es_cons (e_v rfl) (es_one ((e_lst (es_cons e_k (es_cons e_k (es_one e_k))) (by simp [SZ])).trans rfl))) e5))) e6) rfl) (es_cons (e_v rfl) (es_one (e_v rfl))))) (by simp [SZ])) (frz_id rfl)))))), end_rt rfl, U2.take]
    rfl
/-! ### hands -/
theorem forL_inv {f : D → Env → Sto → Rs Fl} {I : Nat → Env → Sto → Prop} {ds : List D} (step : ∀ i d ρ st, ds[i]? = some d → I i ρ st → ∃ ρ' st', f d ρ st = .ok (.nx ρ') st' ∧ I (i + 1) ρ' st') {ρ : Env} {st : Sto} (h : I 0 ρ st) :
    ∃ ρ' st', forL f ds ρ st = .ok (.nx ρ') st' ∧ I ds.length ρ' st' := by
  have key : ∀ (m i : Nat), i + m = ds.length → ∀ ρ st, I i ρ st → ∃ ρ' st', forL f (ds.drop i) ρ st = .ok (.nx ρ') st' ∧ I ds.length ρ' st' := by
    intro m
    induction m with
    | zero =>
      intro i hi ρ st hI
      have : i = ds.length := by omega
      subst this
      rw [List.drop_length]
      exact ⟨ρ, st, rfl, hI⟩
    | succ m ih =>
      intro i hi ρ st hI
      have hlt : i < ds.length := by omega
      rw [List.drop_eq_getElem_cons hlt]
      obtain ⟨ρ1, st1, e1, h1⟩ := step i _ ρ st (List.getElem?_eq_getElem hlt) hI
      obtain ⟨ρ2, st2, e2, h2⟩ := ih (i + 1) (by omega) ρ1 st1 h1
      exact ⟨ρ2, st2, by rw [forL, e1]; exact e2, h2⟩
  exact key ds.length 0 (Nat.zero_add _) ρ st h
theorem view_live {s : Sto} {xs : List D} : view (s ++ [.lst xs]) (.ref s.length) = .lst xs := by
  have : (s ++ [Ent.lst xs])[s.length]? = some (.lst xs) := by rw [List.getElem?_append_right (Nat.le_refl _), Nat.sub_self]; rfl
  simp [view, this]
theorem app_ok {s : Sto} {xs : List D} {d : D} {b n : Nat} (hb : b ≤ s.length) (hn : n = s.length) (hz : xs.length < SZ) : bmt .append b (.ref n) (view (s ++ [.lst xs]) (.ref n)) [d] (s ++ [.lst xs]) = .ok .non (s ++ [.lst (xs ++ [d])]) := by
  subst hn
  rw [view_live]
  have h1 : (s ++ [Ent.lst xs])[s.length]? = some (.lst xs) := by rw [List.getElem?_append_right (Nat.le_refl _), Nat.sub_self]; rfl
  have h2 : (s ++ [Ent.lst xs]).set s.length (.lst (xs ++ [d])) = s ++ [.lst (xs ++ [d])] := by rw [List.set_append_right _ _ (Nat.le_refl _), Nat.sub_self]; rfl
  simp [bmt, wr, h1, liveE, hb, h2, hz]
def hdD (h : List Rw) : D := .tup (h.map Rw.d)
theorem hd_nr (h : List Rw) : D.nr (hdD h) = true := by
  simp only [hdD, D.nr]
  exact nrs_of fun d hd => by obtain ⟨x, _, rfl⟩ := List.mem_map.mp hd; exact rwd_nr x
def HOk (bs : List Str) (h : List Rw) : Prop := ∃ ws : List Str, ws.Nodup ∧ (∀ w ∈ ws, Wd w) ∧ ws.length ≤ 3 ∧ ∀ x ∈ h, x.ok bs ws
theorem f2_rw {bs ws : List Str} : ∀ {ds ys : List D}, F2 (fun _ y => ∃ x : Rw, x.ok bs ws ∧ y = x.d) ds ys → ∃ h : List Rw, ys = h.map Rw.d ∧ h.length = ds.length ∧ ∀ x ∈ h, x.ok bs ws
  | _, _, .nil => ⟨[], rfl, rfl, fun p hp => by cases hp⟩
  | _, _, .cons h r => by
    obtain ⟨x, hx, rfl⟩ := h
    obtain ⟨xs, rfl, h1, h2⟩ := f2_rw r
    refine ⟨x :: xs, rfl, by rw [List.length_cons, List.length_cons, h1], fun p hp => ?_⟩
    rcases List.mem_cons.mp hp with e | hp
    · rw [e]; exact hx
    · exact h2 p hp
theorem s_told {n b r : Nat} {st : Sto} {H : Nat} {R : Int} (h : Dr r st) (h1 : H ≤ 3) (r0 : 0 ≤ R) (r1 : R ≤ 8) :
    ∃ (bx : List (Str × Int)) (hs : List (List Rw)) (st' : Sto), 0 < bx.length ∧ bx.length ≤ 3 ∧ (bx.map (·.1)).Nodup ∧ (∀ p ∈ bx, Wd p.1 ∧ Nm p.2) ∧ hs.length = H ∧ (∀ x ∈ hs, x.length ≤ 8 ∧ HOk (bx.map (·.1)) x) ∧ Up r st st' ∧
      cal tb 10 (n + 6) b 48 [.ref r, .int H, .int R] st = .ok (.tup [.tup (bx.map bxD), .tup (hs.map hdD)]) st' := by
  have hr := h.len
  obtain ⟨ns, st1, k0, k1, k2, u1, e1⟩ := s_numbers (n := n + 2) (b := st.length) h
  have l1 := u1.len
  obtain ⟨v, st2, v0, v1, u2, e2⟩ := s_next (n := n + 4) (b := st.length) (u1.dr hr) (m := 3) (by decide) (by decide)
  have l2 : st2.length = st.length := by rw [u2.len, l1]
  obtain ⟨v, rfl⟩ := Int.eq_ofNat_of_zero_le v0
  obtain ⟨bx, st3, b1, b2, b3, u3, e3⟩ := s_boxes (n := n) (b := st.length) (u2.dr (by omega)) (m := v + 1) (by omega) (by omega) k0 k1 k2
  have l3 : st3.length = st.length := by rw [u3.len, l2]
  have U3 := (u1.trans u2).trans u3
  obtain ⟨C, hC⟩ : ∃ C, C = cal tb 10 (n + 5) st.length := ⟨_, rfl⟩
  have loop : ∃ ρ' st', forL (fun d ρ1 s1 => match target ρ1 [6] false d with
      | some ρ2 => xss tb C st.length 10 [(.set 7 (.call 44 [(.v 0), (.bin .add (.k (.int 1)) (.call 42 [(.v 0), (.k (.int 3))]))])), (.ex (.bm .append (.v 5) [(.bf .tuple false [(.lc false (.call 47 [(.v 0), (.v 4), (.v 7), (.v 3)]) [8] [8] false (.rng [(.call 42 [(.v 0), (.bin .add (.v 2) (.k (.int 1)))])]) (.k (.bl true)))])]))] ρ2 s1
      | none => .no) (rngL 0 H) [some (.ref r), some (.int H), some (.int R), some (.lst (ns.map .int)), some (.tup (bx.map bxD)), some (.ref st.length), none, none, none] (st3 ++ [.lst []]) = .ok (.nx ρ') st' ∧
      (∃ a c, ρ' = [some (.ref r), some (.int H), some (.int R), some (.lst (ns.map .int)), some (.tup (bx.map bxD)), some (.ref st.length), a, c, none]) ∧ ∃ (s : Sto) (hs : List (List Rw)), st' = s ++ [.lst (hs.map hdD)] ∧ Up r st3 s ∧ hs.length = (rngL 0 H).length ∧ ∀ x ∈ hs, x.length ≤ 8 ∧ HOk (bx.map (·.1)) x := by
    refine forL_inv (I := fun i ρ st' => (∃ a c, ρ = [some (.ref r), some (.int H), some (.int R), some (.lst (ns.map .int)), some (.tup (bx.map bxD)), some (.ref st.length), a, c, none]) ∧ ∃ (s : Sto) (hs : List (List Rw)), st' = s ++ [.lst (hs.map hdD)] ∧ Up r st3 s ∧ hs.length = i ∧ ∀ x ∈ hs, x.length ≤ 8 ∧ HOk (bx.map (·.1)) x) (fun i d ρ st' hd hI => ?_)
      ⟨⟨none, none, rfl⟩, st3, [], rfl, Up.refl (u3.dr (by omega)), rfl, fun x hx => by cases hx⟩
    obtain ⟨⟨a, c, rfl⟩, s, hs, rfl, us, hl, ho⟩ := hI
    have hi : i < H := by have := (List.getElem?_eq_some_iff.mp hd).1; rw [rngL_len] at this; exact this
    have ls : s.length = st.length := by rw [us.len, l3]
    have hds : Dr r s := us.dr (by omega)
    -- how many names
    obtain ⟨q, t1, q0, q1, w1, g1⟩ := s_next (n := n + 4) (b := st.length) (hds.app (e := .lst (hs.map hdD))) (m := 3) (by decide) (by decide)
    obtain ⟨s1, ws1, rfl⟩ := w1.app (by omega)
    obtain ⟨q, rfl⟩ := Int.eq_ofNat_of_zero_le q0
    have ls1 : s1.length = st.length := by rw [ws1.len, ls]
    obtain ⟨ws, t2, x1, x2, x3, w2, g2⟩ := s_words (n := n + 1) (b := st.length) ((ws1.dr (by omega)).app (e := .lst (hs.map hdD))) (m := q + 1) (by omega) (by omega)
    obtain ⟨s2, ws2, rfl⟩ := w2.app (by omega)
    have ls2 : s2.length = st.length := by rw [ws2.len, ls1]
    obtain ⟨z, t3, z0, z1, w3, g3⟩ := s_next (n := n + 4) (b := st.length) ((ws2.dr (by omega)).app (e := .lst (hs.map hdD))) (m := R + 1) (by omega) (by omega)
    obtain ⟨s3, ws3, rfl⟩ := w3.app (by omega)
    have ls3 : s3.length = st.length := by rw [ws3.len, ls2]
    have hP := lcL_up (r := r) (n0 := st.length + 1) (P := fun _ y => ∃ x : Rw, x.ok (bx.map (·.1)) ws ∧ y = x.d) (f := fun d s1 => (ev tb C st.length ((wipeE [some (.ref r), some (.int H), some (.int R), some (.lst (ns.map .int)), some (.tup (bx.map bxD)), some (.ref st.length), some (.int (0 + (i : Nat))), some (.lst (ws.map .str)), none] [8]).set 8 (some d)) (.call 47 [(.v 0), (.v 4), (.v 7), (.v 3)]) s1).noex.bind fun r s3 => .ok (some r) s3) (by omega) (ds := rngL 0 z.toNat) (acc := []) (st := s3 ++ [.lst (hs.map hdD)])
      (fun d _ s2 hl hd2 => by
        obtain ⟨x, s', p1, p2, p3⟩ := s_row (n := n) (b := st.length) hd2 (bx := bx) (ws := ws) (ns := ns) (by omega) (by omega) (by omega) (by omega) k0 k1 k2
        refine ⟨x.d, s', ⟨x, p1, rfl⟩, p2, ?_⟩
        have qq : ev tb C st.length [some (.ref r), some (.int H), some (.int R), some (.lst (ns.map .int)), some (.tup (bx.map bxD)), some (.ref st.length), some (.int (0 + (i : Nat))), some (.lst (ws.map .str)), some d] (.call 47 [(.v 0), (.v 4), (.v 7), (.v 3)]) s2 = .ok x.d s' :=
          e_call (es_cons (e_v rfl) (es_cons (e_v rfl) (es_cons (e_v rfl) (es_one (e_v rfl))))) (by rw [hC]; exact p3)
        show (Rs.noex (ev tb C st.length [some (.ref r), some (.int H), some (.int R), some (.lst (ns.map .int)), some (.tup (bx.map bxD)), some (.ref st.length), some (.int (0 + (i : Nat))), some (.lst (ws.map .str)), some d] _ s2)).bind _ = _
        rw [qq]; simp) (by rw [List.length_append, ls3]; rfl) ((ws3.dr (by omega)).app) (by rw [List.length_nil, rngL_len]; exact sz_small (by omega))
    obtain ⟨ys, t4, p4, w4, g4⟩ := hP
    obtain ⟨s4, ws4, rfl⟩ := w4.app (by omega)
    obtain ⟨x, rfl, xl, xo⟩ := f2_rw p4
    have ls4 : s4.length = st.length := by rw [ws4.len, ls3]
    rw [rngL_len] at xl
    have hdx : d = .int (0 + (i : Nat)) := by
      have h9 := hd
      rw [rngL_map, List.getElem?_map, List.getElem?_range hi] at h9
      exact (Option.some.inj h9).symm
    subst hdx
    rw [show ((q + 1 : Nat) : Int) = 1 + (q : Nat) by omega] at g2
    rw [← hC] at g1 g2 g3
    have U4 := ((ws1.trans ws2).trans ws3).trans ws4
    refine ⟨[some (.ref r), some (.int H), some (.int R), some (.lst (ns.map .int)), some (.tup (bx.map bxD)), some (.ref st.length), some (.int (0 + (i : Nat))), some (.lst (ws.map .str)), none], s4 ++ [.lst ((hs ++ [x]).map hdD)], ?_, ⟨_, _, rfl⟩, s4, hs ++ [x], rfl, us.trans U4, by rw [List.length_append, hl]; rfl, fun y hy => ?_⟩
    · show xss tb C st.length 10 _ [some (.ref r), some (.int H), some (.int R), some (.lst (ns.map .int)), some (.tup (bx.map bxD)), some (.ref st.length), some (.int (0 + (i : Nat))), c, none] (s ++ [.lst (hs.map hdD)]) = _
      rw [List.map_append]
      refine (x_set (e_call (es_cons (e_v rfl) (es_one (e_bin e_k (e_call (es_cons (e_v rfl) (es_one e_k)) g1) rfl))) g2)).trans ((x_ex (e_bm (e_v rfl) (t := .list) ?_ (es_one (e_bf (es_one (e_lc (w_rng (es_one (e_call (es_cons (e_v rfl) (es_one (e_bin (e_v rfl) e_k rfl))) g3)) (rng1' z0 (by omega))) g4 rfl)) rfl)) (app_ok (by omega) ls4.symm (by rw [List.length_map]; exact (by have := hl; unfold SZ; omega))))).trans rfl)
      rw [show st.length = s2.length from ls2.symm, view_live]; rfl
    · rcases List.mem_append.mp hy with hy | hy
      · exact ho y hy
      · rw [List.mem_singleton] at hy
        subst hy
        exact ⟨by omega, ws, x2, x3, by omega, xo⟩
  obtain ⟨ρ', st', e4, ⟨a, c, rfl⟩, s, hs, rfl, us, hl, ho⟩ := loop
  rw [rngL_len] at hl
  have ls : s.length = st.length := by rw [us.len, l3]
  have U := U3.trans us
  have hnr : D.nr (.tup [.tup (bx.map bxD), .tup (hs.map hdD)]) = true := by
    have q1 : D.nr (.tup (bx.map bxD)) = true := by
      simp only [D.nr]
      exact nrs_of fun d hd => by obtain ⟨x, _, rfl⟩ := List.mem_map.mp hd; rfl
    have q2 : D.nr (.tup (hs.map hdD)) = true := by
      simp only [D.nr]
      exact nrs_of fun d hd => by obtain ⟨x, _, rfl⟩ := List.mem_map.mp hd; exact hd_nr x
    simp only [D.nr]
    exact nrs_of fun d hd => by
      rcases List.mem_cons.mp hd with rfl | hd
      · exact q1
      · rw [List.mem_singleton.mp hd]; exact q2
  refine ⟨bx, hs, s, by omega, by omega, b2, b3, hl, ho, U, ?_⟩
  rw [cal_at (f := f48) rfl rfl rfl]
  rw [show ((v + 1 : Nat) : Int) = 1 + (v : Nat) by omega] at e3
  rw [← hC] at e1 e2 e3 ⊢
  have ex : xss tb C st.length 10 f48.body ([D.ref r, .int H, .int R].map some ++ List.replicate (f48.ns - f48.np) none) st = .ok (.rt (.tup [.tup (bx.map bxD), .tup (hs.map hdD)])) (s ++ [.lst (hs.map hdD)]) := by
    refine (x_set (e_call (es_one (e_v rfl)) e1)).trans ((x_set (e_call (es_cons (e_v rfl) (es_cons (e_bin e_k (e_call (es_cons (e_v rfl) (es_one e_k)) e2) rfl) (es_one (e_v rfl)))) e3)).trans ((x_set (d := .ref st.length) (s := st3 ++ [.lst []]) ((e_lst es_nil (by simp [SZ])).trans (by rw [← l3]; rfl))).trans ((x_for (w_rng (es_one (e_v rfl)) (rng1 (by omega))) e4).trans ?_)))
    refine x_ret (e_tup (es_cons (e_v rfl) (es_one (e_bf (es_one (e_v rfl)) ?_))) (by simp [SZ])) (frz_id hnr)
    rw [show st.length = s.length from ls.symm, List.map_cons, view_live]; rfl
  rw [ex, end_rt hnr, List.take_append_of_le_length (by omega), U.take]
end LS
end
section
set_option Elab.async false
set_option linter.all false
set_option maxRecDepth 100000
namespace LS
open PySem
theorem Up.apps {r : Nat} {st st' tl : Sto} (hr : r < st.length) (h : Up r (st ++ tl) st') : ∃ st2, Up r st st2 ∧ st' = st2 ++ tl := by
  obtain ⟨x, rfl⟩ := h
  exact ⟨_, ⟨x, rfl⟩, by rw [List.set_append_left _ _ hr]⟩
theorem Dr.apps {r : Nat} {st tl : Sto} (h : Dr r st) : Dr r (st ++ tl) := by
  obtain ⟨x, h⟩ := h
  refine ⟨x, ?_⟩
  rw [List.getElem?_append_left (List.getElem?_eq_some_iff.mp h).1]
  exact h
theorem view_at {s q : Sto} {xs : List D} {n : Nat} (hn : n = s.length) : view (s ++ .lst xs :: q) (.ref n) = .lst xs := by
  subst hn
  have : (s ++ Ent.lst xs :: q)[s.length]? = some (.lst xs) := by rw [List.getElem?_append_right (Nat.le_refl _), Nat.sub_self]; rfl
  simp [view, this]
theorem app_at {s q : Sto} {xs : List D} {d : D} {b n : Nat} (hb : b ≤ n) (hn : n = s.length) (hz : xs.length < SZ) : bmt .append b (.ref n) (view (s ++ .lst xs :: q) (.ref n)) [d] (s ++ .lst xs :: q) = .ok .non (s ++ .lst (xs ++ [d]) :: q) := by
  rw [view_at hn]
  subst hn
  have h1 : (s ++ Ent.lst xs :: q)[s.length]? = some (.lst xs) := by rw [List.getElem?_append_right (Nat.le_refl _), Nat.sub_self]; rfl
  have h2 : (s ++ Ent.lst xs :: q).set s.length (.lst (xs ++ [d])) = s ++ .lst (xs ++ [d]) :: q := by rw [List.set_append_right _ _ (Nat.le_refl _), Nat.sub_self]; rfl
  simp [bmt, wr, h1, liveE, hb, h2, hz]
theorem walk_tup {st : Sto} {xs : List D} : walkOf (still st (.tup xs)) = some xs := rfl
/-! ### the skips are drawn wider -/
def wb : List Sx := [(.iff (.cmp .eq (.ix (.v 5) (.k (.int 0))) (.k (.str "skip"))) [(.set 5 (.bin .add (.tup [(.k (.str "skip")), (.bin .add (.k (.int 1)) (.call 42 [(.v 0), (.k (.int 12))]))]) (.sl (.v 5) (.k (.int 2)) .nil)))] []), (.ex (.bm .append (.v 4) [(.v 5)]))]
theorem wide_in {n b r A B : Nat} {C : Nat → List D → Sto → Rs D} (hC : C = cal tb 10 (n + 1) b) {told v3 : D} {bs ws : List Str} {h : List Rw} (hok : ∀ x ∈ h, x.ok bs ws) (hz : h.length ≤ 8) {tl s : Sto} (hd : Dr r s) (hB : B = s.length + tl.length) (hb : b ≤ s.length) (c : Option D) :
    ∃ (c' : Option D) (s' : Sto) (h' : List Rw), h'.length = h.length ∧ (∀ x ∈ h', x.ok bs ws) ∧ Up r s s' ∧
      forL (fun d ρ1 s1 => match target ρ1 [5] false d with
        | some ρ2 => xss tb C b 10 wb ρ2 s1
        | none => .no) (h.map Rw.d) [some (.ref r), some told, some (.ref A), some v3, some (.ref B), c] (s ++ tl ++ [.lst []]) = .ok (.nx [some (.ref r), some told, some (.ref A), some v3, some (.ref B), c']) (s' ++ tl ++ [.lst (h'.map Rw.d)]) := by
  have H := forL_inv (f := fun d ρ1 s1 => match target ρ1 [5] false d with
        | some ρ2 => xss tb C b 10 wb ρ2 s1
        | none => .no) (ds := h.map Rw.d) (ρ := [some (.ref r), some told, some (.ref A), some v3, some (.ref B), c]) (st := s ++ tl ++ [.lst []])
    (I := fun i ρ st' => (∃ c', ρ = [some (.ref r), some told, some (.ref A), some v3, some (.ref B), c']) ∧ ∃ (s' : Sto) (h' : List Rw), st' = s' ++ tl ++ [.lst (h'.map Rw.d)] ∧ Up r s s' ∧ h'.length = i ∧ ∀ x ∈ h', x.ok bs ws) (fun i d ρ st' hdd hI => ?_) ⟨⟨c, rfl⟩, s, [], rfl, Up.refl hd, rfl, fun x hx => by cases hx⟩
  · obtain ⟨ρ', st', e, ⟨c', rfl⟩, s', h', rfl, u, hl, ho⟩ := H
    exact ⟨c', s', h', by rw [hl, List.length_map], ho, u, e⟩
  · obtain ⟨⟨c', rfl⟩, s1, h', rfl, u, hl, ho⟩ := hI
    rw [List.getElem?_map] at hdd
    obtain ⟨x, hx, rfl⟩ := Option.map_eq_some_iff.mp hdd
    have hxm : x ∈ h := List.mem_of_getElem? hx
    have hi : i < h.length := (List.getElem?_eq_some_iff.mp hx).1
    have ls : s1.length = s.length := u.len
    have key : ∃ (x' : Rw) (s2 : Sto), x'.ok bs ws ∧ Up r s1 s2 ∧ xss tb C b 10 wb [some (.ref r), some told, some (.ref A), some v3, some (.ref B), some x.d] (s1 ++ tl ++ [.lst (h'.map Rw.d)]) = xss tb C b 10 (wb.drop 1) [some (.ref r), some told, some (.ref A), some v3, some (.ref B), some x'.d] (s2 ++ tl ++ [.lst (h'.map Rw.d)]) := by
      have u0 : Up r s1 s1 := Up.refl (u.dr hd.len)
      have hxo := hok x hxm
      cases x with
      | put p1 p2 => exact ⟨_, s1, hxo, u0, x_iff_no (e_cmp (k := false) (e_ix (e_v rfl) e_k rfl) e_k rfl)⟩
      | rd p1 p2 => exact ⟨_, s1, hxo, u0, x_iff_no (e_cmp (k := false) (e_ix (e_v rfl) e_k rfl) e_k rfl)⟩
      | sw p1 p2 p3 => exact ⟨_, s1, hxo, u0, x_iff_no (e_cmp (k := false) (e_ix (e_v rfl) e_k rfl) e_k rfl)⟩
      | fc => exact ⟨_, s1, hxo, u0, x_iff_no (e_cmp (k := false) (e_ix (e_v rfl) e_k rfl) e_k rfl)⟩
      | sk m nm nn =>
        obtain ⟨q, t1, q0, q1, w1, g1⟩ := s_next (n := n) (b := b) (((u.dr hd.len).apps (tl := tl)).apps (tl := [.lst (h'.map Rw.d)])) (m := 12) (by decide) (by decide)
        rw [List.append_assoc] at w1
        obtain ⟨s2, w2, rfl⟩ := w1.apps (by rw [ls]; exact hd.len)
        rw [← List.append_assoc] at g1
        rw [← hC] at g1
        refine ⟨.sk (1 + q) nm nn, s2, ⟨by omega, by omega, hxo.2.2.1, hxo.2.2.2⟩, w2, ?_⟩
        exact x_iff_nx (e_cmp (k := true) (e_ix (e_v rfl) e_k rfl) e_k rfl) ((x_set (e_bin (e_tup (es_cons e_k (es_one (e_bin e_k (e_call (es_cons (e_v rfl) (es_one e_k)) g1) rfl))) (by simp [SZ])) (e_sl (e_v rfl) (eo_int (by simp) e_k) eo_nil rfl) (by simp [view, bop, cut, six, SZ]; rfl))).trans x_nil)
    obtain ⟨x', s2, ox, u2, e⟩ := key
    have ls2 : s2.length = s.length := by rw [u2.len, ls]
    refine ⟨[some (.ref r), some told, some (.ref A), some v3, some (.ref B), some x'.d], s2 ++ tl ++ [.lst ((h' ++ [x']).map Rw.d)], ?_, ⟨_, rfl⟩, s2, h' ++ [x'], rfl, u.trans u2, by rw [List.length_append, hl]; rfl, fun y hy => ?_⟩
    · show xss tb C b 10 wb [some (.ref r), some told, some (.ref A), some v3, some (.ref B), some x.d] _ = _
      rw [e, List.map_append]
      refine (x_ex (e_bm (e_v rfl) (t := .list) ?_ (es_one (e_v rfl)) (app_ok (by rw [List.length_append]; omega) (by rw [List.length_append]; omega) (by rw [List.length_map]; unfold SZ; omega)))).trans rfl
      rw [show B = (s2 ++ tl).length by rw [List.length_append]; omega, view_live]; rfl
    · rcases List.mem_append.mp hy with hy | hy
      · exact ho y hy
      · rw [List.mem_singleton] at hy; subst hy; exact ox
theorem s_wide {n b r : Nat} {st : Sto} {bs : List Str} {bxs : D} {hs : List (List Rw)} (h : Dr r st) (hb : D.nr bxs = true) (hl : hs.length ≤ 3) (ho : ∀ x ∈ hs, x.length ≤ 8 ∧ HOk bs x) :
    ∃ (hs' : List (List Rw)) (st' : Sto), hs'.length = hs.length ∧ (∀ x ∈ hs', x.length ≤ 8 ∧ HOk bs x) ∧ Up r st st' ∧
      cal tb 10 (n + 2) b 51 [.ref r, .tup [bxs, .tup (hs.map hdD)]] st = .ok (.tup [bxs, .tup (hs'.map hdD)]) st' := by
  have hr := h.len
  obtain ⟨C, hC⟩ : ∃ C, C = cal tb 10 (n + 1) st.length := ⟨_, rfl⟩
  obtain ⟨told, ht⟩ : ∃ told, told = D.tup [bxs, .tup (hs.map hdD)] := ⟨_, rfl⟩
  have H := forL_inv (f := fun d ρ1 s1 => match target ρ1 [3] false d with
        | some ρ2 => xss tb C st.length 10 [(.set 4 (.lst true [])), (.for [5] false (.v 3) wb), (.ex (.bm .append (.v 2) [(.bf .tuple false [(.v 4)])]))] ρ2 s1
        | none => .no) (ds := hs.map hdD) (ρ := [some (.ref r), some told, some (.ref st.length), none, none, none]) (st := st ++ [.lst []])
    (I := fun i ρ st' => (∃ a b c, ρ = [some (.ref r), some told, some (.ref st.length), a, b, c]) ∧ ∃ (s junk : Sto) (hs' : List (List Rw)), st' = s ++ .lst (hs'.map hdD) :: junk ∧ Up r st s ∧ hs'.length = i ∧ ∀ x ∈ hs', x.length ≤ 8 ∧ HOk bs x) (fun i d ρ st' hdd hI => ?_) ⟨⟨_, _, _, rfl⟩, st, [], [], rfl, Up.refl h, rfl, fun x hx => by cases hx⟩
  · obtain ⟨ρ', st', e, ⟨a, b', c, rfl⟩, s, junk, hs', rfl, u, hl', ho'⟩ := H
    rw [List.length_map] at hl'
    have ls : s.length = st.length := u.len
    have hnr : D.nr (.tup [bxs, .tup (hs'.map hdD)]) = true := by
      have q2 : D.nr (.tup (hs'.map hdD)) = true := by
        simp only [D.nr]
        exact nrs_of fun d hd => by obtain ⟨x, _, rfl⟩ := List.mem_map.mp hd; exact hd_nr x
      simp only [D.nr]
      exact nrs_of fun d hd => by
        rcases List.mem_cons.mp hd with rfl | hd
        · exact hb
        · rw [List.mem_singleton.mp hd]; exact q2
    refine ⟨hs', s, hl', ho', u, ?_⟩
    rw [cal_at (f := f51) rfl rfl rfl, ← hC, ← ht]
    have ex : xss tb C st.length 10 f51.body ([D.ref r, told].map some ++ List.replicate (f51.ns - f51.np) none) st = .ok (.rt (.tup [bxs, .tup (hs'.map hdD)])) (s ++ .lst (hs'.map hdD) :: junk) := by
      refine (x_set (d := .ref st.length) (s := st ++ [.lst []]) ((e_lst es_nil (by simp [SZ])).trans rfl)).trans ((x_for (w_val rfl (e_ix (e_v rfl) e_k (by rw [ht]; rfl)) walk_tup) e).trans ?_)
      refine x_ret (e_tup (es_cons (e_ix (e_v rfl) e_k (by rw [ht]; rfl)) (es_one (e_bf (es_one (e_v rfl)) ?_))) (by simp [SZ])) (frz_id hnr)
      rw [List.map_cons, view_at ls.symm]; rfl
    rw [ex, end_rt hnr, List.take_append_of_le_length (by omega), u.take]
  · obtain ⟨⟨a, b', c, rfl⟩, s, junk, hs', rfl, u, hl', ho'⟩ := hI
    rw [List.getElem?_map] at hdd
    obtain ⟨x, hx, rfl⟩ := Option.map_eq_some_iff.mp hdd
    have hxm : x ∈ hs := List.mem_of_getElem? hx
    have hi : i < hs.length := (List.getElem?_eq_some_iff.mp hx).1
    have ls : s.length = st.length := u.len
    obtain ⟨x8, ws, n1, n2, n3, n4⟩ := ho x hxm
    obtain ⟨c', s', h', k1, k2, k3, k4⟩ := wide_in (A := st.length) (told := told) (v3 := hdD x) hC n4 x8 (tl := .lst (hs'.map hdD) :: junk) (u.dr hr) (B := (s ++ .lst (hs'.map hdD) :: junk).length) (by rw [List.length_append]) (by omega) c
    have ls' : s'.length = st.length := by rw [k3.len, ls]
    refine ⟨[some (.ref r), some told, some (.ref st.length), some (hdD x), some (.ref (s ++ .lst (hs'.map hdD) :: junk).length), c'], s' ++ .lst ((hs' ++ [h']).map hdD) :: (junk ++ [.lst (h'.map Rw.d)]), ?_, ⟨_, _, _, rfl⟩, s', _, hs' ++ [h'], rfl, u.trans k3, by rw [List.length_append, hl']; rfl, fun y hy => ?_⟩
    · show xss tb C st.length 10 _ [some (.ref r), some told, some (.ref st.length), some (hdD x), b', c] _ = _
      refine (x_set (d := .ref (s ++ .lst (hs'.map hdD) :: junk).length) (s := s ++ .lst (hs'.map hdD) :: junk ++ [.lst []]) ((e_lst es_nil (by simp [SZ])).trans rfl)).trans ((x_for (w_val rfl (e_v rfl) walk_tup) k4).trans ?_)
      rw [List.map_append]
      refine (x_ex (e_bm (e_v rfl) (t := .list) ?_ (es_one (e_bf (r := .ok (hdD h') (s' ++ .lst (hs'.map hdD) :: (junk ++ [.lst (h'.map Rw.d)]))) (es_one (e_v rfl)) ?_)) (app_at (by omega) ls'.symm (by rw [List.length_map]; unfold SZ; omega)))).trans rfl
      · rw [List.append_assoc, List.cons_append, view_at ls'.symm]; rfl
      · rw [List.map_cons, show (s ++ .lst (hs'.map hdD) :: junk).length = (s' ++ .lst (hs'.map hdD) :: junk).length by rw [List.length_append, List.length_append, ls, ls'], view_live]
        show Rs.ok (hdD h') _ = _
        rw [List.append_assoc, List.cons_append]
    · rcases List.mem_append.mp hy with hy | hy
      · exact ho' y hy
      · rw [List.mem_singleton] at hy
        subst hy
        exact ⟨by omega, ws, n1, n2, n3, k2⟩
end LS
end
section
set_option Elab.async false
set_option linter.all false
set_option maxRecDepth 100000
namespace LS
open PySem
theorem ix_nat {xs : List D} {i : Nat} {d : D} (h : xs[i]? = some d) : index (.tup xs) (.int (i : Nat)) = some d := by
  have hl : i < xs.length := (List.getElem?_eq_some_iff.mp h).1
  have : ((i : Nat) : Int) < (xs.length : Int) := by omega
  simp [index, plc, this, h]
theorem ix_natL {xs : List D} {i : Nat} {d : D} (h : xs[i]? = some d) : index (.lst xs) (.int (i : Nat)) = some d := by
  have hl : i < xs.length := (List.getElem?_eq_some_iff.mp h).1
  have : ((i : Nat) : Int) < (xs.length : Int) := by omega
  simp [index, plc, this, h]
theorem rngL_at {n i : Nat} {d : D} (h : (rngL 0 n)[i]? = some d) : i < n ∧ d = .int (i : Nat) := by
  have hi : i < n := by have := (List.getElem?_eq_some_iff.mp h).1; rw [rngL_len] at this; exact this
  rw [rngL_map, List.getElem?_map, List.getElem?_range hi] at h
  exact ⟨hi, by have h2 := (Option.some.inj h).symm; simp only [Int.zero_add] at h2; exact h2⟩
theorem frz_idk {b k : Nat} {d : D} {st : Sto} (h : D.nr d = true) : freeze b k d st = .ok d st := by
  cases d <;> cases k <;> simp only [freeze]
  all_goals simp [D.nr] at h
theorem frz1_id {b k : Nat} {st : Sto} : ∀ {xs : List D}, D.nrs xs = true → freeze.frz1 b k xs st = .ok xs st
  | [], _ => by simp [freeze.frz1]
  | x :: xs, h => by
    simp only [D.nrs, Bool.and_eq_true] at h
    rw [freeze.frz1, frz_idk h.1, Rs.bind_ok, frz1_id h.2, Rs.bind_ok]
theorem frz_lst {b n : Nat} {s : Sto} {xs : List D} (hn : n = s.length) (hb : b ≤ n) (h : D.nrs xs = true) : freeze b 6 (.ref n) (s ++ [.lst xs]) = .ok (.lst xs) (s ++ [.fz (.lst xs)]) := by
  subst hn
  have h1 : (s ++ [Ent.lst xs])[s.length]? = some (.lst xs) := by rw [List.getElem?_append_right (Nat.le_refl _), Nat.sub_self]; rfl
  have h2 : (s ++ [Ent.lst xs]).set s.length (.fz (.lst xs)) = s ++ [.fz (.lst xs)] := by rw [List.set_append_right _ _ (Nat.le_refl _), Nat.sub_self]; rfl
  rw [freeze]
  simp only [h1]
  rw [frz1_id h, Rs.bind_ok]
  simp [wr, h1, liveE, hb, h2, h]
/-! ### the events of Puts, and of the others -/
def isPut : Rw → Bool | .put _ _ => true | _ => false
def rowAt (hs : List (List Rw)) (i j : Nat) : Rw := (hs.getD i []).getD j .fc
def evsIn (k : Bool) (hs : List (List Rw)) (i m : Nat) : List (Nat × Nat) := ((List.range m).filter fun j => isPut (rowAt hs i j) == k).map fun j => (i, j)
def evsTo (k : Bool) (hs : List (List Rw)) (n : Nat) : List (Nat × Nat) := (List.range n).flatMap fun i => evsIn k hs i (hs.getD i []).length
def evsOf (k : Bool) (hs : List (List Rw)) : List (Nat × Nat) := evsTo k hs hs.length
def pD (p : Nat × Nat) : D := .tup [.int (p.1 : Nat), .int (p.2 : Nat)]
theorem evsIn_succ (k : Bool) (hs : List (List Rw)) (i m : Nat) : evsIn k hs i (m + 1) = evsIn k hs i m ++ if isPut (rowAt hs i m) == k then [(i, m)] else [] := by
  unfold evsIn
  rw [List.range_succ, List.filter_append, List.map_append]
  congr 1
  by_cases h : isPut (rowAt hs i m) == k <;> simp [h]
theorem evsTo_succ (k : Bool) (hs : List (List Rw)) (n : Nat) : evsTo k hs (n + 1) = evsTo k hs n ++ evsIn k hs n (hs.getD n []).length := by
  unfold evsTo
  rw [List.range_succ, List.flatMap_append]
  simp
theorem evsIn_len (k : Bool) (hs : List (List Rw)) (i m : Nat) : (evsIn k hs i m).length ≤ m := by
  unfold evsIn
  rw [List.length_map]
  exact Nat.le_trans (List.length_filter_le _ _) (by rw [List.length_range]; exact Nat.le_refl _)
theorem evsTo_len {k : Bool} {hs : List (List Rw)} (h : ∀ x ∈ hs, x.length ≤ 8) : ∀ {n : Nat}, n ≤ hs.length → (evsTo k hs n).length ≤ 8 * n
  | 0, _ => by simp [evsTo]
  | n + 1, hn => by
    rw [evsTo_succ, List.length_append]
    have h1 := evsTo_len (k := k) h (n := n) (by omega)
    have h2 := evsIn_len k hs n (hs.getD n []).length
    have h3 : (hs.getD n []).length ≤ 8 := by
      rw [List.getD_eq_getElem?_getD, List.getElem?_eq_getElem (by omega)]
      exact h _ (List.getElem_mem _)
    omega
def kS (k : Bool) : Str := if k then "put" else "other"
theorem s_events {n b : Nat} {st : Sto} {bxs : D} {hs : List (List Rw)} (k : Bool) (hl : hs.length ≤ 3) (h8 : ∀ x ∈ hs, x.length ≤ 8) :
    cal tb 10 (n + 1) b 52 [.tup [bxs, .tup (hs.map hdD)], .str (kS k)] st = .ok (.lst ((evsOf k hs).map pD)) st := by
  obtain ⟨C, hC⟩ : ∃ C, C = cal tb 10 n st.length := ⟨_, rfl⟩
  obtain ⟨told, ht⟩ : ∃ told, told = D.tup [bxs, .tup (hs.map hdD)] := ⟨_, rfl⟩
  have H := forL_inv (f := fun d ρ1 s1 => match target ρ1 [3] false d with
        | some ρ2 => xss tb C st.length 10 [(.for [4] false (.rng [(.bf .len false [(.ix (.ix (.v 0) (.k (.int 1))) (.v 3))])]) [(.iff (.cmp .eq (.cmp .eq (.ix (.ix (.ix (.ix (.v 0) (.k (.int 1))) (.v 3)) (.v 4)) (.k (.int 0))) (.k (.str "put"))) (.cmp .eq (.v 1) (.k (.str "put")))) [(.ex (.bm .append (.v 2) [(.tup [(.v 3), (.v 4)])]))] [])])] ρ2 s1
        | none => .no) (ds := rngL 0 hs.length) (ρ := [some told, some (.str (kS k)), some (.ref st.length), none, none]) (st := st ++ [.lst []])
    (I := fun i ρ st' => (∃ a c, ρ = [some told, some (.str (kS k)), some (.ref st.length), a, c]) ∧ st' = st ++ [.lst ((evsTo k hs i).map pD)]) (fun i d ρ st' hdd hI => ?_) ⟨⟨_, _, rfl⟩, rfl⟩
  · obtain ⟨ρ', st', e, ⟨a, c, rfl⟩, rfl⟩ := H
    rw [rngL_len] at e
    have hn : D.nrs ((evsOf k hs).map pD) = true := nrs_of fun d hd => by obtain ⟨x, _, rfl⟩ := List.mem_map.mp hd; rfl
    rw [cal_at (f := f52) rfl rfl rfl, ← hC, ← ht]
    have ex : xss tb C st.length 10 f52.body ([told, D.str (kS k)].map some ++ List.replicate (f52.ns - f52.np) none) st = .ok (.rt (.lst ((evsOf k hs).map pD))) (st ++ [.fz (.lst ((evsOf k hs).map pD))]) := by
      refine (x_set (d := .ref st.length) (s := st ++ [.lst []]) ((e_lst es_nil (by simp [SZ])).trans rfl)).trans ((x_for (w_rng (es_one (e_bf (r := .ok (.int (hs.length : Nat)) (st ++ [.lst []])) (es_one (e_ix (d := .tup (hs.map hdD)) (e_v rfl) e_k (by rw [ht]; rfl))) ?_)) (rng1 (by omega))) e).trans ?_)
      · simp [view, bfn]
      · exact x_ret (e_v rfl) (frz_lst rfl (Nat.le_refl _) hn)
    rw [ex, end_rt (by simp only [D.nr]; exact hn), List.take_left]
  · obtain ⟨⟨a, c, rfl⟩, rfl⟩ := hI
    obtain ⟨hi, rfl⟩ := rngL_at hdd
    obtain ⟨h, hh⟩ : ∃ h, h = hs[i] := ⟨_, rfl⟩
    have hg : hs[i]? = some h := by rw [List.getElem?_eq_getElem hi, hh]
    have hgd : hs.getD i [] = h := by rw [List.getD_eq_getElem?_getD, hg]; rfl
    have hx8 : h.length ≤ 8 := h8 _ (by rw [hh]; exact List.getElem_mem hi)
    have hix : (hs.map hdD)[i]? = some (hdD h) := by rw [List.getElem?_map, hg]; rfl
    have et : ∀ {ρ : Env} {s : Sto}, ρ[0]? = some (some told) → ρ[3]? = some (some (.int (i : Nat))) → ev tb C st.length ρ (.ix (.ix (.v 0) (.k (.int 1))) (.v 3)) s = .ok (hdD h) s := fun h0 h3 =>
      e_ix (e_ix (d := .tup (hs.map hdD)) (e_v h0) e_k (by rw [ht]; rfl)) (e_v h3) (ix_nat hix)
    have hle := evsTo_len (k := k) h8 (Nat.le_of_lt hi)
    have H2 := forL_inv (f := fun d ρ1 s1 => match target ρ1 [4] false d with
        | some ρ2 => xss tb C st.length 10 [(.iff (.cmp .eq (.cmp .eq (.ix (.ix (.ix (.ix (.v 0) (.k (.int 1))) (.v 3)) (.v 4)) (.k (.int 0))) (.k (.str "put"))) (.cmp .eq (.v 1) (.k (.str "put")))) [(.ex (.bm .append (.v 2) [(.tup [(.v 3), (.v 4)])]))] [])] ρ2 s1
        | none => .no) (ds := rngL 0 h.length) (ρ := [some told, some (.str (kS k)), some (.ref st.length), some (.int (i : Nat)), c]) (st := st ++ [.lst ((evsTo k hs i).map pD)])
      (I := fun j ρ st' => (∃ c, ρ = [some told, some (.str (kS k)), some (.ref st.length), some (.int (i : Nat)), c]) ∧ st' = st ++ [.lst ((evsTo k hs i ++ evsIn k hs i j).map pD)]) (fun j d ρ st' hdd hI => ?_) ⟨⟨_, rfl⟩, by rw [show evsIn k hs i 0 = [] from rfl, List.append_nil]⟩
    · obtain ⟨ρ', st', e, ⟨c', rfl⟩, rfl⟩ := H2
      rw [rngL_len] at e
      refine ⟨[some told, some (.str (kS k)), some (.ref st.length), some (.int (i : Nat)), c'], _, ?_, ⟨_, _, rfl⟩, rfl⟩
      rw [evsTo_succ, hgd]
      show xss tb C st.length 10 _ [some told, some (.str (kS k)), some (.ref st.length), some (.int (i : Nat)), c] _ = _
      refine (x_for (w_rng (es_one (e_bf (r := .ok (.int (h.length : Nat)) _) (es_one (et rfl rfl)) (by simp [view, bfn, hdD]))) (rng1 (by omega))) e).trans rfl
    · obtain ⟨⟨c, rfl⟩, rfl⟩ := hI
      obtain ⟨hj, rfl⟩ := rngL_at hdd
      obtain ⟨x, hx⟩ : ∃ x, x = h[j] := ⟨_, rfl⟩
      have hxg : h[j]? = some x := by rw [List.getElem?_eq_getElem hj, hx]
      have hra : rowAt hs i j = x := by unfold rowAt; rw [hgd, List.getD_eq_getElem?_getD, hxg]; rfl
      have hjx : (h.map Rw.d)[j]? = some x.d := by rw [List.getElem?_map, hxg]; rfl
      have hle2 := evsIn_len k hs i j
      refine ⟨[some told, some (.str (kS k)), some (.ref st.length), some (.int (i : Nat)), some (.int (j : Nat))], _, ?_, ⟨_, rfl⟩, rfl⟩
      rw [evsIn_succ, hra]
      show xss tb C st.length 10 _ [some told, some (.str (kS k)), some (.ref st.length), some (.int (i : Nat)), some (.int (j : Nat))] _ = _
      have c1 : ∀ {s : Sto}, ev tb C st.length [some told, some (.str (kS k)), some (.ref st.length), some (.int (i : Nat)), some (.int (j : Nat))] (.cmp .eq (.ix (.ix (.ix (.ix (.v 0) (.k (.int 1))) (.v 3)) (.v 4)) (.k (.int 0))) (.k (.str "put"))) s = .ok (.bl (isPut x)) s := by
        intro s
        cases x <;> exact e_cmp (e_ix (e_ix (et rfl rfl) (e_v rfl) (ix_nat hjx)) e_k rfl) e_k rfl
      have c2 : ∀ {s : Sto}, ev tb C st.length [some told, some (.str (kS k)), some (.ref st.length), some (.int (i : Nat)), some (.int (j : Nat))] (.cmp .eq (.v 1) (.k (.str "put"))) s = .ok (.bl k) s := by
        intro s
        cases k <;> exact e_cmp (e_v rfl) e_k rfl
      have c3 := e_cmp (o := .eq) (k := isPut x == k) (c1 (s := st ++ [.lst ((evsTo k hs i ++ evsIn k hs i j).map pD)])) c2 (by cases k <;> cases x <;> rfl)
      by_cases hk : (isPut x == k) = true
      · rw [hk] at c3
        rw [if_pos hk, ← List.append_assoc, List.map_append (l₁ := evsTo k hs i ++ evsIn k hs i j)]
        have app : xss tb C st.length 10 [(.ex (.bm .append (.v 2) [(.tup [(.v 3), (.v 4)])]))] [some told, some (.str (kS k)), some (.ref st.length), some (.int (i : Nat)), some (.int (j : Nat))] (st ++ [.lst ((evsTo k hs i ++ evsIn k hs i j).map pD)]) = .ok (.nx [some told, some (.str (kS k)), some (.ref st.length), some (.int (i : Nat)), some (.int (j : Nat))]) (st ++ [.lst ((evsTo k hs i ++ evsIn k hs i j).map pD ++ [(i, j)].map pD)]) := by
          refine (x_ex (e_bm (e_v rfl) (t := .list) ?_ (es_one (e_tup (es_cons (e_v rfl) (es_one (e_v rfl))) (by simp [SZ]))) (app_ok (Nat.le_refl _) rfl (by rw [List.length_map, List.length_append]; unfold SZ; omega)))).trans x_nil
          rw [view_live]; rfl
        exact (x_iff_nx c3 app).trans x_nil
      · have hk' : (isPut x == k) = false := by simpa using hk
        rw [hk'] at c3
        rw [if_neg hk, List.append_nil]
        exact (x_iff_no c3).trans x_nil
end LS
end
section
set_option Elab.async false
set_option linter.all false
set_option maxRecDepth 100000
namespace LS
open PySem
theorem c_le {i j : Int} {k : Bool} (h : decide (i ≤ j) = k) : cop .le (.int i) (.int j) = some k := by rw [← h]; rfl
theorem s_upto {n b : Nat} {st : Sto} {v lo hi : Int} (h1 : lo ≤ v) (h2 : v ≤ hi) : cal tb 10 (n + 1) b 20 [.int v, .int lo, .int hi] st = .ok (.bl true) st := by
  rw [cal_at (f := f20) rfl rfl rfl]
  have ex : xss tb (cal tb 10 n st.length) st.length 10 f20.body ([D.int v, .int lo, .int hi].map some ++ List.replicate (f20.ns - f20.np) none) st = .ok (.rt (.bl true)) st :=
    x_ret (e_and_t (e_isa (k := .int) (bb := true) (e_v rfl) rfl rfl) (e_and_t (e_not (k := false) (e_isa (k := .int) (bb := false) (e_v rfl) rfl rfl)) (e_chain (k := true) (k' := true) (e_v rfl) (e_v rfl) (c_le (by simp [h1])) (fun _ => ⟨e_v rfl, c_le (by simp [h2])⟩) (fun h => by cases h)))) (frz_id rfl)
  rw [ex, end_rt rfl, List.take_length]
theorem s_num {n b : Nat} {st : Sto} {v : Int} (h : Nm v) : cal tb 10 (n + 2) b 22 [.int v] st = .ok (.bl true) st := by
  rw [cal_at (f := f22) rfl rfl rfl]
  have ex : xss tb (cal tb 10 (n + 1) st.length) st.length 10 f22.body ([D.int v].map some ++ List.replicate (f22.ns - f22.np) none) st = .ok (.rt (.bl true)) st :=
    x_ret (e_call (es_cons (e_v rfl) (es_cons e_k (es_one e_k))) (s_upto h.1 h.2)) (frz_id rfl)
  rw [ex, end_rt rfl, List.take_length]
theorem bools_tt : ∀ m : Nat, boolsOf (List.replicate m (.bl true)) = some (List.replicate m true)
  | 0 => rfl
  | m + 1 => by rw [List.replicate_succ, List.replicate_succ, boolsOf, bools_tt m]; rfl
theorem s_word {n b : Nat} {st : Sto} {w : Str} (h : Wd w) : cal tb 10 (n + 1) b 21 [.str w] st = .ok (.bl true) st := by
  obtain ⟨h1, h2, h3⟩ := h
  have hl : w.length = w.cps.toList.length := slen w
  rw [cal_at (f := f21) rfl rfl rfl]
  obtain ⟨C, hC⟩ : ∃ C, C = cal tb 10 n st.length := ⟨_, rfl⟩
  rw [← hC]
  have e1 : ev tb C st.length [some (.str w), none] (.bf .len false [(.v 0)]) st = .ok (.int (w.length : Nat)) st := e_bf (es_one (e_v rfl)) (by simp only [List.map_cons, List.map_nil, view, bfn]; rw [if_pos (sz_small (by omega))])
  have e2 : lcL (fun d s1 => (ev tb C st.length ((wipeE [some (.str w), none] [1]).set 1 (some d)) (.cmp .inn (.v 1) (.k (.str "abcdefghijklmnopqrstuvwxyz"))) s1).noex.bind fun r s3 => .ok (some r) s3) (w.cps.toList.map sgn) [] st = .ok ([] ++ (w.cps.toList.map sgn).map fun _ => .bl true) st := by
    refine lcL_pure (fun d hd => ?_) (by rw [List.length_nil, List.length_map]; exact sz_small (by omega))
    obtain ⟨c, hc, rfl⟩ := List.mem_map.mp hd
    have q : ev tb C st.length [some (.str w), some (sgn c)] (.cmp .inn (.v 1) (.k (.str "abcdefghijklmnopqrstuvwxyz"))) st = .ok (.bl true) st := by
      refine e_cmp (e_v rfl) e_k ?_
      show some (ltrs.contains c) = some true
      rw [List.contains_iff_mem.mpr (h3 c hc)]
    show (Rs.noex (ev tb C st.length [some (.str w), some (sgn c)] _ st)).bind _ = _
    rw [q]; simp
  have ex : xss tb C st.length 10 f21.body ([D.str w].map some ++ List.replicate (f21.ns - f21.np) none) st = .ok (.rt (.bl true)) st := by
    refine (x_iff_no (e_or_f (k := false) (e_not (k := true) (e_isa (k := .str) (bb := true) (e_v rfl) rfl rfl)) (e_not (k := true) (e_chain (k := true) (k' := true) e_k e1 (c_le (by simp; omega)) (fun _ => ⟨e_k, c_le (by simp; omega)⟩) (fun h => by cases h))))).trans ?_
    refine x_ret (e_bf (es_one (e_lc (w_val rfl (e_v rfl) (xs := w.cps.toList.map sgn) rfl) e2 rfl)) ?_) (frz_id rfl)
    rw [List.nil_append, List.map_const', List.map_cons]
    simp only [List.map_nil, view, bfn, bools_tt, Option.map_some, pur_some]
    simp
  rw [ex, end_rt rfl, List.take_length]
end LS
end
section
set_option Elab.async false
set_option linter.all false
set_option maxRecDepth 100000
namespace LS
open PySem
/-! ### the rows as objects -/
def Rw.o : Rw → D
  | .put b n => .ins 10 [1, 2] [.str b, .int n]
  | .rd nm b => .ins 11 [3, 1] [.str nm, .str b]
  | .sw nm b n => .ins 12 [3, 1, 2] [.str nm, .str b, .int n]
  | .fc => .ins 13 [] []
  | .sk m nm n => .ins 14 [4, 3, 2] [.int m, .str nm, .int n]
theorem stF_own {T : Tb} {b n c f : Nat} {s : Sto} {fs : List Nat} {vs : List D} {d : D} (hn : n = s.length) (hf : fs.length < 900) (hp : plain T c = true) (hd : D.nr d = true) : stF T b (.ref n) f d (s ++ [.ins c fs vs]) = some (s ++ [.ins c (putf fs vs f d).1 (putf fs vs f d).2]) := by
  subst hn
  have h1 : (s ++ [Ent.ins c fs vs])[s.length]? = some (.ins c fs vs) := by rw [List.getElem?_append_right (Nat.le_refl _), Nat.sub_self]; rfl
  have h2 : ∀ e, (s ++ [Ent.ins c fs vs]).set s.length e = s ++ [e] := fun e => by rw [List.set_append_right _ _ (Nat.le_refl _), Nat.sub_self]; rfl
  have hv : view (s ++ [Ent.ins c fs vs]) (.ref s.length) = .ins c fs vs := by simp [view, h1]
  unfold stF
  simp only [hv]
  simp [wr, h1, liveE, h2, hf, hp, hd]
theorem end_nx' {n0 : Nat} {ρ : Env} {s : Sto} (h : s.length = n0) : ending true n0 (.ok (.nx ρ) s) = .ok .non s := by
  rw [end_nx, List.take_of_length_le (by omega)]
theorem i_put {n b : Nat} {st : Sto} {w : Str} {v : Int} : cal tb 10 (n + 1) b 4 [.ref st.length, .str w, .int v] (st ++ [.ins 10 [] []]) = .ok .non (st ++ [.ins 10 [1, 2] [.str w, .int v]]) := by
  rw [cal_at (f := f4) rfl rfl rfl]
  obtain ⟨b', hb'⟩ : ∃ b', b' = (st ++ [Ent.ins 10 [] []]).length := ⟨_, rfl⟩
  rw [← hb']
  obtain ⟨C, hC⟩ : ∃ C, C = cal tb 10 n b' := ⟨_, rfl⟩
  rw [← hC]
  have ex : xss tb C b' 10 f4.body ([D.ref st.length, .str w, .int v].map some ++ List.replicate (f4.ns - f4.np) none) (st ++ [.ins 10 [] []]) = .ok (.nx ([D.ref st.length, .str w, .int v].map some)) (st ++ [.ins 10 [1, 2] [.str w, .int v]]) :=
    (x_setF (e_v rfl) (e_v rfl) (stF_own rfl (by simp) rfl rfl)).trans ((x_setF (e_v rfl) (e_v rfl) (stF_own rfl (by simp [putf]) rfl rfl)).trans x_nil)
  rw [ex, end_nx' (by rw [hb', List.length_append, List.length_append]; rfl)]
theorem i_rd {n b : Nat} {st : Sto} {w v : Str} : cal tb 10 (n + 1) b 7 [.ref st.length, .str w, .str v] (st ++ [.ins 11 [] []]) = .ok .non (st ++ [.ins 11 [3, 1] [.str w, .str v]]) := by
  rw [cal_at (f := f7) rfl rfl rfl]
  obtain ⟨b', hb'⟩ : ∃ b', b' = (st ++ [Ent.ins 11 [] []]).length := ⟨_, rfl⟩
  rw [← hb']
  obtain ⟨C, hC⟩ : ∃ C, C = cal tb 10 n b' := ⟨_, rfl⟩
  rw [← hC]
  have ex : xss tb C b' 10 f7.body ([D.ref st.length, .str w, .str v].map some ++ List.replicate (f7.ns - f7.np) none) (st ++ [.ins 11 [] []]) = .ok (.nx ([D.ref st.length, .str w, .str v].map some)) (st ++ [.ins 11 [3, 1] [.str w, .str v]]) :=
    (x_setF (e_v rfl) (e_v rfl) (stF_own rfl (by simp) rfl rfl)).trans ((x_setF (e_v rfl) (e_v rfl) (stF_own rfl (by simp [putf]) rfl rfl)).trans x_nil)
  rw [ex, end_nx' (by rw [hb', List.length_append, List.length_append]; rfl)]
theorem i_sw {n b : Nat} {st : Sto} {w v : Str} {i : Int} : cal tb 10 (n + 1) b 11 [.ref st.length, .str w, .str v, .int i] (st ++ [.ins 12 [] []]) = .ok .non (st ++ [.ins 12 [3, 1, 2] [.str w, .str v, .int i]]) := by
  rw [cal_at (f := f11) rfl rfl rfl]
  obtain ⟨b', hb'⟩ : ∃ b', b' = (st ++ [Ent.ins 12 [] []]).length := ⟨_, rfl⟩
  rw [← hb']
  obtain ⟨C, hC⟩ : ∃ C, C = cal tb 10 n b' := ⟨_, rfl⟩
  rw [← hC]
  have ex : xss tb C b' 10 f11.body ([D.ref st.length, .str w, .str v, .int i].map some ++ List.replicate (f11.ns - f11.np) none) (st ++ [.ins 12 [] []]) = .ok (.nx ([D.ref st.length, .str w, .str v, .int i].map some)) (st ++ [.ins 12 [3, 1, 2] [.str w, .str v, .int i]]) :=
    (x_setF (e_v rfl) (e_v rfl) (stF_own rfl (by simp) rfl rfl)).trans ((x_setF (e_v rfl) (e_v rfl) (stF_own rfl (by simp [putf]) rfl rfl)).trans ((x_setF (e_v rfl) (e_v rfl) (stF_own rfl (by simp [putf]) rfl rfl)).trans x_nil))
  rw [ex, end_nx' (by rw [hb', List.length_append, List.length_append]; rfl)]
theorem i_sk {n b : Nat} {st : Sto} {m i : Int} {v : Str} : cal tb 10 (n + 1) b 17 [.ref st.length, .int m, .str v, .int i] (st ++ [.ins 14 [] []]) = .ok .non (st ++ [.ins 14 [4, 3, 2] [.int m, .str v, .int i]]) := by
  rw [cal_at (f := f17) rfl rfl rfl]
  obtain ⟨b', hb'⟩ : ∃ b', b' = (st ++ [Ent.ins 14 [] []]).length := ⟨_, rfl⟩
  rw [← hb']
  obtain ⟨C, hC⟩ : ∃ C, C = cal tb 10 n b' := ⟨_, rfl⟩
  rw [← hC]
  have ex : xss tb C b' 10 f17.body ([D.ref st.length, .int m, .str v, .int i].map some ++ List.replicate (f17.ns - f17.np) none) (st ++ [.ins 14 [] []]) = .ok (.nx ([D.ref st.length, .int m, .str v, .int i].map some)) (st ++ [.ins 14 [4, 3, 2] [.int m, .str v, .int i]]) :=
    (x_setF (e_v rfl) (e_v rfl) (stF_own rfl (by simp) rfl rfl)).trans ((x_setF (e_v rfl) (e_v rfl) (stF_own rfl (by simp [putf]) rfl rfl)).trans ((x_setF (e_v rfl) (e_v rfl) (stF_own rfl (by simp [putf]) rfl rfl)).trans x_nil))
  rw [ex, end_nx' (by rw [hb', List.length_append, List.length_append]; rfl)]
theorem new_own {T : Tb} {C : Nat → List D → Sto → Rs D} {c f : Nat} {cl : Cl} {ds vs : List D} {fs : List Nat} {st : Sto} (h1 : T.cls[c]? = some cl) (h2 : cl.ini = some f) (h3 : C f (.ref st.length :: ds) (st ++ [.ins c [] []]) = .ok .non (st ++ [.ins c fs vs])) (h4 : isTr T f = true) (h5 : D.nrs vs = true) :
    mkNew T C c false ds st = .ok (.ins c fs vs) st := by
  have h6 : (st ++ [Ent.ins c fs vs])[st.length]? = some (.ins c fs vs) := by rw [List.getElem?_append_right (Nat.le_refl _), Nat.sub_self]; rfl
  unfold mkNew
  simp only [h1, h2, h3, Rs.bind_ok]
  simp [mkEnd, D.isN, h4, h5, h6]
end LS
end
section
set_option Elab.async false
set_option linter.all false
set_option maxRecDepth 100000
namespace LS
open PySem
theorem o_nr (x : Rw) : D.nr x.o = true := by cases x <;> rfl
theorem ro_head {C : Nat → List D → Sto → Rs D} {b : Nat} {st : Sto} {t : Str} {ys : List D} {R : Rs Fl} (hz : ys.length ≤ 8)
    (h : xss tb C b 10 (f23.body.drop 2) [some (.tup (.str t :: ys)), some (.str t), some (.tup ys)] st = R) :
    xss tb C b 10 f23.body ([D.tup (.str t :: ys)].map some ++ List.replicate (f23.ns - f23.np) none) st = R := by
  have hi : index (.tup (.str t :: ys)) (.int 0) = some (.str t) := ix_nat (xs := .str t :: ys) (i := 0) rfl
  have e0 : ev tb C b [some (.tup (.str t :: ys)), none, none] (.ix (.v 0) (.k (.int 0))) st = .ok (.str t) st := e_ix (e_v rfl) e_k hi
  have en : ev tb C b [some (.tup (.str t :: ys)), none, none] (.bf .len false [(.v 0)]) st = .ok (.int ((ys.length + 1 : Nat))) st := e_bf (es_one (e_v rfl)) rfl
  refine (x_iff_no (e_or_f (k := false) (e_not (k := true) (e_isa (k := .tup) (bb := true) (e_v rfl) rfl rfl)) (e_or_f (k := false) (e_cmp (k := false) en e_k (c_eqI (by simp; omega))) (e_not (k := true) (e_isa (k := .str) (bb := true) e0 rfl rfl))))).trans ((x_par e0 (e_sl (e_v rfl) (eo_int (by simp) e_k) eo_nil (d := .tup ys) ?_)).trans h)
  simp [view, slice, cut, six]
theorem s_rowof_put {n b : Nat} {st : Sto} {w : Str} {v : Int} (hw : Wd w) (hv : Nm v) : cal tb 10 (n + 3) b 23 [.tup [.str "put", .str w, .int v]] st = .ok (.ins 10 [1, 2] [.str w, .int v]) st := by
  rw [cal_at (f := f23) rfl rfl rfl]
  have k1 := s_word (n := n + 1) (b := st.length) (st := st) hw
  have k2 := s_num (n := n) (b := st.length) (st := st) hv
  have k3 := i_put (n := n + 1) (b := st.length) (st := st) (w := w) (v := v)
  obtain ⟨C, hC⟩ : ∃ C, C = cal tb 10 (n + 2) st.length := ⟨_, rfl⟩
  rw [← hC] at k1 k2 k3 ⊢
  have ex : xss tb C st.length 10 f23.body ([D.tup [.str "put", .str w, .int v]].map some ++ List.replicate (f23.ns - f23.np) none) st = .ok (.rt (.ins 10 [1, 2] [.str w, .int v])) st := by
    refine ro_head (by simp) ?_
    refine (x_iff_no (e_and_f (e_cmp (k := false) (e_v rfl) e_k rfl))).trans (x_iff_ret (e_and_t (e_cmp (k := true) (e_v rfl) e_k rfl) (e_and_t (e_cmp (k := true) (e_bf (r := .ok (.int 2) st) (es_one (e_v rfl)) rfl) e_k rfl) (e_and_t (e_call (es_one (e_ix (e_v rfl) e_k rfl)) k1) (e_call (es_one (e_ix (e_v rfl) e_k rfl)) k2)))) (x_ret (e_new (es_cons (e_ix (e_v rfl) e_k rfl) (es_one (e_ix (e_v rfl) e_k rfl))) (new_own rfl rfl k3 rfl rfl)) (frz_id rfl)))
  rw [ex, end_rt rfl, List.take_length]
theorem s_rowof_fc {n b : Nat} {st : Sto} : cal tb 10 (n + 3) b 23 [.tup [.str "fence"]] st = .ok (.ins 13 [] []) st := by
  rw [cal_at (f := f23) rfl rfl rfl]
  obtain ⟨C, hC⟩ : ∃ C, C = cal tb 10 (n + 2) st.length := ⟨_, rfl⟩
  rw [← hC]
  have ex : xss tb C st.length 10 f23.body ([D.tup [.str "fence"]].map some ++ List.replicate (f23.ns - f23.np) none) st = .ok (.rt (.ins 13 [] [])) st := by
    refine ro_head (by simp) ?_
    exact x_iff_ret (e_and_t (e_cmp (k := true) (e_v rfl) e_k rfl) (e_cmp (k := true) (e_bf (r := .ok (.int 0) st) (es_one (e_v rfl)) rfl) e_k rfl)) (x_ret (e_new es_nil rfl) (frz_id rfl))
  rw [ex, end_rt rfl, List.take_length]
theorem s_rowof_rd {n b : Nat} {st : Sto} {w v : Str} (hw : Wd w) (hv : Wd v) : cal tb 10 (n + 3) b 23 [.tup [.str "read", .str w, .str v]] st = .ok (.ins 11 [3, 1] [.str w, .str v]) st := by
  rw [cal_at (f := f23) rfl rfl rfl]
  have k1 := s_word (n := n + 1) (b := st.length) (st := st) hw
  have k2 := s_word (n := n + 1) (b := st.length) (st := st) hv
  have k3 := i_rd (n := n + 1) (b := st.length) (st := st) (w := w) (v := v)
  obtain ⟨C, hC⟩ : ∃ C, C = cal tb 10 (n + 2) st.length := ⟨_, rfl⟩
  rw [← hC] at k1 k2 k3 ⊢
  have ex : xss tb C st.length 10 f23.body ([D.tup [.str "read", .str w, .str v]].map some ++ List.replicate (f23.ns - f23.np) none) st = .ok (.rt (.ins 11 [3, 1] [.str w, .str v])) st := by
    refine ro_head (by simp) ?_
    refine (x_iff_no (e_and_f (e_cmp (k := false) (e_v rfl) e_k rfl))).trans ((x_iff_no (e_and_f (e_cmp (k := false) (e_v rfl) e_k rfl))).trans (x_iff_ret (e_and_t (e_cmp (k := true) (e_v rfl) e_k rfl) (e_and_t (e_cmp (k := true) (e_bf (r := .ok (.int 2) st) (es_one (e_v rfl)) rfl) e_k rfl) (e_and_t (e_call (es_one (e_ix (e_v rfl) e_k rfl)) k1) (e_call (es_one (e_ix (e_v rfl) e_k rfl)) k2)))) (x_ret (e_new (es_cons (e_ix (e_v rfl) e_k rfl) (es_one (e_ix (e_v rfl) e_k rfl))) (new_own rfl rfl k3 rfl rfl)) (frz_id rfl))))
  rw [ex, end_rt rfl, List.take_length]
theorem s_rowof_sw {n b : Nat} {st : Sto} {w v : Str} {i : Int} (hw : Wd w) (hv : Wd v) (hi : Nm i) : cal tb 10 (n + 3) b 23 [.tup [.str "swap", .str w, .str v, .int i]] st = .ok (.ins 12 [3, 1, 2] [.str w, .str v, .int i]) st := by
  rw [cal_at (f := f23) rfl rfl rfl]
  have k1 := s_word (n := n + 1) (b := st.length) (st := st) hw
  have k2 := s_word (n := n + 1) (b := st.length) (st := st) hv
  have k4 := s_num (n := n) (b := st.length) (st := st) hi
  have k3 := i_sw (n := n + 1) (b := st.length) (st := st) (w := w) (v := v) (i := i)
  obtain ⟨C, hC⟩ : ∃ C, C = cal tb 10 (n + 2) st.length := ⟨_, rfl⟩
  rw [← hC] at k1 k2 k3 k4 ⊢
  have ex : xss tb C st.length 10 f23.body ([D.tup [.str "swap", .str w, .str v, .int i]].map some ++ List.replicate (f23.ns - f23.np) none) st = .ok (.rt (.ins 12 [3, 1, 2] [.str w, .str v, .int i])) st := by
    refine ro_head (by simp) ?_
    refine (x_iff_no (e_and_f (e_cmp (k := false) (e_v rfl) e_k rfl))).trans ((x_iff_no (e_and_f (e_cmp (k := false) (e_v rfl) e_k rfl))).trans ((x_iff_no (e_and_f (e_cmp (k := false) (e_v rfl) e_k rfl))).trans (x_iff_ret (e_and_t (e_cmp (k := true) (e_v rfl) e_k rfl) (e_and_t (e_cmp (k := true) (e_bf (r := .ok (.int 3) st) (es_one (e_v rfl)) rfl) e_k rfl) (e_and_t (e_call (es_one (e_ix (e_v rfl) e_k rfl)) k1) (e_and_t (e_call (es_one (e_ix (e_v rfl) e_k rfl)) k2) (e_call (es_one (e_ix (e_v rfl) e_k rfl)) k4))))) (x_ret (e_new (es_cons (e_ix (e_v rfl) e_k rfl) (es_cons (e_ix (e_v rfl) e_k rfl) (es_one (e_ix (e_v rfl) e_k rfl)))) (new_own rfl rfl k3 rfl rfl)) (frz_id rfl)))))
  rw [ex, end_rt rfl, List.take_length]
theorem s_rowof_sk {n b : Nat} {st : Sto} {m i : Int} {v : Str} (m1 : 1 ≤ m) (m2 : m ≤ 12) (hv : Wd v) (hi : Nm i) : cal tb 10 (n + 3) b 23 [.tup [.str "skip", .int m, .str v, .int i]] st = .ok (.ins 14 [4, 3, 2] [.int m, .str v, .int i]) st := by
  rw [cal_at (f := f23) rfl rfl rfl]
  have k1 := s_upto (n := n + 1) (b := st.length) (st := st) m1 m2
  have k2 := s_word (n := n + 1) (b := st.length) (st := st) hv
  have k4 := s_num (n := n) (b := st.length) (st := st) hi
  have k3 := i_sk (n := n + 1) (b := st.length) (st := st) (m := m) (v := v) (i := i)
  obtain ⟨C, hC⟩ : ∃ C, C = cal tb 10 (n + 2) st.length := ⟨_, rfl⟩
  rw [← hC] at k1 k2 k3 k4 ⊢
  have ex : xss tb C st.length 10 f23.body ([D.tup [.str "skip", .int m, .str v, .int i]].map some ++ List.replicate (f23.ns - f23.np) none) st = .ok (.rt (.ins 14 [4, 3, 2] [.int m, .str v, .int i])) st := by
    refine ro_head (by simp) ?_
    refine (x_iff_no (e_and_f (e_cmp (k := false) (e_v rfl) e_k rfl))).trans ((x_iff_no (e_and_f (e_cmp (k := false) (e_v rfl) e_k rfl))).trans ((x_iff_no (e_and_f (e_cmp (k := false) (e_v rfl) e_k rfl))).trans ((x_iff_no (e_and_f (e_cmp (k := false) (e_v rfl) e_k rfl))).trans (x_iff_ret (e_and_t (e_cmp (k := true) (e_v rfl) e_k rfl) (e_and_t (e_cmp (k := true) (e_bf (r := .ok (.int 3) st) (es_one (e_v rfl)) rfl) e_k rfl) (e_call (es_cons (e_ix (e_v rfl) e_k rfl) (es_cons e_k (es_one e_k))) k1)))
      (x_iff_ret (e_and_t (e_call (es_one (e_ix (e_v rfl) e_k rfl)) k2) (e_call (es_one (e_ix (e_v rfl) e_k rfl)) k4)) (x_ret (e_new (es_cons (e_ix (e_v rfl) e_k rfl) (es_cons (e_ix (e_v rfl) e_k rfl) (es_one (e_ix (e_v rfl) e_k rfl)))) (new_own rfl rfl k3 rfl rfl)) (frz_id rfl)))))))
  rw [ex, end_rt rfl, List.take_length]
theorem s_rowof {n b : Nat} {st : Sto} {bs ns : List Str} (hb : ∀ w ∈ bs, Wd w) (hn : ∀ w ∈ ns, Wd w) {x : Rw} (h : x.ok bs ns) : cal tb 10 (n + 3) b 23 [x.d] st = .ok x.o st := by
  cases x with
  | put p q => exact s_rowof_put (hb _ h.1) h.2
  | rd p q => exact s_rowof_rd (hn _ h.1) (hb _ h.2)
  | sw p q r => exact s_rowof_sw (hn _ h.1) (hb _ h.2.1) h.2.2
  | fc => exact s_rowof_fc
  | sk m p q => exact s_rowof_sk h.1 h.2.1 (hn _ h.2.2.1) h.2.2.2
end LS
end
section
set_option Elab.async false
set_option linter.all false
set_option maxRecDepth 100000
namespace LS
open PySem
theorem s_need {n b : Nat} {st : Sto} : cal tb 10 (n + 1) b 28 [.bl true] st = .ok .non st := by
  rw [cal_at (f := f28) rfl rfl rfl]
  have ex : xss tb (cal tb 10 n st.length) st.length 10 f28.body ([D.bl true].map some ++ List.replicate (f28.ns - f28.np) none) st = .ok (.nx [some (.bl true)]) st :=
    (x_iff_no (e_not (k := true) (e_v rfl))).trans x_nil
  rw [ex, end_nx, List.take_length]
theorem s_needF {n b : Nat} {st : Sto} : cal tb 10 (n + 1) b 28 [.bl false] st = .ex 2 [] [] st := by
  rw [cal_at (f := f28) rfl rfl rfl]
  have ex : xss tb (cal tb 10 n st.length) st.length 10 f28.body ([D.bl false].map some ++ List.replicate (f28.ns - f28.np) none) st = .ex 2 [] [] st :=
    x_iff_ex (e_not (k := false) (e_v rfl)) x_rais
  rw [ex]; simp [ending, D.nrs]
theorem s_whole {n b : Nat} {st : Sto} {i : Int} : cal tb 10 (n + 1) b 24 [.int i] st = .ok (.bl true) st := by
  rw [cal_at (f := f24) rfl rfl rfl]
  have ex : xss tb (cal tb 10 n st.length) st.length 10 f24.body ([D.int i].map some ++ List.replicate (f24.ns - f24.np) none) st = .ok (.rt (.bl true)) st :=
    x_ret (e_and_t (e_isa (k := .int) (bb := true) (e_v rfl) rfl rfl) (e_not (k := false) (e_isa (k := .int) (bb := false) (e_v rfl) rfl rfl))) (frz_id rfl)
  rw [ex, end_rt rfl, List.take_length]
/-- a pair of whole numbers is an event -/
theorem s_event {n b : Nat} {st : Sto} {i j : Int} : cal tb 10 (n + 2) b 26 [.tup [.int i, .int j]] st = .ok (.bl true) st := by
  rw [cal_at (f := f26) rfl rfl rfl]
  have k0 : cal tb 10 (n + 1) st.length 25 [.tup [.int i, .int j]] st = .ok (.bl true) st := by
    rw [cal_at (f := f25) rfl rfl rfl]
    have ex : xss tb (cal tb 10 n st.length) st.length 10 f25.body ([D.tup [.int i, .int j]].map some ++ List.replicate (f25.ns - f25.np) none) st = .ok (.rt (.bl true)) st :=
      x_ret (e_and_t (e_isa (k := .tup) (bb := true) (e_v rfl) rfl rfl) (e_cmp (k := true) (e_bf (r := .ok (.int 2) st) (es_one (e_v rfl)) rfl) e_k rfl)) (frz_id rfl)
    rw [ex, end_rt rfl, List.take_length]
  have k1 := s_whole (n := n) (b := st.length) (st := st) (i := i)
  have k2 := s_whole (n := n) (b := st.length) (st := st) (i := j)
  obtain ⟨C, hC⟩ : ∃ C, C = cal tb 10 (n + 1) st.length := ⟨_, rfl⟩
  rw [← hC] at k0 k1 k2 ⊢
  have ex : xss tb C st.length 10 f26.body ([D.tup [.int i, .int j]].map some ++ List.replicate (f26.ns - f26.np) none) st = .ok (.rt (.bl true)) st :=
    x_ret (e_and_t (e_call (es_one (e_v rfl)) k0) (e_and_t (e_call (es_one (e_ix (e_v rfl) e_k rfl)) k1) (e_call (es_one (e_ix (e_v rfl) e_k rfl)) k2))) (frz_id rfl)
  rw [ex, end_rt rfl, List.take_length]
end LS
end
section
set_option Elab.async false
set_option linter.all false
set_option maxRecDepth 100000
namespace LS
open PySem
/-- is_event says no to the wrong values that the law tries -/
theorem s_eventNo {n b : Nat} {st : Sto} {d : D} (h : d = .non ∨ d = .int 5 ∨ d = .str "00" ∨ d = .tup [.int 0]) : cal tb 10 (n + 2) b 26 [d] st = .ok (.bl false) st := by
  rw [cal_at (f := f26) rfl rfl rfl]
  have k0 : cal tb 10 (n + 1) st.length 25 [d] st = .ok (.bl false) st := by
    rw [cal_at (f := f25) rfl rfl rfl]
    have ex : xss tb (cal tb 10 n st.length) st.length 10 f25.body ([d].map some ++ List.replicate (f25.ns - f25.np) none) st = .ok (.rt (.bl false)) st := by
      rcases h with rfl | rfl | rfl | rfl
      · exact x_ret (e_and_f (e_isa (k := .non) (bb := false) (e_v rfl) rfl rfl)) (frz_id rfl)
      · exact x_ret (e_and_f (e_isa (k := .int) (bb := false) (e_v rfl) rfl rfl)) (frz_id rfl)
      · exact x_ret (e_and_f (e_isa (k := .str) (bb := false) (e_v rfl) rfl rfl)) (frz_id rfl)
      · exact x_ret (e_and_t (e_isa (k := .tup) (bb := true) (e_v rfl) rfl rfl) (e_cmp (k := false) (e_bf (r := .ok (.int 1) st) (es_one (e_v rfl)) rfl) e_k rfl)) (frz_id rfl)
    rw [ex, end_rt rfl, List.take_length]
  obtain ⟨C, hC⟩ : ∃ C, C = cal tb 10 (n + 1) st.length := ⟨_, rfl⟩
  rw [← hC] at k0 ⊢
  have ex : xss tb C st.length 10 f26.body ([d].map some ++ List.replicate (f26.ns - f26.np) none) st = .ok (.rt (.bl false)) st :=
    x_ret (e_and_f (e_call (es_one (e_v rfl)) k0)) (frz_id rfl)
  rw [ex, end_rt rfl, List.take_length]
/-! ### the methods of the rows -/
def Rw.puts : Rw → D | .put b _ => .str b | .sw _ b _ => .str b | _ => .non
def Rw.sees : Rw → D | .rd _ b => .str b | .sw _ b _ => .str b | _ => .non
theorem m_at {n b f : Nat} {F : Fn} {st : Sto} {a d : D} (h1 : tb.fns[f]? = some F) (h2 : F.tr = true) (h3 : F.np = 1) (hd : D.nr d = true) (ex : xss tb (cal tb 10 n st.length) st.length 10 F.body ([a].map some ++ List.replicate (F.ns - F.np) none) st = .ok (.rt d) st) : cal tb 10 (n + 1) b f [a] st = .ok d st := by
  rw [cal_at (f := F) h1 h2 (by rw [h3]; rfl), ex, end_rt hd, List.take_length]
theorem m_puts {n b : Nat} {st : Sto} (x : Rw) : ∃ f, mthOf tb (view st x.o) 1 = some f ∧ cal tb 10 (n + 1) b f [x.o] st = .ok x.puts st := by
  cases x with
  | put p q => exact ⟨6, rfl, m_at (F := f6) rfl rfl rfl rfl (x_ret (e_fld (e_v rfl) rfl) (frz_id rfl))⟩
  | rd p q => exact ⟨1, rfl, m_at (F := f1) rfl rfl rfl rfl (x_ret e_k (frz_id rfl))⟩
  | sw p q r => exact ⟨13, rfl, m_at (F := f13) rfl rfl rfl rfl (x_ret (e_fld (e_v rfl) rfl) (frz_id rfl))⟩
  | fc => exact ⟨1, rfl, m_at (F := f1) rfl rfl rfl rfl (x_ret e_k (frz_id rfl))⟩
  | sk m p q => exact ⟨1, rfl, m_at (F := f1) rfl rfl rfl rfl (x_ret e_k (frz_id rfl))⟩
theorem m_sees {n b : Nat} {st : Sto} (x : Rw) : ∃ f, mthOf tb (view st x.o) 2 = some f ∧ cal tb 10 (n + 1) b f [x.o] st = .ok x.sees st := by
  cases x with
  | put p q => exact ⟨2, rfl, m_at (F := f2) rfl rfl rfl rfl (x_ret e_k (frz_id rfl))⟩
  | rd p q => exact ⟨9, rfl, m_at (F := f9) rfl rfl rfl rfl (x_ret (e_fld (e_v rfl) rfl) (frz_id rfl))⟩
  | sw p q r => exact ⟨14, rfl, m_at (F := f14) rfl rfl rfl rfl (x_ret (e_fld (e_v rfl) rfl) (frz_id rfl))⟩
  | fc => exact ⟨2, rfl, m_at (F := f2) rfl rfl rfl rfl (x_ret e_k (frz_id rfl))⟩
  | sk m p q => exact ⟨2, rfl, m_at (F := f2) rfl rfl rfl rfl (x_ret e_k (frz_id rfl))⟩
def Rw.names : Rw → List Str | .rd n _ => [n] | .sw n _ _ => [n] | .sk _ n _ => [n] | _ => []
theorem m_names {n b : Nat} {st : Sto} (x : Rw) : ∃ f, mthOf tb (view st x.o) 3 = some f ∧ cal tb 10 (n + 1) b f [x.o] st = .ok (.tup (x.names.map .str)) st := by
  cases x with
  | put p q => exact ⟨3, rfl, m_at (F := f3) rfl rfl rfl rfl (x_ret (e_tup es_nil (by simp [SZ])) (frz_id rfl))⟩
  | rd p q => exact ⟨10, rfl, m_at (F := f10) rfl rfl rfl rfl (x_ret (e_tup (es_one (e_fld (e_v rfl) rfl)) (by simp [SZ])) (frz_id rfl))⟩
  | sw p q r => exact ⟨15, rfl, m_at (F := f15) rfl rfl rfl rfl (x_ret (e_tup (es_one (e_fld (e_v rfl) rfl)) (by simp [SZ])) (frz_id rfl))⟩
  | fc => exact ⟨3, rfl, m_at (F := f3) rfl rfl rfl rfl (x_ret (e_tup es_nil (by simp [SZ])) (frz_id rfl))⟩
  | sk m p q => exact ⟨19, rfl, m_at (F := f19) rfl rfl rfl rfl (x_ret (e_tup (es_one (e_fld (e_v rfl) rfl)) (by simp [SZ])) (frz_id rfl))⟩
end LS
end
section
set_option Elab.async false
set_option linter.all false
set_option maxRecDepth 100000
namespace LS
open PySem
theorem x_tryK_set {T : Tb} {C : Nat → List D → Sto → Rs D} {b w c i j : Nat} {e : Ex} {d d0 : D} {rest : List Sx} {ρ : Env} {st s : Sto} (h : ev T C b ρ e st = .ok d s) :
    xss T C b w (.tryK (.set i e) c j d0 :: rest) ρ st = xss T C b w rest (ρ.set i (some d)) s := by rw [xss, xs, xs, h]; rfl
theorem s_rows {n b : Nat} {st : Sto} {bs ns : List Str} {h : List Rw} (hb : ∀ w ∈ bs, Wd w) (hn : ∀ w ∈ ns, Wd w) (ho : ∀ x ∈ h, x.ok bs ns) (hl : h.length ≤ 12) :
    cal tb 10 (n + 4) b 31 [hdD h] st = .ok (.lst (h.map Rw.o)) st := by
  have k1 := s_need (n := n + 2) (b := st.length) (st := st)
  have k2 : ∀ x ∈ h, cal tb 10 (n + 3) st.length 23 [x.d] st = .ok x.o st := fun x hx => s_rowof hb hn (ho x hx)
  rw [cal_at (f := f31) rfl rfl rfl]
  obtain ⟨C, hC⟩ : ∃ C, C = cal tb 10 (n + 3) st.length := ⟨_, rfl⟩
  rw [← hC] at k1 k2 ⊢
  have e1 : ev tb C st.length [some (hdD h), none, none] (.bf .len false [(.v 0)]) st = .ok (.int (h.length : Nat)) st := e_bf (es_one (e_v rfl)) (by simp [view, bfn, hdD])
  have e2 : lcL (fun d s1 => (ev tb C st.length ((wipeE [some (hdD h), none, none] [2]).set 2 (some d)) (.call 23 [(.v 2)]) s1).noex.bind fun r s3 => .ok (some r) s3) (h.map Rw.d) [] st = .ok (h.map Rw.o) st := by
    have key : ∀ (g : List Rw) (acc : List D), (∀ x ∈ g, x ∈ h) → acc.length + g.length ≤ SZ → lcL (fun d s1 => (ev tb C st.length ((wipeE [some (hdD h), none, none] [2]).set 2 (some d)) (.call 23 [(.v 2)]) s1).noex.bind fun r s3 => .ok (some r) s3) (g.map Rw.d) acc st = .ok (acc ++ g.map Rw.o) st := by
      intro g
      induction g with
      | nil => intro acc _ _; simp [lcL]
      | cons x g ih =>
        intro acc hm hz
        have q : ev tb C st.length [some (hdD h), none, some x.d] (.call 23 [(.v 2)]) st = .ok x.o st := e_call (es_one (e_v rfl)) (k2 x (hm x (List.mem_cons_self ..)))
        have q2 : (ev tb C st.length ((wipeE [some (hdD h), none, none] [2]).set 2 (some x.d)) (.call 23 [(.v 2)]) st).noex.bind (fun r s3 => .ok (some r) s3) = .ok (some x.o) st := by
          show (Rs.noex (ev tb C st.length [some (hdD h), none, some x.d] _ st)).bind _ = _
          rw [q]; simp
        rw [List.length_cons] at hz
        have ih2 := ih (acc ++ [x.o]) (fun y hy => hm y (List.mem_cons_of_mem _ hy)) (by rw [List.length_append]; simp only [List.length_cons, List.length_nil]; omega)
        rw [List.map_cons, lcL, q2, Rs.bind_ok]
        simp only [show acc.length < SZ by omega, if_true]
        rw [ih2, List.append_assoc]; rfl
    exact (key h [] (fun x hx => hx) (by rw [List.length_nil]; unfold SZ; omega)).trans (by rw [List.nil_append])
  have hnr : D.nrs (h.map Rw.o) = true := nrs_of fun d hd => by obtain ⟨x, _, rfl⟩ := List.mem_map.mp hd; exact o_nr x
  have ex : xss tb C st.length 10 f31.body ([hdD h].map some ++ List.replicate (f31.ns - f31.np) none) st = .ok (.rt (.lst (h.map Rw.o))) st := by
    refine (x_ex (e_call (es_one (e_and_t (e_isa (k := .tup) (bb := true) (e_v rfl) rfl rfl) (e_cmp (k := true) e1 e_k (c_le (by simp; omega))))) k1)).trans ((x_tryK_set (e_lc (w_val rfl (e_v rfl) walk_tup) e2 rfl)).trans ((x_ex (e_call (es_one (e_notN (e_v rfl))) k1)).trans (x_ret (e_v rfl) (frz_id (by simp only [D.nr]; exact hnr)))))
  rw [ex, end_rt (by simp only [D.nr]; exact hnr), List.take_length]
theorem s_rowsX {n b : Nat} {st : Sto} {h : List Rw} (hl : 12 < h.length) : cal tb 10 (n + 2) b 31 [hdD h] st = .ex 2 [] [] st := by
  have k1 := s_needF (n := n) (b := st.length) (st := st)
  rw [cal_at (f := f31) rfl rfl rfl]
  obtain ⟨C, hC⟩ : ∃ C, C = cal tb 10 (n + 1) st.length := ⟨_, rfl⟩
  rw [← hC] at k1 ⊢
  have e1 : ev tb C st.length [some (hdD h), none, none] (.bf .len false [(.v 0)]) st = .ok (.int (h.length : Nat)) st := e_bf (es_one (e_v rfl)) (by simp [view, bfn, hdD])
  have ex : xss tb C st.length 10 f31.body ([hdD h].map some ++ List.replicate (f31.ns - f31.np) none) st = .ex 2 [] [] st :=
    x_exX (e_call (es_one (e_and_t (e_isa (k := .tup) (bb := true) (e_v rfl) rfl rfl) (e_cmp (k := false) e1 e_k (c_le (by simp; omega))))) k1)
  rw [ex]; simp [ending, D.nrs]
end LS
end
section
set_option Elab.async false
set_option linter.all false
set_option maxRecDepth 100000
namespace LS
open PySem
theorem prs_bx : ∀ bx : List (Str × Int), prs (bx.map bxD) = some ((bx.map (·.1)).map .str, bx.map fun p => .int p.2)
  | [] => rfl
  | p :: bx => by
    have := prs_bx bx
    rw [List.map_cons, bxD, prs, this]; rfl
theorem str_ne {x y : Str} (h : x ≠ y) : D.eqb (.str x) (.str y) = false := by
  simp only [D.eqb]
  exact beq_eq_false_iff_ne.mpr h
theorem lkd_none {g : Str} : ∀ {ks : List Str} {vs : List D}, g ∉ ks → lkd (ks.map .str) vs (.str g) = none
  | [], _, _ => by simp [lkd]
  | k :: ks, [], _ => by simp [lkd]
  | k :: ks, v :: vs, h => by
    rw [List.map_cons, lkd, str_ne (fun e => h (by rw [e]; exact List.mem_cons_self ..)), if_neg (by simp)]
    exact lkd_none fun hm => h (List.mem_cons_of_mem _ hm)
theorem merge_nd : ∀ {ks : List Str} {vs : List D} {as : List Str} {bs : List D}, ks.length = vs.length → (as ++ ks).Nodup → merge (as.map .str, bs) (ks.map .str) vs = ((as ++ ks).map .str, bs ++ vs)
  | [], [], as, bs, _, _ => by simp [merge]
  | k :: ks, v :: vs, as, bs, hl, hn => by
    have h1 : k ∉ as := fun hm => by
      have := (List.nodup_append.mp hn).2.2 k hm k (List.mem_cons_self ..)
      exact this rfl
    rw [List.map_cons, merge, putd, lkd_none h1, if_neg (by simp)]
    have := merge_nd (ks := ks) (vs := vs) (as := as ++ [k]) (bs := bs ++ [v]) (by simpa using hl) (by simpa using hn)
    rw [List.map_append] at this
    rw [show ([k].map D.str) = [D.str k] from rfl] at this
    rw [this, List.append_assoc, List.append_assoc]; rfl
theorem s_needBoxes {n b : Nat} {st : Sto} {bx : List (Str × Int)} (h0 : 0 < bx.length) (h3 : bx.length ≤ 3) (hn : (bx.map (·.1)).Nodup) (ho : ∀ p ∈ bx, Wd p.1 ∧ Nm p.2) : cal tb 10 (n + 3) b 30 [.tup (bx.map bxD)] st = .ok .non st := by
  have k1 := s_need (n := n + 1) (b := st.length) (st := st)
  have k2 : ∀ p ∈ bx, cal tb 10 (n + 2) st.length 21 [.str p.1] st = .ok (.bl true) st := fun p hp => s_word (n := n + 1) (ho p hp).1
  have k3 : ∀ p ∈ bx, cal tb 10 (n + 2) st.length 22 [.int p.2] st = .ok (.bl true) st := fun p hp => s_num (n := n) (ho p hp).2
  rw [cal_at (f := f30) rfl rfl rfl]
  obtain ⟨C, hC⟩ : ∃ C, C = cal tb 10 (n + 2) st.length := ⟨_, rfl⟩
  rw [← hC] at k1 k2 k3 ⊢
  obtain ⟨B, hB⟩ : ∃ B, B = D.tup (bx.map bxD) := ⟨_, rfl⟩
  rw [← hB]
  have e1 : ∀ c, ev tb C st.length [some B, c] (.bf .len false [(.v 0)]) st = .ok (.int (bx.length : Nat)) st := fun c => e_bf (es_one (e_v rfl)) (by rw [hB]; simp [view, bfn])
  have e3 : ∀ c, ev tb C st.length [some B, c] (.bf .len false [(.bf .dict false [(.v 0)])]) st = .ok (.int (bx.length : Nat)) st := fun c => by
    refine e_bf (es_one (e_bf (r := .ok (.dic ((bx.map (·.1)).map .str) (bx.map fun p => .int p.2)) st) (es_one (e_v rfl)) ?_)) ?_
    · rw [hB]
      have := merge_nd (ks := bx.map (·.1)) (vs := bx.map fun p => .int p.2) (as := []) (bs := []) (by simp) (by simpa using hn)
      simp only [List.map_nil, List.nil_append] at this
      show (match prs (bx.map bxD) with | some (ks, vs) => mkD false (merge ([], []) ks vs).1 (merge ([], []) ks vs).2 st | none => .no) = _
      rw [prs_bx]
      show mkD false (merge ([], []) _ _).1 (merge ([], []) _ _).2 st = _
      rw [this]; rfl
    · simp [view, bfn]
  have H := forL_inv (f := fun d ρ1 s1 => match target ρ1 [1] false d with
        | some ρ2 => xss tb C st.length 10 [(.ex (.call 28 [(.and (.isa (.v 1) [.tuple]) (.and (.cmp .eq (.bf .len false [(.v 1)]) (.k (.int 2))) (.and (.call 21 [(.ix (.v 1) (.k (.int 0)))]) (.call 22 [(.ix (.v 1) (.k (.int 1)))]))))]))] ρ2 s1
        | none => .no) (ds := bx.map bxD) (ρ := [some B, none]) (st := st)
    (I := fun _ ρ st' => st' = st ∧ ∃ c, ρ = [some B, c]) (fun i d ρ st' hdd hI => ?_) ⟨rfl, _, rfl⟩
  · obtain ⟨ρ', st', e, rfl, c, rfl⟩ := H
    have ex : xss tb C st'.length 10 f30.body ([B].map some ++ List.replicate (f30.ns - f30.np) none) st' = .ok (.nx [some B, c]) st' := by
      refine (x_ex (e_call (es_one (e_and_t (e_isa (k := .tup) (bb := true) (e_v rfl) (by rw [hB]; rfl) rfl) (e_chain (k := true) (k' := true) e_k (e1 _) (c_le (by simp; omega)) (fun _ => ⟨e_k, c_le (by simp; omega)⟩) (fun h => by cases h)))) k1)).trans ((x_for (w_val rfl (e_v rfl) (by rw [hB]; exact walk_tup)) e).trans ?_)
      exact (x_ex (e_call (es_one (e_cmp (k := true) (e3 _) (e1 _) (c_eqI (by simp)))) k1)).trans x_nil
    rw [ex, end_nx, List.take_length]
  · obtain ⟨rfl, c, rfl⟩ := hI
    rw [List.getElem?_map] at hdd
    obtain ⟨p, hp, rfl⟩ := Option.map_eq_some_iff.mp hdd
    have hpm : p ∈ bx := List.mem_of_getElem? hp
    refine ⟨[some B, some (bxD p)], st', ?_, rfl, _, rfl⟩
    show xss tb C st'.length 10 _ [some B, some (bxD p)] st' = _
    exact (x_ex (e_call (es_one (e_and_t (e_isa (k := .tup) (bb := true) (e_v rfl) rfl rfl) (e_and_t (e_cmp (k := true) (e_bf (r := .ok (.int 2) st') (es_one (e_v rfl)) rfl) e_k rfl) (e_and_t (e_call (es_one (e_ix (e_v rfl) e_k rfl)) (k2 p hpm)) (e_call (es_one (e_ix (e_v rfl) e_k rfl)) (k3 p hpm)))))) k1)).trans x_nil
end LS
end
section
set_option Elab.async false
set_option linter.all false
set_option maxRecDepth 100000
namespace LS
open PySem
/-! ### the names of rows -/
def addN (kk : List Str) (k : Str) : List Str := if k ∈ kk then kk else kk ++ [k]
theorem addN_nd {kk : List Str} {k : Str} (h : kk.Nodup) : (addN kk k).Nodup := by
  unfold addN
  by_cases hk : k ∈ kk
  · rw [if_pos hk]; exact h
  · rw [if_neg hk]
    exact List.nodup_append.mpr ⟨h, by simp, fun a ha b hb => by rw [List.mem_singleton] at hb; subst hb; exact fun e => hk (e ▸ ha)⟩
theorem addN_mem {kk : List Str} {k x : Str} (h : x ∈ addN kk k) : x ∈ kk ∨ x = k := by
  unfold addN at h
  by_cases hk : k ∈ kk
  · rw [if_pos hk] at h; exact .inl h
  · rw [if_neg hk] at h
    rcases List.mem_append.mp h with h | h
    · exact .inl h
    · exact .inr (List.mem_singleton.mp h)
def tt (kk : List Str) : List D := kk.map fun _ => .bl true
theorem lkd_tt {g : Str} : ∀ {kk : List Str}, g ∈ kk → (lkd (kk.map .str) (tt kk) (.str g)).isSome = true
  | k :: kk, h => by
    by_cases e : k = g
    · subst e
      simp [tt, lkd, D.eqb]
    · have hm : g ∈ kk := by
        rcases List.mem_cons.mp h with h | h
        · exact absurd h.symm e
        · exact h
      have := lkd_tt hm
      simp only [tt, List.map_cons, lkd, str_ne e] at this ⊢
      exact this
theorem repd_tt {g : D} : ∀ kk : List Str, repd (kk.map .str) (tt kk) g (.bl true) = tt kk
  | [] => by simp [tt, repd]
  | k :: kk => by
    have := repd_tt (g := g) kk
    simp only [tt, List.map_cons, repd] at this ⊢
    rw [this]; simp
theorem putd_tt (kk : List Str) (g : Str) : putd (kk.map .str) (tt kk) (.str g) (.bl true) = ((addN kk g).map .str, tt (addN kk g)) := by
  unfold putd addN
  by_cases hg : g ∈ kk
  · rw [if_pos hg, lkd_tt hg, repd_tt]; rfl
  · rw [if_neg hg, lkd_none hg]; simp [tt]
theorem nd_le : ∀ {kk ws : List Str}, kk.Nodup → (∀ k ∈ kk, k ∈ ws) → kk.length ≤ ws.length
  | [], _, _, _ => Nat.zero_le _
  | k :: kk, ws, h, hm => by
    have h1 := hm k (List.mem_cons_self ..)
    have h2 := nd_le (kk := kk) (ws := ws.erase k) (List.nodup_cons.mp h).2 (fun x hx => by
      have : x ≠ k := fun e => (List.nodup_cons.mp h).1 (e ▸ hx)
      exact (List.mem_erase_of_ne this).mpr (hm x (List.mem_cons_of_mem _ hx)))
    rw [List.length_erase_of_mem h1] at h2
    have := List.length_pos_of_mem h1
    rw [List.length_cons]; omega
theorem strsOf_map : ∀ kk : List Str, strsOf (kk.map .str) = some kk
  | [] => rfl
  | k :: kk => by rw [List.map_cons, strsOf, strsOf_map kk]; rfl
end LS
end
section
set_option Elab.async false
set_option linter.all false
set_option maxRecDepth 100000
namespace LS
open PySem
abbrev Sp (n f : Nat) (ds : List D) (r : PR D) : Prop := Spec tb 10 n f ds r
noncomputable abbrev oc (n : Nat) : Orc := orc tb 10 n
theorem sp_ok {n f : Nat} {ds : List D} {d : D} (hn : D.nr d = true) (h : ∀ b st, cal tb 10 n b f ds st = .ok d st) : Sp n f ds (.ok d) := ⟨(fun h => by cases h), fun b st => ⟨hn, h b st⟩⟩
theorem sp_ex {n f : Nat} {ds : List D} {c : Nat} (h : ∀ b st, cal tb 10 n b f ds st = .ex c [] [] st) : Sp n f ds (.ex c [] []) := ⟨(fun h => by cases h), fun b st => ⟨rfl, st, Ge.refl (Nat.le_refl _), h b st⟩⟩
theorem Sp.ok {n f b : Nat} {ds : List D} {d : D} {st : Sto} (h : Sp n f ds (.ok d)) : cal tb 10 n b f ds st = .ok d st := (h.2 b st).2
def namesOf (h : List Rw) : List Str := h.foldl (fun kk x => x.names.foldl addN kk) []
theorem os_nr (h : List Rw) : D.nr (.lst (h.map Rw.o)) = true := by
  simp only [D.nr]; exact nrs_all fun d hd => by obtain ⟨x, _, rfl⟩ := List.mem_map.mp hd; exact o_nr x
theorem q_mthR {O : Orc} {n k : Nat} {x : Rw} {d : D} (hd : D.nr d = true) (h : ∀ b st, ∃ f, mthOf tb (view st x.o) k = some f ∧ cal tb 10 n b f [x.o] st = .ok d st) (hO : O = oc n) : ∃ f, mthOf tb x.o k = some f ∧ O.C f [x.o] = .ok d := by
  obtain ⟨f, h1, _⟩ := h 0 []
  rw [view_nr (o_nr x)] at h1
  refine ⟨f, h1, ?_⟩
  rw [hO]
  refine orc_C (sp_ok hd fun b st => ?_)
  obtain ⟨f', h3, h4⟩ := h b st
  rw [view_nr (o_nr x), h1] at h3
  cases h3
  exact h4
theorem q_names {O : Orc} {n : Nat} (hO : O = oc (n + 1)) (x : Rw) : ∃ f, mthOf tb x.o 3 = some f ∧ O.C f [x.o] = .ok (.tup (x.names.map .str)) := q_mthR (by simp only [D.nr]; exact strs_nr _) (fun b st => m_names x) hO
theorem q_puts {O : Orc} {n : Nat} (hO : O = oc (n + 1)) (x : Rw) : ∃ f, mthOf tb x.o 1 = some f ∧ O.C f [x.o] = .ok x.puts := q_mthR (by cases x <;> rfl) (fun b st => m_puts x) hO
theorem q_sees {O : Orc} {n : Nat} (hO : O = oc (n + 1)) (x : Rw) : ∃ f, mthOf tb x.o 2 = some f ∧ O.C f [x.o] = .ok x.sees := q_mthR (by cases x <;> rfl) (fun b st => m_sees x) hO
theorem addN_len {kk : List Str} {k : Str} : (addN kk k).length ≤ kk.length + 1 := by
  unfold addN
  split
  · omega
  · simp
theorem addNs_len : ∀ {ks kk : List Str}, (ks.foldl addN kk).length ≤ kk.length + ks.length
  | [], kk => by simp
  | k :: ks, kk => by
    have h1 := addNs_len (ks := ks) (kk := addN kk k)
    have h2 := addN_len (kk := kk) (k := k)
    simp only [List.foldl_cons, List.length_cons]
    omega
theorem names_le (x : Rw) : x.names.length ≤ 1 := by cases x <;> simp [Rw.names]
theorem namesTo_len : ∀ {h : List Rw} {kk : List Str}, (h.foldl (fun kk x => x.names.foldl addN kk) kk).length ≤ kk.length + h.length
  | [], kk => by simp
  | x :: h, kk => by
    have h1 := namesTo_len (h := h) (kk := x.names.foldl addN kk)
    have h2 := addNs_len (ks := x.names) (kk := kk)
    have h3 := names_le x
    simp only [List.foldl_cons, List.length_cons]
    omega
theorem p_names {n : Nat} {h : List Rw} (hz : h.length ≤ 12) : Sp (n + 2) 29 [.lst (h.map Rw.o)] (.ok (.tup ((sortS (namesOf h)).map .str))) := by
  refine spec_of (fn := f29) rfl rfl rfl (by simp only [D.nrs, os_nr, Bool.and_true]) ?_ (fun h => by cases h)
  show pfn tb (oc (n + 1)) 10 f29 _ = _
  obtain ⟨O, hO⟩ : ∃ O, O = oc (n + 1) := ⟨_, rfl⟩
  have km := q_names hO
  rw [← hO]
  clear hO
  have H := forP_inv (ds := h.map Rw.o) (k := 0) (ρ := [some (.s (.lst (h.map Rw.o))), some (.l (.dic [] [])), none, none])
    (f := fun d ρ1 => match ptarget ρ1 [2] false d with
        | some ρ2 => pxss tb O 10 [(.for [3] false (.mth (.v 2) 3 []) [(.setI (.v 1) (.v 3) (.k (.bl true)))])] ρ2
        | none => .no)
    (I := fun i ρ => ∃ kk c d, kk = (h.take i).foldl (fun kk x => x.names.foldl addN kk) [] ∧ ρ = [some (.s (.lst (h.map Rw.o))), some (.l (.dic (kk.map .str) (tt kk))), c, d]) (fun i d ρ hd hE => ?_) ⟨[], _, _, rfl, rfl⟩
  · obtain ⟨ρ', e, kk, c, d, hkk, rfl⟩ := H
    rw [List.length_map, Nat.zero_add, List.take_length] at hkk
    have hkl : kk.length < 64 := by
      have := namesTo_len (h := h) (kk := [])
      rw [← hkk] at this
      simp at this; omega
    have hs : strsOf (kk.map .str) = some kk := strsOf_map _
    have ex : pxss tb O 10 f29.body [some (.s (.lst (h.map Rw.o))), none, none, none] = .ok (.rt (.tup ((sortS kk).map .str))) := by
      refine (px_set rfl).trans ((px_for rfl e).trans ?_)
      refine px_ret ?_
      show ((pes tb O _ .vw [.bf .sorted false [.v 1]]).bind fun ds => (pbfn .tuple ds).bind _) = _
      have : pes tb O [some (.s (.lst (h.map Rw.o))), some (.l (.dic (kk.map .str) (tt kk))), c, d] .vw [.bf .sorted false [.v 1]] = .ok [.lst ((sortS kk).map .str)] := by
        simp [pes, pe, pvar, entD, pbfn, bfn, hs, hkl, mkL, post]
      rw [this]; rfl
    show pend (pxss tb O 10 f29.body [some (.s (.lst (h.map Rw.o))), none, none, none]) = _
    rw [ex]
    show PR.ok _ = _
    rw [hkk]; rfl
  · obtain ⟨kk, c, d', hkk, rfl⟩ := hE
    rw [List.getElem?_map] at hd
    obtain ⟨x, hx, rfl⟩ := Option.map_eq_some_iff.mp hd
    have hi : i < h.length := (List.getElem?_eq_some_iff.mp hx).1
    have hkl : kk.length ≤ 12 := by
      have := namesTo_len (h := h.take (0 + i)) (kk := [])
      rw [← hkk, List.length_take] at this
      simp at this; omega
    obtain ⟨f, h1, h2⟩ := km x
    have hin := forP_inv (ds := x.names.map .str) (k := 0) (ρ := [some (.s (.lst (h.map Rw.o))), some (.l (.dic (kk.map .str) (tt kk))), some (.s x.o), d'])
      (f := fun d ρ1 => match ptarget ρ1 [3] false d with
        | some ρ2 => pxss tb O 10 [(.setI (.v 1) (.v 3) (.k (.bl true)))] ρ2
        | none => .no)
      (I := fun i ρ => ∃ k2 d, k2 = (x.names.take i).foldl addN kk ∧ ρ = [some (.s (.lst (h.map Rw.o))), some (.l (.dic (k2.map .str) (tt k2))), some (.s x.o), d]) (fun i d ρ hd hE => ?_) ⟨kk, _, rfl, rfl⟩
    · obtain ⟨ρ', e, k2, d2, hk2, rfl⟩ := hin
      refine ⟨[some (.s (.lst (h.map Rw.o))), some (.l (.dic (k2.map .str) (tt k2))), some (.s x.o), d2], ?_, k2, _, d2, ?_, rfl⟩
      · show pxss tb O 10 _ [some (.s (.lst (h.map Rw.o))), some (.l (.dic (kk.map .str) (tt kk))), some (.s x.o), d'] = _
        refine (px_for ?_ e).trans rfl
        show ((pe tb O [some (.s (.lst (h.map Rw.o))), some (.l (.dic (kk.map .str) (tt kk))), some (.s x.o), d'] .st (.v 2)).bind fun a => (match mthOf tb a 3 with
          | some f => (pes tb O _ .st []).bind fun ds => (O.C f (a :: ds)).bind (post .wk)
          | none => .no)) = _
        show (match mthOf tb x.o 3 with
          | some f => (O.C f [x.o]).bind (post .wk)
          | none => .no) = _
        rw [h1]
        simp only [h2, PR.bind_ok]
        rfl
      · rw [List.length_map, Nat.zero_add, List.take_length] at hk2
        rw [hk2, Nat.zero_add, List.take_add_one, hx, List.foldl_append, ← (by simpa using hkk : kk = (h.take i).foldl (fun kk x => x.names.foldl addN kk) [])]
        rfl
    · obtain ⟨k2, d2, hk2, rfl⟩ := hE
      rw [List.getElem?_map] at hd
      obtain ⟨y, hy, rfl⟩ := Option.map_eq_some_iff.mp hd
      refine ⟨[some (.s (.lst (h.map Rw.o))), some (.l (.dic ((addN k2 y).map .str) (tt (addN k2 y)))), some (.s x.o), some (.s (.str y))], ?_, _, _, ?_, rfl⟩
      · refine (px_setI rfl rfl rfl ?_).trans rfl
        have h3 : (k2.map D.str).length < SZ := by
          have := addNs_len (ks := x.names.take (0 + i)) (kk := kk)
          rw [← hk2] at this
          have h4 := names_le x
          rw [List.length_map]
          have : (x.names.take (0 + i)).length ≤ 1 := by rw [List.length_take]; omega
          unfold SZ; omega
        simp only [psetI, lvAt]
        show (if (isKey (.str y) && decide ((k2.map D.str).length < SZ)) = true then _ else none) = _
        simp only [isKey, h3, decide_true, Bool.and_self, if_true, putd_tt]
        rfl
      · rw [Nat.zero_add, List.take_add_one, hy, List.foldl_append, ← (by simpa using hk2 : k2 = (x.names.take i).foldl addN kk)]
        rfl
end LS
end
section
set_option Elab.async false
set_option linter.all false
set_option maxRecDepth 100000
namespace LS
open PySem
theorem insS_len (x : Str) : ∀ ys, (insS x ys).length = ys.length + 1
  | [] => rfl
  | y :: ys => by
    unfold insS
    split
    · rw [List.length_cons, insS_len x ys]; rfl
    · rfl
theorem sortS_len : ∀ xs, (sortS xs).length = xs.length
  | [] => rfl
  | x :: xs => by rw [sortS, insS_len, sortS_len xs]; rfl
theorem addNs_nd : ∀ {ks kk : List Str}, kk.Nodup → (ks.foldl addN kk).Nodup
  | [], _, h => h
  | k :: ks, kk, h => addNs_nd (ks := ks) (addN_nd h)
theorem addNs_mem {x : Str} : ∀ {ks kk : List Str}, x ∈ ks.foldl addN kk → x ∈ kk ∨ x ∈ ks
  | [], _, h => .inl h
  | k :: ks, kk, h => by
    rcases addNs_mem (ks := ks) (kk := addN kk k) h with h | h
    · rcases addN_mem h with h | h
      · exact .inl h
      · rw [h]; exact .inr (List.mem_cons_self ..)
    · exact .inr (List.mem_cons_of_mem _ h)
theorem namesTo_nd : ∀ {h : List Rw} {kk : List Str}, kk.Nodup → (h.foldl (fun kk x => x.names.foldl addN kk) kk).Nodup
  | [], _, h => h
  | x :: h, kk, hk => namesTo_nd (h := h) (addNs_nd hk)
theorem namesTo_mem {y : Str} : ∀ {h : List Rw} {kk : List Str}, y ∈ h.foldl (fun kk x => x.names.foldl addN kk) kk → y ∈ kk ∨ ∃ x ∈ h, y ∈ x.names
  | [], _, h => .inl h
  | x :: h, kk, hy => by
    rcases namesTo_mem (h := h) hy with h1 | ⟨z, h1, h2⟩
    · rcases addNs_mem h1 with h1 | h1
      · exact .inl h1
      · exact .inr ⟨x, List.mem_cons_self .., h1⟩
    · exact .inr ⟨z, List.mem_cons_of_mem _ h1, h2⟩
theorem namesOf_le {bs ws : List Str} {h : List Rw} (ho : ∀ x ∈ h, x.ok bs ws) : (namesOf h).length ≤ ws.length := by
  refine nd_le (namesTo_nd (by simp)) fun k hk => ?_
  rcases namesTo_mem hk with h1 | ⟨x, h1, h2⟩
  · cases h1
  · have := ho x h1
    cases x <;> simp [Rw.names] at h2 <;> subst h2 <;> simp_all [Rw.ok]
/-- the boxes as a dict -/
def bxN (bx : List (Str × Int)) : List Str := bx.map (·.1)
def bxDic (bx : List (Str × Int)) : D := .dic ((bxN bx).map .str) (bx.map fun p => .int p.2)
theorem bx_dict {bx : List (Str × Int)} (hn : (bxN bx).Nodup) : pbfn .dict [.tup (bx.map bxD)] = .ok (bxDic bx) := by
  have := merge_nd (ks := bx.map (·.1)) (vs := bx.map fun p => .int p.2) (as := []) (bs := []) (by simp) (by simpa [bxN] using hn)
  simp only [List.map_nil, List.nil_append] at this
  have q : bfn .dict false [.tup (bx.map bxD)] [] = .ok (bxDic bx) [] := by
    show (match prs (bx.map bxD) with | some (ks, vs) => mkD false (merge ([], []) ks vs).1 (merge ([], []) ks vs).2 [] | none => .no) = _
    rw [prs_bx]
    show mkD false (merge ([], []) _ _).1 (merge ([], []) _ _).2 [] = _
    rw [this]; rfl
  unfold pbfn
  rw [q]
theorem lkd_in {g : Str} : ∀ {ks : List Str} {vs : List D}, ks.length = vs.length → g ∈ ks → (lkd (ks.map .str) vs (.str g)).isSome = true
  | [], _, _, h => by cases h
  | k :: ks, [], h, _ => by cases h
  | k :: ks, v :: vs, hl, h => by
    rw [List.map_cons, lkd]
    by_cases e : k = g
    · subst e
      simp [D.eqb]
    · rw [str_ne e, if_neg (by simp)]
      exact lkd_in (by simpa using hl) ((List.mem_cons.mp h).resolve_left fun z => e z.symm)
theorem in_dic {bx : List (Str × Int)} {g : Str} (h : g ∈ bxN bx) : isin (.str g) (bxDic bx) = some true := by
  show (if isKey (.str g) then some (lkd ((bxN bx).map .str) (bx.map fun p => .int p.2) (.str g)).isSome else none) = _
  rw [lkd_in (by simp [bxN]) h]; rfl
def nb : List Sx := [(.ex (.call 28 [(.or (.isN (.mth (.v 6) 1 [])) (.cmp .inn (.mth (.v 6) 1 []) (.v 2)))])), (.ex (.call 28 [(.or (.isN (.mth (.v 6) 2 [])) (.cmp .inn (.mth (.v 6) 2 []) (.v 2)))]))]
theorem q_need {O : Orc} {n : Nat} (hO : O = oc (n + 1)) : O.C 28 [.bl true] = .ok .non := by rw [hO]; exact orc_C (sp_ok rfl fun b st => s_need)
theorem q_needF {O : Orc} {n : Nat} (hO : O = oc (n + 1)) : O.C 28 [.bl false] = .ex 2 [] [] := by rw [hO]; exact orc_C (sp_ex fun b st => s_needF)
/-- one row's boxes are there -/
theorem nb_ok {O : Orc} {n k : Nat} (hO : O = oc (n + 1)) {bx : List (Str × Int)} {ws : List Str} {x : Rw} (ho : x.ok (bxN bx) ws) {a b c d e : Option PVl} : pxss tb O 10 nb [a, b, some (.s (bxDic bx)), c, d, e, some (.s x.o)] = .ok (.nx [a, b, some (.s (bxDic bx)), c, d, e, some (.s x.o)]) := by
  have k1 := q_need hO
  obtain ⟨f1, p1, p2⟩ := q_puts hO x
  obtain ⟨f2, s1, s2⟩ := q_sees hO x
  have one : ∀ {j f : Nat} {v : D}, mthOf tb x.o j = some f → O.C f [x.o] = .ok v → (v = .non ∨ ∃ g, v = .str g ∧ g ∈ bxN bx) → pe tb O [a, b, some (.s (bxDic bx)), c, d, e, some (.s x.o)] .st (.call 28 [(.or (.isN (.mth (.v 6) j [])) (.cmp .inn (.mth (.v 6) j []) (.v 2)))]) = .ok .non := by
    intro j f v h1 h2 h3
    have m : ∀ md, pe tb O [a, b, some (.s (bxDic bx)), c, d, e, some (.s x.o)] md (.mth (.v 6) j []) = post md v := fun md => q_mth (q_v rfl) h1 qs_nil h2
    have q : pe tb O [a, b, some (.s (bxDic bx)), c, d, e, some (.s x.o)] .st (.or (.isN (.mth (.v 6) j [])) (.cmp .inn (.mth (.v 6) j []) (.v 2))) = .ok (.bl true) := by
      rcases h3 with rfl | ⟨g, rfl, hg⟩
      · exact q_or_t (q_isN (m _))
      · exact q_or_f (q_isN (m _)) (q_cmp (m _) (q_v rfl) (in_dic hg))
    exact q_call (qs_one q) k1
  have e1 := one p1 p2 (by cases x <;> simp [Rw.puts] <;> simp_all [Rw.ok])
  have e2 := one s1 s2 (by cases x <;> simp [Rw.sees] <;> simp_all [Rw.ok])
  exact (px_call e1).trans ((px_call e2).trans rfl)
end LS
end
section
set_option Elab.async false
set_option linter.all false
set_option maxRecDepth 100000
namespace LS
open PySem
structure PgOk (bx : List (Str × Int)) (hs : List (List Rw)) : Prop where
  b0 : 0 < bx.length
  b3 : bx.length ≤ 3
  bn : (bxN bx).Nodup
  bo : ∀ p ∈ bx, Wd p.1 ∧ Nm p.2
  h0 : 0 < hs.length
  h3 : hs.length ≤ 3
  ho : ∀ h ∈ hs, HOk (bxN bx) h
theorem PgOk.wd {bx : List (Str × Int)} {hs : List (List Rw)} (P : PgOk bx hs) : ∀ w ∈ bxN bx, Wd w := fun w hw => by
  obtain ⟨p, hp, rfl⟩ := List.mem_map.mp hw
  exact (P.bo p hp).1
def bxT (bx : List (Str × Int)) : D := .tup (bx.map bxD)
def hsT (hs : List (List Rw)) : D := .tup (hs.map hdD)
theorem hds_nr (hs : List (List Rw)) : D.nr (hsT hs) = true := by
  unfold hsT; simp only [D.nr]; exact nrs_all fun d hd => by obtain ⟨x, _, rfl⟩ := List.mem_map.mp hd; exact hd_nr x
theorem bxT_nr (bx : List (Str × Int)) : D.nr (bxT bx) = true := by
  unfold bxT; simp only [D.nr]; exact nrs_all fun d hd => by obtain ⟨x, _, rfl⟩ := List.mem_map.mp hd; rfl
theorem q_rows {O : Orc} {n : Nat} (hO : O = oc (n + 4)) {bs : List Str} {h : List Rw} (hb : ∀ w ∈ bs, Wd w) (ho : HOk bs h) (hl : h.length ≤ 12) : O.C 31 [hdD h] = .ok (.lst (h.map Rw.o)) := by
  obtain ⟨ws, _, h1, _, h2⟩ := ho
  rw [hO]
  exact orc_C (sp_ok (os_nr h) fun b st => s_rows hb h1 h2 hl)
theorem q_rowsX {O : Orc} {n : Nat} (hO : O = oc (n + 2)) {h : List Rw} (hl : 12 < h.length) : O.C 31 [hdD h] = .ex 2 [] [] := by
  rw [hO]
  exact orc_C (sp_ex fun b st => s_rowsX hl)
theorem HOk.names {bs : List Str} {h : List Rw} (ho : HOk bs h) : (namesOf h).length ≤ 3 := by
  obtain ⟨ws, _, _, h1, h2⟩ := ho
  exact Nat.le_trans (namesOf_le h2) h1
theorem q_namesIn {O : Orc} {n : Nat} (hO : O = oc (n + 2)) {h : List Rw} (hl : h.length ≤ 12) : O.C 29 [.lst (h.map Rw.o)] = .ok (.tup ((sortS (namesOf h)).map .str)) := by
  rw [hO]
  exact orc_C (p_names hl)
def hb1 : List Sx := [(.set 5 (.call 31 [(.v 4)])), (.aug 3 .add (.bf .len false [(.v 5)])), (.ex (.call 28 [(.cmp .le (.bf .len false [(.call 29 [(.v 5)])]) (.k (.int 3)))])), (.for [6] false (.v 5) nb)]
/-- one hand is looked at -/
theorem hb1_ok {O : Orc} {n : Nat} (hO : O = oc (n + 4)) {bx : List (Str × Int)} {h : List Rw} (hb : ∀ w ∈ bxN bx, Wd w) (ho : HOk (bxN bx) h) (hl : h.length ≤ 12) {a b e f : Option PVl} {s : Int} :
    ∃ e' f', pxss tb O 10 hb1 [a, b, some (.s (bxDic bx)), some (.s (.int s)), some (.s (hdD h)), e, f] = .ok (.nx [a, b, some (.s (bxDic bx)), some (.s (.int (s + h.length))), some (.s (hdD h)), e', f']) := by
  have k1 := q_rows hO hb ho hl
  have k2 := q_namesIn hO hl
  have k3 := q_need hO
  obtain ⟨f', hf⟩ : ∃ f', forP (fun d ρ1 => match ptarget ρ1 [6] false d with
        | some ρ2 => pxss tb O 10 nb ρ2
        | none => .no) (h.map Rw.o) [a, b, some (.s (bxDic bx)), some (.s (.int (s + h.length))), some (.s (hdD h)), some (.s (.lst (h.map Rw.o))), f] = .ok (.nx [a, b, some (.s (bxDic bx)), some (.s (.int (s + h.length))), some (.s (hdD h)), some (.s (.lst (h.map Rw.o))), f']) := by
    obtain ⟨ws, _, _, _, h2⟩ := ho
    obtain ⟨ρ', h1, f', rfl⟩ := forP_fold (enc := Rw.o) (xs := h) (b := ()) (f := fun d ρ1 => match ptarget ρ1 [6] false d with
        | some ρ2 => pxss tb O 10 nb ρ2
        | none => .no) (ρ := [a, b, some (.s (bxDic bx)), some (.s (.int (s + h.length))), some (.s (hdD h)), some (.s (.lst (h.map Rw.o))), f])
      (fun _ ρ => ∃ f', ρ = [a, b, some (.s (bxDic bx)), some (.s (.int (s + h.length))), some (.s (hdD h)), some (.s (.lst (h.map Rw.o))), f']) (fun _ _ => ()) (fun x hx _ ρ hE => by
        obtain ⟨f', rfl⟩ := hE
        exact ⟨_, nb_ok (k := 0) hO (h2 x hx), _, rfl⟩) ⟨_, rfl⟩
    exact ⟨f', h1⟩
  refine ⟨_, f', (px_setv (q_call (qs_one (q_v rfl)) k1)).trans ((px_aug (q_v rfl) (q_bf (r := .ok (.int (h.length : Nat))) (qs_one (q_v rfl)) ?_)).trans ((px_call (q_call (qs_one (q_cmp (k := true) (q_bf (r := .ok (.int ((namesOf h).length : Nat))) (qs_one (q_call (qs_one (q_v rfl)) k2)) ?_) (q_k rfl) (c_le ?_))) k3)).trans ((px_for (q_w rfl rfl) hf).trans rfl)))⟩
  · simp [pbfn, bfn]
  · simp [pbfn, bfn, sortS_len]
  · have := ho.names
    simp; omega
theorem hb1_X {O : Orc} {n : Nat} (hO : O = oc (n + 2)) {h : List Rw} (hl : 12 < h.length) {a b c d e f : Option PVl} : pxss tb O 10 hb1 [a, b, c, d, some (.s (hdD h)), e, f] = .ex 2 [] [] :=
  px_setX (by
    have : pfr tb O [a, b, c, d, some (.s (hdD h)), e, f] (.call 31 [(.v 4)]) = (pe tb O [a, b, c, d, some (.s (hdD h)), e, f] .st (.call 31 [(.v 4)])).bind fun d => .ok (.s d) := rfl
    rw [this, q_call (qs_one (q_v rfl)) (q_rowsX hO hl)]; rfl)
def lenTo (hs : List (List Rw)) (i : Nat) : Int := ((hs.take i).map fun h => (h.length : Int)).sum
theorem lenTo_succ {hs : List (List Rw)} {i : Nat} {h : List Rw} (e : hs[i]? = some h) : lenTo hs (i + 1) = lenTo hs i + h.length := by
  unfold lenTo
  rw [List.take_add_one, e, List.map_append, List.sum_append]
  simp
def lenAll (hs : List (List Rw)) : Nat := (hs.map List.length).sum
theorem lenTo_all (hs : List (List Rw)) : lenTo hs hs.length = (lenAll hs : Nat) := by
  unfold lenTo lenAll
  rw [List.take_length]
  induction hs with
  | nil => rfl
  | cons h hs ih => simp [ih]
def fits12 (hs : List (List Rw)) : Bool := hs.all fun h => h.length ≤ 12
theorem len_c {k : Nat} {st : D} {xs : List D} : pbfn .len [.tup xs] = .ok (.int (xs.length : Nat)) := rfl
/-- no hand too long: by how many rows in all -/
theorem p_hands {n : Nat} {bx : List (Str × Int)} {hs : List (List Rw)} (P : PgOk bx hs) (h12 : ∀ h ∈ hs, h.length ≤ 12) : Sp (n + 5) 32 [bxT bx, hsT hs] (if lenAll hs ≤ 24 then .ok .non else .ex 2 [] []) := by
  refine spec_of (fn := f32) rfl rfl rfl (by simp only [D.nrs, bxT_nr, hds_nr, Bool.and_true]) ?_ (by split <;> intro h <;> cases h)
  show pfn tb (oc (n + 4)) 10 f32 _ = _
  obtain ⟨O, hO⟩ : ∃ O, O = oc (n + 4) := ⟨_, rfl⟩
  rw [← hO]
  have k3 := q_need hO
  have k4 := q_needF hO
  obtain ⟨ρ', H, a, b, c, rfl⟩ := forP_inv (ds := hs.map hdD) (k := 0) (ρ := [some (.s (bxT bx)), some (.s (hsT hs)), some (.s (bxDic bx)), some (.s (.int 0)), none, none, none])
    (f := fun d ρ1 => match ptarget ρ1 [4] false d with
        | some ρ2 => pxss tb O 10 hb1 ρ2
        | none => .no)
    (I := fun i ρ => ∃ a b c, ρ = [some (.s (bxT bx)), some (.s (hsT hs)), some (.s (bxDic bx)), some (.s (.int (lenTo hs i))), a, b, c]) (fun i d ρ hd hE => by
      obtain ⟨a, b, c, rfl⟩ := hE
      rw [List.getElem?_map] at hd
      obtain ⟨h, hh, rfl⟩ := Option.map_eq_some_iff.mp hd
      have hm := List.mem_of_getElem? hh
      obtain ⟨e', f', he⟩ := hb1_ok hO P.wd (P.ho h hm) (h12 h hm) (a := some (.s (bxT bx))) (b := some (.s (hsT hs))) (e := b) (f := c) (s := lenTo hs (0 + i))
      exact ⟨_, he, _, _, _, by rw [show 0 + i + 1 = i + 1 by omega, show 0 + i = i by omega, lenTo_succ hh]⟩) ⟨_, _, _, rfl⟩
  rw [List.length_map, Nat.zero_add, lenTo_all] at H
  have l1 : ∀ {c d e f g : Option PVl}, pe tb O [some (.s (bxT bx)), some (.s (hsT hs)), c, d, e, f, g] .vw (.bf .len false [(.v 1)]) = .ok (.int (hs.length : Nat)) := by
    intro c d e f g
    refine q_bf (r := .ok (.int (hs.length : Nat))) (qs_one (q_v rfl)) ?_
    simp [pbfn, bfn, hsT]
  have h0 := P.h0
  have h3 := P.h3
  have key : ∀ {v : Bool}, v = decide (lenAll hs ≤ 24) → pxss tb O 10 f32.body [some (.s (bxT bx)), some (.s (hsT hs)), none, none, none, none, none] = pxss tb O 10 [(.ex (.call 28 [(.cmp .le (.v 3) (.k (.int 24)))]))] [some (.s (bxT bx)), some (.s (hsT hs)), some (.s (bxDic bx)), some (.s (.int (lenAll hs : Nat))), a, b, c] := fun {v} hv =>
    (px_call (q_call (qs_one (q_and_t (q_isa (k := .tup) (bb := true) (q_v rfl) rfl rfl) (q_chain (k := true) (k' := true) (q_k rfl) l1 (c_le (by simp; omega)) (fun _ => ⟨q_k rfl, c_le (by simp; omega)⟩) (fun h => by cases h)))) k3)).trans ((px_setv (q_bf (qs_one (q_v rfl)) (bx_dict P.bn))).trans ((px_setv (q_k rfl)).trans ((px_for (q_w rfl rfl) H).trans rfl)))
  show pend (pxss tb O 10 f32.body [some (.s (bxT bx)), some (.s (hsT hs)), none, none, none, none, none]) = _
  rw [key rfl]
  by_cases hc : lenAll hs ≤ 24
  · rw [if_pos hc, px_call (q_call (qs_one (q_cmp (k := true) (q_v rfl) (q_k rfl) (c_le (by simp; omega)))) k3)]; rfl
  · rw [if_neg hc, px_callX (q_call (qs_one (q_cmp (k := false) (q_v rfl) (q_k rfl) (c_le (by simp; omega)))) k4)]; rfl
theorem first_bad {α : Type} {p : α → Prop} : ∀ {xs : List α}, (¬ ∀ x ∈ xs, p x) → ∃ (j : Nat) (g : α), xs[j]? = some g ∧ ¬ p g ∧ ∀ (i : Nat) (h : α), i < j → xs[i]? = some h → p h
  | [], h => absurd (fun x hx => by cases hx) h
  | x :: xs, h => by
    by_cases hx : p x
    · obtain ⟨j, g, h1, h2, h3⟩ := first_bad (xs := xs) (p := p) fun hh => h fun y hy => by
        rcases List.mem_cons.mp hy with rfl | hy
        · exact hx
        · exact hh y hy
      refine ⟨j + 1, g, by simpa using h1, h2, fun i y hi hy => ?_⟩
      cases i with
      | zero => cases hy; exact hx
      | succ i => exact h3 i y (by omega) (by simpa using hy)
    · exact ⟨0, x, rfl, hx, fun i y hi _ => by omega⟩
/-- a hand too long -/
theorem p_handsX {n : Nat} {bx : List (Str × Int)} {hs : List (List Rw)} (P : PgOk bx hs) (h12 : ¬ ∀ h ∈ hs, h.length ≤ 12) : Sp (n + 5) 32 [bxT bx, hsT hs] (.ex 2 [] []) := by
  refine spec_of (fn := f32) rfl rfl rfl (by simp only [D.nrs, bxT_nr, hds_nr, Bool.and_true]) ?_ (fun h => by cases h)
  show pfn tb (oc (n + 4)) 10 f32 _ = _
  obtain ⟨O, hO⟩ : ∃ O, O = oc (n + 4) := ⟨_, rfl⟩
  rw [← hO]
  have k3 := q_need hO
  have k4 := q_needF hO
  obtain ⟨j, g, hj, hg, hmin⟩ : ∃ (j : Nat) (g : List Rw), hs[j]? = some g ∧ 12 < g.length ∧ ∀ (i : Nat) (h : List Rw), i < j → hs[i]? = some h → h.length ≤ 12 := by
    obtain ⟨j, g, h1, h2, h3⟩ := first_bad h12
    exact ⟨j, g, h1, by omega, h3⟩
  have H := forP_at (ds := hs.map hdD) (k := 0) (j := j) (d := hdD g) (R := .ex 2 [] []) (ρ := [some (.s (bxT bx)), some (.s (hsT hs)), some (.s (bxDic bx)), some (.s (.int 0)), none, none, none])
    (f := fun d ρ1 => match ptarget ρ1 [4] false d with
        | some ρ2 => pxss tb O 10 hb1 ρ2
        | none => .no)
    (I := fun i ρ => ∃ s a b c, ρ = [some (.s (bxT bx)), some (.s (hsT hs)), some (.s (bxDic bx)), some (.s (.int s)), a, b, c]) (.inl ⟨_, _, _, rfl⟩) (by rw [List.getElem?_map, hj]; rfl) (fun i d ρ hi hd hE => by
      obtain ⟨s, a, b, c, rfl⟩ := hE
      rw [List.getElem?_map] at hd
      obtain ⟨h, hh, rfl⟩ := Option.map_eq_some_iff.mp hd
      have hm := List.mem_of_getElem? hh
      obtain ⟨e', f', he⟩ := hb1_ok hO P.wd (P.ho h hm) (hmin i h hi hh) (a := some (.s (bxT bx))) (b := some (.s (hsT hs))) (e := b) (f := c) (s := s)
      exact ⟨_, he, _, _, _, _, rfl⟩) ⟨_, _, _, _, rfl⟩ (fun ρ hE => by
      obtain ⟨s, a, b, c, rfl⟩ := hE
      exact hb1_X (n := n + 2) hO hg)
  have l1 : ∀ {c d e f g : Option PVl}, pe tb O [some (.s (bxT bx)), some (.s (hsT hs)), c, d, e, f, g] .vw (.bf .len false [(.v 1)]) = .ok (.int (hs.length : Nat)) := by
    intro c d e f g
    refine q_bf (r := .ok (.int (hs.length : Nat))) (qs_one (q_v rfl)) ?_
    simp [pbfn, bfn, hsT]
  have h0 := P.h0
  have h3 := P.h3
  show pend (pxss tb O 10 f32.body [some (.s (bxT bx)), some (.s (hsT hs)), none, none, none, none, none]) = _
  have ex : pxss tb O 10 f32.body [some (.s (bxT bx)), some (.s (hsT hs)), none, none, none, none, none] = .ex 2 [] [] :=
    (px_call (q_call (qs_one (q_and_t (q_isa (k := .tup) (bb := true) (q_v rfl) rfl rfl) (q_chain (k := true) (k' := true) (q_k rfl) l1 (c_le (by simp; omega)) (fun _ => ⟨q_k rfl, c_le (by simp; omega)⟩) (fun h => by cases h)))) k3)).trans ((px_setv (q_bf (qs_one (q_v rfl)) (bx_dict P.bn))).trans ((px_setv (q_k rfl)).trans ((px_for (q_w rfl rfl) H).trans rfl)))
  rw [ex]; rfl
end LS
end
section
set_option Elab.async false
set_option linter.all false
set_option maxRecDepth 100000
namespace LS
open PySem
def linesD (hs : List (List Rw)) : D := .lst (hs.map fun h => .lst (h.map Rw.o))
def nmsD (h : List Rw) : D := .tup ((sortS (namesOf h)).map .str)
def calledD (hs : List (List Rw)) : D := .lst (hs.map nmsD)
def prog (bx : List (Str × Int)) (hs : List (List Rw)) : D := .ins 15 [5, 6, 7, 8] [bxT bx, hsT hs, linesD hs, calledD hs]
theorem lines_nr (hs : List (List Rw)) : D.nr (linesD hs) = true := by
  unfold linesD; simp only [D.nr]; exact nrs_all fun d hd => by obtain ⟨x, _, rfl⟩ := List.mem_map.mp hd; exact os_nr x
theorem called_nr (hs : List (List Rw)) : D.nr (calledD hs) = true := by
  unfold calledD; simp only [D.nr]; exact nrs_all fun d hd => by obtain ⟨x, _, rfl⟩ := List.mem_map.mp hd; simp only [nmsD, D.nr]; exact strs_nr _
theorem prog_nr (bx : List (Str × Int)) (hs : List (List Rw)) : D.nr (prog bx hs) = true := by
  unfold prog; simp only [D.nr, D.nrs, bxT_nr, hds_nr, lines_nr, called_nr, Bool.and_true]
theorem q_boxes {O : Orc} {n : Nat} (hO : O = oc (n + 3)) {bx : List (Str × Int)} {hs : List (List Rw)} (P : PgOk bx hs) : O.C 30 [bxT bx] = .ok .non := by
  rw [hO]; exact orc_C (sp_ok rfl fun b st => s_needBoxes P.b0 P.b3 P.bn P.bo)
theorem p_prog {n : Nat} {bx : List (Str × Int)} {hs : List (List Rw)} (P : PgOk bx hs) (h12 : ∀ h ∈ hs, h.length ≤ 12) (h24 : lenAll hs ≤ 24) : SpecN tb 10 (n + 6) 15 [bxT bx, hsT hs] (.ok (prog bx hs)) := by
  refine specN_of (f := 33) (fn := f33) rfl rfl rfl rfl rfl (by simp only [D.nrs, bxT_nr, hds_nr, Bool.and_true]) ?_ (fun h => by cases h)
  show pini tb (oc (n + 5)) 10 f33 _ _ = _
  obtain ⟨O, hO⟩ : ∃ O, O = oc (n + 5) := ⟨_, rfl⟩
  rw [← hO]
  have k1 := q_boxes hO P
  have k2 : O.C 32 [bxT bx, hsT hs] = .ok .non := by rw [hO]; exact orc_C (by have := p_hands (n := n) P h12; rw [if_pos h24] at this; exact this)
  have k3 : ∀ h ∈ hs, O.C 31 [hdD h] = .ok (.lst (h.map Rw.o)) := fun h hm => q_rows hO P.wd (P.ho h hm) (h12 h hm)
  have k4 : ∀ h ∈ hs, O.C 29 [.lst (h.map Rw.o)] = .ok (nmsD h) := fun h hm => q_namesIn hO (h12 h hm)
  have hl3 := P.h3
  have e1 : pe tb O [some (.l (.ins 15 [5, 6] [bxT bx, hsT hs])), some (.s (bxT bx)), some (.s (hsT hs)), none, none] .st (.lc false (.call 31 [(.v 3)]) [3] [3] false (.v 2) (.k (.bl true))) = .ok (linesD hs) :=
    q_lc (rs := hs.map fun h => .lst (h.map Rw.o)) (q_w rfl rfl) ((plc1_map (enc := hdD) (g := fun h => .lst (h.map Rw.o)) (fun h hm => plcF_t (q_call (qs_one (q_v rfl)) (k3 h hm))) (by unfold SZ; simp; omega)).trans (by simp)) rfl
  have e2 : pe tb O [some (.l (.ins 15 [5, 6, 7] [bxT bx, hsT hs, linesD hs])), some (.s (bxT bx)), some (.s (hsT hs)), none, none] .st (.lc false (.call 29 [(.v 4)]) [4] [4] false (.fld (.v 0) 7) (.k (.bl true))) = .ok (calledD hs) :=
    q_lc (rs := hs.map nmsD) (to_wk (q_fld (q_l rfl) rfl) rfl) ((plc1_map (enc := fun h : List Rw => .lst (h.map Rw.o)) (g := nmsD) (fun h hm => plcF_t (q_call (qs_one (q_v rfl)) (k4 h hm))) (by unfold SZ; simp; omega)).trans (by simp)) rfl
  have ex : pxss tb O 10 f33.body [some (.l (.ins 15 [] [])), some (.s (bxT bx)), some (.s (hsT hs)), none, none] = .ok (.nx [some (.l (.ins 15 [5, 6, 7, 8] [bxT bx, hsT hs, linesD hs, calledD hs])), some (.s (bxT bx)), some (.s (hsT hs)), none, none]) :=
    (px_call (q_call (qs_one (q_v rfl)) k1)).trans ((px_call (q_call (qs_cons (q_v rfl) (qs_one (q_v rfl))) k2)).trans ((px_setF (q_v rfl) rfl).trans ((px_setF (q_v rfl) rfl).trans ((px_setF e1 rfl).trans ((px_setF e2 rfl).trans rfl)))))
  unfold pini
  show (match pxss tb O 10 f33.body [some (.l (.ins 15 [] [])), some (.s (bxT bx)), some (.s (hsT hs)), none, none] with
    | .ok (.nx ρ) => (match lvAt ρ 0 with | some (.ins c fs vs) => PR.ok (D.ins c fs vs) | _ => .no)
    | .ex c fs vs => .ex c fs vs
    | _ => .no) = _
  rw [ex]; rfl
theorem p_progX {n : Nat} {bx : List (Str × Int)} {hs : List (List Rw)} (P : PgOk bx hs) (hx : ¬ ((∀ h ∈ hs, h.length ≤ 12) ∧ lenAll hs ≤ 24)) : SpecN tb 10 (n + 6) 15 [bxT bx, hsT hs] (.ex 2 [] []) := by
  refine specN_of (f := 33) (fn := f33) rfl rfl rfl rfl rfl (by simp only [D.nrs, bxT_nr, hds_nr, Bool.and_true]) ?_ (fun h => by cases h)
  show pini tb (oc (n + 5)) 10 f33 _ _ = _
  obtain ⟨O, hO⟩ : ∃ O, O = oc (n + 5) := ⟨_, rfl⟩
  rw [← hO]
  have k1 := q_boxes hO P
  have k2 : O.C 32 [bxT bx, hsT hs] = .ex 2 [] [] := by
    rw [hO]
    refine orc_C ?_
    by_cases h12 : ∀ h ∈ hs, h.length ≤ 12
    · have := p_hands (n := n) P h12
      rw [if_neg fun h => hx ⟨h12, h⟩] at this
      exact this
    · exact p_handsX P h12
  have ex : pxss tb O 10 f33.body [some (.l (.ins 15 [] [])), some (.s (bxT bx)), some (.s (hsT hs)), none, none] = .ex 2 [] [] :=
    (px_call (q_call (qs_one (q_v rfl)) k1)).trans (px_callX (q_call (qs_cons (q_v rfl) (qs_one (q_v rfl))) k2))
  unfold pini
  show (match pxss tb O 10 f33.body [some (.l (.ins 15 [] [])), some (.s (bxT bx)), some (.s (hsT hs)), none, none] with
    | .ok (.nx ρ) => (match lvAt ρ 0 with | some (.ins c fs vs) => PR.ok (D.ins c fs vs) | _ => .no)
    | .ex c fs vs => .ex c fs vs
    | _ => .no) = _
  rw [ex]
/-! ### events -/
theorem rowAt_of {hs : List (List Rw)} {i j : Nat} {h : List Rw} {x : Rw} (h1 : hs[i]? = some h) (h2 : h[j]? = some x) : rowAt hs i j = x := by
  unfold rowAt
  rw [List.getD_eq_getElem?_getD, List.getD_eq_getElem?_getD, h1]
  show (h[j]?.getD .fc) = x
  rw [h2]; rfl
/-- the rows of a hand -/
theorem p_rowsM {n : Nat} {bx : List (Str × Int)} {hs : List (List Rw)} {i : Nat} {h : List Rw} (hi : hs[i]? = some h) : Sp (n + 1) 34 [prog bx hs, .int (i : Nat)] (.ok (.lst (h.map Rw.o))) := by
  refine spec_of (fn := f34) rfl rfl rfl (by simp only [D.nrs, prog_nr, D.nr, Bool.and_true]) ?_ (fun h => by cases h)
  have ex : pxss tb (oc n) 10 f34.body [some (.s (prog bx hs)), some (.s (.int (i : Nat)))] = .ok (.rt (.lst (h.map Rw.o))) :=
    px_rete (q_bf (qs_one (q_ix (q_fld (q_v rfl) rfl) (q_v rfl) (ix_natL (xs := hs.map fun h => .lst (h.map Rw.o)) (d := .lst (h.map Rw.o)) (by rw [List.getElem?_map, hi]; rfl)))) rfl)
  show pend (pxss tb (oc n) 10 f34.body [some (.s (prog bx hs)), some (.s (.int (i : Nat)))]) = _
  rw [ex]; rfl
theorem p_rowAt {n : Nat} {bx : List (Str × Int)} {hs : List (List Rw)} {i j : Nat} {h : List Rw} {x : Rw} (hi : hs[i]? = some h) (hj : h[j]? = some x) : Sp (n + 2) 27 [prog bx hs, pD (i, j)] (.ok x.o) := by
  refine spec_of (fn := f27) rfl rfl rfl (by simp only [D.nrs, prog_nr, D.nr, pD, Bool.and_true]) ?_ (fun h => by cases h)
  show pfn tb (oc (n + 1)) 10 f27 _ = _
  obtain ⟨O, hO⟩ : ∃ O, O = oc (n + 1) := ⟨_, rfl⟩
  rw [← hO]
  have k1 : O.C 34 [prog bx hs, .int (i : Nat)] = .ok (.lst (h.map Rw.o)) := by rw [hO]; exact orc_C (p_rowsM hi)
  have ex : pxss tb O 10 f27.body [some (.s (prog bx hs)), some (.s (pD (i, j)))] = .ok (.rt x.o) :=
    px_rete (q_ix (q_mth (f := 34) (q_v rfl) rfl (qs_one (q_ix (q_v rfl) (q_k rfl) rfl)) k1) (q_ix (q_v rfl) (q_k rfl) rfl) (ix_natL (xs := h.map Rw.o) (d := x.o) (by rw [List.getElem?_map, hj]; rfl)))
  show pend (pxss tb O 10 f27.body [some (.s (prog bx hs)), some (.s (pD (i, j)))]) = _
  rw [ex]; rfl
end LS
end
section
set_option Elab.async false
set_option linter.all false
set_option maxRecDepth 100000
namespace LS
open PySem
def eIn (p : Rw → Bool) (hs : List (List Rw)) (i m : Nat) : List (Nat × Nat) := ((List.range m).filter fun j => p (rowAt hs i j)).map fun j => (i, j)
def eTo (p : Rw → Bool) (hs : List (List Rw)) (n : Nat) : List (Nat × Nat) := (List.range n).flatMap fun i => eIn p hs i (hs.getD i []).length
def eOf (p : Rw → Bool) (hs : List (List Rw)) : List (Nat × Nat) := eTo p hs hs.length
theorem evsOf_e (k : Bool) (hs : List (List Rw)) : evsOf k hs = eOf (fun x => isPut x == k) hs := rfl
theorem eIn_succ (p : Rw → Bool) (hs : List (List Rw)) (i m : Nat) : eIn p hs i (m + 1) = eIn p hs i m ++ if p (rowAt hs i m) then [(i, m)] else [] := by
  unfold eIn
  rw [List.range_succ, List.filter_append, List.map_append]
  congr 1
  by_cases h : p (rowAt hs i m) <;> simp [h]
theorem eTo_succ (p : Rw → Bool) (hs : List (List Rw)) (n : Nat) : eTo p hs (n + 1) = eTo p hs n ++ eIn p hs n (hs.getD n []).length := by
  unfold eTo
  rw [List.range_succ, List.flatMap_append]
  simp
theorem eIn_len (p : Rw → Bool) (hs : List (List Rw)) (i m : Nat) : (eIn p hs i m).length ≤ m := by
  unfold eIn
  rw [List.length_map]
  exact Nat.le_trans (List.length_filter_le _ _) (by rw [List.length_range]; exact Nat.le_refl _)
theorem eTo_len {p : Rw → Bool} {hs : List (List Rw)} (h : ∀ x ∈ hs, x.length ≤ 12) : ∀ {n : Nat}, n ≤ hs.length → (eTo p hs n).length ≤ 12 * n
  | 0, _ => by simp [eTo]
  | n + 1, hn => by
    rw [eTo_succ, List.length_append]
    have h1 := eTo_len (p := p) h (n := n) (by omega)
    have h2 := eIn_len p hs n (hs.getD n []).length
    have h3 : (hs.getD n []).length ≤ 12 := by
      rw [List.getD_eq_getElem?_getD, List.getElem?_eq_getElem (by omega)]
      exact h _ (List.getElem_mem _)
    omega
theorem eOf_filter (p q : Rw → Bool) (hs : List (List Rw)) : (eOf p hs).filter (fun e => q (rowAt hs e.1 e.2)) = eOf (fun x => p x && q x) hs := by
  unfold eOf eTo
  rw [List.filter_flatMap]
  congr 1
  funext i
  unfold eIn
  rw [List.filter_map, List.filter_filter]
  congr 1
  congr 1
  funext j
  exact Bool.and_comm ..
theorem eOf_mem {p : Rw → Bool} {hs : List (List Rw)} {e : Nat × Nat} (h : e ∈ eOf p hs) : ∃ g x, hs[e.1]? = some g ∧ g[e.2]? = some x ∧ p x = true := by
  unfold eOf eTo at h
  obtain ⟨i, hi, h2⟩ := List.mem_flatMap.mp h
  unfold eIn at h2
  obtain ⟨j, hj, rfl⟩ := List.mem_map.mp h2
  obtain ⟨hj1, hj2⟩ := List.mem_filter.mp hj
  have hi := List.mem_range.mp hi
  have hj1 := List.mem_range.mp hj1
  have e1 : hs[i]? = some hs[i] := List.getElem?_eq_getElem hi
  have e2 : hs.getD i [] = hs[i] := by rw [List.getD_eq_getElem?_getD, e1]; rfl
  rw [e2] at hj1
  have e3 : (hs[i])[j]? = some (hs[i])[j] := List.getElem?_eq_getElem hj1
  refine ⟨hs[i], (hs[i])[j], e1, e3, ?_⟩
  rw [rowAt_of e1 e3] at hj2
  exact hj2
theorem eOf_in {p : Rw → Bool} {hs : List (List Rw)} {i j : Nat} {g : List Rw} {x : Rw} (h1 : hs[i]? = some g) (h2 : g[j]? = some x) (hp : p x = true) : (i, j) ∈ eOf p hs := by
  have hi : i < hs.length := (List.getElem?_eq_some_iff.mp h1).1
  have hj : j < g.length := (List.getElem?_eq_some_iff.mp h2).1
  unfold eOf eTo
  refine List.mem_flatMap.mpr ⟨i, List.mem_range.mpr hi, ?_⟩
  unfold eIn
  refine List.mem_map.mpr ⟨j, List.mem_filter.mpr ⟨List.mem_range.mpr ?_, ?_⟩, rfl⟩
  · rw [List.getD_eq_getElem?_getD, h1]; exact hj
  · rw [rowAt_of h1 h2]; exact hp
theorem enumL_at : ∀ {xs : List D} {k j : Nat} {d : D}, (enumL k xs)[j]? = some d → ∃ x, xs[j]? = some x ∧ d = .tup [.int ((k + j : Nat) : Int), x]
  | [], _, _, _, h => by simp [enumL] at h
  | x :: xs, k, 0, d, h => by
    simp [enumL] at h
    exact ⟨x, rfl, by rw [← h]; rfl⟩
  | x :: xs, k, j + 1, d, h => by
    simp only [enumL, List.getElem?_cons_succ] at h
    obtain ⟨y, h1, h2⟩ := enumL_at h
    exact ⟨y, by simpa using h1, by rw [h2, show k + 1 + j = k + (j + 1) by omega]⟩
theorem enumL_ln : ∀ {xs : List D} {k : Nat}, (enumL k xs).length = xs.length
  | [], _ => rfl
  | x :: xs, k => by simp [enumL, enumL_ln (xs := xs) (k := k + 1)]
theorem forP_inv0 {f : D → PEnv → PR PFl} {I : Nat → PEnv → Prop} {ds : List D} {ρ : PEnv} (h : ∀ i d ρ, ds[i]? = some d → I i ρ → ∃ ρ', f d ρ = .ok (.nx ρ') ∧ I (i + 1) ρ') (h0 : I 0 ρ) : ∃ ρ', forP f ds ρ = .ok (.nx ρ') ∧ I ds.length ρ' := by
  obtain ⟨ρ', h1, h2⟩ := forP_inv (f := f) (I := I) (ds := ds) (k := 0) (ρ := ρ) (fun i d ρ hd hi => by
    rw [Nat.zero_add] at hi ⊢; exact h i d ρ hd hi) h0
  exact ⟨ρ', h1, by rw [Nat.zero_add] at h2; exact h2⟩
def acts (x : Rw) : Bool := !D.isN x.puts || !D.isN x.sees
def pDs (es : List (Nat × Nat)) : D := .lst (es.map pD)
theorem pDs_nr (es : List (Nat × Nat)) : D.nr (pDs es) = true := by
  unfold pDs; simp only [D.nr]; exact nrs_all fun d hd => by obtain ⟨x, _, rfl⟩ := List.mem_map.mp hd; rfl
theorem q_enum {T : Tb} {O : Orc} {ρ : PEnv} {e : Ex} {a : D} {xs : List D} (h : pe T O ρ .st e = .ok a) (hs : seqOf a = some xs) : pe T O ρ .wk (.enum e) = .ok (.lst (enumL 0 xs)) := by
  have : pe T O ρ .wk (.enum e) = (pe T O ρ .st e).bind fun a => (ppur (seqOf a)).bind fun xs => .ok (.lst (enumL 0 xs)) := rfl
  rw [this, h, PR.bind_ok, hs]; rfl
theorem q_rng {T : Tb} {O : Orc} {ρ : PEnv} {es : List Ex} {ds xs : List D} (h : pes T O ρ .st es = .ok ds) (hs : rngOf ds = some xs) : pe T O ρ .wk (.rng es) = .ok (.lst xs) := by
  have : pe T O ρ .wk (.rng es) = (pes T O ρ .st es).bind fun ds => (ppur (rngOf ds)).bind fun xs => .ok (.lst xs) := rfl
  rw [this, h, PR.bind_ok, hs]; rfl
def evb : List Sx := [(.iff (.or (.notN (.mth (.v 4) 1 [])) (.notN (.mth (.v 4) 2 []))) [(.ex (.bm .append (.v 1) [(.tup [(.v 2), (.v 3)])]))] [])]
theorem evb_ok {O : Orc} {n : Nat} (hO : O = oc (n + 1)) {x : Rw} {i j : Nat} {es : List (Nat × Nat)} {a : Option PVl} (hz : es.length < SZ) :
    pxss tb O 10 evb [a, some (.l (.lst (es.map pD))), some (.s (.int (i : Nat))), some (.s (.int (j : Nat))), some (.s x.o)] = .ok (.nx [a, some (.l (.lst ((es ++ if acts x then [(i, j)] else []).map pD))), some (.s (.int (i : Nat))), some (.s (.int (j : Nat))), some (.s x.o)]) := by
  obtain ⟨f1, p1, p2⟩ := q_puts hO x
  obtain ⟨f2, s1, s2⟩ := q_sees hO x
  have c : pe tb O [a, some (.l (.lst (es.map pD))), some (.s (.int (i : Nat))), some (.s (.int (j : Nat))), some (.s x.o)] .st (.or (.notN (.mth (.v 4) 1 [])) (.notN (.mth (.v 4) 2 []))) = .ok (.bl (acts x)) :=
    q_or (q_notN (q_mth (q_v rfl) p1 qs_nil p2)) (fun _ => q_notN (q_mth (q_v rfl) s1 qs_nil s2))
  cases ha : acts x with
  | true =>
    rw [ha] at c
    refine (px_iff_nx c ((px_app (d := .tup [.int (i : Nat), .int (j : Nat)]) rfl (q_tup (qs_cons (q_v rfl) (qs_one (q_v rfl))) (by simp [SZ])) (by rw [List.length_map]; exact hz)).trans rfl)).trans ?_
    rw [px_nil]
    simp [pD]
  | false =>
    rw [ha] at c
    refine (px_iff_no c).trans ?_
    rw [px_nil]
    simp
theorem p_events {n : Nat} {bx : List (Str × Int)} {hs : List (List Rw)} (h3 : hs.length ≤ 3) (h12 : ∀ h ∈ hs, h.length ≤ 12) : Sp (n + 2) 36 [prog bx hs] (.ok (pDs (eOf acts hs))) := by
  refine spec_of (fn := f36) rfl rfl rfl (by simp only [D.nrs, prog_nr, Bool.and_true]) ?_ (fun h => by cases h)
  show pfn tb (oc (n + 1)) 10 f36 _ = _
  obtain ⟨O, hO⟩ : ∃ O, O = oc (n + 1) := ⟨_, rfl⟩
  rw [← hO]
  obtain ⟨P, hP⟩ : ∃ P, P = prog bx hs := ⟨_, rfl⟩
  obtain ⟨ρ', H, a, b, c, rfl⟩ := forP_inv0 (ds := rngL 0 hs.length) (ρ := [some (.s P), some (.l (.lst [])), none, none, none])
    (f := fun d ρ1 => match ptarget ρ1 [2] false d with
        | some ρ2 => pxss tb O 10 [(.for [3, 4] true (.enum (.ix (.fld (.v 0) 7) (.v 2))) evb)] ρ2
        | none => .no)
    (I := fun i ρ => ∃ a b c, ρ = [some (.s P), some (.l (.lst ((eTo acts hs i).map pD))), a, b, c]) (fun i d ρ hd hE => by
      obtain ⟨a, b, c, rfl⟩ := hE
      obtain ⟨hi, rfl⟩ := rngL_at hd
      have hg : hs[i]? = some hs[i] := List.getElem?_eq_getElem hi
      have hgl : hs.getD i [] = hs[i] := by rw [List.getD_eq_getElem?_getD, hg]; rfl
      have hgl12 := h12 _ (List.getElem_mem hi)
      obtain ⟨ρ', H, b', c', rfl⟩ := forP_inv0 (ds := enumL 0 ((hs[i]).map Rw.o)) (ρ := [some (.s P), some (.l (.lst ((eTo acts hs i).map pD))), some (.s (.int (i : Nat))), b, c])
        (f := fun d ρ1 => match ptarget ρ1 [3, 4] true d with
            | some ρ2 => pxss tb O 10 evb ρ2
            | none => .no)
        (I := fun j ρ => ∃ b c, ρ = [some (.s P), some (.l (.lst ((eTo acts hs i ++ eIn acts hs i j).map pD))), some (.s (.int (i : Nat))), b, c]) (fun j d ρ hd hE => by
          obtain ⟨b, c, rfl⟩ := hE
          obtain ⟨y, hy, rfl⟩ := enumL_at hd
          rw [List.getElem?_map] at hy
          obtain ⟨x, hx, rfl⟩ := Option.map_eq_some_iff.mp hy
          have hj : j < (hs[i]).length := (List.getElem?_eq_some_iff.mp hx).1
          rw [Nat.zero_add]
          refine ⟨_, evb_ok (i := i) (j := j) hO (es := eTo acts hs i ++ eIn acts hs i j) (x := x) (a := some (.s P)) ?_, some (.s (.int (j : Nat))), some (.s x.o), ?_⟩
          · have h1 := eTo_len (p := acts) h12 (Nat.le_of_lt hi)
            have h2 := eIn_len acts hs i j
            rw [List.length_append]; unfold SZ; omega
          · rw [eIn_succ, rowAt_of hg hx, List.append_assoc]) ⟨_, _, by rw [show eIn acts hs i 0 = [] from rfl, List.append_nil]⟩
      rw [enumL_ln, List.length_map] at H
      refine ⟨_, (px_for (q_enum (q_ix (d := .lst ((hs[i]).map Rw.o)) (q_fld (d := linesD hs) (q_v rfl) (by rw [hP]; rfl)) (q_v rfl) (ix_natL (by rw [List.getElem?_map, hg]; rfl))) rfl) H).trans rfl, some (.s (.int (i : Nat))), b', c', ?_⟩
      rw [eTo_succ, hgl]) ⟨_, _, _, rfl⟩
  rw [rngL_len] at H
  have ex : pxss tb O 10 f36.body [some (.s P), none, none, none, none] = .ok (.rt (pDs (eOf acts hs))) := by
    exact (px_set rfl).trans ((px_forN (q_rng (qs_one (q_bf (r := .ok (.int (hs.length : Nat))) (qs_one (q_fld (d := hsT hs) (q_v rfl) (by rw [hP]; rfl))) (by simp [pbfn, bfn, hsT]))) (rng1 (by omega))) H).trans (px_retl (i := 1) (en := .lst ((eTo acts hs hs.length).map pD)) rfl))
  show pend (pxss tb O 10 f36.body [some (.s (prog bx hs)), none, none, none, none]) = _
  rw [← hP, ex]; rfl
theorem q_mem {h : List (List Rw)} : True := trivial
theorem p_puts {n : Nat} {bx : List (Str × Int)} {hs : List (List Rw)} (h3 : hs.length ≤ 3) (h12 : ∀ h ∈ hs, h.length ≤ 12) : Sp (n + 3) 39 [prog bx hs] (.ok (pDs (evsOf true hs))) := by
  refine spec_of (fn := f39) rfl rfl rfl (by simp only [D.nrs, prog_nr, Bool.and_true]) ?_ (fun h => by cases h)
  show pfn tb (oc (n + 2)) 10 f39 _ = _
  obtain ⟨O, hO⟩ : ∃ O, O = oc (n + 2) := ⟨_, rfl⟩
  rw [← hO]
  have k1 : O.C 36 [prog bx hs] = .ok (pDs (eOf acts hs)) := by rw [hO]; exact orc_C (p_events h3 h12)
  have k2 : ∀ {i j : Nat} {h : List Rw} {x : Rw}, hs[i]? = some h → h[j]? = some x → O.C 27 [prog bx hs, pD (i, j)] = .ok x.o := fun h1 h2 => by rw [hO]; exact orc_C (p_rowAt h1 h2)
  obtain ⟨P, hP⟩ : ∃ P, P = prog bx hs := ⟨_, rfl⟩
  rw [← hP] at k1 k2
  have hl := eTo_len (p := acts) h12 (Nat.le_refl _)
  have e1 : pe tb O [some (.s P), none] .st (.lc false (.v 1) [1] [1] false (.call 36 [(.v 0)]) (.isa (.call 27 [(.v 0), (.v 1)]) [(.cls 10)])) = .ok (pDs (evsOf true hs)) := by
    refine q_lc (ds := (eOf acts hs).map pD) (rs := (evsOf true hs).map pD) ((q_call (qs_one (q_v rfl)) k1).trans rfl) ((plc1_filter (enc := pD) (g := pD) (p := fun e => isPut (rowAt hs e.1 e.2)) (fun e he => ?_) (by unfold SZ; unfold eOf; simp; omega)).trans ?_) rfl
    · obtain ⟨g, x, h1, h2, _⟩ := eOf_mem he
      rw [rowAt_of h1 h2]
      refine plcF_if ?_ (fun _ => q_v rfl)
      have : kdOf tb x.o = some (.own (match x with | .put _ _ => 10 | .rd _ _ => 11 | .sw _ _ _ => 12 | .fc => 13 | .sk _ _ _ => 14)) := by cases x <;> rfl
      exact q_isa (q_call (qs_cons (q_v rfl) (qs_one (q_v rfl))) (k2 h1 h2)) this (by cases x <;> rfl)
    · rw [eOf_filter, List.nil_append, evsOf_e]
      congr 2
      congr 1
      funext x
      cases x <;> rfl
  have ex : pxss tb O 10 f39.body [some (.s P), none] = .ok (.rt (pDs (evsOf true hs))) := px_rete e1
  show pend (pxss tb O 10 f39.body [some (.s (prog bx hs)), none]) = _
  rw [← hP, ex]; rfl
end LS
end
section
set_option Elab.async false
set_option linter.all false
set_option maxRecDepth 100000
namespace LS
open PySem
/-! ### fences put in, in plain lists -/
def moreIn (ps : List Nat) (j : Nat) (m : Int) : List Nat := ps.filter fun p => decide ((j : Int) < (p : Nat)) && decide (((p : Nat) : Int) ≤ j + m)
def fRow (ps : List Nat) (j : Nat) : Rw → Rw
  | .sk m nm n => .sk (min (m + (moreIn ps j m).length) 12) nm n
  | x => x
def fAt (ps : List Nat) (j : Nat) (x : Rw) : List Rw := fRow ps j x :: if j ∈ ps then [.fc] else []
def fTo (ps : List Nat) (h : List Rw) (j : Nat) : List Rw := (List.range j).flatMap fun k => fAt ps k (h.getD k .fc)
def fHand (ps : List Nat) (h : List Rw) : List Rw := fTo ps h h.length
theorem fTo_succ (ps : List Nat) (h : List Rw) {j : Nat} {x : Rw} (e : h[j]? = some x) : fTo ps h (j + 1) = fTo ps h j ++ fAt ps j x := by
  unfold fTo
  rw [List.range_succ, List.flatMap_append]
  simp [List.getD_eq_getElem?_getD, e]
theorem fAt_len (ps : List Nat) (j : Nat) (x : Rw) : (fAt ps j x).length ≤ 2 := by
  unfold fAt
  split <;> simp
theorem fTo_len (ps : List Nat) (h : List Rw) : ∀ {j : Nat}, (fTo ps h j).length ≤ 2 * j
  | 0 => by simp [fTo]
  | j + 1 => by
    have h1 := fTo_len ps h (j := j)
    have h2 := fAt_len ps j (h.getD j .fc)
    have : fTo ps h (j + 1) = fTo ps h j ++ fAt ps j (h.getD j .fc) := by
      unfold fTo
      rw [List.range_succ, List.flatMap_append]
      simp
    rw [this, List.length_append]; omega
def natD (n : Nat) : D := .int (n : Int)
def fhb : List Sx := [(.iff (.cmp .eq (.ix (.v 4) (.k (.int 0))) (.k (.str "skip"))) [(.set 5 (.bf .len false [(.lc false (.v 6) [6] [6] false (.v 1) (.chain .lt .le (.v 3) (.v 6) (.bin .add (.v 3) (.ix (.v 4) (.k (.int 1))))))])), (.set 4 (.bin .add (.tup [(.k (.str "skip")), (.bf .min2 false [(.bin .add (.ix (.v 4) (.k (.int 1))) (.v 5)), (.k (.int 12))])]) (.sl (.v 4) (.k (.int 2)) .nil)))] []), (.ex (.bm .append (.v 2) [(.v 4)])), (.iff (.cmp .inn (.v 3) (.v 1)) [(.ex (.bm .append (.v 2) [(.tup [(.k (.str "fence"))])]))] [])]
theorem fit_nats {ps : List Nat} : D.fits 20 (ps.map natD) = true := by
  induction ps with
  | nil => rfl
  | cons p ps ih => simp [D.fits, D.fit, natD, ih]
theorem any_nats {ps : List Nat} {j : Nat} : (ps.map natD).any (fun z => D.eqb z (natD j)) = decide (j ∈ ps) := by
  induction ps with
  | nil => rfl
  | cons p ps ih =>
    rw [List.map_cons, List.any_cons, ih]
    have : D.eqb (natD p) (natD j) = decide (j = p) := by
      simp only [natD, D.eqb]
      by_cases h : j = p
      · subst h; simp
      · rw [decide_eq_false h]
        exact beq_eq_false_iff_ne.mpr (by omega)
    rw [this]
    by_cases h : j = p
    · subst h; simp
    · simp [h]
theorem in_nats {ps : List Nat} {j : Nat} : isin (natD j) (.lst (ps.map natD)) = some (decide (j ∈ ps)) := by
  simp only [isin, fit_nats, any_nats]
  simp [natD, D.fit]
theorem fhb_ok {O : Orc} {ps : List Nat} {j : Nat} {x : Rw} {acc : List Rw} {a c d : Option PVl} (hp : ps.length ≤ 100) (hz : acc.length ≤ 100) :
    ∃ c', pxss tb O 10 fhb [a, some (.s (.lst (ps.map natD))), some (.l (.lst (acc.map Rw.d))), some (.s (.int (j : Nat))), some (.s x.d), c, d] = .ok (.nx [a, some (.s (.lst (ps.map natD))), some (.l (.lst ((acc ++ fAt ps j x).map Rw.d))), some (.s (.int (j : Nat))), some (.s (fRow ps j x).d), c', d]) := by
  have one : ∃ c', pxss tb O 10 fhb [a, some (.s (.lst (ps.map natD))), some (.l (.lst (acc.map Rw.d))), some (.s (.int (j : Nat))), some (.s x.d), c, d] = pxss tb O 10 (fhb.drop 1) [a, some (.s (.lst (ps.map natD))), some (.l (.lst (acc.map Rw.d))), some (.s (.int (j : Nat))), some (.s (fRow ps j x).d), c', d] := by
    cases x with
    | put p1 p2 => exact ⟨c, px_iff_no (q_cmp (k := false) (q_ix (q_v rfl) (q_k rfl) rfl) (q_k rfl) rfl)⟩
    | rd p1 p2 => exact ⟨c, px_iff_no (q_cmp (k := false) (q_ix (q_v rfl) (q_k rfl) rfl) (q_k rfl) rfl)⟩
    | sw p1 p2 p3 => exact ⟨c, px_iff_no (q_cmp (k := false) (q_ix (q_v rfl) (q_k rfl) rfl) (q_k rfl) rfl)⟩
    | fc => exact ⟨c, px_iff_no (q_cmp (k := false) (q_ix (q_v rfl) (q_k rfl) rfl) (q_k rfl) rfl)⟩
    | sk m nm n =>
      refine ⟨some (.s (.int ((moreIn ps j m).length : Nat))), ?_⟩
      have e1 : pe tb O [a, some (.s (.lst (ps.map natD))), some (.l (.lst (acc.map Rw.d))), some (.s (.int (j : Nat))), some (.s (Rw.sk m nm n).d), c, d] .vw (.lc false (.v 6) [6] [6] false (.v 1) (.chain .lt .le (.v 3) (.v 6) (.bin .add (.v 3) (.ix (.v 4) (.k (.int 1)))))) = .ok (.lst ((moreIn ps j m).map natD)) := by
        refine q_lc (q_w rfl rfl) ((plc1_filter (enc := natD) (g := natD) (p := fun p => decide ((j : Int) < (p : Nat)) && decide (((p : Nat) : Int) ≤ j + m)) (fun p hpm => ?_) (by unfold SZ; simp; omega)).trans (by rw [List.nil_append]; rfl)) rfl
        refine plcF_if (q_chain (k := decide ((j : Int) < (p : Nat))) (q_v rfl) (q_v rfl) (c_lt rfl) (fun hk => ⟨q_bin (q_v rfl) (q_ix (q_v rfl) (q_k rfl) rfl) rfl, c_le (by rw [hk, Bool.true_and])⟩) (fun hk => by rw [hk, Bool.false_and])) (fun _ => q_v rfl)
      refine px_iff_nx (q_cmp (k := true) (q_ix (q_v rfl) (q_k rfl) rfl) (q_k rfl) rfl) ((px_setv (d := .int ((moreIn ps j m).length : Nat)) (q_bf (r := .ok (.int ((moreIn ps j m).length : Nat))) (qs_one e1) (by simp [pbfn, bfn]))).trans ((px_setv (d := (fRow ps j (.sk m nm n)).d) (q_bin (a := .tup [.str "skip", .int (min (m + ((moreIn ps j m).length : Nat)) 12)]) (c := .tup [.str nm, .int n]) (q_tup (qs_cons (q_k rfl) (qs_one (q_bf (r := .ok (.int (min (m + ((moreIn ps j m).length : Nat)) 12))) (qs_cons (q_bin (q_ix (q_v rfl) (q_k rfl) rfl) (q_v rfl) rfl) (qs_one (q_k rfl))) rfl))) (by simp [SZ])) (q_sl (l := .int 2) (h' := .non) (q_v rfl) (q_k rfl) rfl rfl rfl ?_) ?_)).trans px_nil))
      · simp [slice, cut, six, Rw.d]
      · simp [bop, SZ, Rw.d, fRow]
  obtain ⟨c', one⟩ := one
  refine ⟨c', one.trans ((px_app (i := 2) (xs := acc.map Rw.d) (d := (fRow ps j x).d) rfl (q_v rfl) (by rw [List.length_map]; unfold SZ; omega)).trans ?_)⟩
  have e2 : pe tb O [a, some (.s (.lst (ps.map natD))), some (.l (.lst (acc.map Rw.d ++ [(fRow ps j x).d]))), some (.s (.int (j : Nat))), some (.s (fRow ps j x).d), c', d] .st (.cmp .inn (.v 3) (.v 1)) = .ok (.bl (decide (j ∈ ps))) := q_cmp (q_v rfl) (q_v rfl) in_nats
  by_cases hj : j ∈ ps
  · rw [decide_eq_true hj] at e2
    refine (px_iff_nx e2 ((px_app (i := 2) (xs := acc.map Rw.d ++ [(fRow ps j x).d]) (d := .tup [.str "fence"]) rfl (q_tup (qs_one (q_k rfl)) (by simp [SZ])) (by simp [SZ]; omega)).trans px_nil)).trans ?_
    rw [px_nil]
    simp [fAt, hj, Rw.d]
  · rw [decide_eq_false hj] at e2
    refine (px_iff_no e2).trans ?_
    rw [px_nil]
    simp [fAt, hj]
theorem rwds_nr (h : List Rw) : D.nrs (h.map Rw.d) = true := nrs_all fun d hd => by obtain ⟨x, _, rfl⟩ := List.mem_map.mp hd; exact rwd_nr x
theorem nats_nr (ps : List Nat) : D.nr (.lst (ps.map natD)) = true := by
  simp only [D.nr]; exact nrs_all fun d hd => by obtain ⟨x, _, rfl⟩ := List.mem_map.mp hd; rfl
theorem p_fhand {n : Nat} {h : List Rw} {ps : List Nat} (hl : h.length ≤ 12) (hp : ps.length ≤ 100) : Sp (n + 1) 37 [hdD h, .lst (ps.map natD)] (.ok (hdD (fHand ps h))) := by
  refine spec_of (fn := f37) rfl rfl rfl (by simp only [D.nrs, hd_nr, nats_nr, Bool.and_true]) ?_ (fun h => by cases h)
  obtain ⟨O, hO⟩ : ∃ O, O = oc n := ⟨_, rfl⟩
  show pfn tb (oc n) 10 f37 _ = _
  rw [← hO]
  obtain ⟨ρ', H, a, b, c, d, rfl⟩ := forP_inv0 (ds := enumL 0 (h.map Rw.d)) (ρ := [some (.s (hdD h)), some (.s (.lst (ps.map natD))), some (.l (.lst [])), none, none, none, none])
    (f := fun d ρ1 => match ptarget ρ1 [3, 4] true d with
        | some ρ2 => pxss tb O 10 fhb ρ2
        | none => .no)
    (I := fun j ρ => ∃ a b c d, ρ = [some (.s (hdD h)), some (.s (.lst (ps.map natD))), some (.l (.lst ((fTo ps h j).map Rw.d))), a, b, c, d]) (fun j d ρ hd hE => by
      obtain ⟨a, b, c, d, rfl⟩ := hE
      obtain ⟨y, hy, rfl⟩ := enumL_at hd
      rw [List.getElem?_map] at hy
      obtain ⟨x, hx, rfl⟩ := Option.map_eq_some_iff.mp hy
      have hj : j < h.length := (List.getElem?_eq_some_iff.mp hx).1
      rw [Nat.zero_add]
      obtain ⟨c', e⟩ := fhb_ok (O := O) (ps := ps) (j := j) (x := x) (acc := fTo ps h j) (a := some (.s (hdD h))) (c := c) (d := d) hp (by have := fTo_len ps h (j := j); omega)
      exact ⟨_, e, some (.s (.int (j : Nat))), some (.s (fRow ps j x).d), c', d, by rw [fTo_succ ps h hx]⟩) ⟨_, _, _, _, rfl⟩
  rw [enumL_ln, List.length_map] at H
  have ex : pxss tb O 10 f37.body [some (.s (hdD h)), some (.s (.lst (ps.map natD))), none, none, none, none, none] = .ok (.rt (hdD (fHand ps h))) :=
    (px_set rfl).trans ((px_forN (q_enum (q_v rfl) rfl) H).trans (px_rete (q_bf (r := .ok (hdD (fHand ps h))) (qs_one (q_l rfl)) rfl)))
  show pend (pxss tb O 10 f37.body [some (.s (hdD h)), some (.s (.lst (ps.map natD))), none, none, none, none, none]) = _
  rw [ex]; rfl
end LS
end
section
set_option Elab.async false
set_option linter.all false
set_option maxRecDepth 100000
namespace LS
open PySem
def plOf (es : List (Nat × Nat)) (i : Nat) : List Nat := (es.filter fun e => e.1 == i).map (·.2)
def fAllTo (es : List (Nat × Nat)) (hs : List (List Rw)) (n : Nat) : List (List Rw) := (List.range n).map fun i => fHand (plOf es i) (hs.getD i [])
def fAll (es : List (Nat × Nat)) (hs : List (List Rw)) : List (List Rw) := fAllTo es hs hs.length
theorem fAllTo_succ (es : List (Nat × Nat)) (hs : List (List Rw)) {n : Nat} {h : List Rw} (e : hs[n]? = some h) : fAllTo es hs (n + 1) = fAllTo es hs n ++ [fHand (plOf es n) h] := by
  unfold fAllTo
  rw [List.range_succ, List.map_append]
  simp [List.getD_eq_getElem?_getD, e]
theorem fHand_ok {bs ws : List Str} {ps : List Nat} {h : List Rw} (ho : ∀ x ∈ h, x.ok bs ws) : ∀ x ∈ fHand ps h, x.ok bs ws := by
  intro x hx
  unfold fHand fTo at hx
  obtain ⟨k, hk, h2⟩ := List.mem_flatMap.mp hx
  have hk := List.mem_range.mp hk
  have hg : h.getD k .fc = h[k] := by rw [List.getD_eq_getElem?_getD, List.getElem?_eq_getElem hk]; rfl
  rw [hg] at h2
  have hm := ho _ (List.getElem_mem hk)
  unfold fAt at h2
  rcases List.mem_cons.mp h2 with rfl | h2
  · generalize h[k] = y at hm ⊢
    cases y with
    | sk m nm n => exact ⟨by have := hm.1; show (1 : Int) ≤ min _ _; omega, by show (min _ _ : Int) ≤ 12; omega, hm.2.2⟩
    | _ => exact hm
  · split at h2
    · rw [List.mem_singleton.mp h2]; exact trivial
    · cases h2
theorem fAll_pg {bx : List (Str × Int)} {hs : List (List Rw)} (P : PgOk bx hs) (es : List (Nat × Nat)) : PgOk bx (fAll es hs) where
  b0 := P.b0
  b3 := P.b3
  bn := P.bn
  bo := P.bo
  h0 := by unfold fAll fAllTo; simp; exact P.h0
  h3 := by unfold fAll fAllTo; simp; exact P.h3
  ho := fun h hm => by
    unfold fAll fAllTo at hm
    obtain ⟨i, hi, rfl⟩ := List.mem_map.mp hm
    have hi := List.mem_range.mp hi
    have hg : hs.getD i [] = hs[i] := by rw [List.getD_eq_getElem?_getD, List.getElem?_eq_getElem hi]; rfl
    rw [hg]
    obtain ⟨ws, a, b, c, d⟩ := P.ho _ (List.getElem_mem hi)
    exact ⟨ws, a, b, c, fHand_ok d⟩
theorem q_event {O : Orc} {n : Nat} (hO : O = oc (n + 2)) {i j : Int} : O.C 26 [.tup [.int i, .int j]] = .ok (.bl true) := by rw [hO]; exact orc_C (sp_ok rfl fun b st => s_event)
theorem q_eventNo {O : Orc} {n : Nat} (hO : O = oc (n + 2)) {d : D} (h : d = .non ∨ d = .int 5 ∨ d = .str "00" ∨ d = .tup [.int 0]) : O.C 26 [d] = .ok (.bl false) := by rw [hO]; exact orc_C (sp_ok rfl fun b st => s_eventNo h)
theorem fits_pDs {es : List (Nat × Nat)} : D.fits 20 (es.map pD) = true := by
  induction es with
  | nil => rfl
  | cons p ps ih => simp [D.fits, D.fit, pD, ih]
theorem in_pDs {es : List (Nat × Nat)} {i j : Int} : isin (.tup [.int i, .int j]) (pDs es) = some (es.any fun e => ((e.1 : Nat) : Int) == i && ((e.2 : Nat) : Int) == j) := by
  have : (es.map pD).any (fun z => D.eqb z (.tup [.int i, .int j])) = es.any fun e => ((e.1 : Nat) : Int) == i && ((e.2 : Nat) : Int) == j := by
    rw [List.any_map]
    congr 1
    funext e
    simp [pD, D.eqb, D.eqbs]
  simp only [isin, pDs, fits_pDs, this]
  simp [D.fit, D.fits]
/-- what is no event of a Put -/
def Bad (hs : List (List Rw)) (d : D) : Prop := d.nr = true ∧ ((d = .non ∨ d = .int 5 ∨ d = .str "00" ∨ d = .tup [.int 0]) ∨ ∃ i j : Int, d = .tup [.int i, .int j] ∧ ∀ e ∈ evsOf true hs, ¬ (((e.1 : Nat) : Int) = i ∧ ((e.2 : Nat) : Int) = j))
def feb : List Sx := [(.iff (.or (.not (.call 26 [(.v 3)])) (.cmp .nin (.v 3) (.v 2))) [(.rais 7)] [])]
theorem feb_ok {O : Orc} {n : Nat} (hO : O = oc (n + 2)) {hs : List (List Rw)} {e : Nat × Nat} (he : e ∈ evsOf true hs) {a b c d f : Option PVl} : pxss tb O 10 feb [a, b, some (.s (pDs (evsOf true hs))), some (.s (pD e)), c, d, f] = .ok (.nx [a, b, some (.s (pDs (evsOf true hs))), some (.s (pD e)), c, d, f]) := by
  have k1 := q_event hO (i := (e.1 : Nat)) (j := (e.2 : Nat))
  have k2 : cop .nin (pD e) (pDs (evsOf true hs)) = some false := by
    show (isin (.tup [.int (e.1 : Nat), .int (e.2 : Nat)]) (pDs (evsOf true hs))).map (fun b => !b) = _
    rw [in_pDs]
    have : ((evsOf true hs).any fun x => ((x.1 : Nat) : Int) == ((e.1 : Nat) : Int) && ((x.2 : Nat) : Int) == ((e.2 : Nat) : Int)) = true := List.any_eq_true.mpr ⟨e, he, by simp⟩
    rw [this]; rfl
  exact (px_iff_no (q_or_f (q_not (q_call (qs_one (q_v rfl)) k1)) (q_cmp (k := false) (q_v rfl) (q_v rfl) k2))).trans px_nil
theorem feb_X {O : Orc} {n : Nat} (hO : O = oc (n + 2)) {hs : List (List Rw)} {e : D} (he : Bad hs e) {a b c d f : Option PVl} : pxss tb O 10 feb [a, b, some (.s (pDs (evsOf true hs))), some (.s e), c, d, f] = .ex 7 [] [] := by
  obtain ⟨_, h | ⟨i, j, rfl, h⟩⟩ := he
  · exact px_iff_ex (q_or_t (q_not (q_call (qs_one (q_v rfl)) (q_eventNo hO h)))) px_rais
  · have k1 := q_event hO (i := i) (j := j)
    have k2 : cop .nin (.tup [.int i, .int j]) (pDs (evsOf true hs)) = some true := by
      show (isin (.tup [.int i, .int j]) (pDs (evsOf true hs))).map (fun b => !b) = _
      rw [in_pDs]
      have : ((evsOf true hs).any fun x => ((x.1 : Nat) : Int) == i && ((x.2 : Nat) : Int) == j) = false := by
        rw [List.any_eq_false]
        intro x hx hh
        simp only [Bool.and_eq_true, beq_iff_eq] at hh
        exact h x hx hh
      rw [this]; rfl
    exact px_iff_ex (q_or_f (q_not (q_call (qs_one (q_v rfl)) k1)) (q_cmp (k := true) (q_v rfl) (q_v rfl) k2)) px_rais
theorem plOf_len (es : List (Nat × Nat)) (i : Nat) : (plOf es i).length ≤ es.length := by
  unfold plOf
  rw [List.length_map]
  exact List.length_filter_le _ _
theorem pDsT_nr (es : List (Nat × Nat)) : D.nr (.tup (es.map pD)) = true := by
  simp only [D.nr]; exact nrs_all fun d hd => by obtain ⟨x, _, rfl⟩ := List.mem_map.mp hd; rfl
theorem p_fenced {n : Nat} {bx : List (Str × Int)} {hs : List (List Rw)} {es : List (Nat × Nat)} {R : PR D} (P : PgOk bx hs) (h12 : ∀ h ∈ hs, h.length ≤ 12) (he : ∀ e ∈ es, e ∈ evsOf true hs) (hl : es.length ≤ 100) (hN : SpecN tb 10 (n + 6) 15 [bxT bx, hsT (fAll es hs)] R) : Sp (n + 7) 38 [prog bx hs, .tup (es.map pD)] R := by
  refine spec_of (fn := f38) rfl rfl rfl (by simp only [D.nrs, prog_nr, pDsT_nr, Bool.and_true]) ?_ hN.1
  show pfn tb (oc (n + 6)) 10 f38 _ = _
  obtain ⟨O, hO⟩ : ∃ O, O = oc (n + 6) := ⟨_, rfl⟩
  have kN : O.N 15 [bxT bx, hsT (fAll es hs)] = R := by rw [hO]; exact orc_N hN
  have k1 : O.C 39 [prog bx hs] = .ok (pDs (evsOf true hs)) := by rw [hO]; exact orc_C (p_puts P.h3 h12)
  have k2 : ∀ h ∈ hs, ∀ i, O.C 37 [hdD h, .lst ((plOf es i).map natD)] = .ok (hdD (fHand (plOf es i) h)) := fun h hm i => by
    rw [hO]; exact orc_C (p_fhand (h12 h hm) (Nat.le_trans (plOf_len es i) hl))
  rw [← hO]
  obtain ⟨Q, hQ⟩ : ∃ Q, Q = prog bx hs := ⟨_, rfl⟩
  rw [← hQ] at k1 ⊢
  have f5 : ∀ {f d}, fldOf tb (prog bx hs) f = some d → fldOf tb Q f = some d := fun h => by rw [hQ]; exact h
  obtain ⟨ρ1, H1, a, rfl⟩ := forP_fold (enc := pD) (xs := es) (b := ()) (f := fun d ρ1 => match ptarget ρ1 [3] false d with
        | some ρ2 => pxss tb O 10 feb ρ2
        | none => .no) (ρ := [some (.s Q), some (.s (.tup (es.map pD))), some (.s (pDs (evsOf true hs))), none, none, none, none])
      (fun _ ρ => ∃ a, ρ = [some (.s Q), some (.s (.tup (es.map pD))), some (.s (pDs (evsOf true hs))), a, none, none, none]) (fun _ _ => ()) (fun e hm _ ρ hE => by
        obtain ⟨a, rfl⟩ := hE
        exact ⟨_, feb_ok (n := n + 4) hO (he e hm), some (.s (pD e)), rfl⟩) ⟨_, rfl⟩
  obtain ⟨ρ2, H2, a2, b2, c2, rfl⟩ := forP_inv0 (ds := enumL 0 (hs.map hdD)) (ρ := [some (.s Q), some (.s (.tup (es.map pD))), some (.s (pDs (evsOf true hs))), a, some (.l (.lst [])), none, none])
    (f := fun d ρ1 => match ptarget ρ1 [5, 6] true d with
        | some ρ2 => pxss tb O 10 [(.ex (.bm .append (.v 4) [(.call 37 [(.v 6), (.lc false (.ix (.v 3) (.k (.int 1))) [3] [3] false (.v 1) (.cmp .eq (.ix (.v 3) (.k (.int 0))) (.v 5)))])]))] ρ2
        | none => .no)
    (I := fun i ρ => ∃ a b c, ρ = [some (.s Q), some (.s (.tup (es.map pD))), some (.s (pDs (evsOf true hs))), a, some (.l (.lst ((fAllTo es hs i).map hdD))), b, c]) (fun i d ρ hd hE => by
      obtain ⟨a, b, c, rfl⟩ := hE
      obtain ⟨y, hy, rfl⟩ := enumL_at hd
      rw [List.getElem?_map] at hy
      obtain ⟨h, hh, rfl⟩ := Option.map_eq_some_iff.mp hy
      have hi : i < hs.length := (List.getElem?_eq_some_iff.mp hh).1
      have h3 := P.h3
      rw [Nat.zero_add]
      have e1 : pe tb O [some (.s Q), some (.s (.tup (es.map pD))), some (.s (pDs (evsOf true hs))), a, some (.l (.lst ((fAllTo es hs i).map hdD))), some (.s (.int (i : Nat))), some (.s (hdD h))] .st (.lc false (.ix (.v 3) (.k (.int 1))) [3] [3] false (.v 1) (.cmp .eq (.ix (.v 3) (.k (.int 0))) (.v 5))) = .ok (.lst ((plOf es i).map natD)) := by
        refine q_lc (q_w rfl rfl) ((plc1_filter (enc := pD) (g := fun e => natD e.2) (p := fun e => e.1 == i) (fun e hm => plcF_if (q_cmp (q_ix (q_v rfl) (q_k rfl) rfl) (q_v rfl) (c_eqI ?_)) (fun _ => q_ix (q_v rfl) (q_k rfl) rfl)) (by unfold SZ; simp; omega)).trans (by rw [List.nil_append])) ?_
        · rw [Bool.eq_iff_iff]; simp; omega
        · unfold plOf; rw [List.map_map]; rfl
      refine ⟨_, (px_app (i := 4) (xs := (fAllTo es hs i).map hdD) (d := hdD (fHand (plOf es i) h)) rfl (q_call (qs_cons (q_v rfl) (qs_one e1)) (k2 h (List.mem_of_getElem? hh) i)) (by rw [List.length_map]; unfold fAllTo SZ; simp; omega)).trans px_nil, a, some (.s (.int (i : Nat))), some (.s (hdD h)), ?_⟩
      rw [fAllTo_succ es hs hh, List.map_append]; rfl) ⟨_, _, _, rfl⟩
  rw [enumL_ln, List.length_map] at H2
  have eN : pe tb O [some (.s Q), some (.s (.tup (es.map pD))), some (.s (pDs (evsOf true hs))), a2, some (.l (.lst ((fAllTo es hs hs.length).map hdD))), b2, c2] .st (.new 15 false [(.fld (.v 0) 5), (.bf .tuple false [(.v 4)])]) = R := by
    refine (q_new (qs_cons (d := bxT bx) (q_fld (q_v rfl) (f5 rfl)) (qs_one (q_bf (r := .ok (hsT (fAll es hs))) (qs_one (q_l rfl)) rfl))) kN).trans ?_
    cases R <;> rfl
  have key : pxss tb O 10 f38.body [some (.s Q), some (.s (.tup (es.map pD))), none, none, none, none, none] = pxss tb O 10 [(.ret (.new 15 false [(.fld (.v 0) 5), (.bf .tuple false [(.v 4)])]))] [some (.s Q), some (.s (.tup (es.map pD))), some (.s (pDs (evsOf true hs))), a2, some (.l (.lst ((fAllTo es hs hs.length).map hdD))), b2, c2] := by
    refine (px_setv (q_call (qs_one (q_v rfl)) k1)).trans ?_
    refine (px_forN (q_w rfl rfl) H1).trans ?_
    refine (px_set (p := .l (.lst [])) rfl).trans ?_
    exact px_forN (q_enum (xs := hs.map hdD) (q_fld (d := hsT hs) (q_v rfl) (f5 rfl)) rfl) H2
  show pend (pxss tb O 10 f38.body [some (.s Q), some (.s (.tup (es.map pD))), none, none, none, none, none]) = _
  rw [key]
  have hR := hN.1
  cases R with
  | no => exact absurd rfl hR
  | ok d => rw [px_rete eN]; rfl
  | ex c fs vs => rw [px_reteX eN]; rfl
theorem p_fencedX {n : Nat} {bx : List (Str × Int)} {hs : List (List Rw)} {es es2 : List (Nat × Nat)} {bad : D} (P : PgOk bx hs) (h12 : ∀ h ∈ hs, h.length ≤ 12) (he : ∀ e ∈ es, e ∈ evsOf true hs) (hb : Bad hs bad) : Sp (n + 4) 38 [prog bx hs, .tup (es.map pD ++ bad :: es2.map pD)] (.ex 7 [] []) := by
  have hnr : D.nr (.tup (es.map pD ++ bad :: es2.map pD)) = true := by
    have h1 := pDsT_nr es
    have h2 := pDsT_nr es2
    simp only [D.nr] at h1 h2 ⊢
    exact nrs_app h1 (by simp only [D.nrs, hb.1, h2, Bool.and_self])
  refine spec_of (fn := f38) rfl rfl rfl (by simp only [D.nrs, prog_nr, hnr, Bool.and_true]) ?_ (fun h => by cases h)
  show pfn tb (oc (n + 3)) 10 f38 _ = _
  obtain ⟨O, hO⟩ : ∃ O, O = oc (n + 3) := ⟨_, rfl⟩
  have k1 : O.C 39 [prog bx hs] = .ok (pDs (evsOf true hs)) := by rw [hO]; exact orc_C (p_puts P.h3 h12)
  rw [← hO]
  obtain ⟨Q, hQ⟩ : ∃ Q, Q = prog bx hs := ⟨_, rfl⟩
  rw [← hQ] at k1 ⊢
  obtain ⟨ds, hds⟩ : ∃ ds, ds = es.map pD ++ bad :: es2.map pD := ⟨_, rfl⟩
  rw [← hds]
  have H := forP_at (ds := ds) (k := 0) (j := es.length) (d := bad) (R := .ex 7 [] []) (ρ := [some (.s Q), some (.s (.tup ds)), some (.s (pDs (evsOf true hs))), none, none, none, none])
    (f := fun d ρ1 => match ptarget ρ1 [3] false d with
        | some ρ2 => pxss tb O 10 feb ρ2
        | none => .no)
    (I := fun i ρ => ∃ a, ρ = [some (.s Q), some (.s (.tup ds)), some (.s (pDs (evsOf true hs))), a, none, none, none]) (.inl ⟨_, _, _, rfl⟩) (by rw [hds, List.getElem?_append_right (by simp), List.length_map, Nat.sub_self]; rfl) (fun i d ρ hi hd hE => by
      obtain ⟨a, rfl⟩ := hE
      rw [hds, List.getElem?_append_left (by simpa using hi), List.getElem?_map] at hd
      obtain ⟨e, h1, rfl⟩ := Option.map_eq_some_iff.mp hd
      exact ⟨_, feb_ok (n := n + 1) hO (he e (List.mem_of_getElem? h1)), some (.s (pD e)), rfl⟩) ⟨_, rfl⟩ (fun ρ hE => by
      obtain ⟨a, rfl⟩ := hE
      exact feb_X (n := n + 1) hO hb)
  have ex : pxss tb O 10 f38.body [some (.s Q), some (.s (.tup ds)), none, none, none, none, none] = .ex 7 [] [] :=
    (px_setv (q_call (qs_one (q_v rfl)) k1)).trans (px_forX (q_w rfl rfl) H)
  show pend (pxss tb O 10 f38.body [some (.s Q), some (.s (.tup ds)), none, none, none, none, none]) = _
  rw [ex]; rfl
end LS
end
section
set_option Elab.async false
set_option linter.all false
set_option maxRecDepth 100000
namespace LS
open PySem
section
variable {T : Tb} {O : Orc} {w : Nat} {ρ : PEnv} {e : Ex} {d : D} {rest : List Sx}
theorem px_tryE_ok {j c n i : Nat} (h : pe T O ρ .st e = .ok d) : pxss T O w (.tryE (.set j e) c n i :: rest) ρ = pxss T O w rest (ρ.set j (some (.s d))) := by
  rw [pxss, pxs, h]; rfl
theorem px_tryE_ex {j c n i c' : Nat} {fs : List Nat} {vs : List D} (h : pe T O ρ .st e = .ex c' fs vs) (h1 : excB T c' c = true) (h2 : T.sub c' c = true) : pxss T O w (.tryE (.set j e) c n i :: rest) ρ = pxss T O w rest ((ρ.set i (some (.s (.exc c' fs vs)))).set n none) := by
  rw [pxss, pxs, h]
  simp only [h1, h2, if_true]; rfl
end
/-- what the law's asking says -/
def says : PR D → D
  | .ok d => d
  | .ex 7 _ _ => .str "put"
  | _ => .str "program"
theorem p_asked {n : Nat} {P things : D} {R : PR D} (hP : D.nr P = true) (ht : D.nr things = true) (h : Sp n 38 [P, things] R) (hR : (∃ d, R = .ok d) ∨ R = .ex 7 [] [] ∨ R = .ex 2 [] []) : Sp (n + 1) 49 [.int 0, P, things, .int 0] (.ok (says R)) := by
  refine spec_of (fn := f49) rfl rfl rfl (by simp only [D.nrs, hP, ht, D.nr, Bool.and_true]) ?_ (fun h => by cases h)
  show pfn tb (oc n) 10 f49 _ = _
  obtain ⟨O, hO⟩ : ∃ O, O = oc n := ⟨_, rfl⟩
  have k : O.C 38 [P, things] = R := by rw [hO]; exact orc_C h
  rw [← hO]
  show pend (pxss tb O 10 f49.body [some (.s (.int 0)), some (.s P), some (.s things), some (.s (.int 0)), none, none, none, none, none]) = _
  rcases hR with ⟨d, rfl⟩ | rfl | rfl
  · have ex : pxss tb O 10 f49.body [some (.s (.int 0)), some (.s P), some (.s things), some (.s (.int 0)), none, none, none, none, none] = .ok (.rt d) := by
      refine (px_setv (q_k rfl)).trans ((px_setv (q_k rfl)).trans ((px_tryE_ok (q_call (qs_cons (q_v rfl) (qs_one (q_v rfl))) k)).trans ?_))
      exact px_iff_ret (q_isN (a := .non) (q_v rfl)) (px_retv rfl)
    rw [ex]; rfl
  · have ex : pxss tb O 10 f49.body [some (.s (.int 0)), some (.s P), some (.s things), some (.s (.int 0)), none, none, none, none, none] = .ok (.rt (.str "put")) := by
      refine (px_setv (q_k rfl)).trans ((px_setv (q_k rfl)).trans ((px_tryE_ex (q_call (qs_cons (q_v rfl) (qs_one (q_v rfl))) k) rfl rfl).trans ?_))
      rfl
    rw [ex]; rfl
  · have ex : pxss tb O 10 f49.body [some (.s (.int 0)), some (.s P), some (.s things), some (.s (.int 0)), none, none, none, none, none] = .ok (.rt (.str "program")) := by
      refine (px_setv (q_k rfl)).trans ((px_setv (q_k rfl)).trans ((px_tryE_ex (q_call (qs_cons (q_v rfl) (qs_one (q_v rfl))) k) rfl rfl).trans ?_))
      rfl
    rw [ex]; rfl
end LS
end
section
set_option Elab.async false
set_option linter.all false
set_option maxRecDepth 100000
namespace LS
open PySem
def lfb : List Sx := [(.set 6 (.ix (.ix (.ix (.v 0) (.k (.int 1))) (.v 3)) (.v 5))), (.iff (.cmp .eq (.ix (.v 6) (.k (.int 0))) (.k (.str "skip"))) [(.set 7 (.bf .len false [(.lc false (.k (.int 1)) [8] [8] false (.v 1) (.and (.cmp .eq (.ix (.v 8) (.k (.int 0))) (.v 3)) (.chain .lt .le (.v 5) (.ix (.v 8) (.k (.int 1))) (.bin .add (.v 5) (.ix (.v 6) (.k (.int 1)))))))])), (.set 6 (.bin .add (.tup [(.k (.str "skip")), (.bf .min2 false [(.k (.int 12)), (.bin .add (.ix (.v 6) (.k (.int 1))) (.v 7))])]) (.sl (.v 6) (.k (.int 2)) .nil)))] []), (.ex (.bm .append (.v 4) [(.v 6)])), (.iff (.cmp .inn (.tup [(.v 3), (.v 5)]) (.v 1)) [(.ex (.bm .append (.v 4) [(.tup [(.k (.str "fence"))])]))] [])]
theorem more_eq (es : List (Nat × Nat)) (i j : Nat) (m : Int) : (es.filter fun e => (e.1 == i) && (decide ((j : Int) < (e.2 : Nat)) && decide (((e.2 : Nat) : Int) ≤ j + m))).length = (moreIn (plOf es i) j m).length := by
  unfold moreIn plOf
  rw [List.filter_map, List.length_map, List.filter_filter]
  congr 1
  congr 1
  funext e
  simp only [Function.comp]
  exact Bool.and_comm ..
theorem in_pl (es : List (Nat × Nat)) (i j : Nat) : (es.any fun e => ((e.1 : Nat) : Int) == ((i : Nat) : Int) && ((e.2 : Nat) : Int) == ((j : Nat) : Int)) = decide (j ∈ plOf es i) := by
  rw [Bool.eq_iff_iff, List.any_eq_true, decide_eq_true_eq]
  unfold plOf
  rw [List.mem_map]
  constructor
  · rintro ⟨e, h1, h2⟩
    simp only [Bool.and_eq_true, beq_iff_eq] at h2
    exact ⟨e, List.mem_filter.mpr ⟨h1, by simp; omega⟩, by omega⟩
  · rintro ⟨e, h1, h2⟩
    obtain ⟨h3, h4⟩ := List.mem_filter.mp h1
    simp only [beq_iff_eq] at h4
    exact ⟨e, h3, by simp [h4, h2]⟩
theorem lfb_ok {O : Orc} {es : List (Nat × Nat)} {bxs : D} {hs : List (List Rw)} {i j : Nat} {g : List Rw} {x : Rw} {acc : List Rw} {a c d f : Option PVl} (hi : hs[i]? = some g) (hj : g[j]? = some x) (hp : es.length ≤ 100) (hz : acc.length ≤ 100) :
    ∃ c' d', pxss tb O 10 lfb [some (.s (.tup [bxs, hsT hs])), some (.s (pDs es)), a, some (.s (.int (i : Nat))), some (.l (.lst (acc.map Rw.d))), some (.s (.int (j : Nat))), c, d, f] = .ok (.nx [some (.s (.tup [bxs, hsT hs])), some (.s (pDs es)), a, some (.s (.int (i : Nat))), some (.l (.lst ((acc ++ fAt (plOf es i) j x).map Rw.d))), some (.s (.int (j : Nat))), c', d', f]) := by
  obtain ⟨Q, hQ⟩ : ∃ Q, Q = D.tup [bxs, hsT hs] := ⟨_, rfl⟩
  rw [← hQ]
  have e0 : ∀ {c d f : Option PVl}, pe tb O [some (.s Q), some (.s (pDs es)), a, some (.s (.int (i : Nat))), some (.l (.lst (acc.map Rw.d))), some (.s (.int (j : Nat))), c, d, f] .st (.ix (.ix (.ix (.v 0) (.k (.int 1))) (.v 3)) (.v 5)) = .ok x.d := by
    intro c d f
    exact q_ix (q_ix (d := hdD g) (q_ix (d := hsT hs) (q_v rfl) (q_k rfl) (by rw [hQ]; rfl)) (q_v rfl) (ix_nat (xs := hs.map hdD) (by rw [List.getElem?_map, hi]; rfl))) (q_v rfl) (ix_nat (xs := g.map Rw.d) (by rw [List.getElem?_map, hj]; rfl))
  have one : ∃ d', pxss tb O 10 (lfb.drop 1) [some (.s Q), some (.s (pDs es)), a, some (.s (.int (i : Nat))), some (.l (.lst (acc.map Rw.d))), some (.s (.int (j : Nat))), some (.s x.d), d, f] = pxss tb O 10 (lfb.drop 2) [some (.s Q), some (.s (pDs es)), a, some (.s (.int (i : Nat))), some (.l (.lst (acc.map Rw.d))), some (.s (.int (j : Nat))), some (.s (fRow (plOf es i) j x).d), d', f] := by
    cases x with
    | put p1 p2 => exact ⟨d, px_iff_no (q_cmp (k := false) (q_ix (q_v rfl) (q_k rfl) rfl) (q_k rfl) rfl)⟩
    | rd p1 p2 => exact ⟨d, px_iff_no (q_cmp (k := false) (q_ix (q_v rfl) (q_k rfl) rfl) (q_k rfl) rfl)⟩
    | sw p1 p2 p3 => exact ⟨d, px_iff_no (q_cmp (k := false) (q_ix (q_v rfl) (q_k rfl) rfl) (q_k rfl) rfl)⟩
    | fc => exact ⟨d, px_iff_no (q_cmp (k := false) (q_ix (q_v rfl) (q_k rfl) rfl) (q_k rfl) rfl)⟩
    | sk m nm n =>
      refine ⟨some (.s (.int ((moreIn (plOf es i) j m).length : Nat))), ?_⟩
      have e1 : pe tb O [some (.s Q), some (.s (pDs es)), a, some (.s (.int (i : Nat))), some (.l (.lst (acc.map Rw.d))), some (.s (.int (j : Nat))), some (.s (Rw.sk m nm n).d), d, f] .vw (.lc false (.k (.int 1)) [8] [8] false (.v 1) (.and (.cmp .eq (.ix (.v 8) (.k (.int 0))) (.v 3)) (.chain .lt .le (.v 5) (.ix (.v 8) (.k (.int 1))) (.bin .add (.v 5) (.ix (.v 6) (.k (.int 1))))))) = .ok (.lst ((es.filter fun e => (e.1 == i) && (decide ((j : Int) < (e.2 : Nat)) && decide (((e.2 : Nat) : Int) ≤ j + m))).map fun _ => .int 1)) := by
        refine q_lc (q_w rfl rfl) ((plc1_filter (enc := pD) (g := fun _ => .int 1) (p := fun e => (e.1 == i) && (decide ((j : Int) < (e.2 : Nat)) && decide (((e.2 : Nat) : Int) ≤ j + m))) (fun e hem => ?_) (by unfold SZ; simp; omega)).trans (by rw [List.nil_append])) rfl
        refine plcF_if (q_and (k := e.1 == i) (q_cmp (q_ix (q_v rfl) (q_k rfl) rfl) (q_v rfl) (c_eqI ?_)) (fun _ => q_chain (k := decide ((j : Int) < (e.2 : Nat))) (q_v rfl) (q_ix (q_v rfl) (q_k rfl) rfl) (c_lt rfl) (fun hk => ⟨q_bin (q_v rfl) (q_ix (q_v rfl) (q_k rfl) rfl) rfl, c_le (by rw [hk, Bool.true_and])⟩) (fun hk => by rw [hk, Bool.false_and]))) (fun _ => q_k rfl)
        rw [Bool.eq_iff_iff]; simp; omega
      refine px_iff_nx (q_cmp (k := true) (q_ix (q_v rfl) (q_k rfl) rfl) (q_k rfl) rfl) ((px_setv (d := .int ((moreIn (plOf es i) j m).length : Nat)) (q_bf (r := .ok (.int ((moreIn (plOf es i) j m).length : Nat))) (qs_one e1) (by rw [← more_eq]; simp [pbfn, bfn]))).trans ((px_setv (d := (fRow (plOf es i) j (.sk m nm n)).d) (q_bin (a := .tup [.str "skip", .int (min 12 (m + ((moreIn (plOf es i) j m).length : Nat)))]) (c := .tup [.str nm, .int n]) (q_tup (qs_cons (q_k rfl) (qs_one (q_bf (r := .ok (.int (min 12 (m + ((moreIn (plOf es i) j m).length : Nat))))) (qs_cons (q_k rfl) (qs_one (q_bin (q_ix (q_v rfl) (q_k rfl) rfl) (q_v rfl) rfl))) rfl))) (by simp [SZ])) (q_sl (l := .int 2) (h' := .non) (q_v rfl) (q_k rfl) rfl rfl rfl ?_) ?_)).trans px_nil))
      · simp [slice, cut, six, Rw.d]
      · simp [bop, SZ, Rw.d, fRow]; omega
  obtain ⟨d', one⟩ := one
  refine ⟨some (.s (fRow (plOf es i) j x).d), d', (px_setv e0).trans (one.trans ((px_app (i := 4) (xs := acc.map Rw.d) (d := (fRow (plOf es i) j x).d) rfl (q_v rfl) (by rw [List.length_map]; unfold SZ; omega)).trans ?_))⟩
  have e2 : pe tb O [some (.s Q), some (.s (pDs es)), a, some (.s (.int (i : Nat))), some (.l (.lst (acc.map Rw.d ++ [(fRow (plOf es i) j x).d]))), some (.s (.int (j : Nat))), some (.s (fRow (plOf es i) j x).d), d', f] .st (.cmp .inn (.tup [(.v 3), (.v 5)]) (.v 1)) = .ok (.bl (decide (j ∈ plOf es i))) :=
    q_cmp (a := .tup [.int (i : Nat), .int (j : Nat)]) (q_tup (qs_cons (q_v rfl) (qs_one (q_v rfl))) (by simp [SZ])) (q_v rfl) (by show isin _ (pDs es) = _; rw [in_pDs, in_pl])
  by_cases hjp : j ∈ plOf es i
  · rw [decide_eq_true hjp] at e2
    refine (px_iff_nx e2 ((px_app (i := 4) (xs := acc.map Rw.d ++ [(fRow (plOf es i) j x).d]) (d := .tup [.str "fence"]) rfl (q_tup (qs_one (q_k rfl)) (by simp [SZ])) (by simp [SZ]; omega)).trans px_nil)).trans ?_
    rw [px_nil]
    simp [fAt, hjp, Rw.d]
  · rw [decide_eq_false hjp] at e2
    refine (px_iff_no e2).trans ?_
    rw [px_nil]
    simp [fAt, hjp]
theorem p_lfenced {n : Nat} {es : List (Nat × Nat)} {bxs : D} {hs : List (List Rw)} (hb : D.nr bxs = true) (h3 : hs.length ≤ 3) (h12 : ∀ h ∈ hs, h.length ≤ 12) (hp : es.length ≤ 100) : Sp (n + 1) 50 [.tup [bxs, hsT hs], pDs es] (.ok (hsT (fAll es hs))) := by
  refine spec_of (fn := f50) rfl rfl rfl (by simp only [D.nrs, D.nr, hb, hds_nr, pDs_nr, Bool.and_true]) ?_ (fun h => by cases h)
  obtain ⟨O, hO⟩ : ∃ O, O = oc n := ⟨_, rfl⟩
  show pfn tb (oc n) 10 f50 _ = _
  rw [← hO]
  have e1 : ∀ {σ : PEnv}, σ[0]? = some (some (.s (.tup [bxs, hsT hs]))) → pe tb O σ .vw (.ix (.v 0) (.k (.int 1))) = .ok (hsT hs) := fun h => q_ix (q_v h) (q_k rfl) rfl
  obtain ⟨ρ', H, a, b, c, d, e, f, rfl⟩ := forP_inv0 (ds := rngL 0 hs.length) (ρ := [some (.s (.tup [bxs, hsT hs])), some (.s (pDs es)), some (.l (.lst [])), none, none, none, none, none, none])
    (f := fun d ρ1 => match ptarget ρ1 [3] false d with
        | some ρ2 => pxss tb O 10 [(.set 4 (.lst true [])), (.for [5] false (.rng [(.bf .len false [(.ix (.ix (.v 0) (.k (.int 1))) (.v 3))])]) lfb), (.ex (.bm .append (.v 2) [(.bf .tuple false [(.v 4)])]))] ρ2
        | none => .no)
    (I := fun i ρ => ∃ a b c d e f, ρ = [some (.s (.tup [bxs, hsT hs])), some (.s (pDs es)), some (.l (.lst ((fAllTo es hs i).map hdD))), a, b, c, d, e, f]) (fun i d ρ hd hE => by
      obtain ⟨a, b, c, d, e, f, rfl⟩ := hE
      obtain ⟨hi, rfl⟩ := rngL_at hd
      obtain ⟨g, hg⟩ : ∃ g, hs[i]? = some g := ⟨_, List.getElem?_eq_getElem hi⟩
      have hg12 := h12 g (List.mem_of_getElem? hg)
      obtain ⟨ρ', H, b', c', d', rfl⟩ := forP_inv0 (ds := rngL 0 g.length) (ρ := [some (.s (.tup [bxs, hsT hs])), some (.s (pDs es)), some (.l (.lst ((fAllTo es hs i).map hdD))), some (.s (.int (i : Nat))), some (.l (.lst [])), c, d, e, f])
        (f := fun d ρ1 => match ptarget ρ1 [5] false d with
            | some ρ2 => pxss tb O 10 lfb ρ2
            | none => .no)
        (I := fun j ρ => ∃ c d e, ρ = [some (.s (.tup [bxs, hsT hs])), some (.s (pDs es)), some (.l (.lst ((fAllTo es hs i).map hdD))), some (.s (.int (i : Nat))), some (.l (.lst ((fTo (plOf es i) g j).map Rw.d))), c, d, e, f]) (fun j d ρ hd hE => by
          obtain ⟨c, d, e, rfl⟩ := hE
          obtain ⟨hj, rfl⟩ := rngL_at hd
          obtain ⟨x, hx⟩ : ∃ x, g[j]? = some x := ⟨_, List.getElem?_eq_getElem hj⟩
          obtain ⟨c', d', hh⟩ := lfb_ok (O := O) (bxs := bxs) (es := es) (acc := fTo (plOf es i) g j) (a := some (.l (.lst ((fAllTo es hs i).map hdD)))) (c := d) (d := e) (f := f) hg hx hp (by have := fTo_len (plOf es i) g (j := j); omega)
          exact ⟨_, hh, _, c', d', by rw [fTo_succ _ _ hx]⟩) ⟨_, _, _, rfl⟩
      rw [rngL_len] at H
      refine ⟨[some (.s (.tup [bxs, hsT hs])), some (.s (pDs es)), some (.l (.lst ((fAllTo es hs i).map hdD ++ [hdD (fHand (plOf es i) g)]))), some (.s (.int (i : Nat))), some (.l (.lst ((fHand (plOf es i) g).map Rw.d))), b', c', d', f], ?_, some (.s (.int (i : Nat))), some (.l (.lst ((fHand (plOf es i) g).map Rw.d))), b', c', d', f, ?_⟩
      · refine (px_set (p := .l (.lst [])) rfl).trans ?_
        refine (px_forN (q_rng (qs_one (q_bf (r := .ok (.int (g.length : Nat))) (qs_one (q_ix (d := hdD g) (e1 rfl) (q_v rfl) (ix_nat (xs := hs.map hdD) (by rw [List.getElem?_map, hg]; rfl)))) (by simp [pbfn, bfn, hdD]))) (rng1 (by omega))) H).trans ?_
        exact (px_app (i := 2) (xs := (fAllTo es hs i).map hdD) (d := hdD (fHand (plOf es i) g)) rfl (q_bf (r := .ok (hdD (fHand (plOf es i) g))) (qs_one (q_l rfl)) rfl) (by rw [List.length_map]; unfold fAllTo SZ; simp; omega)).trans px_nil
      · rw [fAllTo_succ es hs hg, List.map_append]; rfl) ⟨_, _, _, _, _, _, rfl⟩
  rw [rngL_len] at H
  have ex : pxss tb O 10 f50.body [some (.s (.tup [bxs, hsT hs])), some (.s (pDs es)), none, none, none, none, none, none, none] = .ok (.rt (hsT (fAll es hs))) := by
    refine (px_set (p := .l (.lst [])) rfl).trans ?_
    refine (px_forN (q_rng (qs_one (q_bf (r := .ok (.int (hs.length : Nat))) (qs_one (e1 rfl)) (by simp [pbfn, bfn, hsT]))) (rng1 (by omega))) H).trans ?_
    exact px_rete (q_bf (r := .ok (hsT (fAll es hs))) (qs_one (q_l rfl)) rfl)
  show pend (pxss tb O 10 f50.body [some (.s (.tup [bxs, hsT hs])), some (.s (pDs es)), none, none, none, none, none, none, none]) = _
  rw [ex]; rfl
theorem maxI_gt : ∀ {xs : List Int}, xs ≠ [] → ∃ m, maxI xs = some m ∧ ∀ k : Int, m ≤ k ↔ ∀ x ∈ xs, x ≤ k
  | [], h => absurd rfl h
  | [x], _ => ⟨x, rfl, fun k => by simp⟩
  | x :: y :: ys, _ => by
    obtain ⟨m, h1, h2⟩ := maxI_gt (xs := y :: ys) (by simp)
    refine ⟨max x m, by rw [maxI, h1]; rfl; simp, fun k => ?_⟩
    rw [show max x m ≤ k ↔ x ≤ k ∧ m ≤ k by omega, h2]
    simp
theorem ints_map {α : Type} (f : α → Int) : ∀ xs : List α, intsOf (xs.map fun x => .int (f x)) = some (xs.map f)
  | [] => rfl
  | x :: xs => by rw [List.map_cons, intsOf, ints_map f xs]; rfl
def room (hs : List (List Rw)) : Bool := (hs.all fun h => decide (h.length ≤ 12)) && decide (lenAll hs ≤ 24)
def dueD (es : List (Nat × Nat)) (hs : List (List Rw)) : D := if room (fAll es hs) then hsT (fAll es hs) else .str "program"
theorem p_due {n : Nat} {es : List (Nat × Nat)} {bxs : D} {hs : List (List Rw)} (hb : D.nr bxs = true) (h0 : 0 < hs.length) (h3 : hs.length ≤ 3) (h12 : ∀ h ∈ hs, h.length ≤ 12) (hp : es.length ≤ 100) : Sp (n + 2) 53 [.tup [bxs, hsT hs], pDs es] (.ok (dueD es hs)) := by
  refine spec_of (fn := f53) rfl rfl rfl (by simp only [D.nrs, D.nr, hb, hds_nr, pDs_nr, Bool.and_true]) ?_ (fun h => by cases h)
  obtain ⟨O, hO⟩ : ∃ O, O = oc (n + 1) := ⟨_, rfl⟩
  show pfn tb (oc (n + 1)) 10 f53 _ = _
  have k : O.C 50 [.tup [bxs, hsT hs], pDs es] = .ok (hsT (fAll es hs)) := by rw [hO]; exact orc_C (p_lfenced hb h3 h12 hp)
  rw [← hO]
  obtain ⟨Q, hQ⟩ : ∃ Q, Q = D.tup [bxs, hsT hs] := ⟨_, rfl⟩
  rw [← hQ] at k ⊢
  obtain ⟨fs, hfs⟩ : ∃ fs, fs = fAll es hs := ⟨_, rfl⟩
  have hl : fs.length = hs.length := by rw [hfs]; unfold fAll fAllTo; simp
  unfold dueD
  rw [← hfs] at k ⊢
  have e1 : pe tb O [some (.s Q), some (.s (pDs es)), some (.s (hsT fs)), none] .vw (.lc false (.bf .len false [(.v 3)]) [3] [3] false (.v 2) (.k (.bl true))) = .ok (.lst (fs.map fun h => .int ((h.length : Nat) : Int))) :=
    q_lc (q_w rfl rfl) ((plc1_map (enc := hdD) (g := fun h => .int ((h.length : Nat) : Int)) (fun h hm => plcF_t (q_bf (r := .ok (.int ((h.length : Nat) : Int))) (qs_one (q_v rfl)) (by simp [pbfn, bfn, hdD]))) (by unfold SZ; simp; omega)).trans (by rw [List.nil_append])) rfl
  have hne : fs.map (fun h => ((h.length : Nat) : Int)) ≠ [] := by
    intro h
    have := congrArg List.length h
    simp at this
    subst this
    simp at hl; omega
  obtain ⟨m, m1, m2⟩ := maxI_gt hne
  have e2 : pe tb O [some (.s Q), some (.s (pDs es)), some (.s (hsT fs)), none] .vw (.bf .max false [(.lc false (.bf .len false [(.v 3)]) [3] [3] false (.v 2) (.k (.bl true)))]) = .ok (.int m) :=
    q_bf (r := .ok (.int m)) (qs_one e1) (by simp [pbfn, bfn, ints_map, m1])
  have e3 : pe tb O [some (.s Q), some (.s (pDs es)), some (.s (hsT fs)), none] .vw (.bf .sum false [(.lc false (.bf .len false [(.v 3)]) [3] [3] false (.v 2) (.k (.bl true)))]) = .ok (.int (lenAll fs : Nat)) := by
    refine q_bf (r := .ok (.int (lenAll fs : Nat))) (qs_one e1) ?_
    have : (fs.map fun h => ((h.length : Nat) : Int)).sum = (lenAll fs : Nat) := by rw [← lenTo_all]; unfold lenTo; rw [List.take_length]
    simp [pbfn, bfn, ints_map, this]
  have e4 : pe tb O [some (.s Q), some (.s (pDs es)), some (.s (hsT fs)), none] .st (.or (.cmp .gt (.bf .max false [(.lc false (.bf .len false [(.v 3)]) [3] [3] false (.v 2) (.k (.bl true)))]) (.k (.int 12))) (.cmp .gt (.bf .sum false [(.lc false (.bf .len false [(.v 3)]) [3] [3] false (.v 2) (.k (.bl true)))]) (.k (.int 24)))) = .ok (.bl (!room fs)) := by
    refine (q_or (k := decide ((12 : Int) < m)) (k' := decide ((24 : Int) < (lenAll fs : Nat))) (q_cmp e2 (q_k rfl) rfl) (fun _ => q_cmp e3 (q_k rfl) rfl)).trans ?_
    show PR.ok (D.bl _) = _
    congr 2
    unfold room
    rw [Bool.eq_iff_iff]
    simp only [Bool.or_eq_true, decide_eq_true_eq, Bool.not_eq_true', Bool.and_eq_false_iff, List.all_eq_false, decide_eq_false_iff_not, Bool.not_eq_true]
    have hm := m2 12
    constructor
    · rintro (h | h)
      · refine .inl ?_
        have : ¬ ∀ x ∈ fs.map (fun h => ((h.length : Nat) : Int)), x ≤ 12 := fun hh => by have := hm.mpr hh; omega
        obtain ⟨j, g, h1, h2, _⟩ := first_bad this
        obtain ⟨g', hg, rfl⟩ := List.mem_map.mp (List.mem_of_getElem? h1)
        exact ⟨g', hg, by omega⟩
      · exact .inr (by omega)
    · rintro (⟨g, h1, h2⟩ | h)
      · refine .inl ?_
        have : ¬ m ≤ 12 := fun hh => by
          have := hm.mp hh _ (List.mem_map.mpr ⟨g, h1, rfl⟩)
          omega
        omega
      · exact .inr (by omega)
  have ex : pxss tb O 10 f53.body [some (.s Q), some (.s (pDs es)), none, none] = .ok (.rt (if room fs then hsT fs else .str "program")) := by
    refine (px_setv (q_call (qs_cons (q_v rfl) (qs_one (q_v rfl))) k)).trans ?_
    cases hr : room fs with
    | true =>
      rw [hr] at e4
      exact (px_iff_no e4).trans (px_retv rfl)
    | false =>
      rw [hr] at e4
      exact px_iff_ret e4 (px_rete (q_k rfl))
  show pend (pxss tb O 10 f53.body [some (.s Q), some (.s (pDs es)), none, none]) = _
  rw [ex]; rfl
end LS
end
section
set_option Elab.async false
set_option linter.all false
set_option maxRecDepth 100000
namespace LS
open PySem
theorem p_cell {n : Nat} {ns : List Int} {k : Nat} : ∃ v : Int, Sp (n + 1) 40 [.scr ns, .int (k : Nat)] (.ok (.int v)) := by
  have l : ∀ {O : Orc}, pe tb O [some (.s (.scr ns)), some (.s (.int (k : Nat)))] .vw (.bf .len false [(.v 0)]) = .ok (.int (ns.length : Nat)) := fun {O} => q_bf (r := .ok (.int (ns.length : Nat))) (qs_one (q_v rfl)) rfl
  by_cases h : k < ns.length
  · refine ⟨ns[k], spec_of (fn := f40) rfl rfl rfl rfl ?_ (fun h => by cases h)⟩
    have ex : pxss tb (oc n) 10 f40.body [some (.s (.scr ns)), some (.s (.int (k : Nat)))] = .ok (.rt (.int ns[k])) := by
      refine px_iff_ret (q_cmp (k := true) (q_v rfl) l (c_lt (by simp; omega))) (px_rete (q_ix (q_v rfl) (q_v rfl) ?_))
      have : plc ns.length ((k : Nat) : Int) = some k := by unfold plc; rw [if_pos (by omega), if_pos (by omega)]; rfl
      simp only [index, this, Option.bind_some, List.getElem?_eq_getElem h, Option.map_some]
    show pend (pxss tb (oc n) 10 f40.body [some (.s (.scr ns)), some (.s (.int (k : Nat)))]) = _
    rw [ex]; rfl
  · refine ⟨0, spec_of (fn := f40) rfl rfl rfl rfl ?_ (fun h => by cases h)⟩
    have ex : pxss tb (oc n) 10 f40.body [some (.s (.scr ns)), some (.s (.int (k : Nat)))] = .ok (.rt (.int 0)) :=
      (px_iff_no (q_cmp (k := false) (q_v rfl) l (c_lt (by simp; omega)))).trans (px_rete (q_k rfl))
    show pend (pxss tb (oc n) 10 f40.body [some (.s (.scr ns)), some (.s (.int (k : Nat)))]) = _
    rw [ex]; rfl
theorem b_mul {i j : Int} (h : -(2 ^ 64) < j ∧ j < 2 ^ 64) : bop .mul (.int i) (.int j) = some (.int (i * j)) := by simp only [bop]; rw [if_pos h]
theorem b_mod {i j : Int} (h : 0 < j) : bop .mod (.int i) (.int j) = some (.int (i % j)) := by simp only [bop]; rw [if_pos h]
theorem p_mixed {n : Nat} {x y : Int} (h0 : 0 ≤ y) (h1 : y < 1000000) : ∃ v : Int, Sp (n + 1) 41 [.int x, .int y] (.ok (.int v)) := by
  have l : ∀ {O : Orc}, pe tb O [some (.s (.int x)), some (.s (.int y)), none] .vw (.bin .pow (.k (.int 10)) (.k (.int 18))) = .ok (.int (10 ^ 18)) := fun {O} => q_bin (q_k rfl) (q_k rfl) rfl
  by_cases h : (10 ^ 18 : Int) ≤ x
  · refine ⟨x, spec_of (fn := f41) rfl rfl rfl rfl ?_ (fun h => by cases h)⟩
    have ex : pxss tb (oc n) 10 f41.body [some (.s (.int x)), some (.s (.int y)), none] = .ok (.rt (.int x)) :=
      px_iff_ret (q_cmp (k := true) (q_v rfl) l (by simp only [cop]; rw [decide_eq_true h])) (px_retv rfl)
    show pend (pxss tb (oc n) 10 f41.body [some (.s (.int x)), some (.s (.int y)), none]) = _
    rw [ex]; rfl
  · obtain ⟨z, hz⟩ : ∃ z, z = (x % 2147483647 + 7919 * y + 11) * 48271 % 2147483647 := ⟨_, rfl⟩
    have z0 : 0 ≤ z := by rw [hz]; exact Int.emod_nonneg _ (by decide)
    have z1 : z < 2147483647 := by rw [hz]; exact Int.emod_lt_of_pos _ (by decide)
    refine ⟨z * z % 2147483629, spec_of (fn := f41) rfl rfl rfl rfl ?_ (fun h => by cases h)⟩
    have ex : pxss tb (oc n) 10 f41.body [some (.s (.int x)), some (.s (.int y)), none] = .ok (.rt (.int (z * z % 2147483629))) := by
      refine (px_iff_no (q_cmp (k := false) (q_v rfl) l (by simp only [cop]; rw [decide_eq_false h]))).trans ?_
      refine (px_setv (d := .int z) (q_bin (q_bin (q_bin (q_bin (q_bin (q_v rfl) (q_k rfl) (b_mod (by decide))) (q_bin (q_k rfl) (q_v rfl) (b_mul (by omega))) rfl) (q_k rfl) rfl) (q_k rfl) (b_mul (by decide))) (q_k rfl) (by rw [hz]; exact b_mod (by decide)))).trans ?_
      exact px_rete (q_bin (q_bin (q_v rfl) (q_v rfl) (b_mul (by omega))) (q_k rfl) (b_mod (by decide)))
    show pend (pxss tb (oc n) 10 f41.body [some (.s (.int x)), some (.s (.int y)), none]) = _
    rw [ex]; rfl
mutual
theorem eqb_self : ∀ (k : Nat) (d : D), D.fit k d = true → D.eqb d d = true
  | _, .non, _ => rfl
  | _, .bl b, _ => by simp [D.eqb]
  | _, .int i, _ => by simp [D.eqb]
  | _, .str s, _ => by simp [D.eqb]
  | 0, .tup xs, h => by simp [D.fit] at h
  | 0, .lst xs, h => by simp [D.fit] at h
  | k + 1, .tup xs, h => by simp only [D.eqb]; exact eqbs_self k xs (by simpa [D.fit] using h)
  | k + 1, .lst xs, h => by simp only [D.eqb]; exact eqbs_self k xs (by simpa [D.fit] using h)
  | k, .dic a b, h => by cases k <;> simp [D.fit] at h
  | k, .ins a b c, h => by cases k <;> simp [D.fit] at h
  | k, .exc a b c, h => by cases k <;> simp [D.fit] at h
  | k, .scr a, h => by cases k <;> simp [D.fit] at h
  | k, .ref a, h => by cases k <;> simp [D.fit] at h
theorem eqbs_self : ∀ (k : Nat) (xs : List D), D.fits k xs = true → D.eqbs xs xs = true
  | _, [], _ => rfl
  | k, x :: xs, h => by
    simp only [D.fits, Bool.and_eq_true] at h
    simp only [D.eqbs, Bool.and_eq_true]
    exact ⟨eqb_self k x h.1, eqbs_self k xs h.2⟩
end
theorem fits_of {k : Nat} {xs : List D} (h : ∀ d ∈ xs, D.fit k d = true) : D.fits k xs = true := by
  induction xs with
  | nil => cases k <;> rfl
  | cons x xs ih =>
    simp only [D.fits, Bool.and_eq_true]
    exact ⟨h x (List.mem_cons_self ..), ih fun d hd => h d (List.mem_cons_of_mem _ hd)⟩
theorem rw_fit {k : Nat} (x : Rw) : D.fit (k + 1) x.d = true := by cases x <;> simp [Rw.d, D.fit, D.fits]
theorem hs_fit (hs : List (List Rw)) : D.fit 20 (hsT hs) = true := by
  unfold hsT
  simp only [D.fit]
  refine fits_of fun d hd => ?_
  obtain ⟨h, _, rfl⟩ := List.mem_map.mp hd
  unfold hdD
  simp only [D.fit]
  refine fits_of fun d hd => ?_
  obtain ⟨x, _, rfl⟩ := List.mem_map.mp hd
  exact rw_fit x
theorem bx_fit (bx : List (Str × Int)) : D.fit 20 (bxT bx) = true := by
  unfold bxT
  simp only [D.fit]
  refine fits_of fun d hd => ?_
  obtain ⟨h, _, rfl⟩ := List.mem_map.mp hd
  simp [bxD, D.fit, D.fits]
theorem c_self {d : D} (h : D.fit 20 d = true) : cop .ne d d = some false := by
  simp only [cop, h, Bool.and_self, if_true, eqb_self 20 d h]; rfl
/-- some of the events are kept, by a draw each -/
theorem lcL_keep {f : D → Sto → Rs (Option D)} {r n0 : Nat} (hr : r < n0) : ∀ {es acc : List (Nat × Nat)} {st : Sto}, (∀ e ∈ es, ∀ st : Sto, st.length = n0 → Dr r st → ∃ (k : Bool) (st' : Sto), Up r st st' ∧ f (pD e) st = .ok (if k then some (pD e) else none) st') → st.length = n0 → Dr r st → acc.length + es.length ≤ SZ →
    ∃ (ys : List (Nat × Nat)) (st' : Sto), (∀ y ∈ ys, y ∈ es) ∧ ys.length ≤ es.length ∧ Up r st st' ∧ lcL f (es.map pD) (acc.map pD) st = .ok ((acc ++ ys).map pD) st'
  | [], acc, st, _, _, hd, _ => ⟨[], st, fun y hy => hy, Nat.le_refl _, Up.refl hd, by simp [lcL]⟩
  | e :: es, acc, st, h, hl, hd, hz => by
    rw [List.length_cons] at hz
    obtain ⟨k, st1, u1, e1⟩ := h e (List.mem_cons_self ..) st hl hd
    have hz' : (acc.map pD).length < SZ := by rw [List.length_map]; omega
    have l1 := u1.len
    cases k with
    | false =>
      obtain ⟨ys, st2, p1, p2, u2, e2⟩ := lcL_keep (f := f) hr (es := es) (acc := acc) (st := st1) (fun e he => h e (List.mem_cons_of_mem _ he)) (by omega) (u1.dr (by omega)) (by omega)
      refine ⟨ys, st2, fun y hy => List.mem_cons_of_mem _ (p1 y hy), by rw [List.length_cons]; omega, u1.trans u2, ?_⟩
      rw [List.map_cons, lcL, e1]
      exact e2
    | true =>
      obtain ⟨ys, st2, p1, p2, u2, e2⟩ := lcL_keep (f := f) hr (es := es) (acc := acc ++ [e]) (st := st1) (fun e he => h e (List.mem_cons_of_mem _ he)) (by omega) (u1.dr (by omega)) (by rw [List.length_append, List.length_singleton]; omega)
      refine ⟨e :: ys, st2, fun y hy => ?_, by rw [List.length_cons, List.length_cons]; omega, u1.trans u2, ?_⟩
      · rcases List.mem_cons.mp hy with rfl | hy
        · exact List.mem_cons_self ..
        · exact List.mem_cons_of_mem _ (p1 y hy)
      · rw [List.map_cons, lcL, e1]
        simp only [if_true, Rs.bind_ok, hz']
        rw [List.map_append] at e2
        rw [show acc ++ e :: ys = acc ++ [e] ++ ys by simp]
        exact e2
theorem evsOf_le {k : Bool} {hs : List (List Rw)} (h3 : hs.length ≤ 3) (h8 : ∀ h ∈ hs, h.length ≤ 8) : (evsOf k hs).length ≤ 24 := by
  have := evsTo_len (k := k) h8 (Nat.le_refl hs.length)
  unfold evsOf; omega
/-- what the law mixes in is bad -/
theorem odd_bad {hs : List (List Rw)} {d : D} (h3 : hs.length ≤ 3) (h8 : ∀ h ∈ hs, h.length ≤ 8) (h : d ∈ (evsOf false hs).map pD ++ [.tup [.int 0, .int 99], .tup [.int 9, .int 0], .tup [.int 0, .int (-1)], .non, .int 5, .str "00", .tup [.int 0]]) : Bad hs d := by
  have hev : ∀ e ∈ evsOf true hs, e.1 < 3 ∧ e.2 < 8 := fun e he => by
    rw [evsOf_e] at he
    obtain ⟨g, x, h1, h2, _⟩ := eOf_mem he
    have a1 := (List.getElem?_eq_some_iff.mp h1).1
    have a2 := (List.getElem?_eq_some_iff.mp h2).1
    have a3 := h8 g (List.mem_of_getElem? h1)
    omega
  rcases List.mem_append.mp h with h | h
  · obtain ⟨e, he, rfl⟩ := List.mem_map.mp h
    refine ⟨rfl, .inr ⟨(e.1 : Nat), (e.2 : Nat), rfl, fun e' he' hh => ?_⟩⟩
    have : e' = e := Prod.ext (by omega) (by omega)
    subst this
    rw [evsOf_e] at he he'
    obtain ⟨g, x, h1, h2, p1⟩ := eOf_mem he
    obtain ⟨g', x', h1', h2', p2⟩ := eOf_mem he'
    rw [h1] at h1'; cases h1'
    rw [h2] at h2'; cases h2'
    cases hx : isPut x <;> rw [hx] at p1 p2 <;> simp at p1 p2
  · simp only [List.mem_cons, List.not_mem_nil, or_false] at h
    rcases h with rfl | rfl | rfl | rfl | rfl | rfl | rfl
    · exact ⟨rfl, .inr ⟨0, 99, rfl, fun e he hh => by have := hev e he; omega⟩⟩
    · exact ⟨rfl, .inr ⟨9, 0, rfl, fun e he hh => by have := hev e he; omega⟩⟩
    · exact ⟨rfl, .inr ⟨0, -1, rfl, fun e he hh => by have := hev e he; omega⟩⟩
    · exact ⟨rfl, .inl (.inl rfl)⟩
    · exact ⟨rfl, .inl (.inr (.inl rfl))⟩
    · exact ⟨rfl, .inl (.inr (.inr (.inl rfl)))⟩
    · exact ⟨rfl, .inl (.inr (.inr (.inr rfl)))⟩
end LS
end
section
set_option Elab.async false
set_option linter.all false
set_option maxRecDepth 100000
namespace LS
open PySem
def lawB : List Sx := match f54.body with | [.for _ _ _ b, _] => b | _ => []
theorem law_body {n : Nat} {ns : List Int} {k : Nat} (hk : k < 1000) {st : Sto} {a2 a3 a4 a5 a6 a7 a8 a9 a10 a11 a12 : Option D} :
    ∃ (b2 b3 b4 b5 b6 b7 b8 b9 b10 b11 b12 : Option D) (st' : Sto), xss tb (cal tb 10 (n + 20) 0) 0 10 lawB [some (.scr ns), some (.int (k : Nat)), a2, a3, a4, a5, a6, a7, a8, a9, a10, a11, a12] st = .ok (.nx [some (.scr ns), some (.int (k : Nat)), b2, b3, b4, b5, b6, b7, b8, b9, b10, b11, b12]) st' := by
  -- 1
  obtain ⟨v, c1⟩ := p_cell (n := n + 19) (ns := ns) (k := k)
  obtain ⟨x, c2⟩ := p_mixed (n := n + 19) (x := v) (y := 460 + (k : Nat)) (by omega) (by omega)
  have c1 := fun st => c1.ok (b := 0) (st := st)
  have c2 := fun st => c2.ok (b := 0) (st := st)
  obtain ⟨s1, hs1⟩ : ∃ s1, s1 = st ++ [Ent.lst [.int x]] := ⟨_, rfl⟩
  have d1 : Dr st.length s1 := ⟨x, by rw [hs1, List.getElem?_append_right (Nat.le_refl _), Nat.sub_self]; rfl⟩
  have l1 : s1.length = st.length + 1 := by rw [hs1, List.length_append]; rfl
  -- 2
  obtain ⟨v1, s2, v10, v11, u2, c3⟩ := s_next (n := n + 19) (b := 0) d1 (m := 3) (by decide) (by decide)
  obtain ⟨v2, s3, v20, v21, u3, c4⟩ := s_next (n := n + 19) (b := 0) (u2.dr d1.len) (m := 2) (by decide) (by decide)
  have l2 := u2.len
  have l3 := u3.len
  obtain ⟨H, hH⟩ : ∃ H : Nat, 1 + v1 = (H : Int) := ⟨(1 + v1).toNat, by omega⟩
  obtain ⟨bx, hs0, s4, b0, b3, bn, bo, hl0, ho0, u4, c5⟩ := s_told (n := n + 14) (b := 0) (H := H) (R := if v2 = 0 then 7 else 8) (u3.dr (by omega)) (by omega) (by split <;> decide) (by split <;> decide)
  have l4 := u4.len
  obtain ⟨hs, s5, hl, ho, u5, c6⟩ := s_wide (n := n + 18) (b := 0) (bxs := bxT bx) (hs := hs0) (u4.dr (by omega)) (bxT_nr bx) (by omega) ho0
  have l5 := u5.len
  have P : PgOk bx hs := ⟨b0, b3, bn, bo, by omega, by omega, fun h hm => (ho h hm).2⟩
  have h8 : ∀ h ∈ hs, h.length ≤ 8 := fun h hm => (ho h hm).1
  have h12 : ∀ h ∈ hs, h.length ≤ 12 := fun h hm => by have := h8 h hm; omega
  have h24 : lenAll hs ≤ 24 := by
    have h3 := P.h3
    have : ∀ (hs : List (List Rw)), (∀ h ∈ hs, h.length ≤ 8) → lenAll hs ≤ 8 * hs.length := fun hs => by
      induction hs with
      | nil => intro _; exact Nat.le_refl _
      | cons h t ih =>
        intro hh
        have q1 := hh h (List.mem_cons_self ..)
        have q2 := ih fun g hg => hh g (List.mem_cons_of_mem _ hg)
        unfold lenAll at q2 ⊢
        simp only [List.map_cons, List.sum_cons, List.length_cons]
        omega
    have := this hs h8
    omega
  -- 3
  have c7 := ((p_prog (n := n + 14) P h12 h24).2 0 s5).2
  -- 4
  have c8 := s_events (n := n + 19) (b := 0) (st := s5) (bxs := bxT bx) true P.h3 h8
  have lev := evsOf_le (k := true) P.h3 h8
  -- 5
  obtain ⟨C, hC⟩ : ∃ C, C = cal tb 10 (n + 20) 0 := ⟨_, rfl⟩
  obtain ⟨r, hr⟩ : ∃ r, r = st.length := ⟨_, rfl⟩
  rw [← hr] at d1 u2 u3 u4 u5 c3 c4 c5 c6
  have dr5 : Dr r s5 := u5.dr (by omega)
  have K5 := lcL_keep (r := r) (n0 := s5.length) (f := fun d s1 => (ev tb C 0 ((wipeE [some (.scr ns), some (.int (k : Nat)), some (.ref r), some (.tup [bxT bx, hsT hs]), some (prog bx hs), some (pDs (evsOf true hs)), a6, a7, a8, a9, a10, a11, a12] [12]).set 12 (some d)) (.cmp .gt (.call 42 [(.v 2), (.k (.int 4))]) (.k (.int 0))) s1).noex.bind fun k' s2 => (match k' with
        | .bl true => (ev tb C 0 ((wipeE [some (.scr ns), some (.int (k : Nat)), some (.ref r), some (.tup [bxT bx, hsT hs]), some (prog bx hs), some (pDs (evsOf true hs)), a6, a7, a8, a9, a10, a11, a12] [12]).set 12 (some d)) (.v 12) s2).noex.bind fun r s3 => .ok (some r) s3
        | .bl false => .ok none s2
        | _ => .no)) dr5.len (es := evsOf true hs) (acc := []) (st := s5) (fun e he s hsl hd => by
      obtain ⟨v, s', v0, v1, u, q⟩ := s_next (n := n + 19) (b := 0) hd (m := 4) (by decide) (by decide)
      rw [← hC] at q
      refine ⟨decide ((0 : Int) < v), s', u, ?_⟩
      have e1 : ev tb C 0 ((wipeE [some (.scr ns), some (.int (k : Nat)), some (.ref r), some (.tup [bxT bx, hsT hs]), some (prog bx hs), some (pDs (evsOf true hs)), a6, a7, a8, a9, a10, a11, a12] [12]).set 12 (some (pD e))) (.cmp .gt (.call 42 [(.v 2), (.k (.int 4))]) (.k (.int 0))) s = .ok (.bl (decide ((0 : Int) < v))) s' := e_cmp (e_call (es_cons (e_v rfl) (es_one e_k)) q) e_k rfl
      have e2 : ev tb C 0 ((wipeE [some (.scr ns), some (.int (k : Nat)), some (.ref r), some (.tup [bxT bx, hsT hs]), some (prog bx hs), some (pDs (evsOf true hs)), a6, a7, a8, a9, a10, a11, a12] [12]).set 12 (some (pD e))) (.v 12) s' = .ok (pD e) s' := e_v rfl
      simp only [e1, Rs.noex_ok, Rs.bind_ok]
      cases decide ((0 : Int) < v) with
      | true => simp only [e2, Rs.noex_ok, Rs.bind_ok]; rfl
      | false => rfl) rfl dr5 (by rw [List.length_nil]; unfold SZ; omega)
  obtain ⟨es1, s6, m1, ml1, u6, c9⟩ := K5
  have l6 := u6.len
  -- 6
  obtain ⟨v3, s7, v30, v31, u7, c10⟩ := s_next (n := n + 19) (b := 0) (u6.dr dr5.len) (m := 2) (by decide) (by decide)
  have l7 := u7.len
  obtain ⟨es, hes⟩ : ∃ es, es = if v3 = 0 then es1.reverse else es1 := ⟨_, rfl⟩
  have m2 : ∀ e ∈ es, e ∈ evsOf true hs := fun e he => by
    rw [hes] at he
    split at he
    · exact m1 e (List.mem_reverse.mp he)
    · exact m1 e he
  have ml2 : es.length ≤ 100 := by
    rw [hes]
    split
    · rw [List.length_reverse]; omega
    · omega
  -- 7
  obtain ⟨R, hN, hRo⟩ : ∃ R, SpecN tb 10 (n + 12 + 6) 15 [bxT bx, hsT (fAll es hs)] R ∧ ((room (fAll es hs) = true ∧ R = .ok (prog bx (fAll es hs))) ∨ (room (fAll es hs) = false ∧ R = .ex 2 [] [])) := by
    have P' := fAll_pg P es
    cases hro : room (fAll es hs) with
    | true =>
      unfold room at hro
      simp only [Bool.and_eq_true, List.all_eq_true, decide_eq_true_eq] at hro
      exact ⟨_, p_prog P' hro.1 hro.2, .inl ⟨rfl, rfl⟩⟩
    | false =>
      refine ⟨_, p_progX P' fun hh => ?_, .inr ⟨rfl, rfl⟩⟩
      have : room (fAll es hs) = true := by
        unfold room
        simp only [Bool.and_eq_true, List.all_eq_true, decide_eq_true_eq]
        exact hh
      rw [hro] at this; cases this
  have sF := p_fenced (n := n + 12) P h12 m2 ml2 hN
  have sA := p_asked (n := n + 19) (prog_nr bx hs) (pDsT_nr es) sF (by rcases hRo with ⟨_, rfl⟩ | ⟨_, rfl⟩; exact .inl ⟨_, rfl⟩; exact .inr (.inr rfl))
  have c11 := sA.ok (b := 0) (st := s7)
  -- 8
  have c12 := (p_due (n := n + 18) (es := es) (bxs := bxT bx) (bxT_nr bx) P.h0 P.h3 h12 ml2).ok (b := 0) (st := s7)
  -- 10
  have c13 := s_events (n := n + 19) (b := 0) (st := s7) (bxs := bxT bx) false P.h3 h8
  have lev2 := evsOf_le (k := false) P.h3 h8
  obtain ⟨odd, hodd⟩ : ∃ odd, odd = (evsOf false hs).map pD ++ [.tup [.int 0, .int 99], .tup [.int 9, .int 0], .tup [.int 0, .int (-1)], .non, .int 5, .str "00", .tup [.int 0]] := ⟨_, rfl⟩
  have hon : ∀ d ∈ odd, D.nr d = true := fun d hd => by
    rw [hodd] at hd
    exact (odd_bad P.h3 h8 hd).1
  -- 11
  obtain ⟨bad, s8, hb1, u8, c14⟩ := s_pick (n := n + 18) (b := 0) (u7.dr (by omega)) (xs := odd) (by rw [hodd]; simp) (by rw [hodd]; simp; omega) hon
  have hbad : Bad hs bad := by rw [hodd] at hb1; exact odd_bad P.h3 h8 hb1
  -- 12
  have ask : ∀ (ea eb : List (Nat × Nat)) (s : Sto), (∀ e ∈ ea, e ∈ evsOf true hs) → cal tb 10 (n + 20) 0 49 [.int 0, prog bx hs, .tup (ea.map pD ++ bad :: eb.map pD), .int 0] s = .ok (.str "put") s := fun ea eb s hea => by
    have hnr : D.nr (.tup (ea.map pD ++ bad :: eb.map pD)) = true := by
      have h1 := pDsT_nr ea
      have h2 := pDsT_nr eb
      simp only [D.nr] at h1 h2 ⊢
      exact nrs_app h1 (by simp only [D.nrs, hbad.1, h2, Bool.and_self])
    have q := p_asked (n := n + 19) (prog_nr bx hs) hnr (p_fencedX (n := n + 15) (es := ea) (es2 := eb) P h12 hea hbad) (.inr (.inl rfl))
    exact q.ok
  rw [← hC] at c1 c2 c3 c4 c5 c6 c7 c8 c10 c11 c12 c13 c14 ask
  obtain ⟨told, htold⟩ : ∃ told, told = D.tup [bxT bx, hsT hs] := ⟨_, rfl⟩
  -- the loop over the wrong events
  have L := forL_inv (f := fun d ρ1 s1 => match target ρ1 [11] false d with
      | some ρ2 => xss tb C 0 10 [(.iff (.or (.cmp .ne (.call 49 [(.k (.int 0)), (.v 4), (.v 11), (.k (.int 0))]) (.k (.str "put"))) (.cmp .ne (.fld (.v 4) 6) (.ix (.v 3) (.k (.int 1))))) [(.ret (.k (.bl false)))] [])] ρ2 s1
      | none => .no) (ds := [.tup ((es.take 1).map pD ++ bad :: ([] : List (Nat × Nat)).map pD), .tup (es.map pD ++ bad :: ([] : List (Nat × Nat)).map pD), .tup (([] : List (Nat × Nat)).map pD ++ bad :: es.map pD)])
    (ρ := [some (.scr ns), some (.int (k : Nat)), some (.ref r), some told, some (prog bx hs), some (pDs (evsOf true hs)), some (pDs es), some (says R), some (dueD es hs), some (.lst odd), some bad, a11, a12]) (st := s8)
    (I := fun _ ρ st' => st' = s8 ∧ ∃ c, ρ = [some (.scr ns), some (.int (k : Nat)), some (.ref r), some told, some (prog bx hs), some (pDs (evsOf true hs)), some (pDs es), some (says R), some (dueD es hs), some (.lst odd), some bad, c, a12]) (fun i d ρ st' hd hI => by
      obtain ⟨rfl, c, rfl⟩ := hI
      obtain ⟨ea, eb, hea, rfl⟩ : ∃ ea eb : List (Nat × Nat), (∀ e ∈ ea, e ∈ evsOf true hs) ∧ d = .tup (ea.map pD ++ bad :: eb.map pD) := by
        match i, hd with
        | 0, hd => cases hd; exact ⟨_, _, fun e he => m2 e (List.mem_of_mem_take he), rfl⟩
        | 1, hd => cases hd; exact ⟨_, _, m2, rfl⟩
        | 2, hd => cases hd; exact ⟨[], es, (fun e he => by cases he), rfl⟩
        | (_ + 3), hd => cases hd
      refine ⟨[some (.scr ns), some (.int (k : Nat)), some (.ref r), some told, some (prog bx hs), some (pDs (evsOf true hs)), some (pDs es), some (says R), some (dueD es hs), some (.lst odd), some bad, some (.tup (ea.map pD ++ bad :: eb.map pD)), a12], st', ?_, rfl, _, rfl⟩
      show xss tb C 0 10 _ [some (.scr ns), some (.int (k : Nat)), some (.ref r), some told, some (prog bx hs), some (pDs (evsOf true hs)), some (pDs es), some (says R), some (dueD es hs), some (.lst odd), some bad, some (.tup (ea.map pD ++ bad :: eb.map pD)), a12] st' = _
      refine (x_iff_no (e_or_f (k := false) (e_cmp (k := false) (e_call (es_cons e_k (es_cons (e_v rfl) (es_cons (e_v rfl) (es_one e_k)))) (ask ea eb st' hea)) e_k rfl) (e_cmp (k := false) (a := hsT hs) (c := hsT hs) (e_fld (e_v rfl) rfl) (e_ix (e_v rfl) e_k (by rw [htold]; rfl)) (c_self (hs_fit hs))))).trans x_nil) ⟨rfl, _, rfl⟩
  obtain ⟨ρ', st', eL, rfl, b11, rfl⟩ := L
  refine ⟨some (.ref r), some told, some (prog bx hs), some (pDs (evsOf true hs)), some (pDs es), some (says R), some (dueD es hs), some (.lst odd), some bad, b11, a12, st', ?_⟩
  rw [← hC]
  refine (x_set (d := .ref r) (s := s1) ((e_lst (es_one (e_call (es_cons (e_call (es_cons (e_v rfl) (es_one (e_v rfl))) (c1 st)) (es_one (e_bin e_k (e_v rfl) rfl))) (c2 st))) (by simp [SZ])).trans (by rw [hr, hs1]; rfl))).trans ?_
  refine (x_set (d := told) (s := s5) (e_call (es_cons (e_v rfl) (es_one (e_call (es_cons (e_v rfl) (es_cons (d := .int (H : Nat)) (e_bin e_k (e_call (es_cons (e_v rfl) (es_one e_k)) c3) (by show some (D.int (1 + v1)) = _; rw [hH])) (es_one (e_ix (e_lst (es_cons e_k (es_one e_k)) (by simp [SZ])) (e_call (es_cons (e_v rfl) (es_one e_k)) c4) ?_)))) c5))) (c6.trans (by rw [htold]; rfl)))).trans ?_
  · have : v2 = 0 ∨ v2 = 1 := by omega
    rcases this with rfl | rfl <;> rfl
  refine (x_set (d := prog bx hs) (s := s5) (e_new (es_cons (d := bxT bx) (e_ix (e_v rfl) e_k (by rw [htold]; rfl)) (es_one (d := hsT hs) (e_ix (e_v rfl) e_k (by rw [htold]; rfl)))) c7)).trans ?_
  refine (x_set (d := pDs (evsOf true hs)) (s := s5) (e_call (es_cons (e_v rfl) (es_one e_k)) (by rw [htold]; exact c8))).trans ?_
  refine (x_set (d := .lst (es1.map pD)) (s := s6) (e_lcIf (w_val rfl (e_v rfl) rfl) (by rw [htold]; exact c9) rfl)).trans ?_
  have st6 : ∀ {b7 b8 b9 b10 b11 b12 : Option D} {rest : List Sx}, xss tb C 0 10 (.iff (.cmp .eq (.call 42 [(.v 2), (.k (.int 2))]) (.k (.int 0))) [(.set 6 (.rev (.v 6)))] [] :: rest) [some (.scr ns), some (.int (k : Nat)), some (.ref r), some told, some (prog bx hs), some (pDs (evsOf true hs)), some (.lst (es1.map pD)), b7, b8, b9, b10, b11, b12] s6 = xss tb C 0 10 rest [some (.scr ns), some (.int (k : Nat)), some (.ref r), some told, some (prog bx hs), some (pDs (evsOf true hs)), some (pDs es), b7, b8, b9, b10, b11, b12] s7 := by
    intro b7 b8 b9 b10 b11 b12 rest
    by_cases h : v3 = 0
    · refine (x_iff_nx (e_cmp (k := true) (e_call (es_cons (e_v rfl) (es_one e_k)) c10) e_k (c_eqI (by rw [h]; rfl))) ((x_set (e_rev (e_v rfl) rfl)).trans x_nil)).trans ?_
      rw [hes, if_pos h]
      unfold pDs
      rw [← List.map_reverse]; rfl
    · refine (x_iff_no (e_cmp (k := false) (e_call (es_cons (e_v rfl) (es_one e_k)) c10) e_k (c_eqI (by simp [h])))).trans ?_
      rw [hes, if_neg h]; rfl
  refine st6.trans ?_
  refine (x_set (d := says R) (s := s7) (e_call (es_cons e_k (es_cons (e_v rfl) (es_cons (e_bf (r := .ok (.tup (es.map pD)) s7) (es_one (e_v rfl)) rfl) (es_one e_k)))) c11)).trans ?_
  refine (x_set (d := dueD es hs) (s := s7) (e_call (es_cons (e_v rfl) (es_one (e_v rfl))) (by rw [htold]; exact c12))).trans ?_
  have st9 : ∀ {b9 b10 b11 b12 : Option D} {rest : List Sx}, xss tb C 0 10 (.iff (.cmp .eq (.v 8) (.k (.str "program"))) [(.iff (.cmp .ne (.v 7) (.k (.str "program"))) [(.ret (.k (.bl false)))] [])] [(.iff (.or (.not (.isa (.v 7) [(.cls 15)])) (.or (.cmp .ne (.fld (.v 7) 6) (.v 8)) (.cmp .ne (.fld (.v 7) 5) (.ix (.v 3) (.k (.int 0)))))) [(.ret (.k (.bl false)))] [])] :: rest) [some (.scr ns), some (.int (k : Nat)), some (.ref r), some told, some (prog bx hs), some (pDs (evsOf true hs)), some (pDs es), some (says R), some (dueD es hs), b9, b10, b11, b12] s7 = xss tb C 0 10 rest [some (.scr ns), some (.int (k : Nat)), some (.ref r), some told, some (prog bx hs), some (pDs (evsOf true hs)), some (pDs es), some (says R), some (dueD es hs), b9, b10, b11, b12] s7 := by
    intro b9 b10 b11 b12 rest
    rcases hRo with ⟨hro, rfl⟩ | ⟨hro, rfl⟩
    · have e1 : dueD es hs = hsT (fAll es hs) := by unfold dueD; rw [if_pos hro]
      have e2 : cop .eq (hsT (fAll es hs)) (.str "program") = some false := by
        have : D.fit 20 (D.str "program") = true := rfl
        simp only [cop, hs_fit, this, Bool.and_self, if_true]; rfl
      rw [e1]
      refine (x_iff_f (e_cmp (k := false) (e_v rfl) e_k e2)).trans ?_
      rw [(x_iff_no (e_or_f (k := false) (e_not (k := true) (e_isa (k := .own 15) (bb := true) (e_v rfl) rfl rfl)) (e_or_f (k := false) (e_cmp (k := false) (a := hsT (fAll es hs)) (c := hsT (fAll es hs)) (e_fld (e_v rfl) rfl) (e_v rfl) (c_self (hs_fit _))) (e_cmp (k := false) (a := bxT bx) (c := bxT bx) (e_fld (e_v rfl) rfl) (e_ix (e_v rfl) e_k (by rw [htold]; rfl)) (c_self (bx_fit bx)))))).trans x_nil]
      rfl
    · have e1 : dueD es hs = .str "program" := by unfold dueD; rw [hro]; rfl
      rw [e1]
      refine (x_iff_t (e_cmp (k := true) (e_v rfl) e_k rfl)).trans ?_
      rw [(x_iff_no (e_cmp (k := false) (e_v rfl) e_k rfl)).trans x_nil]
      rfl
  refine st9.trans ?_
  refine (x_set (d := .lst odd) (s := s7) (e_bin (e_call (es_cons (e_v rfl) (es_one e_k)) (by rw [htold]; exact c13)) ((e_lst (es_cons (e_tup (es_cons e_k (es_one e_k)) (by simp [SZ])) (es_cons (e_tup (es_cons e_k (es_one e_k)) (by simp [SZ])) (es_cons (e_tup (es_cons e_k (es_one e_k)) (by simp [SZ])) (es_cons e_k (es_cons e_k (es_cons e_k (es_one (e_tup (es_one e_k) (by simp [SZ]))))))))) (by simp [SZ])).trans rfl) ?_)).trans ?_
  · show bop .add (.lst ((evsOf false hs).map pD)) (.lst [.tup [.int 0, .int 99], .tup [.int 9, .int 0], .tup [.int 0, .int (-1)], .non, .int 5, .str "00", .tup [.int 0]]) = _
    simp only [bop]
    rw [if_pos (by rw [List.length_map]; simp [SZ]; omega), hodd]
  refine (x_set (d := bad) (s := st') (e_call (es_cons (e_v rfl) (es_one (e_v rfl))) c14)).trans ?_
  refine (x_for (w_val rfl ((e_lst (es_cons (e_bin (e_bf (r := .ok (.tup ((es.take 1).map pD)) st') (es_one (e_sl (e_v rfl) eo_nil (eo_int (by simp) e_k) (d := .lst ((es.take 1).map pD)) ?_)) rfl) (e_tup (es_one (e_v rfl)) (by simp [SZ])) ?_) (es_cons (e_bin (e_bf (r := .ok (.tup (es.map pD)) st') (es_one (e_v rfl)) rfl) (e_tup (es_one (e_v rfl)) (by simp [SZ])) ?_) (es_one (e_bin (e_tup (es_one (e_v rfl)) (by simp [SZ])) (e_bf (r := .ok (.tup (es.map pD)) st') (es_one (e_v rfl)) rfl) ?_)))) (by simp [SZ])).trans rfl) rfl) eL).trans ?_
  · show slice (.lst (es.map pD)) none (some 1) = _
    simp only [slice]
    have : cut (es.map pD) none (some 1) = (es.take 1).map pD := by
      unfold cut
      simp only [six, List.drop_zero, List.length_map]
      rw [List.map_take]
      rw [List.take_eq_take_iff]
      simp
    rw [this]
  · simp only [view, bop]
    rw [if_pos (by simp [SZ]; omega)]; rfl
  · simp only [view, bop]
    rw [if_pos (by simp [SZ]; omega)]; rfl
  · simp only [view, bop]
    rw [if_pos (by simp [SZ]; omega)]; rfl
  · rfl
end LS
end
section
set_option Elab.async false
set_option linter.all false
set_option maxRecDepth 100000
namespace LS
open PySem
theorem good (ns : List Int) (hl : ns.length ≤ 63) : ∃ st, cal tb 10 60 0 54 [.scr ns] [] = .ok (.bl true) st := by
  rw [cal_at (f := f54) rfl rfl rfl]
  obtain ⟨m, hm⟩ : ∃ m : Nat, max 1 (ns.length : Int) = (m : Int) := ⟨(max 1 (ns.length : Int)).toNat, by omega⟩
  have hm2 : m ≤ 63 := by omega
  have L := forL_inv (f := fun d ρ1 s1 => match target ρ1 [1] false d with
      | some ρ2 => xss tb (cal tb 10 59 0) 0 10 lawB ρ2 s1
      | none => .no) (ds := rngL 0 m) (ρ := [some (.scr ns), none, none, none, none, none, none, none, none, none, none, none, none]) (st := [])
    (I := fun _ ρ _ => ∃ b1 b2 b3 b4 b5 b6 b7 b8 b9 b10 b11 b12 : Option D, ρ = [some (.scr ns), b1, b2, b3, b4, b5, b6, b7, b8, b9, b10, b11, b12]) (fun i d ρ st hd hI => by
      obtain ⟨b1, b2, b3, b4, b5, b6, b7, b8, b9, b10, b11, b12, rfl⟩ := hI
      obtain ⟨hi, rfl⟩ := rngL_at hd
      obtain ⟨c2, c3, c4, c5, c6, c7, c8, c9, c10, c11, c12, st', e⟩ := law_body (n := 39) (ns := ns) (k := i) (by omega) (st := st) (a2 := b2) (a3 := b3) (a4 := b4) (a5 := b5) (a6 := b6) (a7 := b7) (a8 := b8) (a9 := b9) (a10 := b10) (a11 := b11) (a12 := b12)
      exact ⟨_, _, e, _, _, _, _, _, _, _, _, _, _, _, _, rfl⟩) ⟨_, _, _, _, _, _, _, _, _, _, _, _, rfl⟩
  obtain ⟨ρ', st', e, b1, b2, b3, b4, b5, b6, b7, b8, b9, b10, b11, b12, rfl⟩ := L
  have ex : xss tb (cal tb 10 59 ([] : Sto).length) ([] : Sto).length 10 f54.body ([D.scr ns].map some ++ List.replicate (f54.ns - f54.np) none) [] = .ok (.rt (.bl true)) st' := by
    refine (x_for (w_rng (es_one (e_bf (r := .ok (.int (m : Nat)) []) (es_cons e_k (es_one (e_bf (r := .ok (.int (ns.length : Nat)) []) (es_one (e_v rfl)) rfl))) (by show Rs.ok (D.int (max 1 (ns.length : Int))) [] = _; rw [hm]))) (rng1 (by omega))) e).trans ?_
    exact x_ret e_k (frz_id rfl)
  rw [ex, end_rt rfl]
  exact ⟨_, rfl⟩
end LS
end
set_option Elab.async false
set_option linter.all false
set_option maxRecDepth 100000
set_option maxHeartbeats 0
open PySem PySem.W PySem.Calls PyProof.Rows
theorem PySem.Challenge.cw_lateshelf_k57_fences_put_in_holds : PySem.Challenge.rw_lateshelf_k57_fences_put_in.Holds := by
  w_on; o_law
  refine HandSHeadRun.head_any (r := LS.R) (q := view LS.R.prog [63]) (H := LS.hk) (ob := LS.ob) (M := 9000) (loose := LS.loose) (d := HandSHeadRun.topDef LS.R.prog 63) (kwd := []) LS.ob_eq
    (by kernel_rfl) (fun s => by kernel_rfl) LS.run (by kernel_rfl) (by kernel_rfl) (by kernel_rfl) (by rfl) (by first | assumption | decide +kernel) (by decide +kernel) ⟨rfl, rfl, rfl, rfl, rfl, by decide +kernel⟩ ?hw ?hc
  case hw => w_witness2
  case hc =>
    exact LS.walk_ls (l := LS.RW) (n := 63) (n0 := 60) (li := 54) (x := "_law_script") (w0 := 10) rfl (by decide) (by kernel_rfl) ⟨rfl, by decide, by decide⟩ (by kernel_rfl) LS.sc_all LS.fns_eq LS.bi_all (lf := LS.d54) rfl rfl rfl LS.good
