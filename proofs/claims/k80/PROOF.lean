import PyProof.Rows.All
import Wide.All
import OpenK.AllK
import Wide.FinOn
import HandS.ForMost
import HandS.Flow
import HandS.Style
import HandS.Wide
import HandS.WideBits
import HandS.TupAny
import HandS.TupMul
import HandS.SortInts
import PyProof.Rows.SortShellAny
import KE.DataEq
import KE.KSortedM
import KE.GoesEnum
import HandS.Zip
import HandS.Comp
import PySem.Challenge.RW_pastenough_k80_whole_all_short_words_of
set_option Elab.async false
set_option linter.all false
set_option maxRecDepth 100000
/-! Pn: a small evaluator over plain data for the part of Python that the laws use. -/
namespace Pn
open PySem

/-- plain data; box n: the n-th shared list; scr: the script, read only -/
inductive D where
  | non | bl (b : Bool) | int (i : Int) | str (x : Str) | tup (ds : List D) | lst (ds : List D) | box (n : Nat) | scr (ds : List D)
  deriving Inhabited

/-- what is known of a value's object: plain; the frame's own object, borrowed; new and not yet kept -/
inductive Fl where
  | pl | lk | fr
  deriving DecidableEq

/-- an own, mutable object -/
inductive Ob where
  | lst (ds : List D)
def Ob.toD : Ob → D
  | .lst ds => .lst ds

abbrev Sto := List (List D)

inductive SV where
  | no | im (d : D) | ow (o : Ob)

inductive Bop where
  | add | sub | mul | fdiv | mod | pow | shl | shr | and | or | xor
  deriving DecidableEq
inductive Cop where
  | lt | le | gt | ge | eq | ne | is | isnot | in_ | notin
  deriving DecidableEq
inductive Bf where
  | len | int | abs | min | max | sum | all | any | tuple | list | sorted
  deriving DecidableEq

mutual
inductive Tg where
  | nm (i : Nat) | tu (ts : Tgs)
inductive Tgs where
  | nil | cons (t : Tg) (r : Tgs)
end

mutual
inductive E where
  | cInt (i : Int) | cBl (b : Bool) | cNon | cStr (x : Str)
  | var (i : Nat)
  | tup (es : Es) | lst (es : Es)
  | bin (o : Bop) (a b : E)
  | neg (a : E)
  | cmp (o : Cop) (a b : E)
  | chain (o p : Cop) (a b c : E)
  | nt (a : E) | and (a b : E) | or (a b : E) | ite (c a b : E)
  | call (f : Nat) (es : Es)
  | bcf (f : Bf) (es : Es)
  | ix (a i : E)
  | sl (a : E) (lo hi : Eo)
  | comp (own : List Nat) (tg : Tg) (it : It) (cd : Eo) (el : E)
  | box (a : E)
inductive Es where
  | nil | cons (e : E) (r : Es)
inductive Eo where
  | no | so (e : E)
inductive It where
  | seq (e : E) | rng (a : E) | rng2 (a b : E) | enum (e : E) | zip (a b : E)
end

mutual
inductive S where
  | asg (tg : Tg) (e : E)
  | own (i : Nat) (e : E)
  | par (is : List Nat) (es : Es)
  | aug (i : Nat) (o : Bop) (e : E)
  | setIx (i : Nat) (j e : E)
  | app (i : Nat) (e : E)
  | iff (c : E) (a b : Ss)
  | whl (c : E) (b : Ss)
  | whlW (i : Nat) (e : E) (o : Cop) (r : E) (b : Ss)
  | forr (tg : Tg) (it : It) (b : Ss)
  | ret (e : E) | retN | brk | cnt | pass
inductive Ss where
  | nil | cons (s : S) (r : Ss)
end

/-! ### values -/
def LIM : Nat := 1000000
/-- a python slice of a list -/
def cutD (xs : List D) (lo hi : Option Int) : List D := (xs.drop (HT.sIx xs.length 0 lo)).take (HT.sIx xs.length xs.length hi - HT.sIx xs.length 0 lo)

def iops (o : Bop) (i j : Int) : Option Int :=
  match o with
  | .add => some (i + j)
  | .sub => some (i - j)
  | .mul => if i.natAbs.log2 + j.natAbs.log2 < 1000000 then some (i * j) else none
  | .fdiv => if 0 < j ∧ j.natAbs.log2 < 9000 then some (i / j) else none
  | .mod => if 0 < j then some (i % j) else none
  | .pow => if 0 ≤ j ∧ (i.natAbs.log2 + 1) * j.toNat ≤ 134217728 then some (i ^ j.toNat) else none
  | .shl => if 0 ≤ j ∧ i.natAbs.log2 + 1 + j.toNat ≤ 134217728 then some (i * 2 ^ j.toNat) else none
  | .shr => if 0 ≤ j then some (i / 2 ^ j.toNat) else none
  | .and => some (Builtin.bitAnd i j)
  | .or => some (Builtin.bitOr i j)
  | .xor => some (Builtin.bitXor i j)

/-- the value, and whether it is a new list -/
def binop (o : Bop) (x y : D) : Option (D × Bool) :=
  match x, y with
  | .int i, .int j => (iops o i j).map fun k => (.int k, false)
  | .tup a, .tup b => match o with
    | .add => if a.length + b.length ≤ LIM then some (.tup (a ++ b), false) else none
    | _ => none
  | .lst a, .lst b => match o with
    | .add => if a.length + b.length ≤ LIM then some (.lst (a ++ b), true) else none
    | _ => none
  | .tup a, .int k => match o with
    | .mul => if k.natAbs < 1000000 ∧ a.length * k.toNat ≤ LIM then some (.tup (List.replicate k.toNat a).flatten, false) else none
    | _ => none
  | .lst a, .int k => match o with
    | .mul => if k.natAbs < 1000000 ∧ a.length * k.toNat ≤ LIM then some (.lst (List.replicate k.toNat a).flatten, true) else none
    | _ => none
  | _, _ => none

mutual
def toPy : D → Option PyData
  | .non => some .none
  | .bl b => some (.bool b)
  | .int i => some (.int i)
  | .str x => some (.str x)
  | .tup ds => (toPys ds).map .tuple
  | .lst ds => (toPys ds).map .list
  | .box _ => none
  | .scr _ => none
def toPys : List D → Option (List PyData)
  | [] => some []
  | d :: ds => do let x ← toPy d; let r ← toPys ds; pure (x :: r)
end
mutual
/-- data that can be compared: nested at most n deep -/
def eqOk : Nat → D → Bool
  | _, .non => true
  | _, .bl _ => true
  | _, .int _ => true
  | _, .str _ => true
  | 0, _ => false
  | n + 1, .tup ds => eqOks n ds
  | n + 1, .lst ds => eqOks n ds
  | _, .box _ => false
  | _, .scr _ => false
def eqOks : Nat → List D → Bool
  | _, [] => true
  | n, d :: ds => eqOk n d && eqOks n ds
end
mutual
/-- == of data as Python tells it -/
def deq : D → D → Bool
  | .non, y => match y with | .non => true | _ => false
  | .bl a, y => match y with | .bl b => a == b | .int j => (if a then 1 else 0) == j | _ => false
  | .int i, y => match y with | .int j => i == j | .bl b => i == (if b then 1 else 0) | _ => false
  | .str x, y => match y with | .str z => x == z | _ => false
  | .tup xs, y => match y with | .tup ys => deqs xs ys | _ => false
  | .lst xs, y => match y with | .lst ys => deqs xs ys | _ => false
  | .box _, _ => false
  | .scr _, _ => false
def deqs : List D → List D → Bool
  | [], ys => match ys with | [] => true | _ :: _ => false
  | x :: xs, ys => match ys with | y :: ys => deq x y && deqs xs ys | [] => false
end
def dEq (x y : D) : Option Bool := if eqOk 60 x && eqOk 60 y then some (deq x y) else none
def seqOf : D → Option (List D)
  | .tup ds => some ds
  | .lst ds => some ds
  | _ => none

def cmpD (o : Cop) (x y : D) : Option Bool :=
  match o with
  | .lt => match x, y with | .int i, .int j => some (decide (i < j)) | _, _ => none
  | .le => match x, y with | .int i, .int j => some (decide (i ≤ j)) | _, _ => none
  | .gt => match x, y with | .int i, .int j => some (decide (j < i)) | _, _ => none
  | .ge => match x, y with | .int i, .int j => some (decide (j ≤ i)) | _, _ => none
  | .eq => match x, y with
    | .int i, .int j => some (decide (i = j))
    | .bl i, .bl j => some (decide (i = j))
    | .str i, .str j => some (decide (i = j))
    | a, b => dEq a b
  | .ne => match x, y with
    | .int i, .int j => some (!decide (i = j))
    | .bl i, .bl j => some (!decide (i = j))
    | .str i, .str j => some (!decide (i = j))
    | a, b => (dEq a b).map (!·)
  | .is => match y with | .non => some (match x with | .non => true | _ => false) | _ => none
  | .isnot => match y with | .non => some (match x with | .non => false | _ => true) | _ => none
  | .in_ => match seqOf y with | some ds => if eqOk 60 x && eqOks 60 ds then some (ds.any fun d => deq d x) else none | none => none
  | .notin => match seqOf y with | some ds => if eqOk 60 x && eqOks 60 ds then some (!(ds.any fun d => deq d x)) else none | none => none

def intsOf : List D → Option (List Int)
  | [] => some []
  | .int i :: r => (intsOf r).map (i :: ·)
  | _ :: _ => none
def blsOf : List D → Option (List Bool)
  | [] => some []
  | .bl b :: r => (blsOf r).map (b :: ·)
  | _ :: _ => none
def listMax : Int → List Int → Int
  | m, [] => m
  | m, x :: r => listMax (if x > m then x else m) r
def listMin : Int → List Int → Int
  | m, [] => m
  | m, x :: r => listMin (if x < m then x else m) r
def insSort (x : Int) : List Int → List Int
  | [] => [x]
  | y :: r => if x ≤ y then x :: y :: r else y :: insSort x r
def sortI : List Int → List Int
  | [] => []
  | x :: r => insSort x (sortI r)

/-- a built-in by its arguments: the value, and whether it is a new list -/
def bfun (f : Bf) (ds : List D) : Option (D × Bool) :=
  match f, ds with
  | .len, [.tup xs] => some (.int xs.length, false)
  | .len, [.lst xs] => some (.int xs.length, false)
  | .len, [.scr xs] => some (.int xs.length, false)
  | .len, [.str x] => if x.length ≤ LIM then some (.int x.length, false) else none
  | .int, [.int i] => some (.int i, false)
  | .int, [.bl b] => some (.int (if b then 1 else 0), false)
  | .abs, [.int i] => some (.int (if i < 0 then -i else i), false)
  | .min, [.int i, .int j] => some (.int (if j < i then j else i), false)
  | .max, [.int i, .int j] => some (.int (if j > i then j else i), false)
  | .min, [.lst xs] => match intsOf xs with | some (x :: r) => some (.int (listMin x r), false) | _ => none
  | .max, [.lst xs] => match intsOf xs with | some (x :: r) => some (.int (listMax x r), false) | _ => none
  | .sum, [.lst xs] => (intsOf xs).map fun ns => (.int ns.sum, false)
  | .all, [.lst xs] => (blsOf xs).map fun bs => (.bl (bs.all id), false)
  | .any, [.lst xs] => (blsOf xs).map fun bs => (.bl (bs.any id), false)
  | .tuple, [.lst xs] => some (.tup xs, false)
  | .tuple, [.tup xs] => some (.tup xs, false)
  | .list, [.lst xs] => some (.lst xs, true)
  | .list, [.tup xs] => some (.lst xs, true)
  | .sorted, [.lst xs] => (intsOf xs).map fun ns => (.lst ((sortI ns).map .int), true)
  | .sorted, [.tup xs] => (intsOf xs).map fun ns => (.lst ((sortI ns).map .int), true)
  | _, _ => none

/-- the truth of a value -/
def tru : D → Option Bool
  | .non => some false
  | .bl b => some b
  | .int i => some (i != 0)
  | .str x => if x.length ≤ LIM then some ((x.length : Int) != 0) else none
  | .tup ds => some (!ds.isEmpty)
  | .lst ds => some (!ds.isEmpty)
  | _ => none

def ixD (x : D) (i : D) (st : Sto) : Option D :=
  match i with
  | .int k => match x with
    | .tup ds => L2.atI ds k
    | .lst ds => L2.atI ds k
    | .scr ds => L2.atI ds k
    | .box n => match st[n]? with | some ds => L2.atI ds k | none => none
    | _ => none
  | _ => none

def slD (x : D) (lo hi : Option Int) : Option (D × Bool) :=
  match x with
  | .tup ds => some (.tup (cutD ds lo hi), false)
  | .lst ds => some (.lst (cutD ds lo hi), true)
  | _ => none

def flOf (fresh : Bool) : Fl := if fresh then .fr else .pl

def rngD (lo : Int) (n : Nat) : List D := (List.range n).map fun (i : Nat) => D.int (lo + (i : Int))
def enumD : Nat → List D → List D
  | _, [] => []
  | i, d :: ds => .tup [.int i, d] :: enumD (i + 1) ds
def zipD : List D → List D → List D
  | a :: as, b :: bs => .tup [a, b] :: zipD as bs
  | _, _ => []

mutual
def bindTg : Tg → D → List SV → Option (List SV)
  | .nm i, d, σ => if i < σ.length then some (σ.set i (.im d)) else none
  | .tu ts, d, σ => match d with | .tup ds => bindTgs ts ds σ | _ => none
def bindTgs : Tgs → List D → List SV → Option (List SV)
  | .nil, ds, σ => match ds with | [] => some σ | _ :: _ => none
  | .cons t r, ds, σ => match ds with | d :: ds => (bindTg t d σ).bind fun σ1 => bindTgs r ds σ1 | [] => none
end

/-! ### expressions -/
abbrev Cl := Nat → List D → Sto → Option (D × Fl × Sto)
abbrev RE := Option (D × Fl × Sto)

def wipeD (σ : List SV) : List Nat → List SV
  | [] => σ
  | v :: vs => (wipeD σ vs).set v .no
def isOw : Option SV → Bool
  | some (.ow _) => true
  | _ => false

/-- the turns of a comprehension -/
def compGo (tg : Tg) (σ : List SV) (cd : List SV → Sto → Option (Bool × Sto)) (el : List SV → Sto → RE) : List D → Sto → Option (List D × Sto)
  | [], st => some ([], st)
  | d :: ds, st => do
    let σ1 ← bindTg tg d σ
    let (b, st1) ← cd σ1 st
    if b then
      let (x, fl, st2) ← el σ1 st1
      if fl = .lk then none else
      let (r, st3) ← compGo tg σ cd el ds st2
      pure (x :: r, st3)
    else compGo tg σ cd el ds st1

/-- a value's reading, and as a test by its truth -/
abbrev FE := List SV → Sto → RE
abbrev FT := List SV → Sto → Option (Bool × Sto)
def byTru (v : FE) : FE × FT := (v, fun σ st => do
  let (x, _, st1) ← v σ st
  let b ← tru x
  some (b, st1))

mutual
def ev (cl : Cl) : E → FE × FT
  | .cInt i => byTru fun _ st => some (.int i, .pl, st)
  | .cBl b => byTru fun _ st => some (.bl b, .pl, st)
  | .cNon => byTru fun _ st => some (.non, .pl, st)
  | .cStr x => byTru fun _ st => some (.str x, .pl, st)
  | .var i => byTru fun σ st => match σ[i]? with
    | some (.im d) => some (d, .pl, st)
    | some (.ow o) => some (o.toD, .lk, st)
    | _ => none
  | .tup es => byTru fun σ st => do let (ds, st1) ← evs cl es σ st; if ds.length ≤ LIM then some (.tup ds, .pl, st1) else none
  | .lst es => byTru fun σ st => do let (ds, st1) ← evs cl es σ st; if ds.length ≤ LIM then some (.lst ds, .fr, st1) else none
  | .bin o a b => byTru fun σ st => do
    let (x, _, st1) ← (ev cl a).1 σ st
    let (y, _, st2) ← (ev cl b).1 σ st1
    let (z, f) ← binop o x y
    some (z, flOf f, st2)
  | .neg a => byTru fun σ st => do
    let (x, _, st1) ← (ev cl a).1 σ st
    match x with | .int i => some (.int (-i), .pl, st1) | _ => none
  | .cmp o a b => byTru fun σ st => do
    let (x, _, st1) ← (ev cl a).1 σ st
    let (y, _, st2) ← (ev cl b).1 σ st1
    let z ← cmpD o x y
    some (.bl z, .pl, st2)
  | .chain o p a b c => byTru fun σ st => do
    let (x, _, st1) ← (ev cl a).1 σ st
    let (y, _, st2) ← (ev cl b).1 σ st1
    let z ← cmpD o x y
    if z then
      let (u, _, st3) ← (ev cl c).1 σ st2
      let z2 ← cmpD p y u
      some (.bl z2, .pl, st3)
    else some (.bl false, .pl, st2)
  | .nt a => (fun σ st => do let (b, st1) ← (ev cl a).2 σ st; some (.bl (!b), .pl, st1), fun σ st => do let (b, st1) ← (ev cl a).2 σ st; some (!b, st1))
  | .and a b => (fun σ st => do
    let (x, _, st1) ← (ev cl a).1 σ st
    match x with
    | .bl true => (ev cl b).1 σ st1
    | .bl false => some (.bl false, .pl, st1)
    | _ => none, fun σ st => do
    let (k, st1) ← (ev cl a).2 σ st
    if k then (ev cl b).2 σ st1 else some (false, st1))
  | .or a b => (fun σ st => do
    let (x, _, st1) ← (ev cl a).1 σ st
    match x with
    | .bl true => some (.bl true, .pl, st1)
    | .bl false => (ev cl b).1 σ st1
    | _ => none, fun σ st => do
    let (k, st1) ← (ev cl a).2 σ st
    if k then some (true, st1) else (ev cl b).2 σ st1)
  | .ite c a b => (fun σ st => do
    let (k, st1) ← (ev cl c).2 σ st
    if k then (ev cl a).1 σ st1 else (ev cl b).1 σ st1, fun σ st => do
    let (k, st1) ← (ev cl c).2 σ st
    if k then (ev cl a).2 σ st1 else (ev cl b).2 σ st1)
  | .call f es => byTru fun σ st => do let (ds, st1) ← evs cl es σ st; cl f ds st1
  | .bcf f es => byTru fun σ st => do
    let (ds, st1) ← evl cl es σ st
    let (z, fr) ← bfun f ds
    some (z, flOf fr, st1)
  | .ix a i => byTru fun σ st => do
    let (x, _, st1) ← (ev cl a).1 σ st
    let (k, _, st2) ← (ev cl i).1 σ st1
    let z ← ixD x k st2
    some (z, .pl, st2)
  | .sl a lo hi => byTru fun σ st => do
    let (x, _, st1) ← (ev cl a).1 σ st
    let (l, st2) ← evo cl lo σ st1
    let (h, st3) ← evo cl hi σ st2
    let (z, f) ← slD x l h
    some (z, flOf f, st3)
  | .comp own tg it cd el => byTru fun σ st => do
    let (items, _, st1) ← evi cl it σ st
    if items.length ≤ LIM ∧ (own.all fun i => !isOw σ[i]?) then
      let (ds, st2) ← compGo tg (wipeD σ own) (evc cl cd) (ev cl el).1 items st1
      some (.lst ds, .fr, st2)
    else none
  | .box a => byTru fun σ st => do
    let (x, fl, st1) ← (ev cl a).1 σ st
    match x, fl with
    | .lst ds, .fr => some (.box st1.length, .pl, st1 ++ [ds])
    | _, _ => none
/-- arguments that are kept -/
def evs (cl : Cl) : Es → List SV → Sto → Option (List D × Sto)
  | .nil => fun _ st => some ([], st)
  | .cons e r => fun σ st => do
    let (x, fl, st1) ← (ev cl e).1 σ st
    if fl = .lk then none else
    let (ds, st2) ← evs cl r σ st1
    some (x :: ds, st2)
/-- arguments that are only looked at -/
def evl (cl : Cl) : Es → List SV → Sto → Option (List D × Sto)
  | .nil => fun _ st => some ([], st)
  | .cons e r => fun σ st => do
    let (x, _, st1) ← (ev cl e).1 σ st
    let (ds, st2) ← evl cl r σ st1
    some (x :: ds, st2)
def evo (cl : Cl) : Eo → List SV → Sto → Option (Option Int × Sto)
  | .no => fun _ st => some (none, st)
  | .so e => fun σ st => do
    let (x, _, st1) ← (ev cl e).1 σ st
    match x with | .int i => some (some i, st1) | _ => none
def evc (cl : Cl) : Eo → FT
  | .no => fun _ st => some (true, st)
  | .so e => fun σ st => (ev cl e).2 σ st
/-- what is walked, and whether it is a borrowed one -/
def evi (cl : Cl) : It → List SV → Sto → Option (List D × Fl × Sto)
  | .seq e => fun σ st => do
    let (x, fl, st1) ← (ev cl e).1 σ st
    let ds ← seqOf x
    some (ds, fl, st1)
  | .rng a => fun σ st => do
    let (x, _, st1) ← (ev cl a).1 σ st
    match x with
    | .int j => if j.natAbs < 1000000 then some (rngD 0 j.toNat, .pl, st1) else none
    | _ => none
  | .rng2 a b => fun σ st => do
    let (x, _, st1) ← (ev cl a).1 σ st
    let (y, _, st2) ← (ev cl b).1 σ st1
    match x, y with
    | .int i, .int j => if i.natAbs < 1000000 ∧ j.natAbs < 1000000 then some (rngD i (j - i).toNat, .pl, st2) else none
    | _, _ => none
  | .enum e => fun σ st => do
    let (x, fl, st1) ← (ev cl e).1 σ st
    let ds ← seqOf x
    some (enumD 0 ds, fl, st1)
  | .zip a b => fun σ st => do
    let (x, f1, st1) ← (ev cl a).1 σ st
    let (y, f2, st2) ← (ev cl b).1 σ st1
    let ds ← seqOf x
    let es ← seqOf y
    some (zipD ds es, if f1 = .lk ∨ f2 = .lk then .lk else .pl, st2)
end
abbrev evalE (cl : Cl) (e : E) : FE := (ev cl e).1
abbrev evalT (cl : Cl) (e : E) : FT := (ev cl e).2

/-! ### statements -/
/-- what comes behind a statement -/
inductive Fo where
  | nx (σ : List SV) (st : Sto)
  | bk (σ : List SV) (st : Sto)
  | ct (σ : List SV) (st : Sto)
  | rt (d : D) (fl : Fl) (st : Sto)
abbrev RS := Option Fo
abbrev FS := List SV → Sto → RS

def setAll : List Nat → List D → List SV → Option (List SV)
  | [], [], σ => some σ
  | i :: is, d :: ds, σ => if i < σ.length then setAll is ds (σ.set i (.im d)) else none
  | _, _, _ => none
/-- the turns of a for -/
def forGo (tg : Tg) (body : FS) : List D → FS
  | [], σ, st => some (.nx σ st)
  | d :: ds, σ, st => do
    let σ1 ← bindTg tg d σ
    match ← body σ1 st with
    | .nx σ2 st2 => forGo tg body ds σ2 st2
    | .ct σ2 st2 => forGo tg body ds σ2 st2
    | .bk σ2 st2 => some (.nx σ2 st2)
    | .rt d fl st2 => some (.rt d fl st2)
/-- the turns of a while -/
def whlGo (c : List SV → Sto → Option (Bool × List SV × Sto)) (body : FS) : Nat → FS
  | 0, _, _ => none
  | n + 1, σ, st => do
    let (b, σ0, st1) ← c σ st
    if b then
      match ← body σ0 st1 with
      | .nx σ2 st2 => whlGo c body n σ2 st2
      | .ct σ2 st2 => whlGo c body n σ2 st2
      | .bk σ2 st2 => some (.nx σ2 st2)
      | .rt d fl st2 => some (.rt d fl st2)
    else some (.nx σ0 st1)
def FUEL : Nat := 5000
def wTest (t : FT) : List SV → Sto → Option (Bool × List SV × Sto) := fun σ st => do let (k, st1) ← t σ st; some (k, σ, st1)
def wNamed (i : Nat) (e : FE) (o : Cop) (r : FE) : List SV → Sto → Option (Bool × List SV × Sto) := fun σ st => do
  let (x, fl, st1) ← e σ st
  if fl = .lk ∨ σ.length ≤ i then none else
  let (y, _, st2) ← r (σ.set i (.im x)) st1
  let k ← cmpD o x y
  some (k, σ.set i (.im x), st2)

mutual
def exec (cl : Cl) : S → FS
  | .asg tg e => fun σ st => do
    let (x, fl, st1) ← (ev cl e).1 σ st
    if fl = .lk then none else
    let σ1 ← bindTg tg x σ
    some (.nx σ1 st1)
  | .own i e => fun σ st => do
    let (x, fl, st1) ← (ev cl e).1 σ st
    match x, fl with
    | .lst ds, .fr => if i < σ.length then some (.nx (σ.set i (.ow (.lst ds))) st1) else none
    | _, _ => none
  | .par is es => fun σ st => do
    let (ds, st1) ← evs cl es σ st
    let σ1 ← setAll is ds σ
    some (.nx σ1 st1)
  | .aug i o e => fun σ st => do
    match σ[i]? with
    | some (.im x) =>
      let (y, _, st1) ← (ev cl e).1 σ st
      match x, y with
      | .int a, .int b => match o with
        | .add => some (.nx (σ.set i (.im (.int (a + b)))) st1)
        | .sub => some (.nx (σ.set i (.im (.int (a - b)))) st1)
        | _ => none
      | _, _ => none
    | _ => none
  | .setIx i j e => fun σ st => do
    let (x, fl, st1) ← (ev cl e).1 σ st
    if fl = .lk then none else
    let (k, _, st2) ← (ev cl j).1 σ st1
    match k, σ[i]? with
    | .int k, some (.im (.box n)) => do
      let ds ← st2[n]?
      let j ← L2.ixN ds.length k
      some (.nx σ (st2.set n (ds.set j x)))
    | .int k, some (.ow (.lst ds)) => do
      let j ← L2.ixN ds.length k
      some (.nx (σ.set i (.ow (.lst (ds.set j x)))) st2)
    | _, _ => none
  | .app i e => fun σ st => do
    let (x, fl, st1) ← (ev cl e).1 σ st
    if fl = .lk then none else
    match σ[i]? with
    | some (.ow (.lst ds)) => if ds.length < LIM then some (.nx (σ.set i (.ow (.lst (ds ++ [x])))) st1) else none
    | _ => none
  | .iff c a b => fun σ st => do
    let (k, st1) ← (ev cl c).2 σ st
    if k then execs cl a σ st1 else execs cl b σ st1
  | .whl c b => whlGo (wTest (ev cl c).2) (execs cl b) FUEL
  | .whlW i e o r b => whlGo (wNamed i (ev cl e).1 o (ev cl r).1) (execs cl b) FUEL
  | .forr tg it b => fun σ st => do
    let (items, fl, st1) ← evi cl it σ st
    if fl = .lk then none else forGo tg (execs cl b) items σ st1
  | .ret e => fun σ st => do let (x, fl, st1) ← (ev cl e).1 σ st; some (.rt x fl st1)
  | .retN => fun _ st => some (.rt .non .pl st)
  | .brk => fun σ st => some (.bk σ st)
  | .cnt => fun σ st => some (.ct σ st)
  | .pass => fun σ st => some (.nx σ st)
def execs (cl : Cl) : Ss → FS
  | .nil => fun σ st => some (.nx σ st)
  | .cons s r => fun σ st => do
    match ← exec cl s σ st with
    | .nx σ1 st1 => execs cl r σ1 st1
    | .bk σ1 st1 => some (.bk σ1 st1)
    | .ct σ1 st1 => some (.ct σ1 st1)
    | .rt d fl st1 => some (.rt d fl st1)
end

/-! ### defs -/
structure Fd where
  np : Nat
  nn : Nat
  body : Ss
def startD (fd : Fd) (ds : List D) : List SV := ds.map .im ++ List.replicate (fd.nn - ds.length) .no
def flEnd : Fl → Fl
  | .pl => .pl
  | .lk => .fr
  | .fr => .fr
def endOf : Fo → RE
  | .rt d fl st => some (d, flEnd fl, st)
  | .nx _ st => some (.non, .pl, st)
  | _ => none
/-- calls, at most n within one another -/
def runN (tb : List Fd) : Nat → Cl
  | 0 => fun _ _ _ => none
  | n + 1 => fun f ds st => match tb[f]? with
    | some fd => if ds.length = fd.np then (execs (runN tb n) fd.body (startD fd ds) st).bind endOf else none
    | none => none
end Pn

set_option Elab.async false
set_option linter.all false
set_option maxRecDepth 100000
namespace Pn
open PySem PySem.Spec PyProof.Rows L2
abbrev Sg := L2.St

/-- the script: a list that the object holds, or one of the module -/
def ScL (K : PySem.W.Frag) (H : Hp) (a : Addr) (xs : List V) : Prop := (∃ o, H a = some (.frz o (.lst xs))) ∨
  ∃ (o : Obj) (its : Array Value) (n : Nat), K.lookup a = some o ∧ o.cls = .type "list" ∧ o.dict = none ∧ o.data = .seq its n ∧ its.size ≤ sizeLine ∧ Vals xs its.toList
theorem ScL.seq {K : PySem.W.Frag} {H : Hp} {a : Addr} {xs : List V} (h : ScL K H a xs) : SqL K H a xs := by
  rcases h with ⟨o, h⟩ | h
  · exact .inl (.inr ⟨o, h⟩)
  · exact .inr h
mutual
/-- plain data at a value; M: the addresses that may still be written; μ: where the shared lists stand -/
def Rv (K : PySem.W.Frag) (M : Addr → Prop) (μ : List Addr) (H : Hp) : D → V → Prop
  | .non, v => v = .non
  | .bl b, v => v = .bl b
  | .int i, v => v = .int i
  | .str x, v => v = .str x
  | .tup ds, v => ∃ a vs, v = .ref a ∧ SqT K H a vs ∧ RvL K M μ H ds vs
  | .lst ds, v => ∃ a vs, v = .ref a ∧ H a = some (.lst vs) ∧ ¬ M a ∧ RvL K M μ H ds vs
  | .box n, v => ∃ a, v = .ref a ∧ μ[n]? = some a
  | .scr ds, v => ∃ a vs, v = .ref a ∧ ScL K H a vs ∧ RvL K M μ H ds vs
def RvL (K : PySem.W.Frag) (M : Addr → Prop) (μ : List Addr) (H : Hp) : List D → List V → Prop
  | [], vs => vs = []
  | d :: ds, vs => ∃ v r, vs = v :: r ∧ Rv K M μ H d v ∧ RvL K M μ H ds r
end

section
variable {K : PySem.W.Frag} {M M' : Addr → Prop} {μ μ' : List Addr} {H H' : Hp}
theorem RvL.cons {d : D} {ds : List D} {v : V} {vs : List V} (a : Rv K M μ H d v) (b : RvL K M μ H ds vs) : RvL K M μ H (d :: ds) (v :: vs) := by
  unfold RvL; exact ⟨v, vs, rfl, a, b⟩
theorem RvL.nil : RvL K M μ H [] [] := by unfold RvL; rfl
theorem RvL.cons_inv {d : D} {ds : List D} {vs : List V} (h : RvL K M μ H (d :: ds) vs) : ∃ v r, vs = v :: r ∧ Rv K M μ H d v ∧ RvL K M μ H ds r := by
  unfold RvL at h; exact h
theorem RvL.nil_inv {vs : List V} (h : RvL K M μ H [] vs) : vs = [] := by
  unfold RvL at h; exact h
theorem RvL.length : ∀ {ds : List D} {vs : List V}, RvL K M μ H ds vs → vs.length = ds.length
  | [], vs, h => by rw [h.nil_inv]; rfl
  | d :: ds, vs, h => by
    obtain ⟨v, r, rfl, _, h⟩ := h.cons_inv
    rw [List.length_cons, List.length_cons, RvL.length h]
theorem RvL.get : ∀ {ds : List D} {vs : List V} {i : Nat} {d : D}, RvL K M μ H ds vs → ds[i]? = some d → ∃ v, vs[i]? = some v ∧ Rv K M μ H d v
  | [], _, _, _, _, e => by simp at e
  | x :: ds, _, 0, d, h, e => by
    obtain ⟨v, r, rfl, a, _⟩ := h.cons_inv
    simp at e; subst e
    exact ⟨v, rfl, a⟩
  | x :: ds, _, i + 1, d, h, e => by
    obtain ⟨v, r, rfl, _, h⟩ := h.cons_inv
    obtain ⟨w, e1, e2⟩ := RvL.get (i := i) h (by simpa using e)
    exact ⟨w, by simpa using e1, e2⟩
theorem RvL.append : ∀ {ds es : List D} {vs ws : List V}, RvL K M μ H ds vs → RvL K M μ H es ws → RvL K M μ H (ds ++ es) (vs ++ ws)
  | [], _, vs, _, h, k => by rw [h.nil_inv]; exact k
  | d :: ds, _, vs, _, h, k => by
    obtain ⟨v, r, rfl, a, h⟩ := h.cons_inv
    exact .cons a (RvL.append h k)
theorem RvL.take : ∀ (n : Nat) {ds : List D} {vs : List V}, RvL K M μ H ds vs → RvL K M μ H (ds.take n) (vs.take n)
  | 0, _, _, _ => by simp; exact .nil
  | n + 1, [], vs, h => by rw [h.nil_inv]; exact .nil
  | n + 1, d :: ds, vs, h => by
    obtain ⟨v, r, rfl, a, h⟩ := h.cons_inv
    exact .cons a (RvL.take n h)
theorem RvL.drop : ∀ (n : Nat) {ds : List D} {vs : List V}, RvL K M μ H ds vs → RvL K M μ H (ds.drop n) (vs.drop n)
  | 0, _, _, h => h
  | n + 1, [], vs, h => by rw [h.nil_inv]; exact .nil
  | n + 1, d :: ds, vs, h => by
    obtain ⟨v, r, rfl, a, h⟩ := h.cons_inv
    exact RvL.drop n h
theorem RvL.set {d : D} {v : V} (a : Rv K M μ H d v) : ∀ (n : Nat) {ds : List D} {vs : List V}, RvL K M μ H ds vs → RvL K M μ H (ds.set n d) (vs.set n v)
  | _, [], vs, h => by rw [h.nil_inv]; exact .nil
  | 0, x :: ds, vs, h => by
    obtain ⟨w, r, rfl, _, h⟩ := h.cons_inv
    exact .cons a h
  | n + 1, x :: ds, vs, h => by
    obtain ⟨w, r, rfl, b, h⟩ := h.cons_inv
    exact .cons b (RvL.set a n h)
theorem RvL.rep {ds : List D} {vs : List V} (h : RvL K M μ H ds vs) : ∀ k : Nat, RvL K M μ H (List.replicate k ds).flatten (List.replicate k vs).flatten
  | 0 => .nil
  | k + 1 => by
    rw [List.replicate_succ, List.replicate_succ, List.flatten_cons, List.flatten_cons]
    exact h.append (RvL.rep h k)
theorem RvL.ints : ∀ (ns : List Int), RvL K M μ H (ns.map D.int) (ns.map V.int)
  | [] => .nil
  | n :: ns => .cons (by unfold Rv; rfl) (RvL.ints ns)
theorem RvL.intsOf : ∀ {ds : List D} {vs : List V} {ns : List Int}, RvL K M μ H ds vs → intsOf ds = some ns → vs = ns.map V.int
  | [], _, ns, h, e => by
    unfold Pn.intsOf at e; cases e
    rw [h.nil_inv]; rfl
  | d :: ds, _, ns, h, e => by
    obtain ⟨v, r, rfl, a, h2⟩ := h.cons_inv
    cases d <;> simp only [Pn.intsOf] at e <;> try (cases e; done)
    rename_i i
    cases q : Pn.intsOf ds with
    | none => rw [q] at e; cases e
    | some ms =>
      rw [q] at e; simp at e; subst e
      rw [RvL.intsOf h2 q]
      unfold Rv at a; rw [a]; rfl
theorem RvL.blsOf : ∀ {ds : List D} {vs : List V} {bs : List Bool}, RvL K M μ H ds vs → blsOf ds = some bs → vs = bs.map V.bl
  | [], _, ns, h, e => by
    unfold Pn.blsOf at e; cases e
    rw [h.nil_inv]; rfl
  | d :: ds, _, ns, h, e => by
    obtain ⟨v, r, rfl, a, h2⟩ := h.cons_inv
    cases d <;> simp only [Pn.blsOf] at e <;> try (cases e; done)
    rename_i i
    cases q : Pn.blsOf ds with
    | none => rw [q] at e; cases e
    | some ms =>
      rw [q] at e; simp at e; subst e
      rw [RvL.blsOf h2 q]
      unfold Rv at a; rw [a]; rfl

/-- how the reading of data is carried -/
structure Car (K : PySem.W.Frag) (M : Addr → Prop) (μ : List Addr) (H : Hp) (M' : Addr → Prop) (μ' : List Addr) (H' : Hp) : Prop where
  lst : ∀ a vs, H a = some (.lst vs) → ¬ M a → H' a = some (.lst vs) ∧ ¬ M' a
  scr : ∀ a vs, ScL K H a vs → ScL K H' a vs
  tup : ∀ a vs, SqT K H a vs → SqT K H' a vs
  box : ∀ (n : Nat) a, μ[n]? = some a → μ'[n]? = some a
mutual
theorem Rv.car (c : Car K M μ H M' μ' H') : ∀ {d : D} {v : V}, Rv K M μ H d v → Rv K M' μ' H' d v
  | .non, _, h => by unfold Rv at h ⊢; exact h
  | .bl _, _, h => by unfold Rv at h ⊢; exact h
  | .int _, _, h => by unfold Rv at h ⊢; exact h
  | .str _, _, h => by unfold Rv at h ⊢; exact h
  | .tup ds, _, h => by
    unfold Rv at h ⊢
    obtain ⟨a, vs, e, q, r⟩ := h
    exact ⟨a, vs, e, c.tup a vs q, RvL.car c r⟩
  | .lst ds, _, h => by
    unfold Rv at h ⊢
    obtain ⟨a, vs, e, q, m, r⟩ := h
    obtain ⟨q', m'⟩ := c.lst a vs q m
    exact ⟨a, vs, e, q', m', RvL.car c r⟩
  | .box n, _, h => by
    unfold Rv at h ⊢
    obtain ⟨a, e, q⟩ := h
    exact ⟨a, e, c.box n a q⟩
  | .scr ds, _, h => by
    unfold Rv at h ⊢
    obtain ⟨a, vs, e, q, r⟩ := h
    exact ⟨a, vs, e, c.scr a vs q, RvL.car c r⟩
theorem RvL.car (c : Car K M μ H M' μ' H') : ∀ {ds : List D} {vs : List V}, RvL K M μ H ds vs → RvL K M' μ' H' ds vs
  | [], _, h => by unfold RvL at h ⊢; exact h
  | d :: ds, _, h => by
    unfold RvL at h ⊢
    obtain ⟨v, r, e, a, b⟩ := h
    exact ⟨v, r, e, Rv.car c a, RvL.car c b⟩
end
theorem Car.refl : Car K M μ H M μ H := ⟨fun _ _ a b => ⟨a, b⟩, fun _ _ a => a, fun _ _ a => a, fun _ _ a => a⟩
theorem Car.trans {M2 : Addr → Prop} {μ2 : List Addr} {H2 : Hp} (a : Car K M μ H M' μ' H') (b : Car K M' μ' H' M2 μ2 H2) : Car K M μ H M2 μ2 H2 :=
  ⟨fun x vs p q => let ⟨p', q'⟩ := a.lst x vs p q; b.lst x vs p' q', fun x vs p => b.scr x vs (a.scr x vs p), fun x vs p => b.tup x vs (a.tup x vs p), fun n x p => b.box n x (a.box n x p)⟩

theorem rdKeep {a : Addr} {u : HO} (k : ∀ o, H a = some o → H' a = some o) (h : Rd H a u) : Rd H' a u := by
  rcases h with h | ⟨o, h⟩
  · exact .inl (k _ h)
  · exact .inr ⟨o, k _ h⟩
theorem rdSome {a : Addr} {u : HO} (h : Rd H a u) : ∃ o, H a = Option.some o := by
  rcases h with h | ⟨o, h⟩
  · exact ⟨_, h⟩
  · exact ⟨_, h⟩
theorem sqtKeep {a : Addr} {vs : List V} (k : ∀ o, H a = Option.some o → H' a = Option.some o) (h : SqT K H a vs) : SqT K H' a vs := by
  rcases h with h | h
  · exact .inl (rdKeep k h)
  · exact .inr h
/-- tuples are never shared lists nor own objects -/
def isTupO : HO → Bool
  | .tup _ => true
  | .frz _ _ => true
  | _ => false
theorem sqtKeepT {a : Addr} {vs : List V} (k : ∀ o, isTupO o = true → H a = Option.some o → H' a = Option.some o) (h : SqT K H a vs) : SqT K H' a vs := by
  rcases h with (h | ⟨o, h⟩) | h
  · exact .inl (.inl (k _ rfl h))
  · exact .inl (.inr ⟨o, k _ rfl h⟩)
  · exact .inr h
/-- the general step: what is not in M stands; M' has besides M only new places; at M stand no tuples -/
theorem Car.step (fr : ∀ b o, H b = some o → ¬ M b → H' b = some o) (nt : ∀ b o, M b → H b = some o → isTupO o = false) (mg : ∀ a, M' a → M a ∨ H a = none) (bx : ∀ (n : Nat) a, μ[n]? = some a → μ'[n]? = some a) :
    Car K M μ H M' μ' H' := by
  refine ⟨fun a vs h m => ⟨fr a _ h m, fun m' => ?_⟩, fun a vs h => ?_, fun a vs h => sqtKeepT (fun o t e => ?_) h, bx⟩
  · rcases mg a m' with z | z
    · exact m z
    · rw [z] at h; cases h
  · rcases h with ⟨o, h⟩ | h
    · refine .inl ⟨o, fr a _ h fun m => ?_⟩
      exact absurd (nt a _ m h) (by simp [isTupO])
    · exact .inr h
  · by_cases m : M a
    · rw [nt a o m e] at t; cases t
    · exact fr a o e m
/-- fewer protected places -/
theorem Car.less (h : ∀ a, M' a → M a) : Car K M μ H M' μ H := ⟨fun a vs p q => ⟨p, fun z => q (h a z)⟩, fun _ _ p => p, fun _ _ p => p, fun _ _ p => p⟩
end

/-- an own object -/
def ObR (K : PySem.W.Frag) (M : Addr → Prop) (μ : List Addr) (H : Hp) : Ob → HO → Prop
  | .lst ds, o => ∃ vs, o = .lst vs ∧ RvL K M μ H ds vs
theorem ObR.car {K : PySem.W.Frag} {M M' : Addr → Prop} {μ μ' : List Addr} {H H' : Hp} (c : Car K M μ H M' μ' H') : ∀ {o : Ob} {ho : HO}, ObR K M μ H o ho → ObR K M' μ' H' o ho
  | .lst ds, _, ⟨vs, e, r⟩ => ⟨vs, e, r.car c⟩
theorem ObR.nt {K : PySem.W.Frag} {M : Addr → Prop} {μ : List Addr} {H : Hp} : ∀ {o : Ob} {ho : HO}, ObR K M μ H o ho → isTupO ho = false
  | .lst ds, _, ⟨vs, e, r⟩ => by subst e; rfl

/-- the shared lists -/
structure RelB (K : PySem.W.Frag) (M : Addr → Prop) (μ : List Addr) (st : Sto) (H : Hp) : Prop where
  bx : ∀ (n : Nat) ds, st[n]? = some ds → ∃ a vs, μ[n]? = some a ∧ H a = some (.lst vs) ∧ RvL K M μ H ds vs
  sz : μ.length = st.length
  nd : μ.Nodup
  al : ∀ a, M a → H a ≠ none
  nt : ∀ a o, M a → H a = some o → isTupO o = false
  inM : ∀ a, a ∈ μ → M a

/-- what is fixed in a def's frame: the places protected at its entry, the heap and the shared lists there -/
structure Fx where
  M0 : Addr → Prop
  H0 : Hp
  μ0 : List Addr
def Own (σd : List SV) (σ : Sg) (a : Addr) : Prop := ∃ (i : Nat) (o : Ob), σd[i]? = some (.ow o) ∧ σ[i]? = some (some (.ref a))
def MM (F : Fx) (μ : List Addr) (σd : List SV) (σ : Sg) (a : Addr) : Prop := F.M0 a ∨ a ∈ μ ∨ Own σd σ a
structure Rel (K : PySem.W.Frag) (F : Fx) (μ : List Addr) (σd : List SV) (st : Sto) (σ : Sg) (H : Hp) : Prop where
  len : σd.length = σ.length
  im : ∀ (i : Nat) d, σd[i]? = some (.im d) → ∃ v, σ[i]? = some (some v) ∧ Rv K (MM F μ σd σ) μ H d v
  ow : ∀ (i : Nat) o, σd[i]? = some (.ow o) → ∃ a ho, σ[i]? = some (some (.ref a)) ∧ H a = some ho ∧ ObR K (MM F μ σd σ) μ H o ho ∧ a ∉ μ ∧ ¬ F.M0 a ∧ F.H0 a = none
  ds : ∀ (i j : Nat) o o' a, σd[i]? = some (.ow o) → σd[j]? = some (.ow o') → σ[i]? = some (some (.ref a)) → σ[j]? = some (some (.ref a)) → i = j
  b : RelB K (MM F μ σd σ) μ st H
  fr : ∀ b o, F.H0 b = some o → b ∉ F.μ0 → H b = some o
  al0 : ∀ b, F.H0 b ≠ none → H b ≠ none
  pre : ∀ (n : Nat) a, F.μ0[n]? = some a → μ[n]? = some a
  nw : ∀ a ∈ μ, a ∈ F.μ0 ∨ F.H0 a = none

/-- how the heap goes on: written only within M; M' has besides M only new places -/
structure Stp (M : Addr → Prop) (μ : List Addr) (H : Hp) (M' : Addr → Prop) (μ' : List Addr) (H' : Hp) : Prop where
  fr : ∀ b o, H b = some o → ¬ M b → H' b = some o
  mg : ∀ a, M' a → M a ∨ H a = none
  al : ∀ b, H b ≠ none → H' b ≠ none
  bx : ∀ (n : Nat) a, μ[n]? = some a → μ'[n]? = some a
theorem Stp.refl {M : Addr → Prop} {μ : List Addr} {H : Hp} : Stp M μ H M μ H := ⟨fun _ _ e _ => e, fun _ h => .inl h, fun _ h => h, fun _ _ h => h⟩
theorem Stp.trans {M M1 M2 : Addr → Prop} {μ μ1 μ2 : List Addr} {H H1 H2 : Hp} (a : Stp M μ H M1 μ1 H1) (b : Stp M1 μ1 H1 M2 μ2 H2) : Stp M μ H M2 μ2 H2 := by
  refine ⟨fun x o e m => b.fr x o (a.fr x o e m) fun m1 => ?_, fun x m2 => ?_, fun x h => b.al x (a.al x h), fun n x h => b.bx n x (a.bx n x h)⟩
  · rcases a.mg x m1 with z | z
    · exact m z
    · rw [z] at e; cases e
  · rcases b.mg x m2 with z | z
    · exact a.mg x z
    · by_cases h : H x = none
      · exact .inr h
      · exact absurd z (a.al x h)
theorem Stp.car {K : PySem.W.Frag} {M M' : Addr → Prop} {μ μ' : List Addr} {H H' : Hp} (s : Stp M μ H M' μ' H') (nt : ∀ b o, M b → H b = some o → isTupO o = false) : Car K M μ H M' μ' H' := Car.step s.fr nt s.mg s.bx
theorem Stp.widen {M M' N N' : Addr → Prop} {μ μ' : List Addr} {H H' : Hp} (s : Stp M μ H M' μ' H') (h1 : ∀ a, M a → N a) (h2 : ∀ a, N' a → N a ∨ H a = none) : Stp N μ H N' μ' H' :=
  ⟨fun b o e n => s.fr b o e fun m => n (h1 b m), h2, s.al, s.bx⟩

section
variable {K : PySem.W.Frag} {F : Fx} {μ μ' : List Addr} {σd σd' : List SV} {st st' : Sto} {σ σ' : Sg} {H H' : Hp}
theorem Own.congr (h : ∀ (i : Nat) o, σd'[i]? = some (.ow o) → σd[i]? = some (.ow o)) {a : Addr} (x : Own σd' σ a) : Own σd σ a := by
  obtain ⟨i, o, e1, e2⟩ := x
  exact ⟨i, o, h i o e1, e2⟩
theorem Rel.own_some (R : Rel K F μ σd st σ H) {a : Addr} (h : Own σd σ a) : ∃ ho, H a = some ho := by
  obtain ⟨i, o, e1, e2⟩ := h
  obtain ⟨a', ho, e3, e4, _⟩ := R.ow i o e1
  rw [e2] at e3; cases e3
  exact ⟨ho, e4⟩

/-- behind an expression: the shared lists have gone on -/
theorem Rel.next (R : Rel K F μ σd st σ H) (s : Stp (· ∈ μ) μ H (· ∈ μ') μ' H') (b : RelB K (MM F μ' σd σ) μ' st' H') : Rel K F μ' σd st' σ H' := by
  have mg : ∀ a, MM F μ' σd σ a → MM F μ σd σ a ∨ H a = none := fun a h => by
    rcases h with h | h | h
    · exact .inl (.inl h)
    · rcases s.mg a h with z | z
      · exact .inl (.inr (.inl z))
      · exact .inr z
    · exact .inl (.inr (.inr h))
  have c : Car K (MM F μ σd σ) μ H (MM F μ' σd σ) μ' H' := by
    refine (Stp.widen s (fun a h => .inr (.inl h)) mg).car R.b.nt
  refine ⟨R.len, fun i d e => ?_, fun i o e => ?_, R.ds, b, fun b o e n => ?_, fun b h => s.al b (R.al0 b h), fun n a h => s.bx n a (R.pre n a h), fun a h => ?_⟩
  · obtain ⟨v, e1, r⟩ := R.im i d e
    exact ⟨v, e1, r.car c⟩
  · obtain ⟨a, ho, e1, e2, r, n, m, z⟩ := R.ow i o e
    refine ⟨a, ho, e1, s.fr a ho e2 n, r.car c, fun h => ?_, m, z⟩
    rcases s.mg a h with q | q
    · exact n q
    · rw [q] at e2; cases e2
  · have e1 := R.fr b o e n
    refine s.fr b o e1 fun h => ?_
    rcases R.nw b h with q | q
    · exact n q
    · rw [q] at e; cases e
  · rcases s.mg a h with q | q
    · exact R.nw a q
    · by_cases z : F.H0 a = none
      · exact .inr z
      · exact absurd q (R.al0 a z)
end

/-- a strengthening of the frame: one more protected place -/
def Fx.plus (F : Fx) (a : Addr) : Fx := { F with M0 := fun b => F.M0 b ∨ b = a }
theorem MM.plus {F : Fx} {a b : Addr} {μ : List Addr} {σd : List SV} {σ : Sg} : MM (F.plus a) μ σd σ b ↔ MM F μ σd σ b ∨ b = a := by
  constructor
  · rintro ((h | h) | h | h)
    · exact .inl (.inl h)
    · exact .inr h
    · exact .inl (.inr (.inl h))
    · exact .inl (.inr (.inr h))
  · rintro ((h | h | h) | h)
    · exact .inl (.inl h)
    · exact .inr (.inl h)
    · exact .inr (.inr h)
    · exact .inl (.inr h)
section
variable {K : PySem.W.Frag} {F : Fx} {μ : List Addr} {σd : List SV} {st : Sto} {σ : Sg} {H H' : Hp}
theorem Rel.inM (R : Rel K F μ σd st σ H) {a : Addr} (h : MM F μ σd σ a) : ∃ o, H a = some o := by
  cases e : H a with
  | none => exact absurd e (R.b.al a h)
  | some o => exact ⟨o, rfl⟩
/-- a new object is laid at a, and protected -/
theorem Rel.laid (R : Rel K F μ σd st σ H) {a : Addr} {o : HO} (ha : H a = none) (ho : isTupO o = false) : Rel K (F.plus a) μ σd st σ (upd H a o) := by
  have ne : ∀ b, H b ≠ none → b ≠ a := fun b h e => by subst e; exact h ha
  have ne' : ∀ b u, H b = some u → b ≠ a := fun b u h => ne b (by rw [h]; exact fun z => nomatch z)
  have c : Car K (MM F μ σd σ) μ H (MM (F.plus a) μ σd σ) μ (upd H a o) := by
    refine Car.step (fun b u e _ => by rw [upd_ne (ne' b u e)]; exact e) R.b.nt (fun b h => ?_) (fun _ _ h => h)
    rcases MM.plus.mp h with h | h
    · exact .inl h
    · subst h; exact .inr ha
  refine ⟨R.len, fun i d e => ?_, fun i u e => ?_, R.ds, ⟨fun n ds e => ?_, R.b.sz, R.b.nd, fun b h => ?_, fun b u h e => ?_, fun b h => .inr (.inl h)⟩, fun b u e n => ?_, fun b h => ?_, R.pre, R.nw⟩
  · obtain ⟨v, e1, r⟩ := R.im i d e
    exact ⟨v, e1, r.car c⟩
  · obtain ⟨x, hx, e1, e2, r, n, m, z⟩ := R.ow i u e
    refine ⟨x, hx, e1, by rw [upd_ne (ne' x _ e2)]; exact e2, r.car c, n, fun h => ?_, z⟩
    rcases h with h | h
    · exact m h
    · exact ne' x _ e2 h
  · obtain ⟨x, vs, e1, e2, r⟩ := R.b.bx n ds e
    exact ⟨x, vs, e1, by rw [upd_ne (ne' x _ e2)]; exact e2, r.car c⟩
  · rcases MM.plus.mp h with h | h
    · rw [upd_ne (ne b (R.b.al b h))]; exact R.b.al b h
    · subst h; rw [upd_same]; exact fun z => nomatch z
  · rcases MM.plus.mp h with h | h
    · rw [upd_ne (ne b (R.b.al b h))] at e; exact R.b.nt b u h e
    · subst h; rw [upd_same] at e; cases e; exact ho
  · have q := R.fr b u e n
    rw [upd_ne (ne' b u q)]; exact q
  · have q := R.al0 b h
    rw [upd_ne (ne b q)]; exact q
/-- a new tuple is laid -/
theorem Rel.laidT (R : Rel K F μ σd st σ H) {a : Addr} {o : HO} (ha : H a = none) : Rel K F μ σd st σ (upd H a o) := by
  have ne : ∀ b, H b ≠ none → b ≠ a := fun b h e => by subst e; exact h ha
  have ne' : ∀ b u, H b = some u → b ≠ a := fun b u h => ne b (by rw [h]; exact fun z => nomatch z)
  refine R.next ⟨fun b u e _ => by rw [upd_ne (ne' b u e)]; exact e, fun b h => .inl h, fun b h => by rw [upd_ne (ne b h)]; exact h, fun _ _ h => h⟩ ?_
  have c : Car K (MM F μ σd σ) μ H (MM F μ σd σ) μ (upd H a o) :=
    Car.step (fun b u e _ => by rw [upd_ne (ne' b u e)]; exact e) R.b.nt (fun b h => .inl h) (fun _ _ h => h)
  refine ⟨fun n ds e => ?_, R.b.sz, R.b.nd, fun b h => ?_, fun b u h e => ?_, fun b h => .inr (.inl h)⟩
  · obtain ⟨x, vs, e1, e2, r⟩ := R.b.bx n ds e
    exact ⟨x, vs, e1, by rw [upd_ne (ne' x _ e2)]; exact e2, r.car c⟩
  · rw [upd_ne (ne b (R.b.al b h))]; exact R.b.al b h
  · rw [upd_ne (ne b (R.b.al b h))] at e; exact R.b.nt b u h e
/-- the protection of a new place is given up -/
theorem Rel.minus {a : Addr} (R : Rel K (F.plus a) μ σd st σ H) : Rel K F μ σd st σ H := by
  have c : Car K (MM (F.plus a) μ σd σ) μ H (MM F μ σd σ) μ H := Car.less fun b h => MM.plus.mpr (.inl h)
  refine ⟨R.len, fun i d e => ?_, fun i u e => ?_, R.ds, ⟨fun n ds e => ?_, R.b.sz, R.b.nd, fun b h => R.b.al b (MM.plus.mpr (.inl h)), fun b u h e => R.b.nt b u (MM.plus.mpr (.inl h)) e, fun b h => .inr (.inl h)⟩, R.fr, R.al0, R.pre, R.nw⟩
  · obtain ⟨v, e1, r⟩ := R.im i d e
    exact ⟨v, e1, r.car c⟩
  · obtain ⟨x, hx, e1, e2, r, n, m, z⟩ := R.ow i u e
    exact ⟨x, hx, e1, e2, r.car c, n, fun h => m (.inl h), z⟩
  · obtain ⟨x, vs, e1, e2, r⟩ := R.b.bx n ds e
    exact ⟨x, vs, e1, e2, r.car c⟩
end

/-- what a value is, by its flag; H: the heap ahead of it -/
def RR (K : PySem.W.Frag) (F : Fx) (H : Hp) (μ' : List Addr) (σd : List SV) (st' : Sto) (σ : Sg) (H' : Hp) (d : D) (v : V) : Fl → Prop
  | .pl => Rv K (MM F μ' σd σ) μ' H' d v
  | .lk => ∃ (i : Nat) (o : Ob) (a : Addr), σd[i]? = some (.ow o) ∧ σ[i]? = some (some (.ref a)) ∧ v = .ref a ∧ d = o.toD
  | .fr => ∃ a o ho, v = .ref a ∧ d = o.toD ∧ H a = none ∧ H' a = some ho ∧ ¬ MM F μ' σd σ a ∧ Rel K (F.plus a) μ' σd st' σ H' ∧ ObR K (MM (F.plus a) μ' σd σ) μ' H' o ho

/-- what can be looked at: any of the three -/
def Lk (K : PySem.W.Frag) (M : Addr → Prop) (μ : List Addr) (H : Hp) (d : D) (v : V) : Prop :=
  match d with
  | .lst ds => ∃ a vs, v = .ref a ∧ H a = some (.lst vs) ∧ a ∉ μ ∧ RvL K M μ H ds vs
  | d => Rv K M μ H d v

section
variable {K : PySem.W.Frag} {F : Fx} {μ : List Addr} {σd : List SV} {st : Sto} {σ : Sg} {H H0 : Hp} {d : D} {v : V}
theorem Lk.of (h : Rv K (MM F μ σd σ) μ H d v) : Lk K (MM F μ σd σ) μ H d v := by
  cases d with
  | lst ds =>
    unfold Rv at h
    obtain ⟨a, vs, e, q, m, r⟩ := h
    exact ⟨a, vs, e, q, fun z => m (.inr (.inl z)), r⟩
  | _ => exact h
theorem RR.lk {fl : Fl} (R : Rel K F μ σd st σ H) (h : RR K F H0 μ σd st σ H d v fl) : Lk K (MM F μ σd σ) μ H d v := by
  cases fl with
  | pl => exact Lk.of h
  | lk =>
    obtain ⟨i, o, a, e1, e2, rfl, rfl⟩ := h
    obtain ⟨a', ho, e3, e4, r, n, m, z⟩ := R.ow i o e1
    rw [e2] at e3; cases e3
    cases o with
    | lst ds =>
      obtain ⟨vs, rfl, r⟩ := r
      exact ⟨a, vs, rfl, e4, n, r⟩
  | fr =>
    obtain ⟨a, o, ho, rfl, rfl, hn, e, n, R', r⟩ := h
    cases o with
    | lst ds =>
      obtain ⟨vs, rfl, r⟩ := r
      exact ⟨a, vs, rfl, e, fun z => n (.inr (.inl z)), r.car (Car.less fun b h => MM.plus.mpr (.inl h))⟩
/-- a value that is kept -/
theorem RR.kept {fl : Fl} (R : Rel K F μ σd st σ H) (h : RR K F H0 μ σd st σ H d v fl) (hf : fl ≠ .lk) : Rv K (MM F μ σd σ) μ H d v := by
  cases fl with
  | pl => exact h
  | lk => exact absurd rfl hf
  | fr =>
    obtain ⟨a, o, ho, rfl, rfl, hn, e, n, R', r⟩ := h
    cases o with
    | lst ds =>
      obtain ⟨vs, rfl, r⟩ := r
      show Rv _ _ _ _ (.lst ds) _
      unfold Rv
      exact ⟨a, vs, rfl, e, n, r.car (Car.less fun b h => MM.plus.mpr (.inl h))⟩
end
end Pn

set_option Elab.async false
set_option linter.all false
set_option maxRecDepth 100000
namespace Pn
open PySem PySem.Spec PyProof.Rows L2

/-! ### what a piece of syntax comes to, as a reading -/
section
variable {X : Cx}
def WE (X : Cx) (e : Expr) : TE := fun σ H Q => ∀ (pins : List (Addr × Obj)) (s : Shared), Inv X pins σ H s → wpAny (model X.prog X.w) X.A (eval e X.env) (EP X pins σ Q) X.xe s
def WT (X : Cx) (e : Expr) : TT := fun σ H Q => ∀ (pins : List (Addr × Obj)) (s : Shared), Inv X pins σ H s → wpAny (model X.prog X.w) X.A (isTrue e X.env (eval e X.env)) (TP X pins σ Q) X.xe s
def WA (X : Cx) (es : List Expr) : TA := fun σ H Q => ∀ (pos : Pos) (pins : List (Addr × Obj)) (s : Shared), Inv X pins σ H s → wpAny (model X.prog X.w) X.A (spliced (backTo pos (starEach es X.env))) (AP X pins σ Q) X.xe s
theorem pe_we {e : Expr} : PE X e (WE X e) := ⟨fun pins s σ H Q I h => h pins s I⟩
theorem pt_wt {e : Expr} : PT X e (WT X e) := ⟨fun pins s σ H Q I h => h pins s I⟩
theorem pa_wa {es : List Expr} : PA X es (WA X es) := ⟨fun pos pins s σ H Q I h => h pos pins s I⟩
theorem we_of {e : Expr} {t : TE} (h : PE X e t) {σ : Sg} {H : Hp} {Q : VK} (q : t σ H Q) : WE X e σ H Q := fun pins s I => h.run pins s σ H Q I q
theorem wt_of {e : Expr} {t : TT} (h : PT X e t) {σ : Sg} {H : Hp} {Q : Bool → Hp → Prop} (q : t σ H Q) : WT X e σ H Q := fun pins s I => h.run pins s σ H Q I q
theorem wa_of {es : List Expr} {t : TA} (h : PA X es t) {σ : Sg} {H : Hp} {Q : List V → Hp → Prop} (q : t σ H Q) : WA X es σ H Q := fun pos pins s I => h.run pos pins s σ H Q I q
theorem we_mono {e : Expr} {σ : Sg} {H : Hp} {Q Q' : VK} (h : WE X e σ H Q) (k : ∀ v H', Q v H' → Q' v H') : WE X e σ H Q' :=
  fun pins s I => thn (h pins s I) fun u s' ⟨v, H', I', r, q⟩ => ⟨v, H', I', r, k v H' q⟩
/-- an operation on values -/
def WO (X : Cx) (f : Value → Value → Sem Value) : R2 := fun x y H Q => ∀ (pins : List (Addr × Obj)) (s : Shared) (σ : Sg) (v u : Value), Inv X pins σ H s → RelV x v → RelV y u →
    wpAny (model X.prog X.w) X.A (f v u) (EP X pins σ Q) X.xe s
theorem opr_wo {f : Value → Value → Sem Value} : OpR X f (WO X f) := fun pins s σ H x y v u Q I rx ry h => h pins s σ v u I rx ry
theorem wo_of {f : Value → Value → Sem Value} {r : R2} (h : OpR X f r) {x y : V} {H : Hp} {Q : VK} (q : r x y H Q) : WO X f x y H Q := fun pins s σ v u I rx ry => h pins s σ H x y v u Q I rx ry q
def WIx (X : Cx) : R2 := fun x y H Q => ∀ (r : R2), IxR X r → r x y H Q → True
/-- a call of a known value -/
def WCl (X : Cx) (f : Value) : List V → Hp → VK → Prop := fun xs H Q => ∀ (pins : List (Addr × Obj)) (s : Shared) (σ : Sg) (us : List Value), Inv X pins σ H s → Vals xs us → wpAny (model X.prog X.w) X.A (call f us) (EP X pins σ Q) X.xe s
theorem cr_wcl {f : Value} : CallR X f (WCl X f) := fun pins s σ H xs us Q I r h => h pins s σ us I r
theorem wcl_of {f : Value} {r : List V → Hp → VK → Prop} (h : CallR X f r) {xs : List V} {H : Hp} {Q : VK} (q : r xs H Q) : WCl X f xs H Q := fun pins s σ us I rv => h pins s σ H xs us Q I rv q
end

/-! ### promises of defs -/
/-- a call's end -/
def RC (K : PySem.W.Frag) (M : Addr → Prop) (H : Hp) (μ' : List Addr) (st' : Sto) (H' : Hp) (d : D) (v : V) : Fl → Prop
  | .pl => Rv K (fun a => M a ∨ a ∈ μ') μ' H' d v
  | .lk => False
  | .fr => ∃ a o ho, v = .ref a ∧ d = o.toD ∧ H a = none ∧ H' a = some ho ∧ ¬ (M a ∨ a ∈ μ') ∧ RelB K (fun b => (M b ∨ b ∈ μ') ∨ b = a) μ' st' H' ∧ ObR K (fun b => (M b ∨ b ∈ μ') ∨ b = a) μ' H' o ho
def spOf (K : PySem.W.Frag) (cl : Cl) (np f : Nat) : Sp := fun vs H Q _ => vs.length = np ∧ ∃ (M : Addr → Prop) (μ : List Addr) (ds : List D) (st : Sto) (d : D) (fl : Fl) (st' : Sto),
  RelB K M μ st H ∧ RvL K M μ H ds vs ∧ cl f ds st = some (d, fl, st') ∧
  ∀ v H' μ', Stp (· ∈ μ) μ H (· ∈ μ') μ' H' → RelB K (fun a => M a ∨ a ∈ μ') μ' st' H' → RC K M H μ' st' H' d v fl → Q v H'

/-- the f-th def, named x, is callable at level n -/
def FnAt (X : Cx) (cl : Cl) (n f : Nat) (x : Str) : Prop := ∃ (fa : Addr) (fd : FuncData) (ps : List Str), X.mg x = some (.ref fa) ∧ PySem.W.keepIn X.K (.ref fa) = true ∧ Binds X.K fd ps [] ∧ (∀ ds st r, cl f ds st = some r → ds.length = ps.length) ∧
  FnOk X.prog X.w X.K X.mg X.base CX0 n fa fd ps (spOf X.K cl ps.length f)

structure Pm where
  cl : Cl
  n : Nat
  fns : List Str
  blts : List Str
/-- the scope that runs, the scope as written (what may be stored) -/
structure SS where
  sc : Scope
  ss : Scope
def stB (ss : Scope) (x : Str) : Bool := match ss.names.lookup x with | some .local => true | some .cell => true | _ => false
/-- a good context -/
structure GX (p : Pm) (N : List Str) (sc : SS) (X : Cx) : Prop where
  calm : X.calm = true
  room : Room p.n X.A
  hN : X.N = N
  nd : X.N.Nodup
  hsc : X.env.scope = sc.sc
  fn : ∀ x, stB sc.ss x = true → Loc X.env.scope x ∧ (X.fn x = true ∨ X.env.scope.names.lookup x = some .local)
  fns : ∀ i x, p.fns[i]? = some x → FnAt X p.cl p.n i x
  blt : ∀ x, x ∈ p.blts → X.mg x = none

/-! ### carrying -/
section
variable {K : PySem.W.Frag} {F : Fx} {μ μ' : List Addr} {σd : List SV} {st st' : Sto} {σ : Sg} {H H' : Hp} {d : D} {v : V}
theorem Rel.carN (R : Rel K F μ σd st σ H) (s : Stp (· ∈ μ) μ H (· ∈ μ') μ' H') : Car K (MM F μ σd σ) μ H (MM F μ' σd σ) μ' H' := by
  refine (Stp.widen s (fun a h => .inr (.inl h)) fun a h => ?_).car R.b.nt
  rcases h with h | h | h
  · exact .inl (.inl h)
  · rcases s.mg a h with z | z
    · exact .inl (.inr (.inl z))
    · exact .inr z
  · exact .inl (.inr (.inr h))
theorem Lk.next (R : Rel K F μ σd st σ H) (s : Stp (· ∈ μ) μ H (· ∈ μ') μ' H') (h : Lk K (MM F μ σd σ) μ H d v) : Lk K (MM F μ' σd σ) μ' H' d v := by
  have c := R.carN s
  cases d with
  | lst ds =>
    obtain ⟨a, vs, e, q, m, r⟩ := h
    refine ⟨a, vs, e, s.fr a _ q m, fun z => ?_, r.car c⟩
    rcases s.mg a z with y | y
    · exact m y
    · rw [y] at q; cases q
  | _ => exact Rv.car c h
theorem RR.back {fl : Fl} {H1 : Hp} {μ1 : List Addr} (s : Stp (· ∈ μ) μ H (· ∈ μ1) μ1 H1) (h : RR K F H1 μ' σd st' σ H' d v fl) : RR K F H μ' σd st' σ H' d v fl := by
  cases fl with
  | pl => exact h
  | lk => exact h
  | fr =>
    obtain ⟨a, o, ho, e1, e2, e3, r⟩ := h
    refine ⟨a, o, ho, e1, e2, ?_, r⟩
    by_cases z : H a = none
    · exact z
    · exact absurd e3 (s.al a z)
/-- several arguments that are looked at -/
def LkL (K : PySem.W.Frag) (M : Addr → Prop) (μ : List Addr) (H : Hp) : List D → List V → Prop
  | [], vs => vs = []
  | d :: ds, vs => ∃ v r, vs = v :: r ∧ Lk K M μ H d v ∧ LkL K M μ H ds r
theorem LkL.next (R : Rel K F μ σd st σ H) (s : Stp (· ∈ μ) μ H (· ∈ μ') μ' H') : ∀ {ds : List D} {vs : List V}, LkL K (MM F μ σd σ) μ H ds vs → LkL K (MM F μ' σd σ) μ' H' ds vs
  | [], _, h => h
  | d :: ds, _, ⟨v, r, e, a, b⟩ => ⟨v, r, e, a.next R s, LkL.next R s b⟩

/-- what an operation gives: a value, a new tuple, a new list -/
inductive Pu (K : PySem.W.Frag) (M : Addr → Prop) (μ : List Addr) (H : Hp) : D → Bool → V → Hp → Prop
  | same {z : D} {v : V} : Rv K M μ H z v → Pu K M μ H z false v H
  | tup {ds : List D} {a : Addr} {vs : List V} : H a = none → RvL K M μ H ds vs → Pu K M μ H (.tup ds) false (.ref a) (upd H a (.tup vs))
  | lst {ds : List D} {a : Addr} {vs : List V} : H a = none → RvL K M μ H ds vs → Pu K M μ H (.lst ds) true (.ref a) (upd H a (.lst vs))
theorem stp_new {a : Addr} {o : HO} (ha : H a = none) : Stp (· ∈ μ) μ H (· ∈ μ) μ (upd H a o) := by
  have ne : ∀ b, H b ≠ none → b ≠ a := fun b h e => by subst e; exact h ha
  refine ⟨fun b u e _ => ?_, fun b h => .inl h, fun b h => ?_, fun _ _ h => h⟩
  · rw [upd_ne (ne b (by rw [e]; exact fun z => nomatch z))]; exact e
  · rw [upd_ne (ne b h)]; exact h
theorem Rel.carP (R : Rel K F μ σd st σ H) {a : Addr} {o : HO} (ha : H a = none) : Car K (MM F μ σd σ) μ H (MM (F.plus a) μ σd σ) μ (upd H a o) := by
  have ne' : ∀ b u, H b = some u → b ≠ a := fun b u h e => by subst e; rw [ha] at h; cases h
  refine Car.step (fun b u e _ => by rw [upd_ne (ne' b u e)]; exact e) R.b.nt (fun b h => ?_) (fun _ _ h => h)
  rcases MM.plus.mp h with h | h
  · exact .inl h
  · subst h; exact .inr ha
theorem Pu.rr {z : D} {f : Bool} (R : Rel K F μ σd st σ H) (p : Pu K (MM F μ σd σ) μ H z f v H') :
    Stp (· ∈ μ) μ H (· ∈ μ) μ H' ∧ Rel K F μ σd st σ H' ∧ RR K F H μ σd st σ H' z v (flOf f) := by
  cases p with
  | same r => exact ⟨Stp.refl, R, r⟩
  | tup ha r =>
    refine ⟨stp_new ha, R.laidT ha, ?_⟩
    show Rv _ _ _ _ (.tup _) _
    unfold Rv
    exact ⟨_, _, rfl, .inl (.inl upd_same), r.car (R.carN (stp_new ha))⟩
  | @lst ds a vs ha r =>
    refine ⟨stp_new ha, R.laidT ha, a, .lst ds, .lst vs, rfl, rfl, ha, upd_same, fun m => R.b.al a m ha, R.laid ha rfl, vs, rfl, r.car (R.carP ha)⟩
end

/-! ### soundness, as a property of a piece of syntax and its evaluation -/
variable {p : Pm} {N : List Str} {sc : SS}
def SE (p : Pm) (N : List Str) (sc : SS) (e : Expr) (A : FE) : Prop := ∀ X, GX p N sc X → ∀ (F : Fx) (μ : List Addr) (σd : List SV) (st : Sto) (σ : Sg) (H : Hp), Rel X.K F μ σd st σ H →
  ∀ d fl st', A σd st = some (d, fl, st') → ∀ Q : VK, (∀ v H' μ', Stp (· ∈ μ) μ H (· ∈ μ') μ' H' → Rel X.K F μ' σd st' σ H' → RR X.K F H μ' σd st' σ H' d v fl → Q v H') → WE X e σ H Q
def SB (p : Pm) (N : List Str) (sc : SS) (e : Expr) (A : FT) : Prop := ∀ X, GX p N sc X → ∀ (F : Fx) (μ : List Addr) (σd : List SV) (st : Sto) (σ : Sg) (H : Hp), Rel X.K F μ σd st σ H →
  ∀ b st', A σd st = some (b, st') → ∀ Q : Bool → Hp → Prop, (∀ H' μ', Stp (· ∈ μ) μ H (· ∈ μ') μ' H' → Rel X.K F μ' σd st' σ H' → Q b H') → WT X e σ H Q
def SA (p : Pm) (N : List Str) (sc : SS) (es : List Expr) (A : List SV → Sto → Option (List D × Sto)) : Prop := ∀ X, GX p N sc X → ∀ (F : Fx) (μ : List Addr) (σd : List SV) (st : Sto) (σ : Sg) (H : Hp), Rel X.K F μ σd st σ H →
  ∀ ds st', A σd st = some (ds, st') → ∀ Q : List V → Hp → Prop, (∀ vs H' μ', Stp (· ∈ μ) μ H (· ∈ μ') μ' H' → Rel X.K F μ' σd st' σ H' → RvL X.K (MM F μ' σd σ) μ' H' ds vs → Q vs H') → WA X es σ H Q
def SL (p : Pm) (N : List Str) (sc : SS) (es : List Expr) (A : List SV → Sto → Option (List D × Sto)) : Prop := ∀ X, GX p N sc X → ∀ (F : Fx) (μ : List Addr) (σd : List SV) (st : Sto) (σ : Sg) (H : Hp), Rel X.K F μ σd st σ H →
  ∀ ds st', A σd st = some (ds, st') → ∀ Q : List V → Hp → Prop, (∀ vs H' μ', Stp (· ∈ μ) μ H (· ∈ μ') μ' H' → Rel X.K F μ' σd st' σ H' → LkL X.K (MM F μ' σd σ) μ' H' ds vs → Q vs H') → WA X es σ H Q

/-! ### names and constants -/
theorem se_int {i : Int} {k : Nat} {pos : Pos} : SE p N sc (.Constant (.int i) k pos) (ev p.cl (.cInt i)).1 := by
  intro X G F μ σd st σ H R d fl st' e Q q
  cases e
  exact we_of pe_int (q _ _ μ Stp.refl R (by show Rv _ _ _ _ _ _; unfold Rv; rfl))
theorem se_bl {b : Bool} {k : Nat} {pos : Pos} : SE p N sc (.Constant (.bool b) k pos) (ev p.cl (.cBl b)).1 := by
  intro X G F μ σd st σ H R d fl st' e Q q
  cases e
  exact we_of pe_bl (q _ _ μ Stp.refl R (by show Rv _ _ _ _ _ _; unfold Rv; rfl))
theorem se_non {k : Nat} {pos : Pos} : SE p N sc (.Constant .none k pos) (ev p.cl .cNon).1 := by
  intro X G F μ σd st σ H R d fl st' e Q q
  cases e
  exact we_of pe_non (q _ _ μ Stp.refl R (by show Rv _ _ _ _ _ _; unfold Rv; rfl))
theorem se_str {x : Str} {k : Nat} {pos : Pos} : SE p N sc (.Constant (.str x) k pos) (ev p.cl (.cStr x)).1 := by
  intro X G F μ σd st σ H R d fl st' e Q q
  cases e
  exact we_of pe_str (q _ _ μ Stp.refl R (by show Rv _ _ _ _ _ _; unfold Rv; rfl))
/-- a name that can be seen -/
def visB (ssc : Scope) (x : Str) : Bool :=
  (match ssc.names.lookup x with | some .local => true | some .cell => true | some .free => true | _ => false) && !(x == ("__debug__" : Str)) && !(x == ("__classdict__" : Str))
theorem visB_vis {x : Str} {ssc : Scope} (h : visB ssc x = true) : Vis ssc x ∧ (x == ("__debug__" : Str)) = false ∧ (x == ("__classdict__" : Str)) = false := by
  unfold visB at h
  simp only [Bool.and_eq_true, Bool.not_eq_true'] at h
  refine ⟨?_, h.1.2, h.2⟩
  have q := h.1.1
  unfold Vis
  split at q
  · exact .inl (by assumption)
  · exact .inr (.inl (by assumption))
  · exact .inr (.inr (by assumption))
  · cases q
theorem se_var {i : Nat} {x : Str} {pos : Pos} (hi : N[i]? = some x) (hv : visB sc.sc x = true) : SE p N sc (.Name x pos) (ev p.cl (.var i)).1 := by
  intro X G F μ σd st σ H R d fl st' e Q q
  obtain ⟨vis, h1, h2⟩ := visB_vis hv
  have pe : PE X (.Name x pos) (tVar i) := pe_var (by rw [G.hN]; exact hi) (by rw [G.hsc]; exact vis) h1 h2
  have e' : (match σd[i]? with
    | some (.im d) => some (d, Fl.pl, st)
    | some (.ow o) => some (o.toD, Fl.lk, st)
    | _ => none) = some (d, fl, st') := e
  split at e'
  · rename_i d' hd
    cases e'
    obtain ⟨v, e1, r⟩ := R.im i _ hd
    exact we_of pe ⟨v, e1, q _ _ μ Stp.refl R r⟩
  · rename_i o ho
    cases e'
    obtain ⟨a, u, e1, e2, r⟩ := R.ow i _ ho
    exact we_of pe ⟨_, e1, q _ _ μ Stp.refl R ⟨i, o, a, ho, e1, rfl, rfl⟩⟩
  · cases e'

/-! ### arguments, displays -/
def notStar : Expr → Bool
  | .Starred .. => false
  | _ => true
theorem star_eq {e : Expr} (h : notStar e = true) (es : List Expr) (env : Env) : starEach (e :: es) env = (false, eval e env) :: starEach es env := by
  cases e <;> first | rfl | (exact absurd h (by simp [notStar]))
theorem sa_nil : SA p N sc [] (evs p.cl .nil) := by
  intro X G F μ σd st σ H R ds st' e Q q
  cases e
  exact wa_of pa_nil (q _ _ μ Stp.refl R .nil)
theorem sa_cons {e : Expr} {es : List Expr} {A : E} {B : Es} (hs : notStar e = true) (ha : SE p N sc e (ev p.cl A).1) (hb : SA p N sc es (evs p.cl B)) : SA p N sc (e :: es) (evs p.cl (.cons A B)) := by
  intro X G F μ σd st σ H R ds st' h Q q
  simp only [evs, Option.bind_eq_bind, Option.bind_eq_some_iff] at h
  obtain ⟨⟨x, fl, st1⟩, e1, h⟩ := h
  simp only at h
  split at h
  · cases h
  rename_i hfl
  cases e2 : evs p.cl B σd st1 with
  | none => rw [e2] at h; cases h
  | some y =>
  obtain ⟨r, st2⟩ := y
  rw [e2] at h
  cases h
  refine wa_of (pa_cons pe_we pa_wa (star_eq hs es X.env)) ?_
  refine ha X G F μ σd st σ H R _ _ _ e1 _ fun v1 H1 μ1 s1 R1 r1 => ?_
  refine hb X G F μ1 σd st1 σ H1 R1 _ _ e2 _ fun vs H2 μ2 s2 R2 r2 => ?_
  exact q _ _ μ2 (s1.trans s2) R2 (.cons (Rv.car (R1.carN s2) (r1.kept R1 hfl)) r2)
theorem sl_nil : SL p N sc [] (evl p.cl .nil) := by
  intro X G F μ σd st σ H R ds st' e Q q
  cases e
  exact wa_of pa_nil (q _ _ μ Stp.refl R rfl)
theorem sl_cons {e : Expr} {es : List Expr} {A : E} {B : Es} (hs : notStar e = true) (ha : SE p N sc e (ev p.cl A).1) (hb : SL p N sc es (evl p.cl B)) : SL p N sc (e :: es) (evl p.cl (.cons A B)) := by
  intro X G F μ σd st σ H R ds st' h Q q
  simp only [evl, Option.bind_eq_bind, Option.bind_eq_some_iff] at h
  obtain ⟨⟨x, fl, st1⟩, e1, ⟨r, st2⟩, e2, h⟩ := h
  cases h
  refine wa_of (pa_cons pe_we pa_wa (star_eq hs es X.env)) ?_
  refine ha X G F μ σd st σ H R _ _ _ e1 _ fun v1 H1 μ1 s1 R1 r1 => ?_
  refine hb X G F μ1 σd st1 σ H1 R1 _ _ e2 _ fun vs H2 μ2 s2 R2 r2 => ?_
  exact q _ _ μ2 (s1.trans s2) R2 ⟨_, _, rfl, (r1.lk R1).next R1 s2, r2⟩
theorem lim_le : LIM ≤ sizeLine := by show 1000000 ≤ 2 ^ 24; decide
theorem se_tup {es : List Expr} {B : Es} {k : Nat} {pos : Pos} (hb : SA p N sc es (evs p.cl B)) : SE p N sc (.Tuple es k pos) (ev p.cl (.tup B)).1 := by
  intro X G F μ σd st σ H R d fl st' h Q q
  simp only [ev, byTru, Option.bind_eq_bind, Option.bind_eq_some_iff] at h
  obtain ⟨⟨ds, st1⟩, e1, h⟩ := h
  simp only at h
  split at h
  · rename_i hl
    cases h
    refine we_of (pe_tup pa_wa) ?_
    refine hb X G F μ σd st σ H R _ _ e1 _ fun vs H1 μ1 s1 R1 r1 => ?_
    refine ⟨by rw [r1.length]; exact Nat.le_trans hl lim_le, fun a ha => ?_⟩
    obtain ⟨s2, R2, r2⟩ := Pu.rr R1 (.tup ha r1)
    exact q _ _ μ1 (s1.trans s2) R2 r2
  · cases h
theorem se_lst {es : List Expr} {B : Es} {pos : Pos} (hb : SA p N sc es (evs p.cl B)) : SE p N sc (.List es pos) (ev p.cl (.lst B)).1 := by
  intro X G F μ σd st σ H R d fl st' h Q q
  simp only [ev, byTru, Option.bind_eq_bind, Option.bind_eq_some_iff] at h
  obtain ⟨⟨ds, st1⟩, e1, h⟩ := h
  simp only at h
  split at h
  · rename_i hl
    cases h
    refine we_of (pe_lst pa_wa) ?_
    refine hb X G F μ σd st σ H R _ _ e1 _ fun vs H1 μ1 s1 R1 r1 => ?_
    refine ⟨by rw [r1.length]; exact Nat.le_trans hl lim_le, fun a ha => ?_⟩
    obtain ⟨s2, R2, r2⟩ := Pu.rr R1 (.lst ha r1)
    exact q _ _ μ1 (s1.trans s2) R2 (RR.back s1 r2)
  · cases h
end Pn

set_option Elab.async false
set_option linter.all false
set_option maxRecDepth 100000
namespace Pn
open PySem PySem.Spec PyProof.Rows L2

/-! ### tuple * int, any int -/
theorem tuple_mul1 (l : Addr) (items : Array Value) (n : Nat) (dd : Option Addr) (sl : Array (Option Value)) (x : Int) (u : Tok) (c0 : (decide (x < -(2 ^ 63)) || decide (x ≥ 2 ^ 63)) = false) (c1 : (items.isEmpty || x == 1) = true) :
    Meets (Builtin.«tuple.__mul__» ⟨[.ref l, .int x u], []⟩) (fun _ R s => s.heap.get? l = some { cls := .type "tuple", dict := dd, data := .seq items n, slots := sl } ∧
      R (.ok (.ret (Value.ref l))) s) :=
  .of_wp fun prog w A R s h => by
    obtain ⟨hp, g, d, tk, os⟩ := s
    obtain ⟨hl, h⟩ := h
    have f1 := AutoSeq1.idx_int
    wp_walk using wpAny_loadPart' hl
    repeat (first
      | (refine wpAny_ite_false (decide_eq_false (by rw [c0]; exact Bool.false_ne_true)) ?_; wp_walk using wpAny_loadPart' hl)
      | (refine wpAny_ite_true (decide_eq_true c1) ?_; wp_walk using wpAny_loadPart' hl))
    exact ⟨_, rfl, h⟩
theorem tuple_mul0 (l : Addr) (items : Array Value) (n : Nat) (dd : Option Addr) (sl : Array (Option Value)) (x : Int) (u : Tok) (c0 : (decide (x < -(2 ^ 63)) || decide (x ≥ 2 ^ 63)) = false) (c1 : (items.isEmpty || x == 1) = false) (c2 : (decide (x ≤ 0) || items.isEmpty) = true) :
    Meets (Builtin.«tuple.__mul__» ⟨[.ref l, .int x u], []⟩) (fun _ R s => s.heap.get? l = some { cls := .type "tuple", dict := dd, data := .seq items n, slots := sl } ∧
      R (.ok (.ret (Value.ref s.heap.objs.size))) { s with heap := s.heap.push { cls := Value.type "tuple", data := Data.seq #[] }, toks := s.toks }) :=
  .of_wp fun prog w A R s h => by
    obtain ⟨hp, g, d, tk, os⟩ := s
    obtain ⟨hl, h⟩ := h
    have f1 := AutoSeq1.idx_int
    wp_walk using wpAny_loadPart' hl
    repeat (first
      | (refine wpAny_ite_false (decide_eq_false (by rw [c0]; exact Bool.false_ne_true)) ?_; wp_walk using wpAny_loadPart' hl)
      | (refine wpAny_ite_false (decide_eq_false (by rw [c1]; exact Bool.false_ne_true)) ?_; wp_walk using wpAny_loadPart' hl)
      | (refine wpAny_ite_true (decide_eq_true c2) ?_; wp_walk using wpAny_loadPart' hl)
      | (refine wpAny_ite_false (decide_eq_false (by decide)) ?_; wp_walk using wpAny_loadPart' hl))
    exact ⟨_, rfl, h⟩
section
variable {X : Cx}
def rRepA (K : PySem.W.Frag) : R2 := fun x y H Q => ∃ l k xs, x = .ref l ∧ y = .int k ∧ SqT K H l xs ∧ -1000000 < k ∧ k < 1000000 ∧ xs.length * k.toNat ≤ LIM ∧
  (xs = [] ∨ k = 1 → Q (.ref l) H) ∧ (¬ (xs = [] ∨ k = 1) → ∀ p, H p = none → Q (.ref p) (upd H p (.tup (List.replicate k.toNat xs).flatten)))
theorem op_repA : OpR X (binaryOp .Mult) (rRepA X.K) := by
  intro pins s σ H x y v u Q I rx ry h
  obtain ⟨l, k, xs, rfl, rfl, hT, h1, h2, hz, q1, q2⟩ := h
  cases rx
  obtain ⟨t, rfl⟩ := ry
  obtain ⟨its, r, ⟨⟨cls, dd, data, sl⟩, ho, hc, n, hd⟩, hs⟩ := I.tuple hT
  simp only at hc hd
  subst hc hd
  have hle : its.length = xs.length := r.length.symm
  have c0 : (decide (k < -(2 ^ 63)) || decide (k ≥ 2 ^ 63)) = false := by
    rw [decide_eq_false (by omega), decide_eq_false (by omega)] <;> rfl
  have ie : its.toArray.isEmpty = true ↔ xs = [] := by
    cases r <;> simp
  by_cases w1 : xs = [] ∨ k = 1
  · have c1 : (its.toArray.isEmpty || k == 1) = true := by
      rw [Bool.or_eq_true]
      rcases w1 with w1 | w1
      · exact .inl (ie.mpr w1)
      · exact .inr (beq_iff_eq.mpr w1)
    exact wpAny_binaryOp_repeat_ref (T := "tuple") (U := "int") (by decide) ⟨_, ho, rfl⟩ (fun s' => typeIs_int s' k t) noFill_tuple_mul F.fills_int_mul F.slot_int_rmul repeat_tuple F.slot_int_index.lookup
      (call_meets F.slot_int_rmul (typeIs_int s k t) F.entry_int_rmul (F.args_int_rmul_2 _ _) (int_rmul_tuple k t l its.toArray n dd sl)
        ⟨ho, rfl, ⟨_, ho, rfl⟩, call_meets F.slot_tuple_mul ⟨_, ho, rfl⟩ F.entry_tuple_mul (F.args_tuple_mul_2 _ _) (tuple_mul1 l its.toArray n dd sl k t c0 c1) ⟨ho, .ref l, H, I, rfl, q1 w1⟩⟩)
  · have hne : xs ≠ [] := fun e => w1 (.inl e)
    have hk1 : k ≠ 1 := fun e => w1 (.inr e)
    have hi : its.toArray.isEmpty = false := by
      cases q : its.toArray.isEmpty with
      | false => rfl
      | true => exact absurd (ie.mp q) hne
    have c1 : (its.toArray.isEmpty || k == 1) = false := by
      rw [hi, Bool.false_or]
      exact beq_eq_false_iff_ne.mpr hk1
    have hlen : (List.replicate k.toNat xs).flatten.length ≤ sizeLine := by
      rw [PyProof.Rows.lm_len_rep_flat, Nat.mul_comm]
      exact Nat.le_trans hz lim_le
    by_cases hk : k ≤ 0
    · have c2 : (decide (k ≤ 0) || its.toArray.isEmpty) = true := by rw [decide_eq_true hk]; rfl
      refine wpAny_binaryOp_repeat_ref (T := "tuple") (U := "int") (by decide) ⟨_, ho, rfl⟩ (fun s' => typeIs_int s' k t) noFill_tuple_mul F.fills_int_mul F.slot_int_rmul repeat_tuple F.slot_int_index.lookup
        (call_meets F.slot_int_rmul (typeIs_int s k t) F.entry_int_rmul (F.args_int_rmul_2 _ _) (int_rmul_tuple k t l its.toArray n dd sl)
          ⟨ho, rfl, ⟨_, ho, rfl⟩, call_meets F.slot_tuple_mul ⟨_, ho, rfl⟩ F.entry_tuple_mul (F.args_tuple_mul_2 _ _) (tuple_mul0 l its.toArray n dd sl k t c0 c1 c2) ⟨ho, ?_⟩⟩)
      have e0 : k.toNat = 0 := by omega
      have q := q2 w1
      rw [e0] at q
      refine ⟨.ref s.heap.objs.size, _, I.laid (t' := s.toks) (o := .tup []) (fun b ob q => Heap.get?_push_of_some _ q) (Nat.le_refl _) ?_, rfl, q _ (I.hok.fresh (Nat.le_refl _))⟩
      exact ⟨Nat.zero_le _, [], .nil, IsTup.new s.heap _⟩
    · have c2 : (decide (k ≤ 0) || its.toArray.isEmpty) = false := by
        rw [hi, Bool.or_false]
        exact decide_eq_false hk
      have hsz0 : its.toArray.size = xs.length := by rw [List.size_toArray, hle]
      have hm : ((its.toArray.size : Nat) : Int) * k ≤ 1000000 := by
        rw [hsz0]
        have e1 : k = ((k.toNat : Nat) : Int) := by omega
        have hz' : xs.length * k.toNat ≤ 1000000 := hz
        rw [e1, ← Int.natCast_mul]
        exact Int.ofNat_le.mpr hz'
      have c4 : Builtin.Tuple.tupleTooMany (((its.toArray.size : Nat) : Int) * k) = false := by
        unfold Builtin.Tuple.tupleTooMany
        rw [sizeLine_eq]
        exact decide_eq_false (by omega)
      have flen : (List.replicate k.toNat its).flatten.length ≤ sizeLine := by
        rw [PyProof.Rows.lm_len_rep_flat, hle, ← PyProof.Rows.lm_len_rep_flat]; exact hlen
      refine wpAny_binaryOp_repeat_ref (T := "tuple") (U := "int") (by decide) ⟨_, ho, rfl⟩ (fun s' => typeIs_int s' k t) noFill_tuple_mul F.fills_int_mul F.slot_int_rmul repeat_tuple F.slot_int_index.lookup
        (call_meets F.slot_int_rmul (typeIs_int s k t) F.entry_int_rmul (F.args_int_rmul_2 _ _) (int_rmul_tuple k t l its.toArray n dd sl)
          ⟨ho, rfl, ⟨_, ho, rfl⟩, call_meets F.slot_tuple_mul ⟨_, ho, rfl⟩ F.entry_tuple_mul (F.args_tuple_mul_2 _ _) (tuple_mulW l its.toArray n dd sl k t c0 c1 c2 (by omega) c4 (by rw [size_rep, List.size_toArray]; exact flen)) ⟨ho, ?_⟩⟩)
      rw [size_rep]
      refine ⟨.ref s.heap.objs.size, _, I.laid (t' := s.toks) (o := .tup (List.replicate k.toNat xs).flatten) (fun b ob q => Heap.get?_push_of_some _ q) (Nat.le_refl _) ?_, rfl, q2 w1 _ (I.hok.fresh (Nat.le_refl _))⟩
      exact ⟨hlen, _, r.rep k.toNat, IsTup.new _ _⟩
/-- powers of any size -/
def CPowW (i j : Int) : Prop := 0 ≤ j ∧ (i.natAbs.log2 + 1) * j.toNat ≤ 134217728
theorem bits_le (x : Int) : Builtin.Int.intBits x ≤ x.natAbs.log2 + 1 := by
  unfold Builtin.Int.intBits
  split <;> omega
theorem op_powW : OpR X (binaryOp .Pow) (rI CPowW fun i j => .int (i ^ j.toNat)) := opI fun i j _ _ _ _ _ hc q => by
  have h1 : (0 : Int) ≤ j := hc.1
  have h2 : (i.natAbs.log2 + 1) * j.toNat ≤ 134217728 := hc.2
  refine pow_int h1 ?_ q
  have h3 : Builtin.Int.intBits i * j.toNat ≤ (i.natAbs.log2 + 1) * j.toNat := Nat.mul_le_mul_right _ (bits_le i)
  have h4 : ((Builtin.Int.intBits i * j.toNat : Nat) : Int) ≤ 134217728 := by omega
  rw [Int.natCast_mul, Int.toNat_of_nonneg h1] at h4
  exact h4
end

/-! ### the operators -/
def opS : Bop → Operator
  | .add => .Add | .sub => .Sub | .mul => .Mult | .fdiv => .FloorDiv | .mod => .Mod | .pow => .Pow | .shl => .LShift | .shr => .RShift | .and => .BitAnd | .or => .BitOr | .xor => .BitXor
section
variable {X : Cx} {M : Addr → Prop} {μ : List Addr} {H : Hp}
theorem Lk.int {i : Int} {v : V} (h : Lk X.K M μ H (.int i) v) : v = .int i := by
  unfold Lk Rv at h; exact h
theorem Lk.bl {b : Bool} {v : V} (h : Lk X.K M μ H (.bl b) v) : v = .bl b := by
  unfold Lk Rv at h; exact h
theorem Lk.str {b : Str} {v : V} (h : Lk X.K M μ H (.str b) v) : v = .str b := by
  unfold Lk Rv at h; exact h
theorem Lk.non {v : V} (h : Lk X.K M μ H .non v) : v = .non := by
  unfold Lk Rv at h; exact h
theorem Lk.tup {ds : List D} {v : V} (h : Lk X.K M μ H (.tup ds) v) : ∃ a vs, v = .ref a ∧ SqT X.K H a vs ∧ RvL X.K M μ H ds vs := by
  unfold Lk Rv at h; exact h
theorem Lk.lst {ds : List D} {v : V} (h : Lk X.K M μ H (.lst ds) v) : ∃ a vs, v = .ref a ∧ H a = some (.lst vs) ∧ a ∉ μ ∧ RvL X.K M μ H ds vs := h
theorem rv_int {i : Int} {K : PySem.W.Frag} : Rv K M μ H (.int i) (.int i) := by unfold Rv; rfl
theorem rv_bl {i : Bool} {K : PySem.W.Frag} : Rv K M μ H (.bl i) (.bl i) := by unfold Rv; rfl
theorem rv_str {i : Str} {K : PySem.W.Frag} : Rv K M μ H (.str i) (.str i) := by unfold Rv; rfl
theorem rv_non {K : PySem.W.Frag} : Rv K M μ H .non .non := by unfold Rv; rfl
theorem rv_tup {ds : List D} {a : Addr} {vs : List V} {K : PySem.W.Frag} (h : SqT K H a vs) (r : RvL K M μ H ds vs) : Rv K M μ H (.tup ds) (.ref a) := by unfold Rv; exact ⟨a, vs, rfl, h, r⟩
theorem iops_ok {o : Bop} {i j k : Int} (h : iops o i j = some k) {Q : VK} (q : Q (.int k) H) : WO X (binaryOp (opS o)) (.int i) (.int j) H Q := by
  cases o <;> simp only [iops] at h
  · cases h; exact wo_of op_add ⟨i, j, rfl, rfl, q⟩
  · cases h; exact wo_of op_sub ⟨i, j, rfl, rfl, q⟩
  · split at h <;> cases h
    exact wo_of op_mulW ⟨i, j, rfl, rfl, by assumption, q⟩
  · split at h <;> cases h
    exact wo_of op_fdivW ⟨i, j, rfl, rfl, by assumption, q⟩
  · split at h <;> cases h
    exact wo_of op_mod ⟨i, j, rfl, rfl, by assumption, q⟩
  · split at h <;> cases h
    exact wo_of op_powW ⟨i, j, rfl, rfl, by assumption, q⟩
  · split at h <;> cases h
    rename_i c
    refine wo_of op_shlW ⟨i, j, rfl, rfl, ⟨c.1, ?_⟩, q⟩
    have := bits_le i
    have := c.1
    have := c.2
    omega
  · split at h <;> cases h
    exact wo_of op_shr ⟨i, j, rfl, rfl, by assumption, q⟩
  · cases h; exact wo_of op_and ⟨i, j, rfl, rfl, q⟩
  · cases h; exact wo_of op_or ⟨i, j, rfl, rfl, q⟩
  · cases h; exact wo_of op_xor ⟨i, j, rfl, rfl, q⟩
theorem op_ok {o : Bop} {x y z : D} {f : Bool} {vx vy : V} (hx : Lk X.K M μ H x vx) (hy : Lk X.K M μ H y vy) (h : binop o x y = some (z, f)) {Q : VK} (q : ∀ v H', Pu X.K M μ H z f v H' → Q v H') :
    WO X (binaryOp (opS o)) vx vy H Q := by
  cases x with
  | int i =>
    cases y with
    | int j =>
      simp only [binop, Option.map_eq_some_iff] at h
      obtain ⟨k, e, h⟩ := h
      cases h
      rw [hx.int, hy.int]
      exact iops_ok e (q _ _ (.same rv_int))
    | _ => exact absurd h (by simp [binop])
  | tup a =>
    obtain ⟨p, vs, rfl, hp, r⟩ := hx.tup
    cases y with
    | tup b =>
      obtain ⟨p2, vs2, rfl, hp2, r2⟩ := hy.tup
      cases o <;> simp only [binop] at h <;> try (cases h; done)
      split at h <;> cases h
      rename_i hl
      refine wo_of op_catA ⟨p, p2, vs, vs2, rfl, rfl, hp, hp2, by rw [r.length, r2.length]; exact Nat.le_trans hl lim_le, fun e => ?_, fun _ e => ?_, fun _ _ p' hp' => q _ _ (.tup hp' (r.append r2))⟩
      · refine q _ _ (.same ?_)
        subst e
        have ea : a = [] := List.eq_nil_of_length_eq_zero (by rw [← r.length]; rfl)
        subst ea
        exact rv_tup hp2 r2
      · refine q _ _ (.same ?_)
        subst e
        have eb : b = [] := List.eq_nil_of_length_eq_zero (by rw [← r2.length]; rfl)
        subst eb
        rw [List.append_nil]
        exact rv_tup hp r
    | int k =>
      rw [hy.int]
      cases o <;> simp only [binop] at h <;> try (cases h; done)
      split at h <;> cases h
      rename_i hl
      refine wo_of op_repA ⟨p, k, vs, rfl, rfl, hp, by omega, by omega, by rw [r.length]; exact hl.2, fun e => ?_, fun _ p' hp' => q _ _ (.tup hp' (r.rep _))⟩
      refine q _ _ (.same ?_)
      rcases e with e | e
      · subst e
        have ea : a = [] := List.eq_nil_of_length_eq_zero (by rw [← r.length]; rfl)
        subst ea
        have : (List.replicate k.toNat ([] : List D)).flatten = [] := by simp
        rw [this]
        exact rv_tup hp .nil
      · subst e
        have : (List.replicate (1 : Int).toNat a).flatten = a := by simp
        rw [this]
        exact rv_tup hp r
    | _ => exact absurd h (by simp [binop])
  | lst a =>
    obtain ⟨p, vs, rfl, hp, _, r⟩ := hx.lst
    cases y with
    | lst b =>
      obtain ⟨p2, vs2, rfl, hp2, _, r2⟩ := hy.lst
      cases o <;> simp only [binop] at h <;> try (cases h; done)
      split at h <;> cases h
      rename_i hl
      exact wo_of op_cat ⟨p, p2, vs, vs2, rfl, rfl, hp, hp2, by rw [r.length, r2.length]; exact Nat.le_trans hl lim_le, fun p' hp' => q _ _ (.lst hp' (r.append r2))⟩
    | int k =>
      rw [hy.int]
      cases o <;> simp only [binop] at h <;> try (cases h; done)
      split at h <;> cases h
      rename_i hl
      exact wo_of op_rep ⟨p, k, vs, rfl, rfl, hp, by omega, by omega, by rw [r.length]; exact Nat.le_trans hl.2 lim_le, fun p' hp' => q _ _ (.lst hp' (r.rep _))⟩
    | _ => exact absurd h (by simp [binop])
  | _ => exact absurd h (by simp [binop])
end
end Pn

set_option Elab.async false
set_option linter.all false
set_option maxRecDepth 100000
namespace Pn
open PySem PySem.Spec PyProof.Rows L2
section
variable {prog : Program} {w : World} {A : Around} {E : Value → Shared → Prop} {s : Shared}
theorem collect_tuple {l : Addr} {vs : List Value} {Q : List Value → Shared → Prop} (hl : s.heap.IsTuple l vs.toArray)
    (h : Q vs { s with heap := (s.heap.push (seqObj "list" #[] 0)).update s.heap.objs.size (Obj.mapSeq (· ++ vs.toArray)) }) (hsz : vs.length ≤ sizeLine) :
    wpAny (model prog w) A (collect (.ref l)) Q E s := by
  obtain ⟨o, ho, hc, n, hd⟩ := id hl
  unfold collect
  refine wpAny_bind (wpAny_runValue (codeAny_builtin entry_proto_collect' ?_))
  show wpAny _ _ (do again (.builtin "list.__iadd__" ⟨[← newList [], .ref l], []⟩)) _ _ s
  refine wpAny_bind (wpAny_newList (wpAny_pure ⟨Code.quiet_builtin _ (by decide +kernel), codeAny_builtin entry_list_iadd' ?_⟩))
  show wpAny _ _ (Builtin.List.listExtendWith (.ref s.heap.objs.size) (.ref l) (.ref s.heap.objs.size)) _ _ { s with heap := s.heap.push (seqObj "list" #[] 0) }
  unfold Builtin.List.listExtendWith
  have ho' : (s.heap.push (seqObj "list" #[] 0)).get? l = some o := Heap.get?_push_of_some _ ho
  refine wpAny_bind (wpAny_typeOf (T := "tuple") ⟨o, ho', hc⟩ ?_)
  rw [if_pos (by rw [Bool.or_eq_true]; exact .inr rfl)]
  refine wpAny_bind (listItems_at ho' hd ?_)
  refine wpAny_bind (listItems_at (xs := #[]) (n := 0) (Heap.get?_push_size _ rfl) rfl ?_)
  rw [if_neg (by simp)]
  refine wpAny_bind (listUpdate_at (xs := #[]) (n := 0) (Heap.get?_push_size _ rfl) rfl ?_ (Nat.zero_le _) (by show (#[] ++ vs.toArray).size ≤ sizeLine + 1; simp only [Array.size_append, List.size_toArray, List.length_nil]; omega))
  refine wpAny_pure ?_
  show wpAny (model prog w) A (do
      let o ← load s.heap.objs.size
      match o.data with
      | .seq xs _ => pure xs.toList
      | _ => unsupported "internal:collect") Q E { s with heap := (s.heap.push (seqObj "list" #[] 0)).update s.heap.objs.size (Obj.mapSeq (· ++ vs.toArray)) }
  refine wpAny_bind (wpAny_load (get?_update_seq (Heap.get?_push_size _ rfl) _) ?_)
  show wpAny _ _ (pure ((#[] : Array Value) ++ vs.toArray).toList) Q E _
  rw [show ((#[] : Array Value) ++ vs.toArray).toList = vs by simp]
  exact wpAny_pure h
theorem sortedKT {κ : KeyKind} (hO : κ.OneLt) {l : Addr} {vs : List Value} {Q : Value → Shared → Prop} (hl : s.heap.IsTuple l vs.toArray) (h0 : KeysOf κ (pairsOf vs)) (hkk : ∀ v₁ v₂ rest, vs = v₁ :: v₂ :: rest → keyKind' (v₁ :: v₂ :: rest).toArray = pure oneType') (hL : vs.length ≤ sizeLine)
    (h : ∀ st' : SortSt, (arrOf st').Perm (pairsOf vs) → SortedToK κ (arrOf st') (pairsOf vs).size → Q (.ref (s.heap.objs.size + 1)) { s with heap := sortedAll s.heap vs ((arrOf st').map (·.2)) }) :
    wpAny (model prog w) A (call (.builtin "sorted") [.ref l]) Q E s := by
  refine Calls.call_function_entry kind_sorted plain_sorted entry_sorted (args_sorted1 _) ?_
  unfold Builtin.«sorted»
  refine wpAny_bind (m := checkCount "sorted" 1 1 _) (wpAny_pure ?_)
  refine wpAny_bind (collect_tuple hl ?_ hL)
  refine wpAny_bind (wpAny_newList ?_)
  have hsz : ((s.heap.push (seqObj "list" #[] 0)).update s.heap.objs.size (Obj.mapSeq (· ++ vs.toArray))).objs.size = s.heap.objs.size + 1 := by
    rw [Heap.size_update, size_push']
  have hoL : (((s.heap.push (seqObj "list" #[] 0)).update s.heap.objs.size (Obj.mapSeq (· ++ vs.toArray))).push (seqObj "list" vs.toArray 0)).get? (s.heap.objs.size + 1) = some (seqObj "list" vs.toArray 0) := by
    rw [← hsz]; exact Heap.get?_push_size _ rfl
  show wpAny _ _ _ _ _ { s with heap := ((s.heap.push (seqObj "list" #[] 0)).update s.heap.objs.size (Obj.mapSeq (· ++ vs.toArray))).push (seqObj "list" vs.toArray 0) }
  rw [hsz]
  refine wpAny_bind (wpAny_holding (wpAny_call_entry slot_list_sort ⟨_, hoL, rfl⟩ entry_list_sort (list_sort_treeKAny hO hoL h0 hkk hL fun st' a1 a2 => ⟨_, rfl, ?_⟩) (args_list_sort _)))
  exact wpAny_pure ⟨_, rfl, h st' a1 a2⟩
theorem sorted_intsT {l : Addr} {vs : List Value} {ns : List Int} {Q : Value → Shared → Prop} (hl : s.heap.IsTuple l vs.toArray) (hI : IntsAre vs ns) (hL : vs.length ≤ sizeLine)
    (h : ∀ (out : Array Value) (ns' : List Int), IntsAre out.toList ns' → ns'.Perm ns → ns'.Pairwise (· ≤ ·) → Q (.ref (s.heap.objs.size + 1)) { s with heap := sortedAll s.heap vs out }) :
    wpAny (model prog w) A (call (.builtin "sorted") [.ref l]) Q E s := by
  refine sortedKT intKind_oneLt hl hI.keysOfInt (fun v₁ v₂ rest e => keyKind_ints (by rw [← e]; exact hI)) hL fun st' hp hs => ?_
  obtain ⟨ns', h1, h2, h3⟩ := sorted_out hI hp (sortedTo_of_int hs)
  exact h _ ns' h1 h2 h3
end
section
variable {X : Cx}
def rSortedT (K : PySem.W.Frag) : List V → Hp → VK → Prop := fun vs H Q => ∃ (a : Addr) (ns : List Int), vs = [V.ref a] ∧ SqT K H a (ns.map V.int) ∧
  ∀ (ns' : List Int) (p : Addr), ns'.Perm ns → ns'.Pairwise (· ≤ ·) → H p = none → Q (.ref p) (upd H p (.lst (ns'.map V.int)))
theorem cr_sortedT : CallR X (.builtin "sorted") (rSortedT X.K) := by
  intro pins s σ H vs us Q I r h
  obtain ⟨a, ns, rfl, hs, q⟩ := h
  obtain ⟨its, rv, hl, hz⟩ := I.tuple hs
  rw [Vals.ref1 r]
  have hi := rv.ints
  rw [List.length_map] at hz
  refine sorted_intsT (show s.heap.IsTuple a its.toArray from hl) hi (by rw [hi.length]; exact hz) fun out ns' h1 h2 h3 => ?_
  obtain ⟨ep, he'⟩ := PyProof.Rows.sortedAll_at s.heap its out
  have hlen : (ns'.map V.int).length ≤ sizeLine := by rw [List.length_map, h2.length_eq]; exact hz
  exact ⟨.ref _, upd H (s.heap.objs.size + 1) (.lst (ns'.map V.int)), I.laid (t' := s.toks) (fun _ _ => PyProof.Rows.sortedAll_old) (Nat.le_succ _) ⟨hlen, out.toList, ep, vals_of_ints h1, he'⟩, rfl, q ns' _ h2 h3 (I.hok.fresh (Nat.le_succ _))⟩
end
end Pn

set_option Elab.async false
set_option linter.all false
set_option maxRecDepth 100000
namespace Pn
open PySem PySem.Spec PyProof.Rows L2
section
variable {X : Cx} {K : PySem.W.Frag} {M : Addr → Prop} {μ : List Addr} {H : Hp}
mutual
theorem dp_of : ∀ (n : Nat) (d : D) (v : V), eqOk n d = true → Rv K M μ H d v → ∃ p, toPy d = some p ∧ Dp K H v p ∧ p.plain = true ∧ p.depth ≤ n
  | n, .non, v, _, h => by unfold Rv at h; subst h; exact ⟨.none, by simp [toPy], .non, by simp [PyData.plain], by simp [PyData.depth]⟩
  | n, .bl b, v, _, h => by unfold Rv at h; subst h; exact ⟨.bool b, by simp [toPy], .bl b, by simp [PyData.plain], by simp [PyData.depth]⟩
  | n, .int b, v, _, h => by unfold Rv at h; subst h; exact ⟨.int b, by simp [toPy], .int b, by simp [PyData.plain], by simp [PyData.depth]⟩
  | n, .str b, v, _, h => by unfold Rv at h; subst h; exact ⟨.str b, by simp [toPy], .str b, by simp [PyData.plain], by simp [PyData.depth]⟩
  | 0, .tup ds, v, e, h => by simp [eqOk] at e
  | n + 1, .tup ds, v, e, h => by
    unfold Rv at h
    obtain ⟨a, vs, rfl, hs, r⟩ := h
    obtain ⟨ps, e1, e2, e3, e4⟩ := dps_of n ds vs (by simpa [eqOk] using e) r
    exact ⟨.tuple ps, by simp [toPy, e1], .tup hs e2, by simpa [PyData.plain] using e3, by simp [PyData.depth]; omega⟩
  | 0, .lst ds, v, e, h => by simp [eqOk] at e
  | n + 1, .lst ds, v, e, h => by
    unfold Rv at h
    obtain ⟨a, vs, rfl, hs, _, r⟩ := h
    obtain ⟨ps, e1, e2, e3, e4⟩ := dps_of n ds vs (by simpa [eqOk] using e) r
    exact ⟨.list ps, by simp [toPy, e1], .lst (.of hs) e2, by simpa [PyData.plain] using e3, by simp [PyData.depth]; omega⟩
  | 0, .box _, v, e, _ => by simp [eqOk] at e
  | n + 1, .box _, v, e, _ => by simp [eqOk] at e
  | 0, .scr _, v, e, _ => by simp [eqOk] at e
  | n + 1, .scr _, v, e, _ => by simp [eqOk] at e
theorem dps_of : ∀ (n : Nat) (ds : List D) (vs : List V), eqOks n ds = true → RvL K M μ H ds vs → ∃ ps, toPys ds = some ps ∧ DpAll K H vs ps ∧ PyData.plainAll ps = true ∧ PyData.depthAll ps ≤ n
  | n, [], vs, _, h => by rw [h.nil_inv]; exact ⟨[], by simp [toPys], .nil, by simp [PyData.plainAll], by simp [PyData.depthAll]⟩
  | n, d :: ds, vs, e, h => by
    obtain ⟨v, r, rfl, a, b⟩ := h.cons_inv
    simp only [eqOks, Bool.and_eq_true] at e
    obtain ⟨p, e1, e2, e3, e4⟩ := dp_of n d v e.1 a
    obtain ⟨ps, f1, f2, f3, f4⟩ := dps_of n ds r e.2 b
    exact ⟨p :: ps, by simp [toPys, e1, f1], .cons e2 f2, by simp [PyData.plainAll, e3, f3], by simp [PyData.depthAll]; omega⟩
end
theorem dp_lk {n : Nat} {d : D} {v : V} (e : eqOk n d = true) (h : Lk K M μ H d v) : ∃ p, toPy d = some p ∧ Dp K H v p ∧ p.plain = true ∧ p.depth ≤ n := by
  cases d with
  | lst ds =>
    obtain ⟨a, vs, rfl, hs, _, r⟩ := h
    cases n with
    | zero => simp [eqOk] at e
    | succ n =>
      obtain ⟨ps, e1, e2, e3, e4⟩ := dps_of n ds vs (by simpa [eqOk] using e) r
      exact ⟨.list ps, by simp [toPy, e1], .lst (.of hs) e2, by simpa [PyData.plain] using e3, by simp [PyData.depth]; omega⟩
  | _ => exact dp_of (M := M) (μ := μ) n _ v e h
mutual
theorem deq_eqv : ∀ (x y : D) (a b : PyData), toPy x = some a → toPy y = some b → PyData.eqv a b = deq x y
  | .non, y, a, b, h1, h2 => by
    simp only [toPy] at h1; cases h1
    cases y <;> simp only [toPy, Option.map_eq_some_iff] at h2 <;> first | (cases h2; rfl) | (obtain ⟨_, _, rfl⟩ := h2; rfl) | cases h2
  | .bl _, y, a, b, h1, h2 => by
    simp only [toPy] at h1; cases h1
    cases y <;> simp only [toPy, Option.map_eq_some_iff] at h2 <;> first | (cases h2; rfl) | (obtain ⟨_, _, rfl⟩ := h2; rfl) | cases h2
  | .int _, y, a, b, h1, h2 => by
    simp only [toPy] at h1; cases h1
    cases y <;> simp only [toPy, Option.map_eq_some_iff] at h2 <;> first | (cases h2; rfl) | (obtain ⟨_, _, rfl⟩ := h2; rfl) | cases h2
  | .str _, y, a, b, h1, h2 => by
    simp only [toPy] at h1; cases h1
    cases y <;> simp only [toPy, Option.map_eq_some_iff] at h2 <;> first | (cases h2; rfl) | (obtain ⟨_, _, rfl⟩ := h2; rfl) | cases h2
  | .tup xs, y, a, b, h1, h2 => by
    simp only [toPy, Option.map_eq_some_iff] at h1
    obtain ⟨ps, e1, rfl⟩ := h1
    cases y <;> simp only [toPy, Option.map_eq_some_iff] at h2 <;> first | (cases h2; done) | (cases h2; rfl) | skip
    · obtain ⟨qs, e2, rfl⟩ := h2
      exact deqs_eqv _ _ ps qs e1 e2
    · obtain ⟨_, _, rfl⟩ := h2; rfl
  | .lst xs, y, a, b, h1, h2 => by
    simp only [toPy, Option.map_eq_some_iff] at h1
    obtain ⟨ps, e1, rfl⟩ := h1
    cases y <;> simp only [toPy, Option.map_eq_some_iff] at h2 <;> first | (cases h2; done) | (cases h2; rfl) | skip
    · obtain ⟨_, _, rfl⟩ := h2; rfl
    · obtain ⟨qs, e2, rfl⟩ := h2
      exact deqs_eqv _ _ ps qs e1 e2
  | .box _, y, a, b, h1, h2 => by simp [toPy] at h1
  | .scr _, y, a, b, h1, h2 => by simp [toPy] at h1
theorem deqs_eqv : ∀ (xs ys : List D) (as bs : List PyData), toPys xs = some as → toPys ys = some bs → PyData.eqvAll as bs = deqs xs ys
  | [], ys, as, bs, h1, h2 => by
    simp only [toPys] at h1; cases h1
    cases ys with
    | nil => simp only [toPys] at h2; cases h2; rfl
    | cons y ys =>
      simp only [toPys, Option.bind_eq_bind, Option.bind_eq_some_iff] at h2
      obtain ⟨p, _, ps, _, h2⟩ := h2
      cases h2; rfl
  | x :: xs, ys, as, bs, h1, h2 => by
    simp only [toPys, Option.bind_eq_bind, Option.bind_eq_some_iff] at h1
    obtain ⟨p, e1, ps, e2, h1⟩ := h1
    cases h1
    cases ys with
    | nil => simp only [toPys] at h2; cases h2; rfl
    | cons y ys =>
      simp only [toPys, Option.bind_eq_bind, Option.bind_eq_some_iff] at h2
      obtain ⟨q, f1, qs, f2, h2⟩ := h2
      cases h2
      show (PyData.eqv p q && PyData.eqvAll ps qs) = (deq x y && deqs xs ys)
      rw [deq_eqv x y p q e1 f1, deqs_eqv xs ys ps qs e2 f2]
end
theorem any_deq : ∀ (ds : List D) (x : D) (ps : List PyData) (p : PyData), toPys ds = some ps → toPy x = some p → (ps.any fun y => PyData.eqv y p) = ds.any fun d => deq d x
  | [], x, ps, p, h1, h2 => by simp only [toPys] at h1; cases h1; rfl
  | d :: ds, x, ps, p, h1, h2 => by
    simp only [toPys, Option.bind_eq_bind, Option.bind_eq_some_iff] at h1
    obtain ⟨q, e1, qs, e2, h1⟩ := h1
    cases h1
    rw [List.any_cons, List.any_cons, deq_eqv d x q p e1 h2, any_deq ds x qs p e2 h2]
end

def copS : Cop → CmpOp
  | .lt => .Lt | .le => .LtE | .gt => .Gt | .ge => .GtE | .eq => .Eq | .ne => .NotEq | .is => .Is | .isnot => .IsNot | .in_ => .In | .notin => .NotIn
section
variable {X : Cx} {M : Addr → Prop} {μ : List Addr} {H : Hp}
theorem eq_deep {x y : D} {vx vy : V} (hu : X.A.units + 64 < cLine) (hx : Lk X.K M μ H x vx) (hy : Lk X.K M μ H y vy) {z : Bool} (h : dEq x y = some z) {Q : VK} (q : Q (.bl z) H) : WO X (compareOp .Eq) vx vy H Q := by
  unfold dEq at h
  split at h <;> cases h
  rename_i c
  rw [Bool.and_eq_true] at c
  obtain ⟨a, e1, e2, e3, e4⟩ := dp_lk c.1 hx
  obtain ⟨b, f1, f2, f3, f4⟩ := dp_lk c.2 hy
  intro pins s σ v u I rx ry
  obtain ⟨as, r1⟩ := Dp.reads I a vx v e2 rx
  obtain ⟨bs, r2⟩ := Dp.reads I b vy u f2 ry
  refine SeqAt.eq_plain r1 r2 e3 f3 (by omega) ?_
  exact ⟨.bl _, H, I, rfl, by rw [deq_eqv x y a b e1 f1]; exact q⟩
theorem ne_deep {x y : D} {vx vy : V} (hu : X.A.units + 64 < cLine) (hx : Lk X.K M μ H x vx) (hy : Lk X.K M μ H y vy) {z : Bool} (h : dEq x y = some z) {Q : VK} (q : Q (.bl (!z)) H) : WO X (compareOp .NotEq) vx vy H Q := by
  unfold dEq at h
  split at h <;> cases h
  rename_i c
  rw [Bool.and_eq_true] at c
  obtain ⟨a, e1, e2, e3, e4⟩ := dp_lk c.1 hx
  obtain ⟨b, f1, f2, f3, f4⟩ := dp_lk c.2 hy
  intro pins s σ v u I rx ry
  obtain ⟨as, r1⟩ := Dp.reads I a vx v e2 rx
  obtain ⟨bs, r2⟩ := Dp.reads I b vy u f2 ry
  refine SeqAt.ne_plain r1 r2 e3 f3 (by omega) ?_
  exact ⟨.bl _, H, I, rfl, by rw [deq_eqv x y a b e1 f1]; exact q⟩
theorem lk_seq {y : D} {ds : List D} {v : V} (h : Lk X.K M μ H y v) (e : seqOf y = some ds) : ∃ a vs, v = .ref a ∧ (SqL X.K H a vs ∨ SqT X.K H a vs) ∧ RvL X.K M μ H ds vs := by
  cases y <;> simp only [seqOf] at e <;> cases e
  · obtain ⟨a, vs, e, q, r⟩ := h.tup
    exact ⟨a, vs, e, .inr q, r⟩
  · obtain ⟨a, vs, e, q, _, r⟩ := h.lst
    exact ⟨a, vs, e, .inl (.of q), r⟩
theorem in_deep {x y : D} {ds : List D} {vx vy : V} (hu : X.A.units + 64 < cLine) (hx : Lk X.K M μ H x vx) (hy : Lk X.K M μ H y vy) (hs : seqOf y = some ds) (c : (eqOk 60 x && eqOks 60 ds) = true) {Q : VK} :
    (Q (.bl (ds.any fun d => deq d x)) H → WO X (compareOp .In) vx vy H Q) ∧ (Q (.bl (!(ds.any fun d => deq d x))) H → WO X (compareOp .NotIn) vx vy H Q) := by
  rw [Bool.and_eq_true] at c
  obtain ⟨a, e1, e2, e3, e4⟩ := dp_lk c.1 hx
  obtain ⟨p, vs, rfl, hq, r⟩ := lk_seq hy hs
  obtain ⟨ps, f1, f2, f3, f4⟩ := dps_of 60 ds vs c.2 r
  constructor
  · intro q pins s σ v u I rx ry
    obtain ⟨as, r1⟩ := Dp.reads I a vx v e2 rx
    rcases hq with hq | hq
    · obtain ⟨bs, r2⟩ := Dp.reads I (.list ps) _ u (.lst hq f2) ry
      exact SeqAt.in_list_data r2 r1 f3 e3 (by omega) ⟨.bl _, H, I, rfl, by rw [any_deq ds x ps a f1 e1]; exact q⟩
    · obtain ⟨bs, r2⟩ := Dp.reads I (.tuple ps) _ u (.tup hq f2) ry
      exact SeqAt.in_tuple_data r2 r1 f3 e3 (by omega) ⟨.bl _, H, I, rfl, by rw [any_deq ds x ps a f1 e1]; exact q⟩
  · intro q pins s σ v u I rx ry
    obtain ⟨as, r1⟩ := Dp.reads I a vx v e2 rx
    rcases hq with hq | hq
    · obtain ⟨bs, r2⟩ := Dp.reads I (.list ps) _ u (.lst hq f2) ry
      exact SeqAt.notIn_list_data r2 r1 f3 e3 (by omega) ⟨.bl _, H, I, rfl, by rw [any_deq ds x ps a f1 e1]; exact q⟩
    · obtain ⟨bs, r2⟩ := Dp.reads I (.tuple ps) _ u (.tup hq f2) ry
      exact SeqAt.notIn_tuple_data r2 r1 f3 e3 (by omega) ⟨.bl _, H, I, rfl, by rw [any_deq ds x ps a f1 e1]; exact q⟩
theorem cmp_ok {o : Cop} {x y : D} {z : Bool} {vx vy : V} (hu : X.A.units + 64 < cLine) (hx : Lk X.K M μ H x vx) (hy : Lk X.K M μ H y vy) (h : cmpD o x y = some z) {Q : VK} (q : Q (.bl z) H) :
    WO X (compareOp (copS o)) vx vy H Q := by
  cases o with
  | lt =>
    cases x <;> cases y <;> simp only [cmpD] at h <;> cases h
    rw [hx.int, hy.int]; exact wo_of op_lt ⟨_, _, rfl, rfl, q⟩
  | le =>
    cases x <;> cases y <;> simp only [cmpD] at h <;> cases h
    rw [hx.int, hy.int]; exact wo_of op_le ⟨_, _, rfl, rfl, q⟩
  | gt =>
    cases x <;> cases y <;> simp only [cmpD] at h <;> cases h
    rw [hx.int, hy.int]; exact wo_of op_gt ⟨_, _, rfl, rfl, q⟩
  | ge =>
    cases x <;> cases y <;> simp only [cmpD] at h <;> cases h
    rw [hx.int, hy.int]; exact wo_of op_ge ⟨_, _, rfl, rfl, q⟩
  | eq =>
    simp only [cmpD] at h
    split at h
    · cases h; rw [hx.int, hy.int]; exact wo_of op_eq ⟨rfl, by simpa using q⟩
    · cases h; rw [hx.bl, hy.bl]; exact wo_of op_eq ⟨rfl, by simpa using q⟩
    · cases h; rw [hx.str, hy.str]; exact wo_of op_eq ⟨rfl, by simpa using q⟩
    · exact eq_deep hu hx hy h q
  | ne =>
    simp only [cmpD] at h
    split at h
    · cases h; rw [hx.int, hy.int]; exact wo_of op_ne ⟨rfl, by simpa using q⟩
    · cases h; rw [hx.bl, hy.bl]; exact wo_of op_ne ⟨rfl, by simpa using q⟩
    · cases h; rw [hx.str, hy.str]; exact wo_of op_ne ⟨rfl, by simpa using q⟩
    · rw [Option.map_eq_some_iff] at h
      obtain ⟨w, e, rfl⟩ := h
      exact ne_deep hu hx hy e q
  | is =>
    simp only [cmpD] at h
    split at h <;> cases h
    rw [hy.non]
    refine wo_of op_isN ⟨rfl, ?_⟩
    cases x with
    | non => rw [hx.non]; exact q
    | bl b => rw [hx.bl]; exact q
    | int b => rw [hx.int]; exact q
    | str b => rw [hx.str]; exact q
    | tup b => obtain ⟨a, vs, rfl, _⟩ := hx.tup; exact q
    | lst b => obtain ⟨a, vs, rfl, _⟩ := hx.lst; exact q
    | box b => unfold Lk Rv at hx; obtain ⟨a, rfl, _⟩ := hx; exact q
    | scr b => unfold Lk Rv at hx; obtain ⟨a, vs, rfl, _⟩ := hx; exact q
  | isnot =>
    simp only [cmpD] at h
    split at h <;> cases h
    rw [hy.non]
    refine wo_of op_notN ⟨rfl, ?_⟩
    cases x with
    | non => rw [hx.non]; exact q
    | bl b => rw [hx.bl]; exact q
    | int b => rw [hx.int]; exact q
    | str b => rw [hx.str]; exact q
    | tup b => obtain ⟨a, vs, rfl, _⟩ := hx.tup; exact q
    | lst b => obtain ⟨a, vs, rfl, _⟩ := hx.lst; exact q
    | box b => unfold Lk Rv at hx; obtain ⟨a, rfl, _⟩ := hx; exact q
    | scr b => unfold Lk Rv at hx; obtain ⟨a, vs, rfl, _⟩ := hx; exact q
  | in_ =>
    simp only [cmpD] at h
    split at h
    · split at h <;> cases h
      exact (in_deep hu hx hy (by assumption) (by assumption)).1 q
    · cases h
  | notin =>
    simp only [cmpD] at h
    split at h
    · split at h <;> cases h
      exact (in_deep hu hx hy (by assumption) (by assumption)).2 q
    · cases h
end

/-! ### built-ins -/
def bfName : Bf → Str
  | .len => "len" | .int => "int" | .abs => "abs" | .min => "min" | .max => "max" | .sum => "sum" | .all => "all" | .any => "any" | .tuple => "tuple" | .list => "list" | .sorted => "sorted"
def bfVal : Bf → Value
  | .len => .builtin "len" | .int => .type "int" | .abs => .builtin "abs" | .min => .builtin "min" | .max => .builtin "max" | .sum => .builtin "sum" | .all => .builtin "all" | .any => .builtin "any"
  | .tuple => .type "tuple" | .list => .type "list" | .sorted => .builtin "sorted"
theorem bf_boot (f : Bf) : bootBuiltins (bfName f) = some (bfVal f) := by cases f <;> decide +kernel
theorem listMin_le : ∀ (r : List Int) (x : Int), (listMin x r = x ∨ listMin x r ∈ r) ∧ listMin x r ≤ x ∧ ∀ y ∈ r, listMin x r ≤ y
  | [], x => by simp [listMin]
  | z :: r, x => by
    by_cases hc : z < x
    · obtain ⟨h1, h2, h3⟩ := listMin_le r z
      simp only [listMin, if_pos hc, List.mem_cons]
      refine ⟨?_, by omega, fun y hy => ?_⟩
      · rcases h1 with h | h
        · exact .inr (.inl h)
        · exact .inr (.inr h)
      · rcases hy with rfl | hy
        · exact h2
        · exact h3 y hy
    · obtain ⟨h1, h2, h3⟩ := listMin_le r x
      simp only [listMin, if_neg hc, List.mem_cons]
      refine ⟨?_, h2, fun y hy => ?_⟩
      · rcases h1 with h | h
        · exact .inl h
        · exact .inr (.inr h)
      · rcases hy with rfl | hy
        · omega
        · exact h3 y hy
theorem listMax_le : ∀ (r : List Int) (x : Int), (listMax x r = x ∨ listMax x r ∈ r) ∧ x ≤ listMax x r ∧ ∀ y ∈ r, y ≤ listMax x r
  | [], x => by simp [listMax]
  | z :: r, x => by
    by_cases hc : z > x
    · obtain ⟨h1, h2, h3⟩ := listMax_le r z
      simp only [listMax, if_pos hc, List.mem_cons]
      refine ⟨?_, by omega, fun y hy => ?_⟩
      · rcases h1 with h | h
        · exact .inr (.inl h)
        · exact .inr (.inr h)
      · rcases hy with rfl | hy
        · exact h2
        · exact h3 y hy
    · obtain ⟨h1, h2, h3⟩ := listMax_le r x
      simp only [listMax, if_neg hc, List.mem_cons]
      refine ⟨?_, h2, fun y hy => ?_⟩
      · rcases h1 with h | h
        · exact .inl h
        · exact .inr (.inr h)
      · rcases hy with rfl | hy
        · omega
        · exact h3 y hy
theorem insSort_perm (x : Int) : ∀ ns : List Int, (insSort x ns).Perm (x :: ns)
  | [] => .refl _
  | y :: r => by
    unfold insSort
    split
    · exact .refl _
    · exact (List.Perm.cons y (insSort_perm x r)).trans (List.Perm.swap x y r)
theorem insSort_mem {x z : Int} : ∀ {ns : List Int}, z ∈ insSort x ns → z = x ∨ z ∈ ns := fun {ns} h => by
  have := (insSort_perm x ns).mem_iff.mp h
  simpa using this
theorem insSort_sorted (x : Int) : ∀ ns : List Int, ns.Pairwise (· ≤ ·) → (insSort x ns).Pairwise (· ≤ ·)
  | [], _ => by simp [insSort]
  | y :: r, h => by
    rw [List.pairwise_cons] at h
    unfold insSort
    split
    · rename_i c
      rw [List.pairwise_cons, List.pairwise_cons]
      refine ⟨fun z hz => ?_, h⟩
      rcases List.mem_cons.mp hz with rfl | hz
      · exact c
      · exact Int.le_trans c (h.1 z hz)
    · rename_i c
      rw [List.pairwise_cons]
      refine ⟨fun z hz => ?_, insSort_sorted x r h.2⟩
      rcases insSort_mem hz with rfl | hz
      · omega
      · exact h.1 z hz
theorem sortI_perm : ∀ ns : List Int, (sortI ns).Perm ns
  | [] => .refl _
  | x :: r => (insSort_perm x (sortI r)).trans (.cons x (sortI_perm r))
theorem sortI_sorted : ∀ ns : List Int, (sortI ns).Pairwise (· ≤ ·)
  | [] => .nil
  | x :: r => insSort_sorted x _ (sortI_sorted r)

section
variable {X : Cx} {M : Addr → Prop} {μ : List Addr} {H : Hp}
theorem LkL.one {d : D} {vs : List V} (h : LkL X.K M μ H [d] vs) : ∃ v, vs = [v] ∧ Lk X.K M μ H d v := by
  obtain ⟨v, r, e, a, b⟩ := h
  have b' : r = [] := b
  subst b'
  exact ⟨v, e, a⟩
theorem LkL.two {d e : D} {vs : List V} (h : LkL X.K M μ H [d, e] vs) : ∃ v w, vs = [v, w] ∧ Lk X.K M μ H d v ∧ Lk X.K M μ H e w := by
  obtain ⟨v, r, e1, a, b⟩ := h
  obtain ⟨w, rfl, c⟩ := LkL.one b
  exact ⟨v, w, e1, a, c⟩
theorem bf_ok {f : Bf} {ds : List D} {vs : List V} {z : D} {fr : Bool} (hc : X.calm = true) (hv : LkL X.K M μ H ds vs) (h : bfun f ds = some (z, fr)) {Q : VK} (q : ∀ v H', Pu X.K M μ H z fr v H' → Q v H') : WCl X (bfVal f) vs H Q := by
  unfold bfun at h
  split at h
  · cases h
    obtain ⟨v, rfl, a⟩ := hv.one
    obtain ⟨p, ws, rfl, hp, r⟩ := a.tup
    exact wcl_of call_len_seq ⟨p, ws, rfl, .inr hp, by rw [r.length]; exact q _ _ (.same rv_int)⟩
  · cases h
    obtain ⟨v, rfl, a⟩ := hv.one
    obtain ⟨p, ws, rfl, hp, _, r⟩ := a.lst
    exact wcl_of call_len_seq ⟨p, ws, rfl, .inl (.of hp), by rw [r.length]; exact q _ _ (.same rv_int)⟩
  · cases h
    obtain ⟨v, rfl, a⟩ := hv.one
    unfold Lk Rv at a
    obtain ⟨p, ws, rfl, hp, r⟩ := a
    exact wcl_of call_len_seq ⟨p, ws, rfl, .inl hp.seq, by rw [r.length]; exact q _ _ (.same rv_int)⟩
  · split at h <;> cases h
    obtain ⟨v, rfl, a⟩ := hv.one
    rw [a.str]
    exact wcl_of call_len_str ⟨_, rfl, Nat.le_trans (by assumption) lim_le, q _ _ (.same rv_int)⟩
  · cases h
    obtain ⟨v, rfl, a⟩ := hv.one
    rw [a.int]
    exact wcl_of call_int1 (.inl ⟨_, rfl, q _ _ (.same rv_int)⟩)
  · cases h
    obtain ⟨v, rfl, a⟩ := hv.one
    rw [a.bl]
    exact wcl_of call_int1 (.inr ⟨_, rfl, q _ _ (.same rv_int)⟩)
  · cases h
    obtain ⟨v, rfl, a⟩ := hv.one
    rw [a.int]
    exact wcl_of call_abs ⟨_, rfl, q _ _ (.same rv_int)⟩
  · cases h
    obtain ⟨v, w, rfl, a, b⟩ := hv.two
    rw [a.int, b.int]
    exact wcl_of (call_min2 hc) ⟨_, _, rfl, q _ _ (.same rv_int)⟩
  · cases h
    obtain ⟨v, w, rfl, a, b⟩ := hv.two
    rw [a.int, b.int]
    exact wcl_of (call_max2 hc) ⟨_, _, rfl, q _ _ (.same rv_int)⟩
  · split at h <;> cases h
    rename_i x r e
    obtain ⟨v, rfl, a⟩ := hv.one
    obtain ⟨p, ws, rfl, hp, _, rr⟩ := a.lst
    rw [rr.intsOf e] at hp
    refine wcl_of (cr_min hc) ⟨p, x :: r, rfl, .of hp, by simp, fun m hm hle => ?_⟩
    obtain ⟨h1, h2, h3⟩ := listMin_le r x
    have e1 : m = listMin x r := by
      have a1 : m ≤ listMin x r := by
        rcases h1 with h1 | h1
        · rw [h1]; exact hle x (by simp)
        · exact hle _ (by simp [h1])
      have a2 : listMin x r ≤ m := by
        rcases List.mem_cons.mp hm with rfl | hm
        · exact h2
        · exact h3 m hm
      omega
    rw [e1]; exact q _ _ (.same rv_int)
  · split at h <;> cases h
    rename_i x r e
    obtain ⟨v, rfl, a⟩ := hv.one
    obtain ⟨p, ws, rfl, hp, _, rr⟩ := a.lst
    rw [rr.intsOf e] at hp
    refine wcl_of (cr_max hc) ⟨p, x :: r, rfl, .of hp, by simp, fun m hm hle => ?_⟩
    obtain ⟨h1, h2, h3⟩ := listMax_le r x
    have e1 : m = listMax x r := by
      have a1 : listMax x r ≤ m := by
        rcases h1 with h1 | h1
        · rw [h1]; exact hle x (by simp)
        · exact hle _ (by simp [h1])
      have a2 : m ≤ listMax x r := by
        rcases List.mem_cons.mp hm with rfl | hm
        · exact h2
        · exact h3 m hm
      omega
    rw [e1]; exact q _ _ (.same rv_int)
  · rw [Option.map_eq_some_iff] at h
    obtain ⟨ns, e, h⟩ := h
    cases h
    obtain ⟨v, rfl, a⟩ := hv.one
    obtain ⟨p, ws, rfl, hp, _, rr⟩ := a.lst
    rw [rr.intsOf e] at hp
    exact wcl_of (cr_sum hc) ⟨p, ns, rfl, .of hp, q _ _ (.same rv_int)⟩
  · rw [Option.map_eq_some_iff] at h
    obtain ⟨ns, e, h⟩ := h
    cases h
    obtain ⟨v, rfl, a⟩ := hv.one
    obtain ⟨p, ws, rfl, hp, _, rr⟩ := a.lst
    rw [rr.blsOf e] at hp
    exact wcl_of (cr_all hc) ⟨p, ns, rfl, .of hp, q _ _ (.same rv_bl)⟩
  · rw [Option.map_eq_some_iff] at h
    obtain ⟨ns, e, h⟩ := h
    cases h
    obtain ⟨v, rfl, a⟩ := hv.one
    obtain ⟨p, ws, rfl, hp, _, rr⟩ := a.lst
    rw [rr.blsOf e] at hp
    exact wcl_of (cr_any hc) ⟨p, ns, rfl, .of hp, q _ _ (.same rv_bl)⟩
  · cases h
    obtain ⟨v, rfl, a⟩ := hv.one
    obtain ⟨p, ws, rfl, hp, _, rr⟩ := a.lst
    exact wcl_of call_tuple_of ⟨p, ws, rfl, .inl ⟨.of hp, fun l hl => q _ _ (.tup hl rr)⟩⟩
  · cases h
    obtain ⟨v, rfl, a⟩ := hv.one
    obtain ⟨p, ws, rfl, hp, rr⟩ := a.tup
    exact wcl_of call_tuple_of ⟨p, ws, rfl, .inr ⟨hp, q _ _ (.same (rv_tup hp rr))⟩⟩
  · cases h
    obtain ⟨v, rfl, a⟩ := hv.one
    obtain ⟨p, ws, rfl, hp, _, rr⟩ := a.lst
    exact wcl_of call_list_of ⟨p, ws, rfl, .inl (.of hp), fun l hl => q _ _ (.lst hl rr)⟩
  · cases h
    obtain ⟨v, rfl, a⟩ := hv.one
    obtain ⟨p, ws, rfl, hp, rr⟩ := a.tup
    exact wcl_of call_list_of ⟨p, ws, rfl, .inr hp, fun l hl => q _ _ (.lst hl rr)⟩
  · rw [Option.map_eq_some_iff] at h
    obtain ⟨ns, e, h⟩ := h
    cases h
    obtain ⟨v, rfl, a⟩ := hv.one
    obtain ⟨p, ws, rfl, hp, _, rr⟩ := a.lst
    rw [rr.intsOf e] at hp
    refine wcl_of cr_sortedI ⟨p, ns, rfl, .of hp, fun ns' l hperm hs hl => ?_⟩
    have e1 : ns' = sortI ns := PySem.W.ksm_same (hperm.trans (sortI_perm ns).symm) hs (sortI_sorted ns)
    rw [e1]
    exact q _ _ (.lst hl (RvL.ints _))
  · rw [Option.map_eq_some_iff] at h
    obtain ⟨ns, e, h⟩ := h
    cases h
    obtain ⟨v, rfl, a⟩ := hv.one
    obtain ⟨p, ws, rfl, hp, rr⟩ := a.tup
    rw [rr.intsOf e] at hp
    refine wcl_of cr_sortedT ⟨p, ns, rfl, hp, fun ns' l hperm hs hl => ?_⟩
    have e1 : ns' = sortI ns := PySem.W.ksm_same (hperm.trans (sortI_perm ns).symm) hs (sortI_sorted ns)
    rw [e1]
    exact q _ _ (.lst hl (RvL.ints _))
  · cases h
end
end Pn

set_option Elab.async false
set_option linter.all false
set_option maxRecDepth 100000
namespace Pn
open PySem PySem.Spec PyProof.Rows L2

/-! ### more about the relation -/
section
variable {K : PySem.W.Frag} {F : Fx} {μ μ' : List Addr} {σd σd' : List SV} {st st' : Sto} {σ σ' : Sg} {H H' : Hp} {d : D} {v : V}
theorem Rel.nextP {a : Addr} (R : Rel K F μ σd st σ H) (s : Stp (· ∈ μ) μ H (· ∈ μ') μ' H') (ha : H a = none) (b : RelB K (MM (F.plus a) μ' σd σ) μ' st' H') : Rel K (F.plus a) μ' σd st' σ H' := by
  have mg : ∀ b, MM (F.plus a) μ' σd σ b → MM F μ σd σ b ∨ H b = none := fun b h => by
    rcases MM.plus.mp h with h | h
    · rcases h with h | h | h
      · exact .inl (.inl h)
      · rcases s.mg b h with z | z
        · exact .inl (.inr (.inl z))
        · exact .inr z
      · exact .inl (.inr (.inr h))
    · subst h; exact .inr ha
  have c : Car K (MM F μ σd σ) μ H (MM (F.plus a) μ' σd σ) μ' H' := (Stp.widen s (fun a h => .inr (.inl h)) mg).car R.b.nt
  refine ⟨R.len, fun i d e => ?_, fun i o e => ?_, R.ds, b, fun b o e n => ?_, fun b h => s.al b (R.al0 b h), fun n a h => s.bx n a (R.pre n a h), fun a h => ?_⟩
  · obtain ⟨v, e1, r⟩ := R.im i d e
    exact ⟨v, e1, r.car c⟩
  · obtain ⟨x, ho, e1, e2, r, n, m, z⟩ := R.ow i o e
    refine ⟨x, ho, e1, s.fr x ho e2 n, r.car c, fun h => ?_, fun h => ?_, z⟩
    · rcases s.mg x h with q | q
      · exact n q
      · rw [q] at e2; cases e2
    · rcases h with h | h
      · exact m h
      · subst h; rw [ha] at e2; cases e2
  · have e1 := R.fr b o e n
    refine s.fr b o e1 fun h => ?_
    rcases R.nw b h with q | q
    · exact n q
    · have e' : F.H0 b = some o := e
      rw [q] at e'; cases e'
  · rcases s.mg a h with q | q
    · exact R.nw a q
    · by_cases z : F.H0 a = none
      · exact .inr z
      · exact absurd q (R.al0 a z)
/-- fewer own objects, fewer slots known -/
theorem Rel.sub (R : Rel K F μ σd st σ H) (len : σd'.length = σ'.length) (im : ∀ (i : Nat) d, σd'[i]? = some (.im d) → ∃ v, σ'[i]? = some (some v) ∧ Rv K (MM F μ σd σ) μ H d v)
    (ow : ∀ (i : Nat) o, σd'[i]? = some (.ow o) → σd[i]? = some (.ow o) ∧ σ'[i]? = σ[i]?) : Rel K F μ σd' st σ' H := by
  have own : ∀ a, Own σd' σ' a → Own σd σ a := fun a ⟨i, o, e1, e2⟩ => by
    obtain ⟨h1, h2⟩ := ow i o e1
    exact ⟨i, o, h1, by rw [← h2]; exact e2⟩
  have mm : ∀ a, MM F μ σd' σ' a → MM F μ σd σ a := fun a h => by
    rcases h with h | h | h
    · exact .inl h
    · exact .inr (.inl h)
    · exact .inr (.inr (own a h))
  have c : Car K (MM F μ σd σ) μ H (MM F μ σd' σ') μ H := Car.less mm
  refine ⟨len, fun i d e => ?_, fun i o e => ?_, fun i j o o' a e1 e2 e3 e4 => ?_, ⟨fun n ds e => ?_, R.b.sz, R.b.nd, fun a h => R.b.al a (mm a h), fun a o h e => R.b.nt a o (mm a h) e, fun a h => .inr (.inl h)⟩, R.fr, R.al0, R.pre, R.nw⟩
  · obtain ⟨v, e1, r⟩ := im i d e
    exact ⟨v, e1, r.car c⟩
  · obtain ⟨h1, h2⟩ := ow i o e
    obtain ⟨a, ho, e1, e2, r, n, m, z⟩ := R.ow i o h1
    exact ⟨a, ho, by rw [h2]; exact e1, e2, r.car c, n, m, z⟩
  · obtain ⟨h1, h2⟩ := ow i o e1
    obtain ⟨h3, h4⟩ := ow j o' e2
    exact R.ds i j o o' a h1 h3 (by rw [← h2]; exact e3) (by rw [← h4]; exact e4)
  · obtain ⟨a, vs, e1, e2, r⟩ := R.b.bx n ds e
    exact ⟨a, vs, e1, e2, r.car c⟩
/-- a plain value into a slot -/
theorem Rel.setIm (R : Rel K F μ σd st σ H) (r : Rv K (MM F μ σd σ) μ H d v) {i : Nat} (hi : i < σd.length) : Rel K F μ (σd.set i (.im d)) st (σ.set i (some v)) H := by
  refine R.sub (by rw [List.length_set, List.length_set]; exact R.len) (fun j e h => ?_) (fun j o h => ?_)
  · by_cases z : i = j
    · subst z
      rw [List.getElem?_set_self hi] at h
      cases h
      exact ⟨v, by rw [List.getElem?_set_self (by rw [← R.len]; exact hi)], r⟩
    · rw [List.getElem?_set_ne z] at h ⊢
      exact R.im j e h
  · by_cases z : i = j
    · subst z
      rw [List.getElem?_set_self hi] at h
      cases h
    · rw [List.getElem?_set_ne z] at h ⊢
      exact ⟨h, rfl⟩
theorem wipeD_length (σd : List SV) : ∀ vs : List Nat, (wipeD σd vs).length = σd.length
  | [] => rfl
  | v :: vs => by unfold wipeD; rw [List.length_set, wipeD_length σd vs]
theorem wipeD_get (σd : List SV) (j : Nat) : ∀ vs : List Nat, (wipeD σd vs)[j]? = if j ∈ vs then (if j < σd.length then some .no else none) else σd[j]?
  | [] => by simp [wipeD]
  | v :: vs => by
    unfold wipeD
    by_cases z : v = j
    · subst z
      by_cases h : v < σd.length
      · rw [List.getElem?_set_self (by rw [wipeD_length]; exact h)]; simp [h]
      · rw [List.getElem?_eq_none (by rw [List.length_set, wipeD_length]; omega)]; simp [h]
    · rw [List.getElem?_set_ne z, wipeD_get σd j vs]
      have : (j ∈ v :: vs) ↔ (j ∈ vs) := by simp [Ne.symm z]
      simp only [this]
theorem wipe_get (σ : Sg) (j : Nat) : ∀ vs : List Nat, (wipe σ vs)[j]? = if j ∈ vs then (if j < σ.length then some none else none) else σ[j]?
  | [] => by simp [wipe]
  | v :: vs => by
    unfold wipe
    by_cases z : v = j
    · subst z
      by_cases h : v < σ.length
      · rw [List.getElem?_set_self (by rw [wipe_length]; exact h)]; simp [h]
      · rw [List.getElem?_eq_none (by rw [List.length_set, wipe_length]; omega)]; simp [h]
    · rw [List.getElem?_set_ne z, wipe_get σ j vs]
      have : (j ∈ v :: vs) ↔ (j ∈ vs) := by simp [Ne.symm z]
      simp only [this]
theorem wipe_same {vs : List Nat} (hl : σ'.length = σ.length) (h : ∀ j, j ∉ vs → σ'[j]? = σ[j]?) : wipe σ' vs = wipe σ vs := by
  apply List.ext_getElem?
  intro j
  rw [wipe_get, wipe_get, hl]
  split
  · rfl
  · exact h j (by assumption)
theorem wipeD_same {vs : List Nat} (hl : σd'.length = σd.length) (h : ∀ j, j ∉ vs → σd'[j]? = σd[j]?) : wipeD σd' vs = wipeD σd vs := by
  apply List.ext_getElem?
  intro j
  rw [wipeD_get, wipeD_get, hl]
  split
  · rfl
  · exact h j (by assumption)
theorem own_wipe {vs : List Nat} (h : ∀ i ∈ vs, isOw σd[i]? = false) {a : Addr} : Own (wipeD σd vs) (wipe σ vs) a ↔ Own σd σ a := by
  constructor
  · rintro ⟨i, o, e1, e2⟩
    rw [wipeD_get] at e1
    rw [wipe_get] at e2
    split at e1
    · split at e1 <;> cases e1
    · rw [if_neg (by assumption)] at e2
      exact ⟨i, o, e1, e2⟩
  · rintro ⟨i, o, e1, e2⟩
    have hi : i ∉ vs := fun z => by
      have := h i z
      rw [e1] at this
      cases this
    exact ⟨i, o, by rw [wipeD_get, if_neg hi]; exact e1, by rw [wipe_get, if_neg hi]; exact e2⟩
theorem mm_wipe {vs : List Nat} (h : ∀ i ∈ vs, isOw σd[i]? = false) : MM F μ (wipeD σd vs) (wipe σ vs) = MM F μ σd σ := by
  funext a
  unfold MM
  rw [own_wipe h]
theorem Rel.wiped (R : Rel K F μ σd st σ H) (vs : List Nat) : Rel K F μ (wipeD σd vs) st (wipe σ vs) H := by
  refine R.sub (by rw [wipeD_length, wipe_length]; exact R.len) (fun j e h => ?_) (fun j o h => ?_)
  · rw [wipeD_get] at h
    split at h
    · split at h <;> cases h
    · rw [wipe_get, if_neg (by assumption)]
      exact R.im j e h
  · rw [wipeD_get] at h
    split at h
    · split at h <;> cases h
    · rw [wipe_get, if_neg (by assumption)]
      exact ⟨h, rfl⟩
/-- the list under construction at a protected place is written -/
theorem Rel.writeP (R : Rel K F μ σd st σ H) {a : Addr} {vs vs' : List V} (hM : F.M0 a) (h0 : F.H0 a = none) (hm : a ∉ μ) (ha : H a = some (.lst vs)) : Rel K F μ σd st σ (upd H a (.lst vs')) := by
  have no : ¬ Own σd σ a := fun ⟨i, o, e1, e2⟩ => by
    obtain ⟨b, ho, e3, _, _, _, m, _⟩ := R.ow i o e1
    rw [e2] at e3; cases e3
    exact m hM
  have c : Car K (MM F μ σd σ) μ H (MM F μ σd σ) μ (upd H a (.lst vs')) := by
    refine Car.step (fun b u e m => ?_) R.b.nt (fun b h => .inl h) fun _ _ h => h
    rw [upd_ne (fun z => m (by subst z; exact .inl hM))]; exact e
  refine ⟨R.len, fun i d e => ?_, fun i o e => ?_, R.ds, ⟨fun n ds e => ?_, R.b.sz, R.b.nd, fun b h => ?_, fun b o h e => ?_, R.b.inM⟩, fun b o e n => ?_, fun b h => ?_, R.pre, R.nw⟩
  · obtain ⟨v, e1, r⟩ := R.im i d e
    exact ⟨v, e1, r.car c⟩
  · obtain ⟨x, ho, e1, e2, r, n, m, z⟩ := R.ow i o e
    refine ⟨x, ho, e1, ?_, r.car c, n, m, z⟩
    rw [upd_ne (fun y => by subst y; exact m hM)]; exact e2
  · obtain ⟨x, ws, e1, e2, r⟩ := R.b.bx n ds e
    refine ⟨x, ws, e1, ?_, r.car c⟩
    rw [upd_ne (fun y => by subst y; exact hm (List.mem_of_getElem? e1))]; exact e2
  · by_cases z : b = a
    · subst z; rw [upd_same]; exact fun y => nomatch y
    · rw [upd_ne z]; exact R.b.al b h
  · by_cases z : b = a
    · subst z; rw [upd_same] at e; cases e; rfl
    · rw [upd_ne z] at e; exact R.b.nt b o h e
  · rw [upd_ne (fun y => by subst y; rw [h0] at e; cases e)]; exact R.fr b o e n
  · rw [upd_ne (fun y => by subst y; exact h h0)]; exact R.al0 b h
theorem RvL.atI {M : Addr → Prop} {ds : List D} {vs : List V} {k : Int} (h : RvL K M μ H ds vs) (e : L2.atI ds k = some d) : ∃ v, L2.atI vs k = some v ∧ Rv K M μ H d v := by
  unfold L2.atI at e ⊢
  rw [h.length]
  rw [Option.bind_eq_some_iff] at e
  obtain ⟨j, e1, e2⟩ := e
  obtain ⟨v, e3, r⟩ := h.get e2
  exact ⟨v, by rw [e1]; exact e3, r⟩
theorem RvL.cut {M : Addr → Prop} {ds : List D} {vs : List V} (h : RvL K M μ H ds vs) (lo hi : Option Int) : RvL K M μ H (cutD ds lo hi) (cutV vs lo hi) := by
  unfold cutD cutV
  rw [h.length]
  exact (h.drop _).take _
end

theorem rr_int {K : PySem.W.Frag} {F : Fx} {μ : List Addr} {σd : List SV} {st : Sto} {σ : Sg} {H H' : Hp} {i : Int} : RR K F H μ σd st σ H' (.int i) (.int i) .pl := by show Rv _ _ _ _ _ _; exact rv_int
theorem rr_bl {K : PySem.W.Frag} {F : Fx} {μ : List Addr} {σd : List SV} {st : Sto} {σ : Sg} {H H' : Hp} {i : Bool} : RR K F H μ σd st σ H' (.bl i) (.bl i) .pl := by show Rv _ _ _ _ _ _; exact rv_bl
/-! ### expressions that are made of expressions -/
variable {p : Pm} {N : List Str} {sc : SS}
theorem GX.u64 {X : Cx} (G : GX p N sc X) : X.A.units + 64 < cLine := G.room.units
theorem gl_of {X : Cx} {x : Str} (G : GX p N sc X) (h : sc.sc.names.lookup x = some .globalImplicit) : Gl X x := by
  show X.env.scope.names.lookup x = _
  rw [G.hsc]; exact h

theorem se_bin {a b : Expr} {A B : E} {o : Bop} {op : Operator} {pos : Pos} (ho : opS o = op) (ha : SE p N sc a (ev p.cl A).1) (hb : SE p N sc b (ev p.cl B).1) : SE p N sc (.BinOp a op b pos) (ev p.cl (.bin o A B)).1 := by
  intro X G F μ σd st σ H R d fl st' h Q q
  simp only [ev, byTru, Option.bind_eq_bind, Option.bind_eq_some_iff] at h
  obtain ⟨⟨x, f1, st1⟩, e1, ⟨y, f2, st2⟩, e2, ⟨z, f⟩, e3, h⟩ := h
  cases h
  subst ho
  refine we_of (pe_op opr_wo pe_we pe_we) ?_
  refine ha X G F μ σd st σ H R _ _ _ e1 _ fun v1 H1 μ1 s1 R1 r1 => ?_
  refine hb X G F μ1 σd st1 σ H1 R1 _ _ _ e2 _ fun v2 H2 μ2 s2 R2 r2 => ?_
  refine op_ok ((r1.lk R1).next R1 s2) (r2.lk R2) e3 fun v H' pu => ?_
  obtain ⟨s3, R3, r3⟩ := pu.rr R2
  exact q v H' μ2 ((s1.trans s2).trans s3) R3 (r3.back (s1.trans s2))
theorem se_neg {a : Expr} {A : E} {pos : Pos} (ha : SE p N sc a (ev p.cl A).1) : SE p N sc (.UnaryOp .USub a pos) (ev p.cl (.neg A)).1 := by
  intro X G F μ σd st σ H R d fl st' h Q q
  simp only [ev, byTru, Option.bind_eq_bind, Option.bind_eq_some_iff] at h
  obtain ⟨⟨x, f1, st1⟩, e1, h⟩ := h
  simp only at h
  split at h <;> cases h
  refine we_of (pe_un un_neg pe_we) ?_
  refine ha X G F μ σd st σ H R _ _ _ e1 _ fun v1 H1 μ1 s1 R1 r1 => ?_
  exact ⟨_, (r1.lk R1).int, q _ _ μ1 s1 R1 rr_int⟩
theorem se_cmp {a b : Expr} {A B : E} {o : Cop} {op : CmpOp} {pos : Pos} (ho : copS o = op) (hm : behindInMarks op b = false) (ha : SE p N sc a (ev p.cl A).1) (hb : SE p N sc b (ev p.cl B).1) : SE p N sc (.Compare a [op] [b] pos) (ev p.cl (.cmp o A B)).1 := by
  intro X G F μ σd st σ H R d fl st' h Q q
  simp only [ev, byTru, Option.bind_eq_bind, Option.bind_eq_some_iff] at h
  obtain ⟨⟨x, f1, st1⟩, e1, ⟨y, f2, st2⟩, e2, z, e3, h⟩ := h
  cases h
  subst ho
  refine we_of (pe_cmpR opr_wo pe_we pe_we hm) ?_
  refine ha X G F μ σd st σ H R _ _ _ e1 _ fun v1 H1 μ1 s1 R1 r1 => ?_
  refine hb X G F μ1 σd st1 σ H1 R1 _ _ _ e2 _ fun v2 H2 μ2 s2 R2 r2 => ?_
  exact cmp_ok G.u64 ((r1.lk R1).next R1 s2) (r2.lk R2) e3 (q _ _ μ2 (s1.trans s2) R2 rr_bl)
theorem sb_cmp {a b : Expr} {A B : E} {o : Cop} {op : CmpOp} {pos : Pos} (ho : copS o = op) (hm : behindInMarks op b = false) (ha : SE p N sc a (ev p.cl A).1) (hb : SE p N sc b (ev p.cl B).1) : SB p N sc (.Compare a [op] [b] pos) (ev p.cl (.cmp o A B)).2 := by
  intro X G F μ σd st σ H R k st' h Q q
  simp only [ev, byTru, Option.bind_eq_bind, Option.bind_eq_some_iff, tru] at h
  obtain ⟨⟨w, fw, stw⟩, ⟨⟨x, f1, st1⟩, e1, ⟨y, f2, st2⟩, e2, z, e3, h⟩, b', e4, h5⟩ := h
  cases h
  cases e4
  cases h5
  subst ho
  refine wt_of (pt_cmpR opr_wo pe_we pe_we hm) ?_
  refine ha X G F μ σd st σ H R _ _ _ e1 _ fun v1 H1 μ1 s1 R1 r1 => ?_
  refine hb X G F μ1 σd st1 σ H1 R1 _ _ _ e2 _ fun v2 H2 μ2 s2 R2 r2 => ?_
  exact cmp_ok G.u64 ((r1.lk R1).next R1 s2) (r2.lk R2) e3 ⟨_, rfl, q _ μ2 (s1.trans s2) R2⟩
theorem se_chain {a b c : Expr} {A B C : E} {o o' : Cop} {op op' : CmpOp} {pos : Pos} (ho : copS o = op) (ho' : copS o' = op') (hm : lastMarks [op, op'] [b, c] = false) (ha : SE p N sc a (ev p.cl A).1) (hb : SE p N sc b (ev p.cl B).1) (hc : SE p N sc c (ev p.cl C).1) :
    SE p N sc (.Compare a [op, op'] [b, c] pos) (ev p.cl (.chain o o' A B C)).1 := by
  intro X G F μ σd st σ H R d fl st' h Q q
  simp only [ev, byTru, Option.bind_eq_bind, Option.bind_eq_some_iff] at h
  obtain ⟨⟨x, f1, st1⟩, e1, ⟨y, f2, st2⟩, e2, z, e3, h⟩ := h
  subst ho ho'
  refine we_of (pe_chain opr_wo opr_wo pe_we pe_we pe_we hm) ?_
  refine ha X G F μ σd st σ H R _ _ _ e1 _ fun v1 H1 μ1 s1 R1 r1 => ?_
  refine hb X G F μ1 σd st1 σ H1 R1 _ _ _ e2 _ fun v2 H2 μ2 s2 R2 r2 => ?_
  refine cmp_ok G.u64 ((r1.lk R1).next R1 s2) (r2.lk R2) e3 ⟨z, rfl, ?_⟩
  cases z with
  | false =>
    simp only [Bool.false_eq_true, if_false] at h ⊢
    cases h
    exact q _ _ μ2 (s1.trans s2) R2 rr_bl
  | true =>
    simp only [if_true, Option.bind_eq_some_iff] at h ⊢
    obtain ⟨⟨u, f3, st3⟩, e4, z2, e5, h⟩ := h
    cases h
    refine hc X G F μ2 σd st2 σ H2 R2 _ _ _ e4 _ fun v3 H3 μ3 s3 R3 r3 => ?_
    exact cmp_ok G.u64 ((r2.lk R2).next R2 s3) (r3.lk R3) e5 (q _ _ μ3 ((s1.trans s2).trans s3) R3 rr_bl)
theorem sb_chain {a b c : Expr} {A B C : E} {o o' : Cop} {op op' : CmpOp} {pos : Pos} (ho : copS o = op) (ho' : copS o' = op') (hm : lastMarks [op, op'] [b, c] = false) (ha : SE p N sc a (ev p.cl A).1) (hb : SE p N sc b (ev p.cl B).1) (hc : SE p N sc c (ev p.cl C).1) :
    SB p N sc (.Compare a [op, op'] [b, c] pos) (ev p.cl (.chain o o' A B C)).2 := by
  intro X G F μ σd st σ H R k st' h Q q
  simp only [ev, byTru, Option.bind_eq_bind, Option.bind_eq_some_iff] at h
  obtain ⟨⟨w, fw, stw⟩, ⟨⟨x, f1, st1⟩, e1, ⟨y, f2, st2⟩, e2, z, e3, h⟩, b', e4, h5⟩ := h
  cases h5
  subst ho ho'
  refine wt_of (pt_chain opr_wo opr_wo pe_we pe_we pe_we hm) ?_
  refine ha X G F μ σd st σ H R _ _ _ e1 _ fun v1 H1 μ1 s1 R1 r1 => ?_
  refine hb X G F μ1 σd st1 σ H1 R1 _ _ _ e2 _ fun v2 H2 μ2 s2 R2 r2 => ?_
  refine cmp_ok G.u64 ((r1.lk R1).next R1 s2) (r2.lk R2) e3 ⟨z, rfl, ?_⟩
  cases z with
  | false =>
    simp only [Bool.false_eq_true, if_false] at h ⊢
    cases h
    cases e4
    exact ⟨_, rfl, q _ μ2 (s1.trans s2) R2⟩
  | true =>
    simp only [if_true, Option.bind_eq_some_iff] at h ⊢
    obtain ⟨⟨u, f3, st3⟩, e6, z2, e5, h⟩ := h
    cases h
    cases e4
    refine hc X G F μ2 σd st2 σ H2 R2 _ _ _ e6 _ fun v3 H3 μ3 s3 R3 r3 => ?_
    exact cmp_ok G.u64 ((r2.lk R2).next R2 s3) (r3.lk R3) e5 ⟨_, rfl, q _ μ3 ((s1.trans s2).trans s3) R3⟩

/-! ### tests -/
/-- what is tested by its value's truth -/
def plainT : Expr → Bool
  | .UnaryOp .Not _ _ => false
  | .BoolOp .. => false
  | .IfExp .. => false
  | .Compare .. => false
  | _ => true
theorem plainT_eq {e : Expr} (h : plainT e = true) (env : Env) (whole : Sem Value) : isTrue e env whole = (do let v ← whole; standAt e.pos; holding [v] (truthy v)) := by
  cases e with
  | UnaryOp op x pos => cases op <;> first | rfl | cases h
  | BoolOp => cases h
  | IfExp => cases h
  | Compare => cases h
  | _ => rfl
theorem tru_lk {X : Cx} {M : Addr → Prop} {μ : List Addr} {H : Hp} {d : D} {v : V} {b : Bool} (h : Lk X.K M μ H d v) (e : tru d = some b) : TruV X.K v H b := by
  cases d <;> simp only [tru] at e
  · cases e; rw [h.non]; rfl
  · cases e; rw [h.bl]; rfl
  · cases e; rw [h.int]; rfl
  · split at e <;> cases e
    rw [h.str]; exact ⟨Nat.le_trans (by assumption) lim_le, rfl⟩
  · cases e
    obtain ⟨a, vs, rfl, q, r⟩ := h.tup
    refine .inr (.inl ⟨vs, q, ?_⟩)
    have := r.length
    cases vs <;> cases ‹List D› <;> first | rfl | cases this
  · cases e
    obtain ⟨a, vs, rfl, q, _, r⟩ := h.lst
    refine .inl ⟨vs, .of q, ?_⟩
    have := r.length
    cases vs <;> cases ‹List D› <;> first | rfl | cases this
  · cases e
  · cases e
/-- an expression's value as a test -/
theorem sb_plain {e : Expr} {A : FE} (hp : plainT e = true) (ha : SE p N sc e A) : SB p N sc e (byTru A).2 := by
  intro X G F μ σd st σ H R k st' h Q q
  simp only [byTru, Option.bind_eq_bind, Option.bind_eq_some_iff] at h
  obtain ⟨⟨x, fl, st1⟩, e1, b, e2, h⟩ := h
  cases h
  refine wt_of (pt_truth pe_we (plainT_eq hp X.env)) ?_
  refine ha X G F μ σd st σ H R _ _ _ e1 _ fun v1 H1 μ1 s1 R1 r1 => ?_
  exact ⟨_, tru_lk (r1.lk R1) e2, q _ μ1 s1 R1⟩
theorem sb_not {a : Expr} {A : E} {pos : Pos} (ha : SB p N sc a (ev p.cl A).2) : SB p N sc (.UnaryOp .Not a pos) (ev p.cl (.nt A)).2 := by
  intro X G F μ σd st σ H R k st' h Q q
  simp only [ev, Option.bind_eq_bind, Option.bind_eq_some_iff] at h
  obtain ⟨⟨b, st1⟩, e1, h⟩ := h
  cases h
  refine wt_of (pt_not pt_wt) ?_
  exact ha X G F μ σd st σ H R _ _ e1 _ fun H1 μ1 s1 R1 => q _ μ1 s1 R1
/-- not e as a value: e a test that is one by its value -/
theorem se_not {a : Expr} {A : E} {pos : Pos} (ha : SE p N sc a (ev p.cl A).1) (hA : (ev p.cl A).2 = (byTru (ev p.cl A).1).2) : SE p N sc (.UnaryOp .Not a pos) (ev p.cl (.nt A)).1 := by
  intro X G F μ σd st σ H R d fl st' h Q q
  simp only [ev, Option.bind_eq_bind, Option.bind_eq_some_iff] at h
  obtain ⟨⟨b, st1⟩, e1, h⟩ := h
  cases h
  rw [hA] at e1
  simp only [byTru, Option.bind_eq_bind, Option.bind_eq_some_iff] at e1
  obtain ⟨⟨x, f, st2⟩, e1, b2, e2, e3⟩ := e1
  cases e3
  refine we_of (pe_notT pe_we) ?_
  refine ha X G F μ σd st σ H R _ _ _ e1 _ fun v1 H1 μ1 s1 R1 r1 => ?_
  exact ⟨_, tru_lk (r1.lk R1) e2, q _ _ μ1 s1 R1 rr_bl⟩
theorem sb_and {a : Expr} {bs : List Expr} {A B : E} {pos : Pos} (hne : bs ≠ []) (ha : SB p N sc a (ev p.cl A).2) (hb : SB p N sc (.BoolOp .And bs pos) (ev p.cl B).2) : SB p N sc (.BoolOp .And (a :: bs) pos) (ev p.cl (.and A B)).2 := by
  intro X G F μ σd st σ H R k st' h Q q
  simp only [ev, Option.bind_eq_bind, Option.bind_eq_some_iff] at h
  obtain ⟨⟨b, st1⟩, e1, h⟩ := h
  cases bs with
  | nil => exact absurd rfl hne
  | cons b' r =>
    have hw : PW X (.BoolOp .And (b' :: r) pos) (WT X (.BoolOp .And (b' :: r) pos)) := ⟨fun wh pins s σ H Q I h => h pins s I⟩
    refine wt_of (PW.pt (pw_and pt_wt hw)) ?_
    refine ha X G F μ σd st σ H R _ _ e1 _ fun H1 μ1 s1 R1 => ?_
    cases b with
    | true =>
      simp only [if_true] at h ⊢
      exact hb X G F μ1 σd st1 σ H1 R1 _ _ h _ fun H2 μ2 s2 R2 => q _ μ2 (s1.trans s2) R2
    | false =>
      simp only [Bool.false_eq_true, if_false] at h ⊢
      cases h
      exact q _ μ1 s1 R1
theorem sb_or {a : Expr} {bs : List Expr} {A B : E} {pos : Pos} (hne : bs ≠ []) (ha : SB p N sc a (ev p.cl A).2) (hb : SB p N sc (.BoolOp .Or bs pos) (ev p.cl B).2) : SB p N sc (.BoolOp .Or (a :: bs) pos) (ev p.cl (.or A B)).2 := by
  intro X G F μ σd st σ H R k st' h Q q
  simp only [ev, Option.bind_eq_bind, Option.bind_eq_some_iff] at h
  obtain ⟨⟨b, st1⟩, e1, h⟩ := h
  cases bs with
  | nil => exact absurd rfl hne
  | cons b' r =>
    have hw : PW X (.BoolOp .Or (b' :: r) pos) (WT X (.BoolOp .Or (b' :: r) pos)) := ⟨fun wh pins s σ H Q I h => h pins s I⟩
    refine wt_of (PW.pt (pw_or pt_wt hw)) ?_
    refine ha X G F μ σd st σ H R _ _ e1 _ fun H1 μ1 s1 R1 => ?_
    cases b with
    | false =>
      simp only [Bool.false_eq_true, if_false] at h ⊢
      exact hb X G F μ1 σd st1 σ H1 R1 _ _ h _ fun H2 μ2 s2 R2 => q _ μ2 (s1.trans s2) R2
    | true =>
      simp only [if_true] at h ⊢
      cases h
      exact q _ μ1 s1 R1
theorem sb_one {a : Expr} {A : FT} {op : BoolOp} {pos : Pos} (ha : SB p N sc a A) : SB p N sc (.BoolOp op [a] pos) A := by
  intro X G F μ σd st σ H R k st' h Q q
  cases op with
  | And => exact wt_of (PW.pt (pw_and1 pt_wt)) (ha X G F μ σd st σ H R _ _ h _ q)
  | Or => exact wt_of (PW.pt (pw_or1 pt_wt)) (ha X G F μ σd st σ H R _ _ h _ q)
theorem se_one {a : Expr} {A : FE} {op : BoolOp} {pos : Pos} (ha : SE p N sc a A) : SE p N sc (.BoolOp op [a] pos) A := by
  intro X G F μ σd st σ H R d fl st' h Q q
  exact we_of (pe_one pe_we) (ha X G F μ σd st σ H R _ _ _ h _ q)
theorem se_and {a : Expr} {bs : List Expr} {A B : E} {pos : Pos} (hne : bs ≠ []) (ha : SE p N sc a (ev p.cl A).1) (hb : SE p N sc (.BoolOp .And bs pos) (ev p.cl B).1) : SE p N sc (.BoolOp .And (a :: bs) pos) (ev p.cl (.and A B)).1 := by
  intro X G F μ σd st σ H R d fl st' h Q q
  simp only [ev, Option.bind_eq_bind, Option.bind_eq_some_iff] at h
  obtain ⟨⟨x, f1, st1⟩, e1, h⟩ := h
  cases bs with
  | nil => exact absurd rfl hne
  | cons b' r =>
    refine we_of (pe_and pe_we pe_we) ?_
    refine ha X G F μ σd st σ H R _ _ _ e1 _ fun v1 H1 μ1 s1 R1 r1 => ?_
    simp only at h
    split at h
    · refine ⟨true, (r1.lk R1).bl, ?_⟩
      simp only [if_true]
      exact hb X G F μ1 σd st1 σ H1 R1 _ _ _ h _ fun v2 H2 μ2 s2 R2 r2 => q _ _ μ2 (s1.trans s2) R2 (r2.back s1)
    · cases h
      refine ⟨false, (r1.lk R1).bl, ?_⟩
      simp only [Bool.false_eq_true, if_false]
      exact q _ _ μ1 s1 R1 rr_bl
    · cases h
theorem se_or {a : Expr} {bs : List Expr} {A B : E} {pos : Pos} (hne : bs ≠ []) (ha : SE p N sc a (ev p.cl A).1) (hb : SE p N sc (.BoolOp .Or bs pos) (ev p.cl B).1) : SE p N sc (.BoolOp .Or (a :: bs) pos) (ev p.cl (.or A B)).1 := by
  intro X G F μ σd st σ H R d fl st' h Q q
  simp only [ev, Option.bind_eq_bind, Option.bind_eq_some_iff] at h
  obtain ⟨⟨x, f1, st1⟩, e1, h⟩ := h
  cases bs with
  | nil => exact absurd rfl hne
  | cons b' r =>
    refine we_of (pe_or pe_we pe_we) ?_
    refine ha X G F μ σd st σ H R _ _ _ e1 _ fun v1 H1 μ1 s1 R1 r1 => ?_
    simp only at h
    split at h
    · cases h
      refine ⟨true, (r1.lk R1).bl, ?_⟩
      simp only [if_true]
      exact q _ _ μ1 s1 R1 rr_bl
    · refine ⟨false, (r1.lk R1).bl, ?_⟩
      simp only [Bool.false_eq_true, if_false]
      exact hb X G F μ1 σd st1 σ H1 R1 _ _ _ h _ fun v2 H2 μ2 s2 R2 r2 => q _ _ μ2 (s1.trans s2) R2 (r2.back s1)
    · cases h
theorem se_ite {c a b : Expr} {C A B : E} {pos : Pos} (hc : SB p N sc c (ev p.cl C).2) (ha : SE p N sc a (ev p.cl A).1) (hb : SE p N sc b (ev p.cl B).1) : SE p N sc (.IfExp c a b pos) (ev p.cl (.ite C A B)).1 := by
  intro X G F μ σd st σ H R d fl st' h Q q
  simp only [ev, Option.bind_eq_bind, Option.bind_eq_some_iff] at h
  obtain ⟨⟨k, st1⟩, e1, h⟩ := h
  refine we_of (pe_ifExp pt_wt pe_we pe_we) ?_
  refine hc X G F μ σd st σ H R _ _ e1 _ fun H1 μ1 s1 R1 => ?_
  cases k with
  | true =>
    simp only [if_true] at h ⊢
    exact ha X G F μ1 σd st1 σ H1 R1 _ _ _ h _ fun v2 H2 μ2 s2 R2 r2 => q _ _ μ2 (s1.trans s2) R2 (r2.back s1)
  | false =>
    simp only [Bool.false_eq_true, if_false] at h ⊢
    exact hb X G F μ1 σd st1 σ H1 R1 _ _ _ h _ fun v2 H2 μ2 s2 R2 r2 => q _ _ μ2 (s1.trans s2) R2 (r2.back s1)

/-! ### calls -/
theorem star_any {es : List Expr} (h : es.all notStar = true) (pos : Pos) (env : Env) : (backTo pos (starEach es env)).any (·.1) = false := by
  induction es with
  | nil => rfl
  | cons e r ih =>
    rw [List.all_cons, Bool.and_eq_true] at h
    rw [star_eq h.1]
    show (false || (backTo pos (starEach r env)).any (·.1)) = false
    rw [ih h.2]; rfl
/-- a name that is a global of the def -/
def glB (sc : Scope) (x : Str) : Bool := (match sc.names.lookup x with | some .globalImplicit => true | _ => false) && !(x == ("__debug__" : Str)) && !(x == ("__name__" : Str))
theorem glB_gl {x : Str} {s : Scope} (h : glB s x = true) : s.names.lookup x = some .globalImplicit ∧ (x == ("__debug__" : Str)) = false ∧ x ≠ "__name__" := by
  unfold glB at h
  simp only [Bool.and_eq_true, Bool.not_eq_true'] at h
  refine ⟨?_, h.1.2, fun e => by subst e; exact absurd h.2 (by decide)⟩
  have q := h.1.1
  split at q
  · assumption
  · cases q
theorem se_bcf {f : Bf} {x : Str} {e : Expr} {es : List Expr} {B : Es} {q1 q2 : Pos} (hx : bfName f = x) (hg : glB sc.sc x = true) (hb : x ∈ p.blts) (hs : (e :: es).all notStar = true) (ha : SL p N sc (e :: es) (evl p.cl B)) :
    SE p N sc (.Call (.Name x q1) (e :: es) [] q2) (ev p.cl (.bcf f B)).1 := by
  intro X G F μ σd st σ H R d fl st' h Q q
  simp only [ev, byTru, Option.bind_eq_bind, Option.bind_eq_some_iff] at h
  obtain ⟨⟨ds, st1⟩, e1, ⟨z, fr⟩, e2, h⟩ := h
  cases h
  obtain ⟨g1, g2, g3⟩ := glB_gl hg
  have hs' := hs
  rw [List.all_cons, Bool.and_eq_true] at hs'
  have fin : WA X (e :: es) σ H fun vs H1 => WCl X (bfVal f) vs H1 Q := by
    refine ha X G F μ σd st σ H R _ _ e1 _ fun vs H1 μ1 s1 R1 r1 => ?_
    refine bf_ok G.calm r1 e2 fun v H' pu => ?_
    obtain ⟨s3, R3, r3⟩ := pu.rr R1
    exact q v H' μ1 (s1.trans s3) R3 (r3.back s1)
  have boot := bf_boot f
  rw [hx] at boot
  cases f with
  | int => exact we_of (pe_callTy (r := WCl X (.type "int")) cr_wcl (gl_of G g1) (G.blt x hb) boot pa_wa g3 g2 (star_eq hs'.1 _ _) (star_any hs'.2 _ _)) fin
  | tuple => exact we_of (pe_callTy (r := WCl X (.type "tuple")) cr_wcl (gl_of G g1) (G.blt x hb) boot pa_wa g3 g2 (star_eq hs'.1 _ _) (star_any hs'.2 _ _)) fin
  | list => exact we_of (pe_callTy (r := WCl X (.type "list")) cr_wcl (gl_of G g1) (G.blt x hb) boot pa_wa g3 g2 (star_eq hs'.1 _ _) (star_any hs'.2 _ _)) fin
  | len => exact we_of (pe_callB (r := WCl X (.builtin "len")) cr_wcl (gl_of G g1) (G.blt x hb) boot pa_wa g3 g2 (star_eq hs'.1 _ _) (star_any hs'.2 _ _)) fin
  | abs => exact we_of (pe_callB (r := WCl X (.builtin "abs")) cr_wcl (gl_of G g1) (G.blt x hb) boot pa_wa g3 g2 (star_eq hs'.1 _ _) (star_any hs'.2 _ _)) fin
  | min => exact we_of (pe_callB (r := WCl X (.builtin "min")) cr_wcl (gl_of G g1) (G.blt x hb) boot pa_wa g3 g2 (star_eq hs'.1 _ _) (star_any hs'.2 _ _)) fin
  | max => exact we_of (pe_callB (r := WCl X (.builtin "max")) cr_wcl (gl_of G g1) (G.blt x hb) boot pa_wa g3 g2 (star_eq hs'.1 _ _) (star_any hs'.2 _ _)) fin
  | sum => exact we_of (pe_callB (r := WCl X (.builtin "sum")) cr_wcl (gl_of G g1) (G.blt x hb) boot pa_wa g3 g2 (star_eq hs'.1 _ _) (star_any hs'.2 _ _)) fin
  | all => exact we_of (pe_callB (r := WCl X (.builtin "all")) cr_wcl (gl_of G g1) (G.blt x hb) boot pa_wa g3 g2 (star_eq hs'.1 _ _) (star_any hs'.2 _ _)) fin
  | any => exact we_of (pe_callB (r := WCl X (.builtin "any")) cr_wcl (gl_of G g1) (G.blt x hb) boot pa_wa g3 g2 (star_eq hs'.1 _ _) (star_any hs'.2 _ _)) fin
  | sorted => exact we_of (pe_callB (r := WCl X (.builtin "sorted")) cr_wcl (gl_of G g1) (G.blt x hb) boot pa_wa g3 g2 (star_eq hs'.1 _ _) (star_any hs'.2 _ _)) fin

/-- behind a call of a def -/
theorem call_rr {K : PySem.W.Frag} {F : Fx} {μ μ' : List Addr} {σd : List SV} {st st' : Sto} {σ : Sg} {H H' : Hp} {d : D} {v : V} {fl : Fl} (R : Rel K F μ σd st σ H) (s : Stp (· ∈ μ) μ H (· ∈ μ') μ' H')
    (b : RelB K (fun a => MM F μ σd σ a ∨ a ∈ μ') μ' st' H') (r : RC K (MM F μ σd σ) H μ' st' H' d v fl) : Rel K F μ' σd st' σ H' ∧ RR K F H μ' σd st' σ H' d v fl := by
  have e : (fun a => MM F μ σd σ a ∨ a ∈ μ') = MM F μ' σd σ := by
    funext a
    apply propext
    constructor
    · rintro ((h | h | h) | h)
      · exact .inl h
      · obtain ⟨n, hn⟩ := List.getElem?_of_mem h
        exact .inr (.inl (List.mem_of_getElem? (s.bx n a hn)))
      · exact .inr (.inr h)
      · exact .inr (.inl h)
    · rintro (h | h | h)
      · exact .inl (.inl h)
      · exact .inr h
      · exact .inl (.inr (.inr h))
  rw [e] at b
  have R' := R.next s b
  refine ⟨R', ?_⟩
  cases fl with
  | pl =>
    show Rv K (MM F μ' σd σ) μ' H' d v
    rw [← e]; exact r
  | lk => exact False.elim r
  | fr =>
    obtain ⟨a, o, ho, e1, e2, e3, e4, e5, e6, e7⟩ := r
    have e8 : (fun b => (MM F μ σd σ b ∨ b ∈ μ') ∨ b = a) = MM (F.plus a) μ' σd σ := by
      funext b
      apply propext
      rw [MM.plus, ← e]
    rw [e8] at e6 e7
    refine ⟨a, o, ho, e1, e2, e3, e4, ?_, R.nextP s e3 e6, e7⟩
    rw [← e]; exact e5
theorem se_call {f : Nat} {x : Str} {e : Expr} {es : List Expr} {B : Es} {q1 q2 : Pos} (hx : p.fns[f]? = some x) (hg : glB sc.sc x = true) (hs : (e :: es).all notStar = true) (ha : SA p N sc (e :: es) (evs p.cl B)) :
    SE p N sc (.Call (.Name x q1) (e :: es) [] q2) (ev p.cl (.call f B)).1 := by
  intro X G F μ σd st σ H R d fl st' h Q q
  simp only [ev, byTru, Option.bind_eq_bind, Option.bind_eq_some_iff] at h
  obtain ⟨⟨ds, st1⟩, e1, h⟩ := h
  obtain ⟨g1, g2, g3⟩ := glB_gl hg
  have hs' := hs
  rw [List.all_cons, Bool.and_eq_true] at hs'
  obtain ⟨fa, fd, ps, hm, hk, hb, hlen, FO⟩ := G.fns f x hx
  refine we_of (pe_call (E := E0) FO G.room (gl_of G g1) hm hk hb .nil pass0 pa_wa g2 (star_eq hs'.1 _ _) (star_any hs'.2 _ _)) ?_
  refine ha X G F μ σd st σ H R _ _ e1 _ fun vs H1 μ1 s1 R1 r1 => ?_
  rw [List.append_nil]
  refine ⟨by rw [r1.length]; exact hlen _ _ _ h, MM F μ1 σd σ, μ1, ds, st1, d, fl, st', R1.b, r1, h, fun v H' μ' s2 b2 r2 => ?_⟩
  obtain ⟨R2, r3⟩ := call_rr R1 s2 b2 r2
  exact q v H' μ' (s1.trans s2) R2 (r3.back s1)
theorem se_call0 {f : Nat} {x : Str} {q1 q2 : Pos} (hx : p.fns[f]? = some x) (hg : glB sc.sc x = true) : SE p N sc (.Call (.Name x q1) [] [] q2) (ev p.cl (.call f .nil)).1 := by
  intro X G F μ σd st σ H R d fl st' h Q q
  simp only [ev, evs, byTru, Option.bind_eq_bind, Option.bind_eq_some_iff] at h
  obtain ⟨⟨ds, st1⟩, e1, h⟩ := h
  cases e1
  obtain ⟨g1, g2, g3⟩ := glB_gl hg
  obtain ⟨fa, fd, ps, hm, hk, hb, hlen, FO⟩ := G.fns f x hx
  refine we_of (pe_call0 (E := E0) FO G.room (gl_of G g1) hm hk hb .nil pass0 g2) ?_
  refine ⟨hlen _ _ _ h, MM F μ σd σ, μ, [], st, d, fl, st', R.b, .nil, h, fun v H' μ' s2 b2 r2 => ?_⟩
  obtain ⟨R2, r3⟩ := call_rr R s2 b2 r2
  exact q v H' μ' s2 R2 r3
end Pn

set_option Elab.async false
set_option linter.all false
set_option maxRecDepth 100000
namespace Pn
open PySem PySem.Spec PyProof.Rows L2
variable {p : Pm} {N : List Str} {sc : SS}

/-! ### subscripts -/
/-- a plain subscript -/
def notSlice : Expr → Bool
  | .Slice .. => false
  | _ => true
theorem plainIx {b : Expr} (h : notSlice b = true) : PlainIx b := by
  intro o i
  cases b <;> first | rfl | cases h
def WI3 (X : Cx) : R2 := fun x y H Q => ∀ (value slice : Expr) (pins : List (Addr × Obj)) (s : Shared) (σ : Sg) (v u : Value), Inv X pins σ H s → RelV x v → RelV y u →
    subscripted slice false v u = operate [v, u] (getItem v u) → wpAny (model X.prog X.w) X.A (subscriptTail value slice v u) (EP X pins σ Q) X.xe s
theorem ixr_wi {X : Cx} : IxR X (WI3 X) := fun value slice pins s σ H x y v u Q I rx ry h e => h value slice pins s σ v u I rx ry e
theorem wi_of {X : Cx} {r : R2} (h : IxR X r) {x y : V} {H : Hp} {Q : VK} (q : r x y H Q) : WI3 X x y H Q := fun value slice pins s σ v u I rx ry e => h value slice pins s σ H x y v u Q I rx ry q e
theorem ix_ok {X : Cx} {F : Fx} {μ : List Addr} {σd : List SV} {st : Sto} {σ : Sg} {H : Hp} (R : Rel X.K F μ σd st σ H) {x i z : D} {vx vi : V} (hx : Lk X.K (MM F μ σd σ) μ H x vx) (hi : Lk X.K (MM F μ σd σ) μ H i vi)
    (h : ixD x i st = some z) {Q : VK} (q : ∀ v, Rv X.K (MM F μ σd σ) μ H z v → Q v H) : WI3 X vx vi H Q := by
  unfold ixD at h
  split at h
  · rename_i k
    rw [hi.int]
    split at h
    · obtain ⟨a, vs, rfl, ha, r⟩ := hx.tup
      obtain ⟨v, e, rv⟩ := r.atI h
      exact wi_of ix_seq (.inr (.inl ⟨a, vs, k, v, rfl, rfl, ha, e, q v rv⟩))
    · obtain ⟨a, vs, rfl, ha, _, r⟩ := hx.lst
      obtain ⟨v, e, rv⟩ := r.atI h
      exact wi_of ix_seq (.inl ⟨a, vs, k, v, rfl, rfl, .of ha, e, q v rv⟩)
    · unfold Lk Rv at hx
      obtain ⟨a, vs, rfl, ha, r⟩ := hx
      obtain ⟨v, e, rv⟩ := r.atI h
      exact wi_of ix_seq (.inl ⟨a, vs, k, v, rfl, rfl, ha.seq, e, q v rv⟩)
    · unfold Lk Rv at hx
      obtain ⟨a, rfl, hn⟩ := hx
      split at h
      · rename_i ds hs
        obtain ⟨a', vs, e1, e2, r⟩ := R.b.bx _ _ hs
        rw [hn] at e1; cases e1
        obtain ⟨v, e, rv⟩ := r.atI h
        exact wi_of ix_seq (.inl ⟨a, vs, k, v, rfl, rfl, .of e2, e, q v rv⟩)
      · cases h
    · cases h
  · cases h
theorem se_ix {a b : Expr} {A B : E} {pos : Pos} (hp : notSlice b = true) (ha : SE p N sc a (ev p.cl A).1) (hb : SE p N sc b (ev p.cl B).1) : SE p N sc (.Subscript a b pos) (ev p.cl (.ix A B)).1 := by
  intro X G F μ σd st σ H R d fl st' h Q q
  simp only [ev, byTru, Option.bind_eq_bind, Option.bind_eq_some_iff] at h
  obtain ⟨⟨x, f1, st1⟩, e1, ⟨y, f2, st2⟩, e2, z, e3, h⟩ := h
  cases h
  refine we_of (pe_ix ixr_wi pe_we pe_we (plainIx hp)) ?_
  refine ha X G F μ σd st σ H R _ _ _ e1 _ fun v1 H1 μ1 s1 R1 r1 => ?_
  refine hb X G F μ1 σd st1 σ H1 R1 _ _ _ e2 _ fun v2 H2 μ2 s2 R2 r2 => ?_
  exact ix_ok R2 ((r1.lk R1).next R1 s2) (r2.lk R2) e3 fun v rv => q v H2 μ2 (s1.trans s2) R2 rv

/-- a slice's part -/
def SO (p : Pm) (N : List Str) (sc : SS) (e : Option Expr) (A : List SV → Sto → Option (Option Int × Sto)) : Prop := ∀ X, GX p N sc X → ∀ (F : Fx) (μ : List Addr) (σd : List SV) (st : Sto) (σ : Sg) (H : Hp), Rel X.K F μ σd st σ H →
  ∀ o st', A σd st = some (o, st') → ∃ t : TO, PO X e t ∧ ∀ Q : Option Int → Hp → Prop, (∀ H' μ', Stp (· ∈ μ) μ H (· ∈ μ') μ' H' → Rel X.K F μ' σd st' σ H' → Q o H') → t σ H Q
def WPo (X : Cx) (e : Option Expr) : TO := fun σ H Q => ∀ (pins : List (Addr × Obj)) (s : Shared), Inv X pins σ H s → wpAny (model X.prog X.w) X.A (evalPart e X.env) (fun u s' => ∃ o H', Inv X pins σ H' s' ∧ IsPart u o ∧ Q o H') X.xe s
theorem po_w {X : Cx} {e : Option Expr} : PO X e (WPo X e) := ⟨fun pins s σ H Q I h => h pins s I⟩
theorem wpo_of {X : Cx} {e : Option Expr} {t : TO} (h : PO X e t) {σ : Sg} {H : Hp} {Q : Option Int → Hp → Prop} (q : t σ H Q) : WPo X e σ H Q := fun pins s I => h.run pins s σ H Q I q
def SP' (p : Pm) (N : List Str) (sc : SS) (e : Option Expr) (A : List SV → Sto → Option (Option Int × Sto)) : Prop := ∀ X, GX p N sc X → ∀ (F : Fx) (μ : List Addr) (σd : List SV) (st : Sto) (σ : Sg) (H : Hp), Rel X.K F μ σd st σ H →
  ∀ o st', A σd st = some (o, st') → ∀ Q : Option Int → Hp → Prop, (∀ H' μ', Stp (· ∈ μ) μ H (· ∈ μ') μ' H' → Rel X.K F μ' σd st' σ H' → Q o H') → WPo X e σ H Q
theorem sp_none : SP' p N sc none (evo p.cl .no) := by
  intro X G F μ σd st σ H R o st' h Q q
  simp only [evo] at h
  cases h
  exact wpo_of po_none (q _ μ Stp.refl R)
theorem sp_some {e : Expr} {A : E} (ha : SE p N sc e (ev p.cl A).1) : SP' p N sc (some e) (evo p.cl (.so A)) := by
  intro X G F μ σd st σ H R o st' h Q q
  simp only [evo, Option.bind_eq_bind, Option.bind_eq_some_iff] at h
  obtain ⟨⟨x, f1, st1⟩, e1, h⟩ := h
  simp only at h
  split at h <;> cases h
  refine wpo_of (po_some pe_we) ?_
  refine ha X G F μ σd st σ H R _ _ _ e1 _ fun v1 H1 μ1 s1 R1 r1 => ?_
  exact ⟨_, (r1.lk R1).int, q _ μ1 s1 R1⟩
def WS3 (X : Cx) : V → Option Int → Option Int → Hp → VK → Prop := fun x lo hi H Q => ∀ (pins : List (Addr × Obj)) (s : Shared) (σ : Sg) (v vl vu : Value) (sl : Addr), Inv X pins σ H s → RelV x v → s.heap.IsSliceOf sl vl vu .none → IsPart vl lo → IsPart vu hi →
    ∃ T id, typeLookup (.type T) "__getitem__" = pure (some (.builtin id)) ∧ s.TypeIs v T ∧ wpAny (model X.prog X.w) X.A (getItem v (.ref sl)) (EP X pins σ Q) X.xe s
theorem slr_ws {X : Cx} : SlR X (WS3 X) := fun pins s σ H x v vl vu lo hi sl Q I rx hs pl pu h => h pins s σ v vl vu sl I rx hs pl pu
theorem ws_of {X : Cx} {r : V → Option Int → Option Int → Hp → VK → Prop} (h : SlR X r) {x : V} {lo hi : Option Int} {H : Hp} {Q : VK} (q : r x lo hi H Q) : WS3 X x lo hi H Q := fun pins s σ v vl vu sl I rx hs pl pu => h pins s σ H x v vl vu lo hi sl Q I rx hs pl pu q
theorem cut_whole {ds : List D} {lo hi : Option Int} (h : HT.sIx ds.length 0 lo = 0 ∧ HT.sIx ds.length ds.length hi = ds.length) : cutD ds lo hi = ds := by
  unfold cutD
  rw [h.1, h.2]
  simp
theorem sl_ok {X : Cx} {M : Addr → Prop} {μ : List Addr} {H : Hp} {x z : D} {vx : V} {lo hi : Option Int} {f : Bool} (hx : Lk X.K M μ H x vx) (h : slD x lo hi = some (z, f)) {Q : VK} (q : ∀ v H', Pu X.K M μ H z f v H' → Q v H') : WS3 X vx lo hi H Q := by
  unfold slD at h
  split at h <;> cases h
  · obtain ⟨a, vs, rfl, ha, r⟩ := hx.tup
    refine ws_of sl_tupA ⟨a, vs, rfl, ha, fun e => ?_, fun _ p hp => q _ _ (.tup hp (r.cut lo hi))⟩
    rw [r.length] at e
    rw [cut_whole e] at q
    exact q _ _ (.same (rv_tup ha r))
  · obtain ⟨a, vs, rfl, ha, _, r⟩ := hx.lst
    exact ws_of sl_list ⟨a, vs, rfl, .of ha, fun p hp => q _ _ (.lst hp (r.cut lo hi))⟩
theorem se_sl {a : Expr} {lo hi : Option Expr} {A : E} {L U : Eo} {p2 pos : Pos} (ha : SE p N sc a (ev p.cl A).1) (hl : SP' p N sc lo (evo p.cl L)) (hu : SP' p N sc hi (evo p.cl U)) : SE p N sc (.Subscript a (.Slice lo hi none p2) pos) (ev p.cl (.sl A L U)).1 := by
  intro X G F μ σd st σ H R d fl st' h Q q
  simp only [ev, byTru, Option.bind_eq_bind, Option.bind_eq_some_iff] at h
  obtain ⟨⟨x, f1, st1⟩, e1, ⟨l, st2⟩, e2, ⟨u, st3⟩, e3, ⟨z, f⟩, e4, h⟩ := h
  cases h
  refine we_of (pe_slice slr_ws pe_we po_w po_w) ?_
  refine ha X G F μ σd st σ H R _ _ _ e1 _ fun v1 H1 μ1 s1 R1 r1 => ?_
  refine hl X G F μ1 σd st1 σ H1 R1 _ _ e2 _ fun H2 μ2 s2 R2 => ?_
  refine hu X G F μ2 σd st2 σ H2 R2 _ _ e3 _ fun H3 μ3 s3 R3 => ?_
  refine sl_ok (((r1.lk R1).next R1 s2).next R2 s3) e4 fun v H' pu => ?_
  obtain ⟨s4, R4, r4⟩ := pu.rr R3
  exact q v H' μ3 (((s1.trans s2).trans s3).trans s4) R4 (r4.back ((s1.trans s2).trans s3))

/-! ### a new shared list -/
theorem se_box {e : Expr} {A : E} (ha : SE p N sc e (ev p.cl A).1) : SE p N sc e (ev p.cl (.box A)).1 := by
  intro X G F μ σd st σ H R d fl st' h Q q
  simp only [ev, byTru, Option.bind_eq_bind, Option.bind_eq_some_iff] at h
  obtain ⟨⟨x, f1, st1⟩, e1, h⟩ := h
  simp only at h
  split at h <;> cases h
  refine ha X G F μ σd st σ H R _ _ _ e1 _ fun v1 H1 μ1 s1 R1 r1 => ?_
  obtain ⟨a, o, ho, rfl, e2, ha0, ha1, hn, R2, r2⟩ := r1
  cases o with
  | lst ds' =>
    cases e2
    obtain ⟨vs, rfl, r2⟩ := r2
    have e : MM (F.plus a) μ1 σd σ = MM F (μ1 ++ [a]) σd σ := by
      funext b
      apply propext
      rw [MM.plus]
      unfold MM
      rw [List.mem_append, List.mem_singleton]
      constructor
      · rintro ((h | h | h) | h)
        · exact .inl h
        · exact .inr (.inl (.inl h))
        · exact .inr (.inr h)
        · exact .inr (.inl (.inr h))
      · rintro (h | (h | h) | h)
        · exact .inl (.inl h)
        · exact .inl (.inr (.inl h))
        · exact .inr h
        · exact .inl (.inr (.inr h))
    have hna : a ∉ μ1 := fun z => hn (.inr (.inl z))
    have bx : ∀ (n : Nat) b, μ1[n]? = some b → (μ1 ++ [a])[n]? = some b := fun n b h => by
      rw [List.getElem?_append_left (List.getElem?_eq_some_iff.mp h).1]; exact h
    have s2 : Stp (· ∈ μ) μ H (· ∈ μ1 ++ [a]) (μ1 ++ [a]) H1 := by
      refine ⟨s1.fr, fun b h => ?_, s1.al, fun n b h => bx n b (s1.bx n b h)⟩
      rcases List.mem_append.mp h with h | h
      · exact s1.mg b h
      · rw [List.mem_singleton.mp h]; exact .inr ha0
    have c : Car X.K (MM (F.plus a) μ1 σd σ) μ1 H1 (MM F (μ1 ++ [a]) σd σ) (μ1 ++ [a]) H1 := by
      rw [e]
      exact ⟨fun x vs p q => ⟨p, q⟩, fun _ _ p => p, fun _ _ p => p, bx⟩
    refine q _ _ _ s2 ⟨R2.len, fun i d h => ?_, fun i o h => ?_, R2.ds, ⟨fun n ds h => ?_, ?_, ?_, fun b h => R2.b.al b (by rw [e]; exact h), fun b o h => R2.b.nt b o (by rw [e]; exact h), fun b h => .inr (.inl h)⟩, R2.fr, R2.al0, fun n b h => bx n b (R2.pre n b h), fun b h => ?_⟩ ?_
    · obtain ⟨v, e3, r⟩ := R2.im i d h
      exact ⟨v, e3, r.car c⟩
    · obtain ⟨b, ho, e3, e4, r, n, m, z⟩ := R2.ow i o h
      refine ⟨b, ho, e3, e4, r.car c, fun h => ?_, fun h => m (.inl h), z⟩
      rcases List.mem_append.mp h with h | h
      · exact n h
      · exact m (.inr (List.mem_singleton.mp h))
    · by_cases hl : n < st1.length
      · rw [List.getElem?_append_left hl] at h
        obtain ⟨b, ws, e3, e4, r⟩ := R2.b.bx n ds h
        exact ⟨b, ws, bx n b e3, e4, r.car c⟩
      · rw [List.getElem?_append_right (by omega)] at h
        have hn0 : n - st1.length = 0 := by
          cases hq : n - st1.length with
          | zero => rfl
          | succ k => rw [hq] at h; simp at h
        rw [hn0] at h
        cases h
        have : n = μ1.length := by rw [R2.b.sz]; omega
        subst this
        exact ⟨a, vs, by simp, ha1, r2.car c⟩
    · rw [List.length_append, List.length_append, R2.b.sz]; rfl
    · rw [List.nodup_append]
      refine ⟨R2.b.nd, by simp, fun x hx y hy => ?_⟩
      rw [List.mem_singleton] at hy
      subst hy
      exact fun z => hna (z ▸ hx)
    · rcases List.mem_append.mp h with h | h
      · exact R2.nw b h
      · rw [List.mem_singleton.mp h]
        by_cases z : F.H0 a = none
        · exact .inr z
        · exact absurd ha0 (R.al0 a z)
    · show Rv X.K (MM F (μ1 ++ [a]) σd σ) (μ1 ++ [a]) H1 (.box _) _
      unfold Rv
      refine ⟨a, rfl, ?_⟩
      rw [← R2.b.sz]
      simp

/-! ### targets -/
def WG (X : Cx) (tg : Expr) : TG := fun v σ H Q => ∀ (pins : List (Addr × Obj)) (s : Shared) (u : Value), Inv X pins σ H s → RelV v u →
    wpAny (model X.prog X.w) X.A (assign tg X.env u) (fun _ s' => ∃ σ' H', Inv X pins σ' H' s' ∧ Q σ' H') X.xe s
def WGs (X : Cx) (ts : List Expr) : TGs := fun vs σ H Q => ∀ (pins : List (Addr × Obj)) (s : Shared) (us : List Value), Inv X pins σ H s → Vals vs us →
    wpAny (model X.prog X.w) X.A (assignInOrder ((assignEach ts X.env).map (·.2)) us) (fun _ s' => ∃ σ' H', Inv X pins σ' H' s' ∧ Q σ' H') X.xe s
theorem pg_wg {X : Cx} {tg : Expr} : PG X tg (WG X tg) := ⟨fun pins s σ H v u Q I r h => h pins s u I r⟩
theorem pgs_wg {X : Cx} {tg : List Expr} : PGs X tg (WGs X tg) := ⟨fun pins s σ H v u Q I r h => h pins s u I r⟩
theorem wg_of {X : Cx} {tg : Expr} {t : TG} (h : PG X tg t) {v : V} {σ : Sg} {H : Hp} {Q : Sg → Hp → Prop} (q : t v σ H Q) : WG X tg v σ H Q := fun pins s u I r => h.run pins s σ H v u Q I r q
theorem wgs_of {X : Cx} {tg : List Expr} {t : TGs} (h : PGs X tg t) {v : List V} {σ : Sg} {H : Hp} {Q : Sg → Hp → Prop} (q : t v σ H Q) : WGs X tg v σ H Q := fun pins s u I r => h.run pins s σ H v u Q I r q
mutual
def tgSlots : Tg → List Nat
  | .nm i => [i]
  | .tu ts => tgsSlots ts
def tgsSlots : Tgs → List Nat
  | .nil => []
  | .cons t r => tgSlots t ++ tgsSlots r
end
/-- only these slots differ -/
def Agr (vs : List Nat) (σd σd' : List SV) (σ σ' : Sg) : Prop := σd'.length = σd.length ∧ σ'.length = σ.length ∧ (∀ j, j ∉ vs → σd'[j]? = σd[j]?) ∧ ∀ j, j ∉ vs → σ'[j]? = σ[j]?
def ST (p : Pm) (N : List Str) (sc : SS) (tg : Expr) (T : Tg) : Prop := ∀ X, GX p N sc X → ∀ (F : Fx) (μ : List Addr) (σd : List SV) (st : Sto) (σ : Sg) (H : Hp), Rel X.K F μ σd st σ H →
  ∀ d v, Rv X.K (MM F μ σd σ) μ H d v → ∀ σd', bindTg T d σd = some σd' → ∀ Q : Sg → Hp → Prop, (∀ σ', Rel X.K F μ σd' st σ' H → Agr (tgSlots T) σd σd' σ σ' → Q σ' H) → WG X tg v σ H Q
def STs (p : Pm) (N : List Str) (sc : SS) (tgs : List Expr) (T : Tgs) : Prop := ∀ X, GX p N sc X → ∀ (F : Fx) (μ : List Addr) (σd : List SV) (st : Sto) (σ : Sg) (H : Hp), Rel X.K F μ σd st σ H →
  ∀ ds vs, RvL X.K (MM F μ σd σ) μ H ds vs → ∀ σd', bindTgs T ds σd = some σd' → ∀ Q : Sg → Hp → Prop, (∀ σ', Rel X.K F μ σd' st σ' H → Agr (tgsSlots T) σd σd' σ σ' → Q σ' H) → WGs X tgs vs σ H Q
theorem st_name {i : Nat} {x : Str} {pos : Pos} (hi : N[i]? = some x) (hs : stB sc.ss x = true) : ST p N sc (.Name x pos) (.nm i) := by
  intro X G F μ σd st σ H R d v rv σd' h Q q
  simp only [bindTg] at h
  split at h <;> cases h
  rename_i hl
  obtain ⟨h1, h2⟩ := G.fn x hs
  refine wg_of (pg_name G.nd (by rw [G.hN]; exact hi) h1 h2) ?_
  refine q _ (R.setIm rv hl) ⟨List.length_set .., List.length_set .., fun j hj => ?_, fun j hj => ?_⟩
  · rw [List.getElem?_set_ne (fun z => hj (by simp [tgSlots, z]))]
  · rw [List.getElem?_set_ne (fun z => hj (by simp [tgSlots, z]))]
theorem sts_nil : STs p N sc [] .nil := by
  intro X G F μ σd st σ H R ds vs rv σd' h Q q
  simp only [bindTgs] at h
  split at h <;> cases h
  exact wgs_of pgs_nil ⟨rv.nil_inv, q σ R ⟨rfl, rfl, fun _ _ => rfl, fun _ _ => rfl⟩⟩
theorem mm_set {F : Fx} {μ : List Addr} {σd σd' : List SV} {σ σ' : Sg} (h : ∀ a, Own σd' σ' a → Own σd σ a) : ∀ a, MM F μ σd' σ' a → MM F μ σd σ a := fun a x => by
  rcases x with x | x | x
  · exact .inl x
  · exact .inr (.inl x)
  · exact .inr (.inr (h a x))
mutual
theorem bindTg_ow : ∀ (T : Tg) {d : D} {σd σd' : List SV}, bindTg T d σd = some σd' → ∀ (j : Nat) o, σd'[j]? = some (.ow o) → σd[j]? = some (.ow o) ∧ j ∉ tgSlots T
  | .nm i, d, σd, σd', h, j, o, e => by
    simp only [bindTg] at h
    split at h <;> cases h
    rename_i hl
    by_cases z : i = j
    · subst z
      rw [List.getElem?_set_self hl] at e
      cases e
    · rw [List.getElem?_set_ne z] at e
      exact ⟨e, by simp [tgSlots, Ne.symm z]⟩
  | .tu ts, d, σd, σd', h, j, o, e => by
    simp only [bindTg] at h
    split at h
    · obtain ⟨h1, h2⟩ := bindTgs_ow ts h j o e
      exact ⟨h1, by simpa [tgSlots] using h2⟩
    · cases h
theorem bindTgs_ow : ∀ (T : Tgs) {ds : List D} {σd σd' : List SV}, bindTgs T ds σd = some σd' → ∀ (j : Nat) o, σd'[j]? = some (.ow o) → σd[j]? = some (.ow o) ∧ j ∉ tgsSlots T
  | .nil, ds, σd, σd', h, j, o, e => by
    simp only [bindTgs] at h
    split at h <;> cases h
    exact ⟨e, by simp [tgsSlots]⟩
  | .cons t r, ds, σd, σd', h, j, o, e => by
    simp only [bindTgs] at h
    split at h
    · rw [Option.bind_eq_some_iff] at h
      obtain ⟨σ1, e1, e2⟩ := h
      obtain ⟨h1, h2⟩ := bindTgs_ow r e2 j o e
      obtain ⟨h3, h4⟩ := bindTg_ow t e1 j o h1
      exact ⟨h3, by simp [tgsSlots, h2, h4]⟩
    · cases h
end
theorem own_agr {vs : List Nat} {σd σd' : List SV} {σ σ' : Sg} (ow : ∀ (j : Nat) o, σd'[j]? = some (.ow o) → σd[j]? = some (.ow o) ∧ j ∉ vs) (ag : Agr vs σd σd' σ σ') : ∀ a, Own σd' σ' a → Own σd σ a := fun a ⟨i, o, e1, e2⟩ => by
  obtain ⟨h1, h2⟩ := ow i o e1
  exact ⟨i, o, h1, by rw [← ag.2.2.2 i h2]; exact e2⟩
theorem sts_cons {e : Expr} {es : List Expr} {t : Tg} {r : Tgs} (hs : notStar e = true) (h1 : ST p N sc e t) (h2 : STs p N sc es r) : STs p N sc (e :: es) (.cons t r) := by
  intro X G F μ σd st σ H R ds vs rv σd' h Q q
  simp only [bindTgs] at h
  split at h
  · rename_i d ds'
    rw [Option.bind_eq_some_iff] at h
    obtain ⟨σ1, e1, e2⟩ := h
    obtain ⟨v, vr, rfl, a, b⟩ := rv.cons_inv
    have he : (assignEach (e :: es) X.env).map (·.2) = assign e X.env :: (assignEach es X.env).map (·.2) := by
      cases e <;> first | rfl | cases hs
    refine wgs_of (pgs_cons pg_wg pgs_wg he) ⟨v, vr, rfl, ?_⟩
    refine h1 X G F μ σd st σ H R d v a σ1 e1 _ fun σ2 R2 ag => ?_
    have c : Car X.K (MM F μ σd σ) μ H (MM F μ σ1 σ2) μ H := Car.less (mm_set (own_agr (bindTg_ow t e1) ag))
    refine h2 X G F μ σ1 st σ2 H R2 ds' vr (b.car c) σd' e2 _ fun σ3 R3 ag3 => ?_
    refine q σ3 R3 ⟨ag3.1.trans ag.1, ag3.2.1.trans ag.2.1, fun j hj => ?_, fun j hj => ?_⟩
    · simp only [tgsSlots, List.mem_append, not_or] at hj
      rw [ag3.2.2.1 j hj.2, ag.2.2.1 j hj.1]
    · simp only [tgsSlots, List.mem_append, not_or] at hj
      rw [ag3.2.2.2 j hj.2, ag.2.2.2 j hj.1]
  · cases h
mutual
def tgsLen : Tgs → Nat
  | .nil => 0
  | .cons _ r => tgsLen r + 1
end
theorem bindTgs_len : ∀ (T : Tgs) {ds : List D} {σd σd' : List SV}, bindTgs T ds σd = some σd' → ds.length = tgsLen T
  | .nil, ds, σd, σd', h => by
    simp only [bindTgs] at h
    split at h <;> cases h
    rfl
  | .cons t r, ds, σd, σd', h => by
    simp only [bindTgs] at h
    split at h
    · rw [Option.bind_eq_some_iff] at h
      obtain ⟨σ1, e1, e2⟩ := h
      rw [List.length_cons, bindTgs_len r e2]; rfl
    · cases h
theorem eachLen : ∀ (es : List Expr) (env : Env), (assignEach es env).length = es.length
  | [], _ => rfl
  | e :: r, env => by
    cases e <;> (show (assignEach r env).length + 1 = _; rw [eachLen r env]; rfl)
theorem eachStar : ∀ (es : List Expr) (env : Env), es.all notStar = true → (assignEach es env).findIdx? (·.1) = none
  | [], _, _ => rfl
  | e :: r, env, h => by
    rw [List.all_cons, Bool.and_eq_true] at h
    have ih := eachStar r env h.2
    cases e <;> first
      | (exact absurd h.1 Bool.false_ne_true)
      | (show List.findIdx? _ ((false, _) :: assignEach r env) = none
         rw [List.findIdx?_cons, ih]
         rfl)
theorem st_tup {es : List Expr} {T : Tgs} {k : Nat} {pos : Pos} (hs : es.all notStar = true) (hl : tgsLen T = es.length) (h : STs p N sc es T) : ST p N sc (.Tuple es k pos) (.tu T) := by
  intro X G F μ σd st σ H R d v rv σd' e Q q
  simp only [bindTg] at e
  split at e
  · unfold Rv at rv
    obtain ⟨a, vs, rfl, ha, r⟩ := rv
    refine wg_of (pg_tup G.calm pgs_wg (eachLen es X.env) (eachStar es X.env hs)) ⟨a, vs, rfl, ha, ?_, ?_⟩
    · rw [r.length, bindTgs_len T e, hl]
    · exact h X G F μ σd st σ H R _ vs r σd' e _ fun σ' R' ag => q σ' R' (by simpa [tgSlots] using ag)
  · cases e
end Pn

set_option Elab.async false
set_option linter.all false
set_option maxRecDepth 100000
namespace Pn
open PySem PySem.Spec PyProof.Rows L2

/-! ### enumerate(tuple) -/
set_option maxHeartbeats 1000000 in
theorem meets_enumerate_new1 {v : Value} {o : Obj} {H : Heap → Prop} (B : Begins v o H) :
    Meets (Builtin.«enumerate.__new__» ⟨[.type "enumerate", v], []⟩) (fun _ R s => H s.heap ∧
      R (.ok (.ret (.ref (s.heap.push o).objs.size))) { s with heap := (s.heap.push o).push { cls := .type "enumerate", data := .fields #[.none, .bool false, .ref s.heap.objs.size, rawInt 0, .none, .none] } }) :=
  .of_wp fun prog w A R s h => by
    obtain ⟨hp, g, d, tk, os⟩ := s; obtain ⟨h1, h⟩ := h
    have hsub := sub_enumerate
    have q1 : ∀ {A' : Around} {E : Value → Shared → Prop} {Q : Value → Shared → Prop}, Q (.ref hp.objs.size) ⟨hp.push o, g, d, tk, os⟩ → wpAny (model prog w) A' (pyIter v) Q E ⟨hp, g, d, tk, os⟩ :=
      fun q => B.iter prog w _ _ ⟨hp, g, d, tk, os⟩ _ h1 q
    wp_walk using q1
    refine wpAny_stack_any fun st => wpAny_pure ?_
    split
    · rename_i c _ _ _ _ _
      cases (c == Value.type "enumerate")
      · wp_walk using q1
        exact ⟨_, rfl, h⟩
      · wp_walk using q1
        exact ⟨_, rfl, h⟩
    · wp_walk using q1
      exact ⟨_, rfl, h⟩
theorem call_enumerate_B {prog : Program} {w : World} {A : Around} {E : Value → Shared → Prop} {s : Shared} {v : Value} {o : Obj} {H : Heap → Prop} {Q : Value → Shared → Prop} (B : Begins v o H) (h1 : H s.heap)
    (h : ∀ h', IsEnum h' (s.heap.objs.size + 1) s.heap.objs.size 0 .none → h'.get? s.heap.objs.size = some o → h'.objs.size = s.heap.objs.size + 2 →
      (∀ b o, s.heap.get? b = some o → h'.get? b = some o) → Q (.ref (s.heap.objs.size + 1)) { s with heap := h' }) :
    wpAny (model prog w) A (call (.type "enumerate") [v]) Q E s := by
  refine callType_new F.called_enumerate (by decide) (F.typeCall_enumerate_1 _) (F.newCall_enumerate_1 _) (fun obj => F.args_object_init_2 obj _) F.entry_enumerate_new
    (meets_enumerate_new1 B) ⟨h1, ?_⟩
  have hz : (s.heap.push o).objs.size = s.heap.objs.size + 1 := Heap.size_push ..
  show _ ∧ _
  rw [hz]
  have he : IsEnum ((s.heap.push o).push { cls := .type "enumerate", data := .fields #[.none, .bool false, .ref s.heap.objs.size, rawInt 0, .none, .none] }) (s.heap.objs.size + 1) s.heap.objs.size 0 .none := by
    have := Heap.get?_push_size (s.heap.push o) (o := { cls := .type "enumerate", data := .fields #[.none, .bool false, .ref s.heap.objs.size, rawInt 0, .none, .none] }) rfl
    rw [hz] at this; exact this
  refine ⟨⟨_, he, rfl⟩, h _ he (Heap.get?_push_of_some _ (Heap.get?_push_size _ B.free)) (by rw [Heap.size_push, hz]) fun b o x => Heap.get?_push_of_some _ (Heap.get?_push_of_some _ x)⟩
/-- the tuple at a, each item in a new pair -/
def IteT (K : PySem.W.Frag) (a : Addr) : L2.It :=
  ⟨fun i H => ∃ (xs : List V) (x : V), SqT K H a xs ∧ xs[i]? = some x, fun i H v H' => ∃ T x, v = .ref T ∧ H T = none ∧ H' = upd H T (.tup [.int (i : Nat), x]) ∧ ∀ xs, SqT K H a xs → xs[i]? = some x, fun i H => ∃ xs : List V, SqT K H a xs ∧ xs.length ≤ i⟩
theorem turn_enumT {P : Program} {w : World} {K : PySem.W.Frag} {elts : List Expr} {kk : Nat} {tpos : Pos} (a e it : Addr) (hai : a ≠ it) (hae : a ≠ e) :
    Turn P w K (.Tuple elts kk tpos) (IteT K a) [e, it] e (fun i h => (∃ old, IsEnum h e it ((i : Nat) : Int) old) ∧ h.IsTupleIter it a i ∧ e ≠ it) where
  mem := by simp
  obj := fun i h st b hb => by
    obtain ⟨⟨old, he⟩, ⟨o, ho, hc, hd⟩, _⟩ := st
    have e' : b = e ∨ b = it := by simpa using hb
    rcases e' with z | z
    · rw [z]; exact ⟨_, he, fun v q => nomatch q⟩
    · rw [z]; exact ⟨o, ho, fun v q => by rw [hd] at q; cases q⟩
  keep := fun i h h' st k => let ⟨⟨old, he⟩, hi, hne⟩ := st; ⟨⟨old, k e (by simp) _ he⟩, hi.at fun o q => k it (by simp) o q, hne⟩
  item := by
    intro X hP hw hK hc i pins s σ H E I hf st hg
    subst hP hw hK
    obtain ⟨⟨old, he⟩, hit, hne⟩ := st
    obtain ⟨xs, x, hq, hx⟩ := hg
    obtain ⟨its, rv, p, hz⟩ := I.tuple hq
    obtain ⟨u, hu, ru⟩ := rv.get hx
    have hel : e < s.heap.objs.size := Heap.lt_size he
    have hil : it < s.heap.objs.size := by obtain ⟨_, q, _⟩ := hit; exact Heap.lt_size q
    have hit' : s.heap.IsTuple a its.toArray := p
    have hlt : i < its.toArray.size := by
      rw [List.size_toArray]
      exact (List.getElem?_eq_some_iff.mp hu).1
    refine wpAny_pyNext_enum_itemD (Draws.tuple (A := X.A.in1) (I.ok.hd hc) it a hai its.toArray) he ⟨hit, hit'⟩ hlt hne (by simp [Ne.symm hae, hne]) fun y h' tk hy ho hs' hT hsz hk => ?_
    have hy' : u = y := by
      have : its.toArray[i]? = some u := by simpa using hu
      rw [this] at hy; exact Option.some.inj hy
    subst hy'
    refine ⟨_, rfl, wpAny_letOwnedTupleGo_enum (s := { s with heap := h', toks := tk + 1 }) ho fun h'' he' sb => ?_⟩
    have hT2 : h''.get? s.heap.objs.size = some { cls := .type "tuple", data := .seq #[.int i tk, u] } := (sb.2 _ (Nat.ne_of_gt hel)).trans hT
    have new : ObjOk X.prog X.w (upd H s.heap.objs.size (.tup [.int (i : Nat), x])) h'' s.heap.objs.size (.tup [.int (i : Nat), x]) :=
      ⟨by show 2 ≤ sizeLine; decide, [.int i tk, u], .cons ⟨_, rfl⟩ (.cons ru .nil), ⟨_, hT2, rfl, _, rfl⟩⟩
    have I1 : Inv X pins σ (upd H s.heap.objs.size (.tup [.int (i : Nat), x])) { s with heap := h'', toks := tk + 1 } :=
      I.turnedNew (ch := [e, it]) (fun b ob hb q => (sb.2 b (fun z => hb (by simp [z]))).trans (hk b ob (fun z => hb (by simp [z])) (fun z => hb (by simp [z])) q)) hf (Nat.le_refl _) new
    refine ⟨.ref s.heap.objs.size, _, I1, rfl, ⟨_, x, rfl, I.hok.fresh (Nat.le_refl _), rfl, fun ys hy => by rw [I.tuple_inj hy hq]; exact hx⟩, ⟨⟨u, ?_⟩, hs'.1.at fun o q => (sb.2 it (Ne.symm hne)).trans q, hne⟩, fun b hb => ?_⟩
    · have e1 : ((i + 1 : Nat) : Int) = (i : Int) + 1 := by omega
      rw [e1]; exact he'
    · have hb' : b < s.heap.objs.size := by
        have e' : b = e ∨ b = it := by simpa using hb
        rcases e' with z | z
        · rw [z]; exact hel
        · rw [z]; exact hil
      rw [upd_ne (Nat.ne_of_lt hb')]
      exact (hf b hb).1
  done := by
    intro X hP hw hK hc i pins s σ H E I hf st hg
    subst hP hw hK
    obtain ⟨⟨old, he⟩, hit, hne⟩ := st
    obtain ⟨xs, hq, hx⟩ := hg
    obtain ⟨its, rv, p, hz⟩ := I.tuple hq
    obtain ⟨f0, f1, f2, f3, f4, f5⟩ := hf it (by simp)
    have hl := rv.length
    have hit' : s.heap.IsTuple a its.toArray := p
    have hT : s.TypeIs (.ref e) "enumerate" := ⟨_, he, rfl⟩
    unfold pyNext
    refine wpAny_bind (wpAny_attempt (wpAny_callSpecial?_slot (name := Str.ofString "__next__") hT PySem.F.slot_enumerate_next
      (wpAny_call_entry PySem.F.slot_enumerate_next hT PySem.F.entry_enumerate_next ?_ (PySem.F.args_enumerate_next_1 _))))
    show wpAny _ _ (field (.ref e) 2 >>= _) _ _ _
    refine wpAny_bind (wpAny_field he rfl (x := .ref it) rfl ?_)
    refine wpAny_bind (wpAny_nextOf_tuple_end (I.ok.hd hc) hit hit' (by simp; omega) fun h' x he' hx' => ?_)
    obtain ⟨o, ho, hc'⟩ := hx'
    refine wpAny_bind (wpAny_isInstance (T := "StopIteration") (b := true) ⟨o, ho, hc'⟩ isSubtype_stop ?_)
    exact wpAny_pure ⟨rfl, I.turned (t' := s.toks) (fun b o hb q => he' b o hb q) f0 f1 f3 f4 f5⟩
  self := fun A i s Q E st h => let ⟨⟨_, he⟩, _⟩ := st; wpAny_pyIter_enum he h
end Pn

set_option Elab.async false
set_option linter.all false
set_option maxRecDepth 100000
namespace Pn
open PySem PySem.Spec PyProof.Rows L2
variable {p : Pm} {N : List Str} {sc : SS}

/-! ### what is walked -/
def Gw (H H' : Hp) : Prop := H' = H ∨ ∃ T vs, H T = none ∧ H' = upd H T (.tup vs)
structure Lat (Wr M1 : Addr → Prop) (μ1 : List Addr) (H1 : Hp) (M2 : Addr → Prop) (μ2 : List Addr) (H2 : Hp) : Prop where
  fr : ∀ b o, H1 b = some o → ¬ Wr b → H2 b = some o
  mg : ∀ a, M2 a → M1 a ∨ H1 a = none
  bx : ∀ (n : Nat) a, μ1[n]? = some a → μ2[n]? = some a
def Wk (K : PySem.W.Frag) (Wr M1 : Addr → Prop) (μ1 : List Addr) (H1 : Hp) (J : L2.It) (items : List D) : Prop := ∀ (M2 : Addr → Prop) (μ2 : List Addr) (H2 : Hp), Lat Wr M1 μ1 H1 M2 μ2 H2 → ∀ i : Nat,
  (items.length ≤ i → J.stop i H2) ∧ ∀ d, items[i]? = some d → J.go i H2 ∧ ∀ x H3, J.yld i H2 x H3 → Gw H2 H3 ∧ Rv K M2 μ2 H3 d x
def WPI (X : Cx) (tg iter : Expr) : TI := fun σ H R => ∀ (pins : List (Addr × Obj)) (s : Shared), Inv X pins σ H s →
    wpAny (model X.prog X.w) X.A (eval iter X.env) (fun v s1 => wpAny (model X.prog X.w) X.A (pyIter v) (PIE X pins σ tg R) X.xe s1) X.xe s
theorem pi_w {X : Cx} {tg iter : Expr} : PI X tg iter (WPI X tg iter) := ⟨fun pins s σ H R I h => h pins s I⟩
theorem wpi_of {X : Cx} {tg iter : Expr} {t : TI} (h : PI X tg iter t) {σ : Sg} {H : Hp} {R : L2.It → Hp → Prop} (q : t σ H R) : WPI X tg iter σ H R := fun pins s I => h.run pins s σ H R I q
def SI (p : Pm) (N : List Str) (sc : SS) (tg iter : Expr) (A : List SV → Sto → Option (List D × Fl × Sto)) : Prop := ∀ X, GX p N sc X → ∀ (F : Fx) (μ : List Addr) (σd : List SV) (st : Sto) (σ : Sg) (H : Hp), Rel X.K F μ σd st σ H →
  ∀ items fl st', A σd st = some (items, fl, st') → ∀ R : L2.It → Hp → Prop,
    (∀ J H' μ', Stp (· ∈ μ) μ H (· ∈ μ') μ' H' → Rel X.K F μ' σd st' σ H' →
      (∀ Wr : Addr → Prop, (∀ a, Wr a → MM F μ' σd σ a) → (fl = .lk → ∀ a, Wr a → a ∈ μ') → Wk X.K Wr (MM F μ' σd σ) μ' H' J items) → R J H') → WPI X tg iter σ H R
theorem Lat.car {K : PySem.W.Frag} {Wr M1 M2 : Addr → Prop} {μ1 μ2 : List Addr} {H1 H2 : Hp} (l : Lat Wr M1 μ1 H1 M2 μ2 H2) (hw : ∀ a, Wr a → M1 a) (nt : ∀ b o, M1 b → H1 b = some o → isTupO o = false) : Car K M1 μ1 H1 M2 μ2 H2 :=
  Car.step (fun b o e m => l.fr b o e fun w => m (hw b w)) nt l.mg l.bx
/-- the source of a walk: a tuple, or a list that stands still -/
theorem src_of {K : PySem.W.Frag} {F : Fx} {μ : List Addr} {σd : List SV} {st : Sto} {σ : Sg} {H H0 : Hp} {d : D} {v : V} {fl : Fl} {ds : List D} (R : Rel K F μ σd st σ H) (h : RR K F H0 μ σd st σ H d v fl) (e : seqOf d = some ds) :
    ∃ a vs, v = .ref a ∧ RvL K (MM F μ σd σ) μ H ds vs ∧ (SqT K H a vs ∨ (H a = some (.lst vs) ∧ a ∉ μ ∧ (fl ≠ .lk → ¬ MM F μ σd σ a))) := by
  cases d with
  | tup xs =>
    cases e
    have l := h.lk R
    unfold Lk Rv at l
    obtain ⟨a, vs, e1, q, r⟩ := l
    exact ⟨a, vs, e1, r, .inl q⟩
  | lst xs =>
    cases e
    obtain ⟨a, vs, e1, q, n, r⟩ := h.lk R
    refine ⟨a, vs, e1, r, .inr ⟨q, n, fun hf => ?_⟩⟩
    have k := h.kept R hf
    unfold Rv at k
    obtain ⟨b, ws, e2, _, m, _⟩ := k
    rw [e1] at e2; cases e2
    exact m
  | _ => cases e
theorem ntM {K : PySem.W.Frag} {F : Fx} {μ : List Addr} {σd : List SV} {st : Sto} {σ : Sg} {H : Hp} (R : Rel K F μ σd st σ H) {a : Addr} {vs : List V} (h : SqT K H a vs) {Wr M2 : Addr → Prop} {μ2 : List Addr} {H2 : Hp}
    (l : Lat Wr (MM F μ σd σ) μ H M2 μ2 H2) (hw : ∀ a, Wr a → MM F μ σd σ a) : SqT K H2 a vs := (l.car (K := K) hw R.b.nt).tup a vs h
section
variable {X : Cx} {F : Fx} {μ : List Addr} {σd : List SV} {st : Sto} {σ : Sg} {H : Hp} {ds : List D} {a : Addr} {vs : List V} {Wr : Addr → Prop}
theorem wk_tup (R : Rel X.K F μ σd st σ H) (r : RvL X.K (MM F μ σd σ) μ H ds vs) (ha : SqT X.K H a vs) (hw : ∀ a, Wr a → MM F μ σd σ a) : Wk X.K Wr (MM F μ σd σ) μ H (Itt X.K a) ds := by
  intro M2 μ2 H2 l i
  have c := l.car (K := X.K) hw R.b.nt
  have ha2 := c.tup a vs ha
  refine ⟨fun hi => ⟨vs, ha2, by rw [r.length]; exact hi⟩, fun d hd => ?_⟩
  obtain ⟨x, hx, rx⟩ := r.get hd
  refine ⟨⟨vs, x, ha2, hx⟩, fun y H3 hy => ?_⟩
  obtain ⟨rfl, f⟩ := hy
  have := f vs ha2
  rw [hx] at this; cases this
  exact ⟨.inl rfl, rx.car c⟩
theorem wk_lst (R : Rel X.K F μ σd st σ H) (r : RvL X.K (MM F μ σd σ) μ H ds vs) (ha : H a = some (.lst vs)) (hw : ∀ a, Wr a → MM F μ σd σ a) (hna : ¬ Wr a) : Wk X.K Wr (MM F μ σd σ) μ H (Itl X.K a) ds := by
  intro M2 μ2 H2 l i
  have c := l.car (K := X.K) hw R.b.nt
  have ha2 : SqL X.K H2 a vs := .of (l.fr a _ ha hna)
  refine ⟨fun hi => ⟨vs, ha2, by rw [r.length]; exact hi⟩, fun d hd => ?_⟩
  obtain ⟨x, hx, rx⟩ := r.get hd
  refine ⟨⟨vs, x, ha2, hx⟩, fun y H3 hy => ?_⟩
  obtain ⟨rfl, f⟩ := hy
  have := f vs ha2
  rw [hx] at this; cases this
  exact ⟨.inl rfl, rx.car c⟩
theorem wk_rng {K : PySem.W.Frag} {M1 : Addr → Prop} {lo : Int} {n : Nat} : Wk K Wr M1 μ H (Itr lo n) (rngD lo n) := by
  intro M2 μ2 H2 l i
  refine ⟨fun hi => show n ≤ i by simpa [rngD] using hi, fun d hd => ?_⟩
  have hl : i < n := by
    have := (List.getElem?_eq_some_iff.mp hd).1
    simpa [rngD] using this
  have e : d = .int (lo + i) := by
    simp only [rngD, List.getElem?_map] at hd
    rw [List.getElem?_range hl] at hd
    exact (Option.some.inj hd).symm
  subst e
  refine ⟨hl, fun x H3 hy => ?_⟩
  obtain ⟨rfl, rfl⟩ := hy
  exact ⟨.inl rfl, rv_int⟩
theorem enumD_get : ∀ (ds : List D) (k i : Nat), (enumD k ds)[i]? = (ds[i]?).map fun d => .tup [.int ((k + i : Nat) : Int), d]
  | [], k, i => by simp [enumD]
  | d :: ds, k, 0 => by simp [enumD]
  | d :: ds, k, i + 1 => by
    simp only [enumD, List.getElem?_cons_succ]
    rw [enumD_get ds (k + 1) i]
    congr 1
    funext d
    congr 3
    omega
theorem enumD_len : ∀ (ds : List D) (k : Nat), (enumD k ds).length = ds.length
  | [], _ => rfl
  | d :: ds, k => by simp only [enumD, List.length_cons, enumD_len ds (k + 1)]
theorem pair_new {K : PySem.W.Frag} {M : Addr → Prop} {H : Hp} {T : Addr} {x y : V} {dx dy : D} (hT : H T = none) (h1 : Rv K M μ H dx x) (h2 : Rv K M μ H dy y) : Rv K M μ (upd H T (.tup [x, y])) (.tup [dx, dy]) (.ref T) := by
  have c : Car K M μ H M μ (upd H T (.tup [x, y])) := by
    have ne : ∀ b o, H b = some o → b ≠ T := fun b o e z => by subst z; rw [hT] at e; cases e
    refine ⟨fun b vs e m => ⟨by rw [upd_ne (ne b _ e)]; exact e, m⟩, fun b vs e => ?_, fun b vs e => ?_, fun _ _ e => e⟩
    · rcases e with ⟨o, e⟩ | e
      · exact .inl ⟨o, by rw [upd_ne (ne b _ e)]; exact e⟩
      · exact .inr e
    · exact sqtKeep (fun o z => by rw [upd_ne (ne b o z)]; exact z) e
  exact rv_tup (.inl (.inl upd_same)) (.cons (h1.car c) (.cons (h2.car c) .nil))
theorem wk_enumT (R : Rel X.K F μ σd st σ H) (r : RvL X.K (MM F μ σd σ) μ H ds vs) (ha : SqT X.K H a vs) (hw : ∀ a, Wr a → MM F μ σd σ a) : Wk X.K Wr (MM F μ σd σ) μ H (IteT X.K a) (enumD 0 ds) := by
  intro M2 μ2 H2 l i
  have c := l.car (K := X.K) hw R.b.nt
  have ha2 := c.tup a vs ha
  rw [enumD_len, enumD_get]
  refine ⟨fun hi => ⟨vs, ha2, by rw [r.length]; exact hi⟩, fun d hd => ?_⟩
  rw [Option.map_eq_some_iff] at hd
  obtain ⟨d', hd, rfl⟩ := hd
  obtain ⟨x, hx, rx⟩ := r.get hd
  refine ⟨⟨vs, x, ha2, hx⟩, fun y H3 hy => ?_⟩
  obtain ⟨T, x', rfl, hT, rfl, f⟩ := hy
  have := f vs ha2
  rw [hx] at this; cases this
  refine ⟨.inr ⟨T, _, hT, rfl⟩, ?_⟩
  rw [Nat.zero_add]
  exact pair_new hT rv_int (rx.car c)
theorem wk_enumL (R : Rel X.K F μ σd st σ H) (r : RvL X.K (MM F μ σd σ) μ H ds vs) (ha : H a = some (.lst vs)) (hw : ∀ a, Wr a → MM F μ σd σ a) (hna : ¬ Wr a) : Wk X.K Wr (MM F μ σd σ) μ H (Ite X.K a) (enumD 0 ds) := by
  intro M2 μ2 H2 l i
  have c := l.car (K := X.K) hw R.b.nt
  have ha2 : SqL X.K H2 a vs := .of (l.fr a _ ha hna)
  rw [enumD_len, enumD_get]
  refine ⟨fun hi => ⟨vs, ha2, by rw [r.length]; exact hi⟩, fun d hd => ?_⟩
  rw [Option.map_eq_some_iff] at hd
  obtain ⟨d', hd, rfl⟩ := hd
  obtain ⟨x, hx, rx⟩ := r.get hd
  refine ⟨⟨vs, x, ha2, hx⟩, fun y H3 hy => ?_⟩
  obtain ⟨T, x', rfl, hT, rfl, f⟩ := hy
  have := f vs ha2
  rw [hx] at this; cases this
  refine ⟨.inr ⟨T, _, hT, rfl⟩, ?_⟩
  rw [Nat.zero_add]
  exact pair_new hT rv_int (rx.car c)
end
/-- a walk over a value -/
theorem si_seq {tg e : Expr} {A : E} (ha : SE p N sc e (ev p.cl A).1) : SI p N sc tg e (evi p.cl (.seq A)) := by
  intro X G F μ σd st σ H R items fl st' h Rq q
  simp only [evi, Option.bind_eq_bind, Option.bind_eq_some_iff] at h
  obtain ⟨⟨x, f1, st1⟩, e1, ds, e2, h⟩ := h
  cases h
  intro pins s I
  have := ha X G F μ σd st σ H R _ _ _ e1 (fun v H1 => ∃ μ1, Stp (· ∈ μ) μ H (· ∈ μ1) μ1 H1 ∧ Rel X.K F μ1 σd st1 σ H1 ∧ RR X.K F H μ1 σd st1 σ H1 x v f1) fun v1 H1 μ1 s1 R1 r1 => ⟨μ1, s1, R1, r1⟩
  refine thn (this pins s I) fun u s1 ⟨v, H1, I1, rv, μ1, st1', R1, r1⟩ => ?_
  obtain ⟨a, vs, rfl, r, hs⟩ := src_of R1 r1 e2
  cases rv
  rcases hs with hs | ⟨hs, hn, hm⟩
  · obtain ⟨its, rv, pp, hz⟩ := I1.tuple hs
    refine wpAny_pyIter_tuple (show s1.heap.IsTuple a its.toArray from pp) ?_
    refine ⟨s1.heap.objs.size, [s1.heap.objs.size], _, _, H1, rfl, I1.kept (t' := s1.toks) fun b o e => Heap.get?_push_of_some _ e, turn_tuple a _, ⟨_, Heap.get?_push_size _ rfl, rfl, rfl⟩, fun b hb => ?_, ?_⟩
    · have e : b = s1.heap.objs.size := by simpa using hb
      subst e
      exact I1.fpOk (Nat.le_refl _) (I1.hok.fresh (Nat.le_refl _))
    · exact q _ H1 μ1 st1' R1 fun Wr h1 h2 => wk_tup R1 r hs h1
  · obtain ⟨its, rv, pp, hz⟩ := I1.list (.of hs)
    refine wpAny_pyIter_list pp.isList ?_
    refine ⟨s1.heap.objs.size, [s1.heap.objs.size], _, _, H1, rfl, I1.kept (t' := s1.toks) fun b o e => Heap.get?_push_of_some _ e, turn_list a _, ⟨_, Heap.get?_push_size _ rfl, rfl, rfl⟩, fun b hb => ?_, ?_⟩
    · have e : b = s1.heap.objs.size := by simpa using hb
      subst e
      exact I1.fpOk (Nat.le_refl _) (I1.hok.fresh (Nat.le_refl _))
    · refine q _ H1 μ1 st1' R1 fun Wr h1 h2 => wk_lst R1 r hs h1 fun w => ?_
      by_cases hf : f1 = .lk
      · exact hn (h2 hf a w)
      · exact hm hf (h1 a w)
theorem si_rng {tg a : Expr} {A : E} {p1 p2 : Pos} (hg : glB sc.sc "range" = true) (hb : ("range" : Str) ∈ p.blts) (hs : notStar a = true) (ha : SE p N sc a (ev p.cl A).1) : SI p N sc tg (.Call (.Name "range" p1) [a] [] p2) (evi p.cl (.rng A)) := by
  intro X G F μ σd st σ H R items fl st' h Rq q
  simp only [evi, Option.bind_eq_bind, Option.bind_eq_some_iff] at h
  obtain ⟨⟨x, f1, st1⟩, e1, h⟩ := h
  simp only at h
  split at h
  · split at h <;> cases h
    rename_i j hj
    refine wpi_of (pi_range1 (gl_of G (glB_gl hg).1) (G.blt _ hb) (pa_cons pe_we pa_nil (star_eq hs _ _)) (star_eq hs _ _)) ?_
    refine ha X G F μ σd st σ H R _ _ _ e1 _ fun v1 H1 μ1 s1 R1 r1 => ?_
    exact ⟨j, by rw [(r1.lk R1).int], by omega, by omega, q _ H1 μ1 s1 R1 fun Wr h1 h2 => wk_rng⟩
  · cases h
theorem si_rng2 {tg a b : Expr} {A B : E} {p1 p2 : Pos} (hg : glB sc.sc "range" = true) (hb : ("range" : Str) ∈ p.blts) (hs : notStar a = true) (hs2 : notStar b = true) (ha : SE p N sc a (ev p.cl A).1) (hb2 : SE p N sc b (ev p.cl B).1) : SI p N sc tg (.Call (.Name "range" p1) [a, b] [] p2) (evi p.cl (.rng2 A B)) := by
  intro X G F μ σd st σ H R items fl st' h Rq q
  simp only [evi, Option.bind_eq_bind, Option.bind_eq_some_iff] at h
  obtain ⟨⟨x, f1, st1⟩, e1, ⟨y, f2, st2⟩, e2, h⟩ := h
  simp only at h
  split at h
  · split at h <;> cases h
    rename_i i j hj
    refine wpi_of (pi_range2 (gl_of G (glB_gl hg).1) (G.blt _ hb) (pa_cons pe_we (pa_cons pe_we pa_nil (star_eq hs2 _ _)) (star_eq hs _ _)) ((star_eq hs _ _).trans (congrArg _ (star_eq hs2 _ _))) (star_eq hs2 _ _)) ?_
    refine ha X G F μ σd st σ H R _ _ _ e1 _ fun v1 H1 μ1 s1 R1 r1 => ?_
    refine hb2 X G F μ1 σd st1 σ H1 R1 _ _ _ e2 _ fun v2 H2 μ2 s2 R2 r2 => ?_
    exact ⟨i, j, by rw [((r1.lk R1).next R1 s2).int, (r2.lk R2).int], ⟨by omega, by omega, by omega, by omega⟩, q _ H2 μ2 (s1.trans s2) R2 fun Wr h1 h2 => wk_rng⟩
  · cases h
theorem si_enum {elts : List Expr} {kk : Nat} {tpos : Pos} {e : Expr} {A : E} {p1 p2 : Pos} (hg : glB sc.sc "enumerate" = true) (hb : ("enumerate" : Str) ∈ p.blts) (hs : notStar e = true) (ha : SE p N sc e (ev p.cl A).1) : SI p N sc (.Tuple elts kk tpos) (.Call (.Name "enumerate" p1) [e] [] p2) (evi p.cl (.enum A)) := by
  intro X G F μ σd st σ H R items fl st' h Rq q
  simp only [evi, Option.bind_eq_bind, Option.bind_eq_some_iff] at h
  obtain ⟨⟨x, f1, st1⟩, e1, ds, e2, h⟩ := h
  cases h
  intro pins s I
  have := ha X G F μ σd st σ H R _ _ _ e1 (fun v H1 => ∃ μ1, Stp (· ∈ μ) μ H (· ∈ μ1) μ1 H1 ∧ Rel X.K F μ1 σd st1 σ H1 ∧ RR X.K F H μ1 σd st1 σ H1 x v f1) fun v1 H1 μ1 s1 R1 r1 => ⟨μ1, s1, R1, r1⟩
  have pa : PA X [e] (tCons (WE X e) tNil) := pa_cons pe_we pa_nil (star_eq hs _ _)
  have this' : tCons (WE X e) tNil σ H (fun vs H1 => ∃ v, vs = [v] ∧ ∃ μ1, Stp (· ∈ μ) μ H (· ∈ μ1) μ1 H1 ∧ Rel X.K F μ1 σd st1 σ H1 ∧ RR X.K F H μ1 σd st1 σ H1 x v f1) := we_mono this fun v H' hq => ⟨v, rfl, hq⟩
  refine Call_ (ld_blt I (gl_of G (glB_gl hg).1) (G.blt _ hb) boot_enumerate (PyProof.Rows.callWith_type1 (thn (pa.run p2 pins s σ H _ I this') fun us s1 ⟨vs', H1, I1, rv, v, ev', μ1, st1', R1, r1⟩ => ?_) (star_eq hs _ _) rfl))
  subst ev'
  obtain ⟨a, vs, rfl, r, hs⟩ := src_of R1 r1 e2
  obtain ⟨u, rfl, ru⟩ := rv.one
  cases ru
  rcases hs with hs | ⟨hs, hn, hm⟩
  · obtain ⟨its, rv, pp, hz⟩ := I1.tuple hs
    have pt : s1.heap.IsTuple a its.toArray := pp
    have hal : a < s1.heap.objs.size := by obtain ⟨o, ho, _⟩ := pt; exact Heap.lt_size ho
    refine call_enumerate_B (begins_tuple a its.toArray) pt fun h' he hit hsz hk => wpAny_pyIter_enum he ?_
    have I2 : Inv X pins σ H1 { s1 with heap := h' } := I1.kept (t' := s1.toks) hk
    refine ⟨s1.heap.objs.size + 1, [s1.heap.objs.size + 1, s1.heap.objs.size], _, _, H1, rfl, I2, turn_enumT a (s1.heap.objs.size + 1) s1.heap.objs.size (Nat.ne_of_lt hal) (Nat.ne_of_lt (Nat.lt_succ_of_lt hal)), ⟨⟨.none, he⟩, ⟨_, hit, rfl, rfl⟩, Nat.succ_ne_self _⟩, fun b hb => ?_, ?_⟩
    · have e' : b = s1.heap.objs.size + 1 ∨ b = s1.heap.objs.size := by simpa using hb
      have hle : s1.heap.objs.size ≤ b := by
        rcases e' with z | z
        · rw [z]; exact Nat.le_add_right _ _
        · rw [z]; exact Nat.le_refl _
      exact I1.fpOk hle (I1.hok.fresh hle)
    · exact q _ H1 μ1 st1' R1 fun Wr h1 h2 => wk_enumT R1 r hs h1
  · obtain ⟨its, rv, pp, hz⟩ := I1.list (.of hs)
    refine call_enumerate_list pp.isList fun h' he hit hsz hk => wpAny_pyIter_enum he ?_
    have I2 : Inv X pins σ H1 { s1 with heap := h' } := I1.kept (t' := s1.toks) hk
    refine ⟨s1.heap.objs.size + 1, [s1.heap.objs.size + 1, s1.heap.objs.size], _, _, H1, rfl, I2, turn_enum a (s1.heap.objs.size + 1) s1.heap.objs.size, ⟨⟨.none, he⟩, hit, Nat.succ_ne_self _⟩, fun b hb => ?_, ?_⟩
    · have e' : b = s1.heap.objs.size + 1 ∨ b = s1.heap.objs.size := by simpa using hb
      have hle : s1.heap.objs.size ≤ b := by
        rcases e' with z | z
        · rw [z]; exact Nat.le_add_right _ _
        · rw [z]; exact Nat.le_refl _
      exact I1.fpOk hle (I1.hok.fresh hle)
    · refine q _ H1 μ1 st1' R1 fun Wr h1 h2 => wk_enumL R1 r hs h1 fun w => ?_
      by_cases hf : f1 = .lk
      · exact hn (h2 hf a w)
      · exact hm hf (h1 a w)

/-! ### comprehensions -/
/-- a comprehension's tests -/
def WTs (X : Cx) (ifs : List Expr) : TT := fun σ H Q => ∀ (pins : List (Addr × Obj)) (s : Shared), Inv X pins σ H s →
    wpAny (model X.prog X.w) X.A (forIn ifs true fun c r => if r = true then do let ok ← isTrue c X.env (eval c X.env); pure (ForInStep.yield ok) else pure (ForInStep.yield r)) (TP X pins σ Q) X.xe s
theorem pts_w {X : Cx} {ifs : List Expr} : PTs X ifs (WTs X ifs) := ⟨fun pins s σ H Q I h => h pins s I⟩
theorem wts_of {X : Cx} {ifs : List Expr} {t : TT} (h : PTs X ifs t) {σ : Sg} {H : Hp} {Q : Bool → Hp → Prop} (q : t σ H Q) : WTs X ifs σ H Q := fun pins s I => h.run pins s σ H Q I q
def SC (p : Pm) (N : List Str) (sc : SS) (ifs : List Expr) (A : FT) : Prop := ∀ X, GX p N sc X → ∀ (F : Fx) (μ : List Addr) (σd : List SV) (st : Sto) (σ : Sg) (H : Hp), Rel X.K F μ σd st σ H →
  ∀ b st', A σd st = some (b, st') → ∀ Q : Bool → Hp → Prop, (∀ H' μ', Stp (· ∈ μ) μ H (· ∈ μ') μ' H' → Rel X.K F μ' σd st' σ H' → Q b H') → WTs X ifs σ H Q
theorem sc_nil : SC p N sc [] (evc p.cl .no) := by
  intro X G F μ σd st σ H R b st' h Q q
  simp only [evc] at h
  cases h
  exact wts_of pts_nil (q _ μ Stp.refl R)
theorem sc_one {e : Expr} {A : E} (ha : SB p N sc e (ev p.cl A).2) : SC p N sc [e] (evc p.cl (.so A)) := by
  intro X G F μ σd st σ H R b st' h Q q
  exact wts_of (pts_one pt_wt) (ha X G F μ σd st σ H R _ _ h _ q)
/-- the block's scopes -/
def blkS (scope : Scope) (sc : SS) : SS := ⟨relS scope sc.sc, scope⟩
theorem gx_blk {X : Cx} (G : GX p N sc X) (scope : Scope) (s : Shared) (H : Hp) (C : Addr) (cl : List (Str × Addr)) (fp : List Addr) : GX p N (blkS scope sc) (X.blk s H scope (compEnvC scope cl C X.env) fp) := by
  refine ⟨G.calm, G.room, G.hN, G.nd, ?_, fun x hx => ?_, G.fns, G.blt⟩
  · show relS scope X.env.scope = relS scope sc.sc
    rw [G.hsc]
  · have hx' : stB scope x = true := hx
    unfold stB at hx'
    split at hx'
    · rename_i e
      have : (relS scope X.env.scope).names.lookup x = some .local := lookup_relS_keep (by decide) e
      exact ⟨.inl this, .inr this⟩
    · rename_i e
      have : (relS scope X.env.scope).names.lookup x = some .cell := lookup_relS_keep (by decide) e
      refine ⟨.inr this, .inl ?_⟩
      show (scope.names.lookup x == some .cell) = true
      rw [e]; rfl
    · cases hx'
def notSet : Expr → Bool
  | .Set .. => false
  | _ => true
theorem notSet_fold {e : Expr} (h : notSet e = true) (env : Env) (x : Value) : foldedSetIterable e env x = pure x := by
  cases e <;> first | rfl | cases h
theorem stp_gw {μ : List Addr} {H H' : Hp} (g : Gw H H') : Stp (· ∈ μ) μ H (· ∈ μ) μ H' := by
  rcases g with rfl | ⟨T, vs, hT, rfl⟩
  · exact Stp.refl
  · exact stp_new hT
theorem Rel.gw {K : PySem.W.Frag} {F : Fx} {μ : List Addr} {σd : List SV} {st : Sto} {σ : Sg} {H H' : Hp} (R : Rel K F μ σd st σ H) (g : Gw H H') : Rel K F μ σd st σ H' := by
  rcases g with rfl | ⟨T, vs, hT, rfl⟩
  · exact R
  · exact R.laidT hT
/-- the reading of a comprehension -/
theorem comp_core {X : Cx} (G : GX p N sc X) {F : Fx} {μ : List Addr} {σd : List SV} {st : Sto} {σ : Sg} {H : Hp} (R : Rel X.K F μ σd st σ H)
    {elt tg iter : Expr} {ifs : List Expr} {scope : Scope} {own : List Nat} {T : Tg} {I : It} {C : Eo} {A : E}
    (hi : SI p N sc tg iter (evi p.cl I)) (ht : ST p N (blkS scope sc) tg T) (hts : ∀ j ∈ tgSlots T, j ∈ own) (hc : SC p N (blkS scope sc) ifs (evc p.cl C)) (he : SE p N (blkS scope sc) elt (ev p.cl A).1)
    {d : D} {fl : Fl} {st' : Sto} (h : (ev p.cl (.comp own T I C A)).1 σd st = some (d, fl, st')) {Q : VK} (q : ∀ v H' μ', Stp (· ∈ μ) μ H (· ∈ μ') μ' H' → Rel X.K F μ' σd st' σ H' → RR X.K F H μ' σd st' σ H' d v fl → Q v H') :
    tLc (WPI X tg iter) (fun v σ H Q => ∀ s H0 C cl fp, WG (X.blk s H0 scope (compEnvC scope cl C X.env) fp) tg v σ H Q) (fun σ H Q => ∀ s H0 C cl fp, WTs (X.blk s H0 scope (compEnvC scope cl C X.env) fp) ifs σ H Q)
      (fun σ H Q => ∀ s H0 C cl fp, WE (X.blk s H0 scope (compEnvC scope cl C X.env) fp) elt σ H Q) own σ H Q := by
  simp only [ev, byTru, Option.bind_eq_bind, Option.bind_eq_some_iff] at h
  obtain ⟨⟨items, f1, st1⟩, e1, h⟩ := h
  simp only at h
  split at h
  · rename_i hcond
    rw [Option.bind_eq_some_iff] at h
    obtain ⟨⟨ds, st2⟩, e2, h⟩ := h
    cases h
    obtain ⟨hlen, hown⟩ := hcond
    have hnow : ∀ i ∈ own, isOw σd[i]? = false := fun i hi => by
      have := List.all_eq_true.mp hown i hi
      simpa using this
    show WPI X tg iter σ H _
    refine hi X G F μ σd st σ H R _ _ _ e1 _ fun J H1 μ1 s1 R1 wk => ?_
    intro Dd hD
    have wk' := wk (· ∈ μ1) (fun a h => .inr (.inl h)) fun _ a h => h
    have mmw : ∀ μ', MM (F.plus Dd) μ' (wipeD σd own) (wipe σ own) = MM (F.plus Dd) μ' σd σ := fun μ' => mm_wipe hnow
    have hH0 : F.H0 Dd = none := by
      by_cases z : F.H0 Dd = none
      · exact z
      · exact absurd hD (R1.al0 Dd z)
    refine ⟨fun i m Hc => m = items.length - i ∧ i ≤ items.length ∧ ∃ (μi : List Addr) (sti : Sto) (da : List D) (va : List V) (rest : List D), Rel X.K (F.plus Dd) μi (wipeD σd own) sti (wipe σ own) Hc ∧ Stp (· ∈ μ1) μ1 H1 (· ∈ μi) μi Hc ∧ Dd ∉ μi ∧
      Hc Dd = some (.lst va) ∧ RvL X.K (MM (F.plus Dd) μi σd σ) μi Hc da va ∧ da.length ≤ i ∧ compGo T (wipeD σd own) (evc p.cl C) (ev p.cl A).1 (items.drop i) sti = some (rest, st2) ∧ ds = da ++ rest, ⟨_, rfl, Nat.zero_le _, ?_⟩, ?_⟩
    · refine ⟨μ1, st1, [], [], ds, ?_, stp_new hD, fun z => ?_, upd_same, .nil, Nat.le_refl _, e2, rfl⟩
      · exact (R1.laid hD rfl).wiped own
      · exact absurd hD (R1.b.al Dd (.inr (.inl z)))
    · rintro i m Hc ⟨rfl, hile, μi, sti, da, va, rest, Ri, si, hDn, hDv, ra, hdl, go, hds⟩
      have lat : Lat (· ∈ μ1) (MM F μ1 σd σ) μ1 H1 (MM (F.plus Dd) μi σd σ) μi Hc := by
        refine ⟨si.fr, fun a h => ?_, si.bx⟩
        rcases MM.plus.mp h with h | h
        · rcases h with h | h | h
          · exact .inl (.inl h)
          · rcases si.mg a h with z | z
            · exact .inl (.inr (.inl z))
            · exact .inr z
          · exact .inl (.inr (.inr h))
        · subst h; exact .inr hD
      obtain ⟨wstop, wgo⟩ := wk' _ _ _ lat i
      by_cases hlt : i < items.length
      · -- a turn
        have hdrop : items.drop i = items[i] :: items.drop (i + 1) := List.drop_eq_getElem_cons hlt
        obtain ⟨jgo, jyld⟩ := wgo items[i] (List.getElem?_eq_getElem hlt)
        rw [hdrop] at go
        simp only [compGo, Option.bind_eq_bind, Option.bind_eq_some_iff] at go
        obtain ⟨σ1, b1, ⟨b, st3⟩, b2, go⟩ := go
        simp only at go
        refine .inr ⟨jgo, _, fun H' hN => ⟨items.length - (i + 1), by omega, hN⟩, fun x H' hy => ?_⟩
        obtain ⟨gw, rx⟩ := jyld x H' hy
        have R2 := Ri.gw gw
        have s2 := si.trans (stp_gw (μ := μi) gw)
        intro s0 H00 C0 cl0 fp0
        rw [← mmw] at rx
        refine ht _ (gx_blk G scope s0 H00 C0 cl0 fp0) (F.plus Dd) μi (wipeD σd own) sti (wipe σ own) H' R2 _ _ rx σ1 b1 _ fun σ2 R3 ag => ?_
        have ag' : (∀ j, j ∉ own → σ1[j]? = (wipeD σd own)[j]?) ∧ ∀ j, j ∉ own → σ2[j]? = (wipe σ own)[j]? := ⟨fun j hj => ag.2.2.1 j fun z => hj (hts j z), fun j hj => ag.2.2.2 j fun z => hj (hts j z)⟩
        have wd : wipeD σ1 own = wipeD σd own := by
          rw [wipeD_same ag.1 ag'.1]
          apply List.ext_getElem?
          intro j
          simp only [wipeD_get, wipeD_length]
          by_cases hj : j ∈ own
          · rw [if_pos hj, if_pos hj]
          · rw [if_neg hj, if_neg hj]
        have ww : wipe σ2 own = wipe σ own := by
          rw [wipe_same ag.2.1 ag'.2]
          apply List.ext_getElem?
          intro j
          simp only [wipe_get, wipe_length]
          by_cases hj : j ∈ own
          · rw [if_pos hj, if_pos hj]
          · rw [if_neg hj, if_neg hj]
        have hnow1 : ∀ i ∈ own, isOw σ1[i]? = false := fun j hj => by
          cases z : σ1[j]? with
          | none => rfl
          | some y =>
            cases y with
            | ow o =>
              obtain ⟨h1, _⟩ := bindTg_ow T b1 j o z
              rw [wipeD_get, if_pos hj] at h1
              split at h1 <;> cases h1
            | no => rfl
            | im d => rfl
        have mm2 : ∀ μ', MM (F.plus Dd) μ' σ1 σ2 = MM (F.plus Dd) μ' σd σ := fun μ' => by
          rw [← mm_wipe hnow1, wd, ww, mmw]
        refine ⟨by rw [ww], ?_⟩
        intro s0 H00 C0 cl0 fp0
        refine hc _ (gx_blk G scope s0 H00 C0 cl0 fp0) (F.plus Dd) μi σ1 sti σ2 H' R3 _ _ b2 _ fun H3 μ3 s3 R4 => ?_
        have hDn3 : ∀ {μ' : List Addr} {Ha Hb : Hp} {μa : List Addr}, Stp (· ∈ μa) μa Ha (· ∈ μ') μ' Hb → Dd ∉ μa → Ha Dd ≠ none → Dd ∉ μ' := fun s n z y => by
          rcases s.mg Dd y with w | w
          · exact n w
          · exact z w
        have hDv' : H' Dd = some (.lst va) := (stp_gw (μ := μi) gw).fr Dd _ hDv hDn
        have hDv3 : H3 Dd = some (.lst va) := s3.fr Dd _ hDv' hDn
        have hDn3' : Dd ∉ μ3 := hDn3 s3 hDn (by rw [hDv']; exact fun z => nomatch z)
        have ra3 : RvL X.K (MM (F.plus Dd) μ3 σd σ) μ3 H3 da va := by
          have c1 : Car X.K (MM (F.plus Dd) μi σd σ) μi Hc (MM (F.plus Dd) μi σd σ) μi H' := by
            have := Ri.carN (stp_gw (μ := μi) gw)
            rw [mmw] at this; exact this
          have c2 : Car X.K (MM (F.plus Dd) μi σd σ) μi H' (MM (F.plus Dd) μ3 σd σ) μ3 H3 := by
            have := R3.carN s3
            rw [mm2, mm2] at this; exact this
          exact (ra.car c1).car c2
        cases b with
        | false =>
          simp only [Bool.false_eq_true, if_false] at go ⊢
          refine ⟨trivial, hlt, μ3, st3, da, va, rest, ?_, s2.trans s3, hDn3', hDv3, ra3, Nat.le_succ_of_le hdl, go, hds⟩
          have := R4.wiped own
          rw [wd, ww] at this; exact this
        | true =>
          simp only [if_true, Option.bind_eq_some_iff] at go ⊢
          obtain ⟨⟨y, fly, st4⟩, b3, go⟩ := go
          simp only at go
          split at go
          · cases go
          rename_i hfl
          cases b4 : compGo T (wipeD σd own) (evc p.cl C) (ev p.cl A).1 (items.drop (i + 1)) st4 with
          | none => rw [b4] at go; cases go
          | some rr =>
          obtain ⟨r', st5⟩ := rr
          rw [b4] at go
          cases go
          intro s0 H00 C0 cl0 fp0
          refine he _ (gx_blk G scope s0 H00 C0 cl0 fp0) (F.plus Dd) μ3 σ1 st3 σ2 H3 R4 _ _ _ b3 _ fun v4 H4 μ4 s4 R5 r5 => ?_
          have hDv4 : H4 Dd = some (.lst va) := s4.fr Dd _ hDv3 hDn3'
          have hDn4 : Dd ∉ μ4 := hDn3 s4 hDn3' (by rw [hDv3]; exact fun z => nomatch z)
          have k := r5.kept R5 hfl
          rw [mm2] at k
          have ra4 : RvL X.K (MM (F.plus Dd) μ4 σd σ) μ4 H4 da va := by
            have := R4.carN s4
            rw [mm2, mm2] at this
            exact ra3.car this
          have R6 : Rel X.K (F.plus Dd) μ4 (wipeD σd own) st4 (wipe σ own) H4 := by
            have := R5.wiped own
            rw [wd, ww] at this; exact this
          have R7 := R6.writeP (a := Dd) (vs' := va ++ [v4]) (.inr rfl) hH0 hDn4 hDv4
          have cw : Car X.K (MM (F.plus Dd) μ4 σd σ) μ4 H4 (MM (F.plus Dd) μ4 σd σ) μ4 (upd H4 Dd (.lst (va ++ [v4]))) := by
            refine Car.step (fun b u e m => ?_) (fun b o m e => R6.b.nt b o (by rw [mmw]; exact m) e) (fun b h => .inl h) fun _ _ h => h
            rw [upd_ne (fun z => m (by subst z; exact .inl (.inr rfl)))]; exact e
          refine ⟨va, hDv4, ?_, trivial, hlt, μ4, st4, da ++ [y], va ++ [v4], r', R7, ?_, hDn4, upd_same, (ra4.append (.cons k .nil)).car cw, ?_, b4, by rw [hds]; simp⟩
          · rw [ra.length]
            have hl : LIM ≤ sizeLine := lim_le
            omega
          · have s5 := (s2.trans s3).trans s4
            refine ⟨fun b u e n => ?_, s5.mg, fun b hb => ?_, s5.bx⟩
            · rw [upd_ne (fun z => by subst z; rw [hD] at e; cases e)]
              exact s5.fr b u e n
            · rw [upd_ne (fun z => by subst z; exact hb hD)]
              exact s5.al b hb
          · rw [List.length_append, List.length_singleton]; omega
      · -- the end
        have hie : i = items.length := by omega
        subst hie
        rw [List.drop_length] at go
        simp only [compGo] at go
        cases go
        rw [List.append_nil] at hds
        subst hds
        refine .inl ⟨wstop (Nat.le_refl _), ?_⟩
        have hDH : H Dd = none := by
          by_cases z : H Dd = none
          · exact z
          · exact absurd hD (s1.al Dd z)
        have b1 : RelB X.K (MM (F.plus Dd) μi σd σ) μi st2 Hc := by
          have := Ri.b
          rw [mmw] at this; exact this
        have R8 : Rel X.K (F.plus Dd) μi σd st2 σ Hc := R1.nextP si hD b1
        refine q _ Hc μi (s1.trans si) R8.minus ⟨Dd, .lst ds, .lst va, rfl, rfl, hDH, hDv, fun m => ?_, R8, va, rfl, ra⟩
        rcases m with m | m | m
        · exact R1.b.al Dd (.inl m) hD
        · exact hDn m
        · exact R1.b.al Dd (.inr (.inr m)) hD
  · cases h
theorem se_comp {elt tg iter : Expr} {ifs : List Expr} {scope : Scope} {own : List (Str × Nat)} {pos : Pos} {T : Tg} {I : It} {C : Eo} {A : E}
    (hb : blkC N sc.sc scope own = true) (hns : notSet iter = true) (hi : SI p N sc tg iter (evi p.cl I)) (ht : ST p N (blkS scope sc) tg T) (hts : ∀ j ∈ tgSlots T, j ∈ own.map (·.2)) (hc : SC p N (blkS scope sc) ifs (evc p.cl C)) (he : SE p N (blkS scope sc) elt (ev p.cl A).1) :
    SE p N sc (.ListComp elt [⟨tg, iter, ifs, 0⟩] scope pos) (ev p.cl (.comp (own.map (·.2)) T I C A)).1 := by
  intro X G F μ σd st σ H R d fl st' h Q q
  refine we_of (pe_lc (g := fun v σ H Q => ∀ s H0 C cl fp, WG (X.blk s H0 scope (compEnvC scope cl C X.env) fp) tg v σ H Q) (tt := fun σ H Q => ∀ s H0 C cl fp, WTs (X.blk s H0 scope (compEnvC scope cl C X.env) fp) ifs σ H Q)
    (te := fun σ H Q => ∀ s H0 C cl fp, WE (X.blk s H0 scope (compEnvC scope cl C X.env) fp) elt σ H Q) G.calm G.nd pi_w (blkOk_by (by rw [G.hN, G.hsc]; exact hb)) (fun s H0 C cl fp => ⟨fun pins s1 σ1 H1 v u Q1 I1 r1 h1 => h1 s H0 C cl fp pins s1 u I1 r1⟩) (fun s H0 C cl fp => ⟨fun pins s1 σ1 H1 Q1 I1 h1 => h1 s H0 C cl fp pins s1 I1⟩) (fun s H0 C cl fp => ⟨fun pins s1 σ1 H1 Q1 I1 h1 => h1 s H0 C cl fp pins s1 I1⟩) (notSet_fold hns X.env)) ?_
  exact comp_core G R hi ht hts hc he h q
end Pn

set_option Elab.async false
set_option linter.all false
set_option maxRecDepth 100000
namespace Pn
open PySem PySem.Spec PyProof.Rows L2
variable {p : Pm} {N : List Str} {sc : SS}

def WS (X : Cx) (s : Stmt) : TS := fun D σ H => ∀ (pins : List (Addr × Obj)) (sh : Shared), Inv X pins σ H sh → wpAny (model X.prog X.w) X.A (PySem.exec s X.env) (SP X pins D) X.xe sh
def WSs (X : Cx) (s : List Stmt) : TS := fun D σ H => ∀ (pins : List (Addr × Obj)) (sh : Shared), Inv X pins σ H sh → wpAny (model X.prog X.w) X.A (PySem.execs s X.env) (SP X pins D) X.xe sh
theorem ps_ws {X : Cx} {s : Stmt} : PS X s (WS X s) := ⟨fun pins sh σ H D I h => h pins sh I⟩
theorem pss_ws {X : Cx} {s : List Stmt} : PSs X s (WSs X s) := ⟨fun pins sh σ H D I h => h pins sh I⟩
theorem wst_of {X : Cx} {s : Stmt} {t : TS} (h : PS X s t) {D : Ends} {σ : Sg} {H : Hp} (q : t D σ H) : WS X s D σ H := fun pins sh I => h.run pins sh σ H D I q
theorem wsst_of {X : Cx} {s : List Stmt} {t : TS} (h : PSs X s t) {D : Ends} {σ : Sg} {H : Hp} (q : t D σ H) : WSs X s D σ H := fun pins sh I => h.run pins sh σ H D I q

/-- a context for statements -/
structure GSt (p : Pm) (N : List Str) (sc : SS) (X : Cx) : Prop where
  g : GX p N sc X
  pass : PassesOwn (model X.prog X.w) X.A X.env X.xe
  kind : X.env.scope.kind = .function

section
variable {K : PySem.W.Frag} {F : Fx} {μ μ' : List Addr} {σd σd' : List SV} {st st' : Sto} {σ σ' : Sg} {H H' : Hp} {d : D} {v : V}
theorem Rel.stp (R : Rel K F μ σd st σ H) (s : Stp (· ∈ μ) μ H (· ∈ μ') μ' H') : Stp (MM F μ σd σ) μ H (MM F μ' σd σ) μ' H' := by
  refine Stp.widen s (fun a h => .inr (.inl h)) fun a h => ?_
  rcases h with h | h | h
  · exact .inl (.inl h)
  · rcases s.mg a h with z | z
    · exact .inl (.inr (.inl z))
    · exact .inr z
  · exact .inl (.inr (.inr h))
theorem stp_less {M M' : Addr → Prop} (h : ∀ a, M' a → M a) : Stp M μ H M' μ H := ⟨fun _ _ e _ => e, fun a m => .inl (h a m), fun _ h => h, fun _ _ h => h⟩
def PostS (K : PySem.W.Frag) (F : Fx) (D : Ends) (M : Addr → Prop) (μ : List Addr) (H : Hp) : Fo → Prop
  | .nx σd' st' => ∀ σ' H' μ', Stp M μ H (MM F μ' σd' σ') μ' H' → Rel K F μ' σd' st' σ' H' → D.nx σ' H'
  | .bk σd' st' => ∀ σ' H' μ', Stp M μ H (MM F μ' σd' σ') μ' H' → Rel K F μ' σd' st' σ' H' → D.bk σ' H'
  | .ct σd' st' => ∀ σ' H' μ', Stp M μ H (MM F μ' σd' σ') μ' H' → Rel K F μ' σd' st' σ' H' → D.ct σ' H'
  | .rt d fl st' => ∀ v σd' σ' H' μ', Rel K F μ' σd' st' σ' H' → RR K F F.H0 μ' σd' st' σ' H' d v fl → D.rt v H'
theorem PostS.later {D : Ends} {M M' : Addr → Prop} {o : Fo} (s : Stp M μ H M' μ' H') (h : PostS K F D M μ H o) : PostS K F D M' μ' H' o := by
  cases o with
  | nx σd' st' => exact fun σ' H2 μ2 s2 R => h σ' H2 μ2 (s.trans s2) R
  | bk σd' st' => exact fun σ' H2 μ2 s2 R => h σ' H2 μ2 (s.trans s2) R
  | ct σd' st' => exact fun σ' H2 μ2 s2 R => h σ' H2 μ2 (s.trans s2) R
  | rt d fl st' => exact h
end
def SX (p : Pm) (N : List Str) (sc : SS) (s : Stmt) (A : FS) : Prop := ∀ X, GSt p N sc X → ∀ (F : Fx) (μ : List Addr) (σd : List SV) (st : Sto) (σ : Sg) (H : Hp), Rel X.K F μ σd st σ H →
  ∀ o, A σd st = some o → ∀ D : Ends, PostS X.K F D (MM F μ σd σ) μ H o → WS X s D σ H
def SXs (p : Pm) (N : List Str) (sc : SS) (s : List Stmt) (A : FS) : Prop := ∀ X, GSt p N sc X → ∀ (F : Fx) (μ : List Addr) (σd : List SV) (st : Sto) (σ : Sg) (H : Hp), Rel X.K F μ σd st σ H →
  ∀ o, A σd st = some o → ∀ D : Ends, PostS X.K F D (MM F μ σd σ) μ H o → WSs X s D σ H
theorem sxs_nil : SXs p N sc [] (execs p.cl .nil) := by
  intro X G F μ σd st σ H R o h D q
  simp only [execs] at h
  cases h
  exact wsst_of pss_nil (q σ H μ Stp.refl R)
theorem sxs_cons {s : Stmt} {r : List Stmt} {A : S} {B : Ss} (ha : SX p N sc s (exec p.cl A)) (hb : SXs p N sc r (execs p.cl B)) : SXs p N sc (s :: r) (execs p.cl (.cons A B)) := by
  intro X G F μ σd st σ H R o h D q
  simp only [execs, Option.bind_eq_bind, Option.bind_eq_some_iff] at h
  obtain ⟨o1, e1, h⟩ := h
  refine wsst_of (pss_cons ps_ws pss_ws) ?_
  refine ha X G F μ σd st σ H R o1 e1 _ ?_
  cases o1 with
  | nx σ1 st1 => exact fun σ' H' μ' s' R' => hb X G F μ' σ1 st1 σ' H' R' o h D (q.later s')
  | bk σ1 st1 => cases h; exact q
  | ct σ1 st1 => cases h; exact q
  | rt d fl st1 => cases h; exact q
theorem sx_ret {e : Expr} {A : E} {pos : Pos} (ha : SE p N sc e (ev p.cl A).1) : SX p N sc (.Return (some e) pos) (exec p.cl (.ret A)) := by
  intro X G F μ σd st σ H R o h D q
  simp only [exec, Option.bind_eq_bind, Option.bind_eq_some_iff] at h
  obtain ⟨⟨x, fl, st1⟩, e1, h⟩ := h
  cases h
  refine wst_of (ps_ret pe_we) ?_
  refine ha X G.g F μ σd st σ H R _ _ _ e1 _ fun v1 H1 μ1 s1 R1 r1 => ?_
  refine q v1 σd σ H1 μ1 R1 ?_
  cases fl with
  | pl => exact r1
  | lk => exact r1
  | fr =>
    obtain ⟨a, o, ho, e1, e2, e3, r⟩ := r1
    refine ⟨a, o, ho, e1, e2, ?_, r⟩
    by_cases z : F.H0 a = none
    · exact z
    · exact absurd e3 (R.al0 a z)
theorem sx_retN {pos : Pos} : SX p N sc (.Return none pos) (exec p.cl .retN) := by
  intro X G F μ σd st σ H R o h D q
  simp only [exec] at h
  cases h
  exact wst_of ps_retN (q .non σd σ H μ R (by show Rv X.K (MM F μ σd σ) μ H .non .non; exact rv_non))
theorem sx_pass {pos : Pos} : SX p N sc (.Pass pos) (exec p.cl .pass) := by
  intro X G F μ σd st σ H R o h D q
  simp only [exec] at h
  cases h
  exact wst_of ps_pass (q σ H μ Stp.refl R)
theorem sx_brk {pos : Pos} : SX p N sc (.Break pos) (exec p.cl .brk) := by
  intro X G F μ σd st σ H R o h D q
  simp only [exec] at h
  cases h
  exact wst_of ps_break (q σ H μ Stp.refl R)
theorem sx_cnt {pos : Pos} : SX p N sc (.Continue pos) (exec p.cl .cnt) := by
  intro X G F μ σd st σ H R o h D q
  simp only [exec] at h
  cases h
  exact wst_of ps_continue (q σ H μ Stp.refl R)
theorem sx_if {c : Expr} {a b : List Stmt} {C : E} {A B : Ss} {pos : Pos} (hc : SB p N sc c (ev p.cl C).2) (ha : SXs p N sc a (execs p.cl A)) (hb : SXs p N sc b (execs p.cl B)) : SX p N sc (.If c a b pos) (exec p.cl (.iff C A B)) := by
  intro X G F μ σd st σ H R o h D q
  simp only [exec, Option.bind_eq_bind, Option.bind_eq_some_iff] at h
  obtain ⟨⟨k, st1⟩, e1, h⟩ := h
  refine wst_of (ps_if pt_wt pss_ws pss_ws) ?_
  refine hc X G.g F μ σd st σ H R _ _ e1 _ fun H1 μ1 s1 R1 => ?_
  cases k with
  | true =>
    simp only [if_true] at h ⊢
    exact ha X G F μ1 σd st1 σ H1 R1 o h D (q.later (R.stp s1))
  | false =>
    simp only [Bool.false_eq_true, if_false] at h ⊢
    exact hb X G F μ1 σd st1 σ H1 R1 o h D (q.later (R.stp s1))

/-! ### plain stores -/
def isComp : Expr → Bool
  | .ListComp .. => true
  | .SetComp .. => true
  | .DictComp .. => true
  | _ => false
theorem sw_no {e : Expr} (h : isComp e = false) (t : Option Expr) (l : Nat) (env : Env) : swapsWith e t l env = pure false := by
  cases e <;> first | rfl | cases h
theorem stp_agr {F : Fx} {μ : List Addr} {H : Hp} {σd σd' : List SV} {σ σ' : Sg} (h : ∀ a, Own σd' σ' a → Own σd σ a) : Stp (MM F μ σd σ) μ H (MM F μ σd' σ') μ H := stp_less (mm_set h)
theorem blockKind_fn {env : Env} (h : env.scope.kind = .function) : env.blockKind = .function := by
  unfold Env.blockKind; rw [h]; rfl
/-- a comprehension to a name of another kind than local is stored behind it -/
theorem sw_cell {elt : Expr} {gs : List Comprehension} {scope : Scope} {pos py : Pos} {y : Str} {l : Nat} {env : Env} (hy : env.scope.names.lookup y ≠ some .local) : swapsWith (.ListComp elt gs scope pos) (some (.Name y py)) l env = pure false := by
  have h1 : (env.kindOf y == some NameKind.local) = false := by
    show (env.scope.names.lookup y == some NameKind.local) = false
    exact beq_eq_false_iff_ne.mpr hy
  show (pure (env.blockKind == .function && env.kindOf y == some .local && _ && _) : Sem Bool) = pure false
  rw [h1, Bool.and_false, Bool.false_and, Bool.false_and]
theorem sx_asgN {i : Nat} {x : Str} {px pos : Pos} {e : Expr} {A : E} (hi : N[i]? = some x) (hs : stB sc.ss x = true) (hc : ∀ X, GSt p N sc X → swapsWith e (some (.Name x px)) pos.line X.env = pure false) (ha : SE p N sc e (ev p.cl A).1) :
    SX p N sc (.Assign [.Name x px] e pos) (exec p.cl (.asg (.nm i) A)) := by
  intro X G F μ σd st σ H R o h D q
  simp only [exec, Option.bind_eq_bind, Option.bind_eq_some_iff] at h
  obtain ⟨⟨d, fl, st1⟩, e1, h⟩ := h
  simp only at h
  split at h
  · cases h
  rename_i hfl
  cases e2 : bindTg (.nm i) d σd with
  | none => rw [e2] at h; cases h
  | some σ1 =>
  rw [e2] at h
  cases h
  obtain ⟨h1, h2⟩ := G.g.fn x hs
  refine wst_of (ps_set G.g.nd (by rw [G.g.hN]; exact hi) h1 pe_we (hc X G) h2) ?_
  refine ha X G.g F μ σd st σ H R _ _ _ e1 _ fun v1 H1 μ1 s1 R1 r1 => ?_
  simp only [bindTg] at e2
  split at e2 <;> cases e2
  rename_i hl
  have R2 := R1.setIm (r1.kept R1 hfl) hl
  refine q _ H1 μ1 ((R.stp s1).trans (stp_agr fun a => ?_)) R2
  rintro ⟨j, o, h3, h4⟩
  by_cases z : i = j
  · subst z; rw [List.getElem?_set_self hl] at h3; cases h3
  · rw [List.getElem?_set_ne z] at h3 h4; exact ⟨j, o, h3, h4⟩
/-- name = [..], the name a local -/
theorem sx_asgC {i : Nat} {x : Str} {px pos spos : Pos} {elt tg iter : Expr} {ifs : List Expr} {scope : Scope} {own : List (Str × Nat)} {T : Tg} {I : It} {C : Eo} {A : E}
    (hi : N[i]? = some x) (hx : sc.sc.names.lookup x = some .local) (hl : (px.line == pos.line) = true) (hn : (scope.names.any fun (n, k) => n == x && (k == .local || k == .cell)) = false)
    (hb : blkC N sc.sc scope own = true) (hns : notSet iter = true) (hit : SI p N sc tg iter (evi p.cl I)) (ht : ST p N (blkS scope sc) tg T) (hts : ∀ j ∈ tgSlots T, j ∈ own.map (·.2)) (hc : SC p N (blkS scope sc) ifs (evc p.cl C)) (he : SE p N (blkS scope sc) elt (ev p.cl A).1) :
    SX p N sc (.Assign [.Name x px] (.ListComp elt [⟨tg, iter, ifs, 0⟩] scope pos) spos) (exec p.cl (.asg (.nm i) (.comp (own.map (·.2)) T I C A))) := by
  intro X G F μ σd st σ H R o h D q
  simp only [exec, Option.bind_eq_bind, Option.bind_eq_some_iff] at h
  obtain ⟨⟨d, fl, st1⟩, e1, h⟩ := h
  simp only at h
  split at h
  · cases h
  rename_i hfl
  cases e2 : bindTg (.nm i) d σd with
  | none => rw [e2] at h; cases h
  | some σ1 =>
  rw [e2] at h
  cases h
  have hx' : X.env.scope.names.lookup x = some .local := by rw [G.g.hsc]; exact hx
  refine wst_of (ps_setLc (g := fun v σ H Q => ∀ s H0 C cl fp, WG (X.blk s H0 scope (compEnvC scope cl C X.env) fp) tg v σ H Q) (tt := fun σ H Q => ∀ s H0 C cl fp, WTs (X.blk s H0 scope (compEnvC scope cl C X.env) fp) ifs σ H Q)
    (te := fun σ H Q => ∀ s H0 C cl fp, WE (X.blk s H0 scope (compEnvC scope cl C X.env) fp) elt σ H Q) G.g.calm G.g.nd (by rw [G.g.hN]; exact hi) hx' (sw_true G.kind hx' hl hn) pi_w (blkOk_by (by rw [G.g.hN, G.g.hsc]; exact hb))
    (fun s H0 C cl fp => ⟨fun pins s1 σ1 H1 v u Q1 I1 r1 h1 => h1 s H0 C cl fp pins s1 u I1 r1⟩) (fun s H0 C cl fp => ⟨fun pins s1 σ1 H1 Q1 I1 h1 => h1 s H0 C cl fp pins s1 I1⟩) (fun s H0 C cl fp => ⟨fun pins s1 σ1 H1 Q1 I1 h1 => h1 s H0 C cl fp pins s1 I1⟩) (notSet_fold hns X.env)) ?_
  refine comp_core G.g R hit ht hts hc he e1 fun v1 H1 μ1 s1 R1 r1 => ?_
  simp only [bindTg] at e2
  split at e2 <;> cases e2
  rename_i hl
  have R2 := R1.setIm (r1.kept R1 hfl) hl
  refine q _ H1 μ1 ((R.stp s1).trans (stp_agr fun a => ?_)) R2
  rintro ⟨j, o, h3, h4⟩
  by_cases z : i = j
  · subst z; rw [List.getElem?_set_self hl] at h3; cases h3
  · rw [List.getElem?_set_ne z] at h3 h4; exact ⟨j, o, h3, h4⟩
/-- target = e, a tuple of targets -/
theorem sx_asgT {tg : Expr} {T : Tg} {e : Expr} {A : E} {pos : Pos} (hcm : isComp e = false) (hn : notStar tg = true) (hw : ∀ X, GSt p N sc X → swappedStores [tg] e X.env = pure none) (ht : ST p N sc tg T) (ha : SE p N sc e (ev p.cl A).1) :
    SX p N sc (.Assign [tg] e pos) (exec p.cl (.asg T A)) := by
  intro X G F μ σd st σ H R o h D q
  simp only [exec, Option.bind_eq_bind, Option.bind_eq_some_iff] at h
  obtain ⟨⟨d, fl, st1⟩, e1, h⟩ := h
  simp only at h
  split at h
  · cases h
  rename_i hfl
  cases e2 : bindTg T d σd with
  | none => rw [e2] at h; cases h
  | some σ1 =>
  rw [e2] at h
  cases h
  have h1 : (assignEach [tg] X.env).map (·.2) = [assign tg X.env] := by cases tg <;> first | rfl | cases hn
  refine wst_of (ps_asg pe_we pg_wg (sw_no hcm _ _ _) (hw X G) h1) ?_
  refine ha X G.g F μ σd st σ H R _ _ _ e1 _ fun v1 H1 μ1 s1 R1 r1 => ?_
  refine ht X G.g F μ1 σd st1 σ H1 R1 d v1 (r1.kept R1 hfl) σ1 e2 _ fun σ2 R2 ag => ?_
  exact q σ2 H1 μ1 ((R.stp s1).trans (stp_agr (own_agr (bindTg_ow T e2) ag))) R2
theorem ops_aug {X : Cx} {M : Addr → Prop} {a b : Int} {μ : List Addr} : True := trivial
/-- x += e, x -= e of ints -/
theorem sx_aug {i : Nat} {x : Str} {px pos : Pos} {op : Operator} {o : Bop} {e : Expr} {A : E} (ho : (o = .add ∧ op = .Add) ∨ (o = .sub ∧ op = .Sub)) (hi : N[i]? = some x) (hs : stB sc.ss x = true) (ha : SE p N sc e (ev p.cl A).1) :
    SX p N sc (.AugAssign (.Name x px) op e pos) (exec p.cl (.aug i o A)) := by
  intro X G F μ σd st σ H R out h D q
  simp only [exec] at h
  split at h
  · rename_i d hd
    simp only [Option.bind_eq_bind, Option.bind_eq_some_iff] at h
    obtain ⟨⟨y, fl, st1⟩, e1, h⟩ := h
    simp only at h
    split at h
    · rename_i a b
      obtain ⟨h1, h2⟩ := G.g.fn x hs
      obtain ⟨v, hv, rv⟩ := R.im i _ hd
      have ev : v = .int a := by unfold Rv at rv; exact rv
      subst ev
      have hl : i < σd.length := (List.getElem?_eq_some_iff.mp hd).1
      have fin : ∀ (k : Int) H1 μ1, Stp (· ∈ μ) μ H (· ∈ μ1) μ1 H1 → Rel X.K F μ1 σd st1 σ H1 → out = .nx (σd.set i (.im (.int k))) st1 → D.nx (σ.set i (some (.int k))) H1 := fun k H1 μ1 s1 R1 eo => by
        subst eo
        have R2 := R1.setIm (d := .int k) (v := .int k) rv_int hl
        refine q _ H1 μ1 ((R.stp s1).trans (stp_agr fun a => ?_)) R2
        rintro ⟨j, o, h3, h4⟩
        by_cases z : i = j
        · subst z; rw [List.getElem?_set_self hl] at h3; cases h3
        · rw [List.getElem?_set_ne z] at h3 h4; exact ⟨j, o, h3, h4⟩
      rcases ho with ⟨rfl, rfl⟩ | ⟨rfl, rfl⟩
      · cases h
        refine wst_of (ps_aug G.g.nd (by rw [G.g.hN]; exact hi) h1 pe_we ip_add h2) ⟨_, hv, ?_⟩
        refine ha X G.g F μ σd st σ H R _ _ _ e1 _ fun v1 H1 μ1 s1 R1 r1 => ?_
        exact ⟨a, b, rfl, (r1.lk R1).int, fin _ H1 μ1 s1 R1 rfl⟩
      · cases h
        refine wst_of (ps_aug G.g.nd (by rw [G.g.hN]; exact hi) h1 pe_we ip_sub h2) ⟨_, hv, ?_⟩
        refine ha X G.g F μ σd st σ H R _ _ _ e1 _ fun v1 H1 μ1 s1 R1 r1 => ?_
        exact ⟨a, b, rfl, (r1.lk R1).int, fin _ H1 μ1 s1 R1 rfl⟩
    · cases h
  · cases h

/-! ### own objects -/
section
variable {K : PySem.W.Frag} {F : Fx} {μ μ' : List Addr} {σd σd' : List SV} {st st' : Sto} {σ σ' : Sg} {H H' : Hp} {d : D} {v : V}
/-- a new object becomes the frame's own -/
theorem Rel.setOw (R : Rel K F μ σd st σ H) {a : Addr} {o : Ob} {ho : HO} (R' : Rel K (F.plus a) μ σd st σ H) (r : ObR K (MM (F.plus a) μ σd σ) μ H o ho) (ha : H a = some ho) (hn : ¬ MM F μ σd σ a) (h0 : F.H0 a = none) {i : Nat} (hi : i < σd.length) :
    Rel K F μ (σd.set i (.ow o)) st (σ.set i (some (.ref a))) H ∧ ∀ b, MM F μ (σd.set i (.ow o)) (σ.set i (some (.ref a))) b → MM F μ σd σ b ∨ b = a := by
  have hi' : i < σ.length := by rw [← R.len]; exact hi
  have own : ∀ b, Own (σd.set i (.ow o)) (σ.set i (some (.ref a))) b → Own σd σ b ∨ b = a := fun b ⟨j, u, e1, e2⟩ => by
    by_cases z : i = j
    · subst z
      rw [List.getElem?_set_self hi'] at e2
      cases e2
      exact .inr rfl
    · rw [List.getElem?_set_ne z] at e1 e2
      exact .inl ⟨j, u, e1, e2⟩
  have mm : ∀ b, MM F μ (σd.set i (.ow o)) (σ.set i (some (.ref a))) b → MM (F.plus a) μ σd σ b := fun b h => by
    rw [MM.plus]
    rcases h with h | h | h
    · exact .inl (.inl h)
    · exact .inl (.inr (.inl h))
    · rcases own b h with h | h
      · exact .inl (.inr (.inr h))
      · exact .inr h
  have c : Car K (MM (F.plus a) μ σd σ) μ H (MM F μ (σd.set i (.ow o)) (σ.set i (some (.ref a)))) μ H := Car.less mm
  refine ⟨⟨by rw [List.length_set, List.length_set]; exact R.len, fun j d e => ?_, fun j u e => ?_, fun j k u u' x e1 e2 e3 e4 => ?_, ⟨fun n ds e => ?_, R.b.sz, R.b.nd, fun b h => R'.b.al b (mm b h), fun b u h e => R'.b.nt b u (mm b h) e, fun b h => .inr (.inl h)⟩, R.fr, R.al0, R.pre, R.nw⟩, fun b h => MM.plus.mp (mm b h)⟩
  · by_cases z : i = j
    · subst z; rw [List.getElem?_set_self hi] at e; cases e
    · rw [List.getElem?_set_ne z] at e ⊢
      obtain ⟨v, e1, r1⟩ := R'.im j d e
      exact ⟨v, e1, r1.car c⟩
  · by_cases z : i = j
    · subst z
      rw [List.getElem?_set_self hi] at e
      cases e
      exact ⟨a, ho, by rw [List.getElem?_set_self hi'], ha, r.car c, fun h => hn (.inr (.inl h)), fun h => hn (.inl h), h0⟩
    · rw [List.getElem?_set_ne z] at e ⊢
      obtain ⟨x, hx, e1, e2, r1, n, m, z0⟩ := R'.ow j u e
      exact ⟨x, hx, e1, e2, r1.car c, n, fun h => m (.inl h), z0⟩
  · by_cases z : i = j
    · subst z
      rw [List.getElem?_set_self hi'] at e3
      cases e3
      by_cases z2 : i = k
      · exact z2
      · rw [List.getElem?_set_ne z2] at e2 e4
        exact absurd (.inr (.inr ⟨k, u', e2, e4⟩)) hn
    · rw [List.getElem?_set_ne z] at e1 e3
      by_cases z2 : i = k
      · subst z2
        rw [List.getElem?_set_self hi'] at e4
        cases e4
        exact absurd (.inr (.inr ⟨j, u, e1, e3⟩)) hn
      · rw [List.getElem?_set_ne z2] at e2 e4
        exact R.ds j k u u' x e1 e2 e3 e4
  · obtain ⟨x, vs, e1, e2, r1⟩ := R'.b.bx n ds e
    exact ⟨x, vs, e1, e2, r1.car c⟩
/-- the own object of a slot is written -/
theorem Rel.writeO (R : Rel K F μ σd st σ H) {i : Nat} {a : Addr} {o o' : Ob} {ho : HO} (hd : σd[i]? = some (.ow o)) (hs : σ[i]? = some (some (.ref a))) (r : ObR K (MM F μ σd σ) μ H o' ho) :
    Rel K F μ (σd.set i (.ow o')) st σ (upd H a ho) ∧ MM F μ (σd.set i (.ow o')) σ = MM F μ σd σ ∧ Stp (MM F μ σd σ) μ H (MM F μ σd σ) μ (upd H a ho) := by
  have hi : i < σd.length := (List.getElem?_eq_some_iff.mp hd).1
  have ownE : ∀ b, Own (σd.set i (.ow o')) σ b ↔ Own σd σ b := fun b => by
    constructor
    · rintro ⟨j, u, e1, e2⟩
      by_cases z : i = j
      · subst z; exact ⟨i, o, hd, e2⟩
      · rw [List.getElem?_set_ne z] at e1; exact ⟨j, u, e1, e2⟩
    · rintro ⟨j, u, e1, e2⟩
      by_cases z : i = j
      · subst z; exact ⟨i, o', by rw [List.getElem?_set_self hi], e2⟩
      · exact ⟨j, u, by rw [List.getElem?_set_ne z]; exact e1, e2⟩
  have mm : MM F μ (σd.set i (.ow o')) σ = MM F μ σd σ := by
    funext b
    unfold MM
    rw [ownE]
  obtain ⟨a', h1, e1, e2, r0, n, m, z0⟩ := R.ow i o hd
  rw [hs] at e1; cases e1
  have hM : MM F μ σd σ a := .inr (.inr ⟨i, o, hd, hs⟩)
  have s : Stp (MM F μ σd σ) μ H (MM F μ σd σ) μ (upd H a ho) := by
    refine ⟨fun b u e w => ?_, fun b h => .inl h, fun b h => ?_, fun _ _ h => h⟩
    · rw [upd_ne (fun z => w (by subst z; exact hM))]; exact e
    · by_cases z : b = a
      · subst z; rw [upd_same]; exact fun y => nomatch y
      · rw [upd_ne z]; exact h
  have c := s.car (K := K) R.b.nt
  refine ⟨?_, mm, s⟩
  refine ⟨by rw [List.length_set]; exact R.len, fun j d e => ?_, fun j u e => ?_, fun j k u u' x e1 e2 e3 e4 => ?_, ?_, fun b u e w => ?_, fun b h => ?_, R.pre, R.nw⟩
  · rw [mm]
    by_cases z : i = j
    · subst z; rw [List.getElem?_set_self hi] at e; cases e
    · rw [List.getElem?_set_ne z] at e
      obtain ⟨v, e1, r1⟩ := R.im j d e
      exact ⟨v, e1, r1.car c⟩
  · rw [mm]
    by_cases z : i = j
    · subst z
      rw [List.getElem?_set_self hi] at e
      cases e
      exact ⟨a, ho, hs, upd_same, r.car c, n, m, z0⟩
    · rw [List.getElem?_set_ne z] at e
      obtain ⟨x, hx, e1, e2, r1, n1, m1, z1⟩ := R.ow j u e
      refine ⟨x, hx, e1, ?_, r1.car c, n1, m1, z1⟩
      rw [upd_ne (fun w => z (by subst w; exact R.ds i j o u x hd e hs e1))]; exact e2
  · have fix : ∀ (l : Nat) w, (σd.set i (.ow o'))[l]? = some (SV.ow w) → ∃ w', σd[l]? = some (.ow w') := fun l w e => by
      by_cases z : i = l
      · subst z; exact ⟨o, hd⟩
      · rw [List.getElem?_set_ne z] at e; exact ⟨w, e⟩
    obtain ⟨w1, f1⟩ := fix j u e1
    obtain ⟨w2, f2⟩ := fix k u' e2
    exact R.ds j k w1 w2 x f1 f2 e3 e4
  · rw [mm]
    refine ⟨fun n' ds e => ?_, R.b.sz, R.b.nd, fun b h => s.al b (R.b.al b h), fun b u h e => ?_, R.b.inM⟩
    · obtain ⟨x, vs, e1, e2, r1⟩ := R.b.bx n' ds e
      refine ⟨x, vs, e1, ?_, r1.car c⟩
      rw [upd_ne (fun w => n (by subst w; exact List.mem_of_getElem? e1))]; exact e2
    · by_cases z : b = a
      · subst z; rw [upd_same] at e; cases e; exact r.nt
      · rw [upd_ne z] at e; exact R.b.nt b u h e
  · rw [upd_ne (fun y => by subst y; rw [z0] at e; cases e)]; exact R.fr b u e w
  · rw [upd_ne (fun y => by subst y; exact h z0)]; exact R.al0 b h
theorem nodup_ix' {l : List Addr} (h : l.Nodup) {i j : Nat} {x : Addr} (a : l[i]? = some x) (b : l[j]? = some x) : i = j := by
  obtain ⟨h1, e1⟩ := List.getElem?_eq_some_iff.mp a
  obtain ⟨h2, e2⟩ := List.getElem?_eq_some_iff.mp b
  exact (List.getElem_inj h).mp (e1.trans e2.symm)
/-- a shared list is written -/
theorem Rel.writeB (R : Rel K F μ σd st σ H) {n : Nat} {a : Addr} {ds' : List D} {vs' : List V} (hn : μ[n]? = some a) (hl : n < st.length) (r : RvL K (MM F μ σd σ) μ H ds' vs') :
    Rel K F μ σd (st.set n ds') σ (upd H a (.lst vs')) ∧ Stp (· ∈ μ) μ H (· ∈ μ) μ (upd H a (.lst vs')) := by
  have ham : a ∈ μ := List.mem_of_getElem? hn
  have s : Stp (· ∈ μ) μ H (· ∈ μ) μ (upd H a (.lst vs')) := by
    refine ⟨fun b u e w => ?_, fun b h => .inl h, fun b h => ?_, fun _ _ h => h⟩
    · rw [upd_ne (fun z => w (by subst z; exact ham))]; exact e
    · by_cases z : b = a
      · subst z; rw [upd_same]; exact fun y => nomatch y
      · rw [upd_ne z]; exact h
  have c := R.carN s
  refine ⟨R.next s ⟨fun m ds e => ?_, by rw [List.length_set]; exact R.b.sz, R.b.nd, fun b h => s.al b (R.b.al b h), fun b u h e => ?_, R.b.inM⟩, s⟩
  · by_cases z : n = m
    · subst z
      rw [List.getElem?_set_self hl] at e
      cases e
      exact ⟨a, vs', hn, upd_same, r.car c⟩
    · rw [List.getElem?_set_ne z] at e
      obtain ⟨x, vs, e1, e2, r1⟩ := R.b.bx m ds e
      refine ⟨x, vs, e1, ?_, r1.car c⟩
      rw [upd_ne (fun w => z ?_)]
      · exact e2
      · subst w
        exact nodup_ix' R.b.nd hn e1
  · by_cases z : b = a
    · subst z; rw [upd_same] at e; cases e; rfl
    · rw [upd_ne z] at e; exact R.b.nt b u h e
end
end Pn

set_option Elab.async false
set_option linter.all false
set_option maxRecDepth 100000
namespace Pn
open PySem PySem.Spec PyProof.Rows L2
variable {p : Pm} {N : List Str} {sc : SS}

/-! ### a new object as the frame's own -/
theorem own_fin {X : Cx} {F : Fx} {μ μ1 : List Addr} {σd : List SV} {st st1 : Sto} {σ : Sg} {H H1 : Hp} {i : Nat} {ds : List Pn.D} {v : V} (R : Rel X.K F μ σd st σ H) (s1 : Stp (· ∈ μ) μ H (· ∈ μ1) μ1 H1) (R1 : Rel X.K F μ1 σd st1 σ H1)
    (r1 : RR X.K F H μ1 σd st1 σ H1 (.lst ds) v .fr) (hl : i < σd.length) {E : Ends} (q : PostS X.K F E (MM F μ σd σ) μ H (.nx (σd.set i (.ow (.lst ds))) st1)) : E.nx (σ.set i (some v)) H1 := by
  obtain ⟨a, o, ho, rfl, e2, ha0, ha1, hn, R2, r2⟩ := r1
  cases o with
  | lst ds' =>
    cases e2
    have h0 : F.H0 a = none := by
      by_cases z : F.H0 a = none
      · exact z
      · exact absurd ha0 (R.al0 a z)
    obtain ⟨R3, mm⟩ := R1.setOw R2 r2 ha1 hn h0 hl
    refine q _ H1 μ1 ?_ R3
    have s := R.stp s1
    refine ⟨s.fr, fun b h => ?_, s.al, s.bx⟩
    rcases mm b h with h | h
    · exact s.mg b h
    · subst h; exact .inr ha0
theorem sx_ownN {i : Nat} {x : Str} {px pos : Pos} {e : Expr} {A : E} (hi : N[i]? = some x) (hs : stB sc.ss x = true) (hc : ∀ X, GSt p N sc X → swapsWith e (some (.Name x px)) pos.line X.env = pure false) (ha : SE p N sc e (ev p.cl A).1) :
    SX p N sc (.Assign [.Name x px] e pos) (exec p.cl (.own i A)) := by
  intro X G F μ σd st σ H R o h D q
  simp only [exec, Option.bind_eq_bind, Option.bind_eq_some_iff] at h
  obtain ⟨⟨d, fl, st1⟩, e1, h⟩ := h
  simp only at h
  split at h
  · split at h <;> cases h
    rename_i hl
    obtain ⟨h1, h2⟩ := G.g.fn x hs
    refine wst_of (ps_set G.g.nd (by rw [G.g.hN]; exact hi) h1 pe_we (hc X G) h2) ?_
    exact ha X G.g F μ σd st σ H R _ _ _ e1 _ fun v1 H1 μ1 s1 R1 r1 => own_fin R s1 R1 r1 hl q
  · cases h
theorem sx_ownC {i : Nat} {x : Str} {px pos spos : Pos} {elt tg iter : Expr} {ifs : List Expr} {scope : Scope} {own : List (Str × Nat)} {T : Tg} {I : It} {C : Eo} {A : E}
    (hi : N[i]? = some x) (hx : sc.sc.names.lookup x = some .local) (hl : (px.line == pos.line) = true) (hn : (scope.names.any fun (n, k) => n == x && (k == .local || k == .cell)) = false)
    (hb : blkC N sc.sc scope own = true) (hns : notSet iter = true) (hit : SI p N sc tg iter (evi p.cl I)) (ht : ST p N (blkS scope sc) tg T) (hts : ∀ j ∈ tgSlots T, j ∈ own.map (·.2)) (hc : SC p N (blkS scope sc) ifs (evc p.cl C)) (he : SE p N (blkS scope sc) elt (ev p.cl A).1) :
    SX p N sc (.Assign [.Name x px] (.ListComp elt [⟨tg, iter, ifs, 0⟩] scope pos) spos) (exec p.cl (.own i (.comp (own.map (·.2)) T I C A))) := by
  intro X G F μ σd st σ H R o h D q
  simp only [exec, Option.bind_eq_bind, Option.bind_eq_some_iff] at h
  obtain ⟨⟨d, fl, st1⟩, e1, h⟩ := h
  simp only at h
  split at h
  · split at h <;> cases h
    rename_i hll
    have hx' : X.env.scope.names.lookup x = some .local := by rw [G.g.hsc]; exact hx
    refine wst_of (ps_setLc (g := fun v σ H Q => ∀ s H0 C cl fp, WG (X.blk s H0 scope (compEnvC scope cl C X.env) fp) tg v σ H Q) (tt := fun σ H Q => ∀ s H0 C cl fp, WTs (X.blk s H0 scope (compEnvC scope cl C X.env) fp) ifs σ H Q)
      (te := fun σ H Q => ∀ s H0 C cl fp, WE (X.blk s H0 scope (compEnvC scope cl C X.env) fp) elt σ H Q) G.g.calm G.g.nd (by rw [G.g.hN]; exact hi) hx' (sw_true G.kind hx' hl hn) pi_w (blkOk_by (by rw [G.g.hN, G.g.hsc]; exact hb))
      (fun s H0 C cl fp => ⟨fun pins s1 σ1 H1 v u Q1 I1 r1 h1 => h1 s H0 C cl fp pins s1 u I1 r1⟩) (fun s H0 C cl fp => ⟨fun pins s1 σ1 H1 Q1 I1 h1 => h1 s H0 C cl fp pins s1 I1⟩) (fun s H0 C cl fp => ⟨fun pins s1 σ1 H1 Q1 I1 h1 => h1 s H0 C cl fp pins s1 I1⟩) (notSet_fold hns X.env)) ?_
    exact comp_core G.g R hit ht hts hc he e1 fun v1 H1 μ1 s1 R1 r1 => own_fin R s1 R1 r1 hll q
  · cases h

/-! ### x.append(e) -/
theorem sx_app {i : Nat} {x : Str} {px apos cpos pos : Pos} {e : Expr} {A : E} (hi : N[i]? = some x) (hv : visB sc.sc x = true) (hs : notStar e = true) (hline : (apos.endLine == cpos.line) = true) (ha : SE p N sc e (ev p.cl A).1) :
    SX p N sc (.Expr (.Call (.Attribute (.Name x px) "append" apos) [e] [] cpos) pos) (exec p.cl (.app i A)) := by
  intro X G F μ σd st σ H R o h D q
  simp only [exec, Option.bind_eq_bind, Option.bind_eq_some_iff] at h
  obtain ⟨⟨d, fl, st1⟩, e1, h⟩ := h
  simp only at h
  split at h
  · cases h
  rename_i hfl
  split at h
  · rename_i ds hd
    split at h <;> cases h
    rename_i hlen
    obtain ⟨vis, v1, v2⟩ := visB_vis hv
    have pe : PE X (.Name x px) (tVar i) := pe_var (by rw [G.g.hN]; exact hi) (by rw [G.g.hsc]; exact vis) v1 v2
    obtain ⟨a, ho, hσ, hH, r, hn, hm, h0⟩ := R.ow i _ hd
    refine wst_of (ps_expr (pe_bm PySem.F.plainAttrs_list PySem.F.slot_list_append PySem.F.type_list_append mt_append pe (pa_cons pe_we pa_nil (star_eq hs _ _)) (by rfl) (by rw [star_eq hs]; rfl) hline (star_eq hs _ _) rfl)) ?_
    obtain ⟨vs, rfl, rl⟩ := r
    refine ⟨_, hσ, .inl ⟨rfl, vs, .of hH⟩, ?_⟩
    refine ha X G.g F μ σd st σ H R _ _ _ e1 _ fun w H1 μ1 s1 R1 r1 => ?_
    obtain ⟨a', ho', hσ', hH', r', hn', hm', h0'⟩ := R1.ow i _ hd
    rw [hσ] at hσ'; cases hσ'
    obtain ⟨vs', rfl, rl'⟩ := r'
    have k := r1.kept R1 hfl
    have hl : vs'.length < sizeLine := by
      rw [rl'.length]
      have h2 : LIM ≤ sizeLine := lim_le
      omega
    refine ⟨a, vs', w, rfl, rfl, hH', hl, ?_⟩
    obtain ⟨R2, mm, s2⟩ := R1.writeO (o' := .lst (ds ++ [d])) (ho := .lst (vs' ++ [w])) hd hσ ⟨_, rfl, rl'.append (.cons k .nil)⟩
    refine q σ _ μ1 ?_ R2
    rw [mm]
    exact (R.stp s1).trans s2
  · cases h

/-! ### x[j] = e -/
theorem sws_no {e : Expr} (h : isComp e = false) (t : Expr) (l : Nat) (env : Env) : swapsWithSole [t] e l env = pure false := by
  show swapsWith e (some t) l env = pure false
  exact sw_no h _ _ _
theorem assign_sub {o i : Expr} {pos : Pos} {env : Env} (h : notSlice i = true) : ∀ v, assign (.Subscript o i pos) env v = (do
      let ov ← holding [v] (eval o env)
      let iv ← holding [v, ov] (eval i env)
      standAt pos
      holding [v, ov, iv] (setItem ov iv v)
      release [v, ov, iv] []) := by
  intro v
  cases i <;> first | rfl | cases h

theorem sx_setIx {i : Nat} {x : Str} {px tpos pos : Pos} {j e : Expr} {A B : E} (hi : N[i]? = some x) (hv : visB sc.sc x = true) (hcm : isComp e = false) (hnj : notSlice j = true) (ha : SE p N sc e (ev p.cl A).1) (hb : SE p N sc j (ev p.cl B).1) :
    SX p N sc (.Assign [.Subscript (.Name x px) j tpos] e pos) (exec p.cl (.setIx i B A)) := by
  intro X G F μ σd st σ H R o h D q
  simp only [exec, Option.bind_eq_bind, Option.bind_eq_some_iff] at h
  obtain ⟨⟨d, fl, st1⟩, e1, h⟩ := h
  simp only at h
  split at h
  · cases h
  rename_i hfl
  cases e2 : (ev p.cl B).1 σd st1 with
  | none => rw [e2] at h; cases h
  | some y =>
  obtain ⟨k, fk, st2⟩ := y
  simp only [e2, Option.bind_some] at h
  obtain ⟨vis, v1, v2⟩ := visB_vis hv
  have pe : PE X (.Name x px) (tVar i) := pe_var (by rw [G.g.hN]; exact hi) (by rw [G.g.hsc]; exact vis) v1 v2
  refine wst_of (ps_asg pe_we (pg_sub pe pe_we set_list (assign_sub hnj)) (sws_no hcm _ _ _) (by rfl) (by rfl)) ?_
  refine ha X G.g F μ σd st σ H R _ _ _ e1 _ fun w H1 μ1 s1 R1 r1 => ?_
  have kw := r1.kept R1 hfl
  split at h
  · rename_i kk n hd
    rw [Option.bind_eq_some_iff] at h
    obtain ⟨ds, e3, h⟩ := h
    rw [Option.bind_eq_some_iff] at h
    obtain ⟨jj, e4, h⟩ := h
    cases h
    obtain ⟨v, hσ, rv⟩ := R1.im i _ hd
    unfold Rv at rv
    obtain ⟨a, rfl, hn⟩ := rv
    refine ⟨_, hσ, ?_⟩
    refine hb X G.g F μ1 σd st1 σ H1 R1 _ _ _ e2 _ fun w2 H2 μ2 s2 R2 r2 => ?_
    have kw2 := kw.car (R1.carN s2)
    have hn2 := s2.bx n a hn
    obtain ⟨a', vs, e5, e6, r3⟩ := R2.b.bx n ds e3
    rw [hn2] at e5; cases e5
    refine ⟨a, vs, kk, jj, rfl, (r2.lk R2).int, e6, by rw [r3.length]; exact e4, ?_⟩
    obtain ⟨R3, s3⟩ := R2.writeB (ds' := ds.set jj d) (vs' := vs.set jj w) hn2 (List.getElem?_eq_some_iff.mp e3).1 (r3.set kw2 jj)
    exact q σ _ μ2 (R.stp ((s1.trans s2).trans s3)) R3
  · rename_i kk ds hd
    rw [Option.bind_eq_some_iff] at h
    obtain ⟨jj, e4, h⟩ := h
    cases h
    obtain ⟨a, ho, hσ, hH, r, hn, hm, h0⟩ := R1.ow i _ hd
    refine ⟨_, hσ, ?_⟩
    refine hb X G.g F μ1 σd st1 σ H1 R1 _ _ _ e2 _ fun w2 H2 μ2 s2 R2 r2 => ?_
    have kw2 := kw.car (R1.carN s2)
    obtain ⟨a', ho', hσ', hH', r', _, _, _⟩ := R2.ow i _ hd
    rw [hσ] at hσ'; cases hσ'
    obtain ⟨vs, rfl, r3⟩ := r'
    refine ⟨a, vs, kk, jj, rfl, (r2.lk R2).int, hH', by rw [r3.length]; exact e4, ?_⟩
    obtain ⟨R3, mm, s3⟩ := R2.writeO (o' := .lst (ds.set jj d)) (ho := .lst (vs.set jj w)) hd hσ ⟨_, rfl, r3.set kw2 jj⟩
    refine q σ _ μ2 ?_ R3
    rw [mm]
    exact (R.stp (s1.trans s2)).trans s3
  · cases h

/-! ### a, b = x, y with local names -/
theorem setAll_rel {X : Cx} {F : Fx} {μ : List Addr} {st : Sto} {H : Hp} : ∀ (is : List Nat) (ds : List D) (vs : List V) (σd σ1 : List SV) (σ : Sg), Rel X.K F μ σd st σ H → RvL X.K (MM F μ σd σ) μ H ds vs → setAll is ds σd = some σ1 →
    ∃ σ', Rel X.K F μ σ1 st σ' H ∧ (∀ a, Own σ1 σ' a → Own σd σ a) ∧ is.length = vs.length ∧ σ' = (is.zip vs).foldl (fun s q => s.set q.1 (some q.2)) σ
  | [], [], vs, σd, σ1, σ, R, r, h => by
    simp only [setAll] at h
    cases h
    rw [r.nil_inv]
    exact ⟨σ, R, fun _ h => h, rfl, rfl⟩
  | i :: is, d :: ds, vs, σd, σ1, σ, R, r, h => by
    simp only [setAll] at h
    split at h
    · rename_i hl
      obtain ⟨v, vr, rfl, a, b⟩ := r.cons_inv
      have R1 := R.setIm a hl
      have own : ∀ a, Own (σd.set i (.im d)) (σ.set i (some v)) a → Own σd σ a := by
        rintro a ⟨j, o, h3, h4⟩
        by_cases z : i = j
        · subst z; rw [List.getElem?_set_self hl] at h3; cases h3
        · rw [List.getElem?_set_ne z] at h3 h4; exact ⟨j, o, h3, h4⟩
      obtain ⟨σ', R2, o2, l2, e2⟩ := setAll_rel is ds vr _ σ1 _ R1 (b.car (Car.less (mm_set own))) h
      exact ⟨σ', R2, fun a h => own a (o2 a h), by simp [l2], by rw [e2]; rfl⟩
    · cases h
  | [], _ :: _, _, _, _, _, _, _, h => by simp [setAll] at h
  | _ :: _, [], _, _, _, _, _, _, h => by simp [setAll] at h
theorem sx_par2 {i j : Nat} {x y : Str} {a b : Expr} {B : Es} {px py pt pt2 pos : Pos} {kt k2 : Nat} (hi : N[i]? = some x) (hj : N[j]? = some y) (hij : i ≠ j) (hx : sc.sc.names.lookup x = some .local) (hy : sc.sc.names.lookup y = some .local)
    (hw : ∀ X, GSt p N sc X → swappedStores [.Tuple [.Name x px, .Name y py] kt pt] (.Tuple [a, b] k2 pt2) X.env = pure (some [x, y])) (ha : SA p N sc [a, b] (evs p.cl B)) :
    SX p N sc (.Assign [.Tuple [.Name x px, .Name y py] kt pt] (.Tuple [a, b] k2 pt2) pos) (exec p.cl (.par [i, j] B)) := by
  intro X G F μ σd st σ H R o h D q
  simp only [exec, Option.bind_eq_bind, Option.bind_eq_some_iff] at h
  obtain ⟨⟨ds, st1⟩, e1, σ1, e2, h⟩ := h
  cases h
  refine wst_of (ps_par G.g.calm G.g.nd (by rw [G.g.hN]; exact hi) (by rw [G.g.hN]; exact hj) hij (by rw [G.g.hsc]; exact hx) (by rw [G.g.hsc]; exact hy) pa_wa (hw X G)) ?_
  refine ha X G.g F μ σd st σ H R _ _ e1 _ fun vs H1 μ1 s1 R1 r1 => ?_
  obtain ⟨σ', R2, own, hl, e3⟩ := setAll_rel [i, j] ds vs σd σ1 σ R1 r1 e2
  match vs, hl with
  | [v, w], _ =>
    subst e3
    exact ⟨v, w, rfl, q _ H1 μ1 ((R.stp s1).trans (stp_agr own)) R2⟩
theorem sx_par3 {i j l : Nat} {x y z : Str} {a b c : Expr} {B : Es} {px py pz pt pt2 pos : Pos} {kt k2 : Nat} (hi : N[i]? = some x) (hj : N[j]? = some y) (hl : N[l]? = some z) (hij : i ≠ j) (hil : i ≠ l) (hjl : j ≠ l) (hx : sc.sc.names.lookup x = some .local) (hy : sc.sc.names.lookup y = some .local) (hz : sc.sc.names.lookup z = some .local)
    (hw : ∀ X, GSt p N sc X → swappedStores [.Tuple [.Name x px, .Name y py, .Name z pz] kt pt] (.Tuple [a, b, c] k2 pt2) X.env = pure (some [x, y, z])) (ha : SA p N sc [a, b, c] (evs p.cl B)) :
    SX p N sc (.Assign [.Tuple [.Name x px, .Name y py, .Name z pz] kt pt] (.Tuple [a, b, c] k2 pt2) pos) (exec p.cl (.par [i, j, l] B)) := by
  intro X G F μ σd st σ H R o h D q
  simp only [exec, Option.bind_eq_bind, Option.bind_eq_some_iff] at h
  obtain ⟨⟨ds, st1⟩, e1, σ1, e2, h⟩ := h
  cases h
  refine wst_of (ps_par3 G.g.calm G.g.nd (by rw [G.g.hN]; exact hi) (by rw [G.g.hN]; exact hj) (by rw [G.g.hN]; exact hl) hij hil hjl (by rw [G.g.hsc]; exact hx) (by rw [G.g.hsc]; exact hy) (by rw [G.g.hsc]; exact hz) pa_wa (hw X G)) ?_
  refine ha X G.g F μ σd st σ H R _ _ e1 _ fun vs H1 μ1 s1 R1 r1 => ?_
  obtain ⟨σ', R2, own, hlen, e3⟩ := setAll_rel [i, j, l] ds vs σd σ1 σ R1 r1 e2
  match vs, hlen with
  | [u, v, w], _ =>
    subst e3
    exact ⟨u, v, w, rfl, q _ H1 μ1 ((R.stp s1).trans (stp_agr own)) R2⟩

/-! ### loops -/
theorem sx_whl {c : Expr} {b : List Stmt} {C : E} {B : Ss} {pos : Pos} (hc : SB p N sc c (ev p.cl C).2) (hb : SXs p N sc b (execs p.cl B)) : SX p N sc (.While c b [] pos) (exec p.cl (.whl C B)) := by
  intro X G F μ σd st σ H R o h D q
  refine wst_of (ps_while G.pass pt_wt pss_ws) ?_
  refine ⟨fun m σ' H' => ∃ μ' σd' st', Rel X.K F μ' σd' st' σ' H' ∧ Stp (MM F μ σd σ) μ H (MM F μ' σd' σ') μ' H' ∧ whlGo (wTest (ev p.cl C).2) (execs p.cl B) m σd' st' = some o, ⟨FUEL, μ, σd, st, R, Stp.refl, by simpa only [exec] using h⟩, ?_⟩
  rintro m σ1 H1 ⟨μ1, σd1, st1, R1, s1, go⟩
  cases m with
  | zero => simp [whlGo] at go
  | succ m =>
    simp only [whlGo, wTest, Option.bind_eq_bind, Option.bind_eq_some_iff] at go
    obtain ⟨⟨k0, σd2, st20⟩, ⟨⟨k, st2⟩, e1, e2⟩, go⟩ := go
    cases e2
    refine hc X G.g F μ1 σd1 st1 σ1 H1 R1 _ _ e1 _ fun H2 μ2 s2 R2 => ?_
    have s12 := s1.trans (R1.stp s2)
    cases k with
    | false =>
      simp only [Bool.false_eq_true, if_false] at go ⊢
      cases go
      exact q σ1 H2 μ2 s12 R2
    | true =>
      simp only [if_true, Option.bind_eq_some_iff] at go ⊢
      obtain ⟨o1, e3, go⟩ := go
      refine ⟨fun σ' H' => ∃ m', m' < m + 1 ∧ ∃ μ' σd' st', Rel X.K F μ' σd' st' σ' H' ∧ Stp (MM F μ σd σ) μ H (MM F μ' σd' σ') μ' H' ∧ whlGo (wTest (ev p.cl C).2) (execs p.cl B) m' σd' st' = some o, fun σ' H' h => h, ?_⟩
      refine hb X G F μ2 σd1 st2 σ1 H2 R2 o1 e3 _ ?_
      cases o1 with
      | nx σ3 st3 => exact fun σ' H' μ' s' R' => ⟨m, Nat.lt_succ_self m, μ', σ3, st3, R', s12.trans s', go⟩
      | ct σ3 st3 => exact fun σ' H' μ' s' R' => ⟨m, Nat.lt_succ_self m, μ', σ3, st3, R', s12.trans s', go⟩
      | bk σ3 st3 => cases go; exact fun σ' H' μ' s' R' => q σ' H' μ' (s12.trans s') R'
      | rt d fl st3 => cases go; exact q
/-- while (x := e) op r -/
theorem sx_whlW {i : Nat} {x : Str} {px npos cpos : Pos} {e r : Expr} {op : CmpOp} {b : List Stmt} {A C : E} {oo : Cop} {B : Ss} {pos : Pos} (ho : copS oo = op) (hi : N[i]? = some x) (hs : stB sc.ss x = true) (hm : behindInMarks op r = false)
    (ha : SE p N sc e (ev p.cl A).1) (hr : SE p N sc r (ev p.cl C).1) (hb : SXs p N sc b (execs p.cl B)) : SX p N sc (.While (.Compare (.NamedExpr (.Name x px) e npos) [op] [r] cpos) b [] pos) (exec p.cl (.whlW i A oo C B)) := by
  intro X G F μ σd st σ H R o h D q
  subst ho
  obtain ⟨h1, h2⟩ := G.g.fn x hs
  have hpt : PTw X (.Compare (.NamedExpr (.Name x px) e npos) [copS oo] [r] cpos) (wCmp (WO X (compareOp (copS oo))) (wNm (wE (WE X e)) i) (WE X r)) :=
    ptw_cmp opr_wo (pew_named G.g.nd (by rw [G.g.hN]; exact hi) h1 (pew_of pe_we) h2) pe_we hm
  refine wst_of (ps_whileW (tb := WSs X b) (u := tNext) G.pass hpt pss_ws pss_nil) ?_
  simp only [exec] at h
  generalize hcc : wNamed i (ev p.cl A).1 oo (ev p.cl C).1 = cc at h
  refine ⟨fun m σ' H' => ∃ μ' σd' st', Rel X.K F μ' σd' st' σ' H' ∧ Stp (MM F μ σd σ) μ H (MM F μ' σd' σ') μ' H' ∧ whlGo cc (execs p.cl B) m σd' st' = some o, ⟨FUEL, μ, σd, st, R, Stp.refl, h⟩, ?_⟩
  rintro m σ1 H1 ⟨μ1, σd1, st1, R1, s1, go⟩
  cases m with
  | zero => simp [whlGo] at go
  | succ m =>
    simp only [whlGo, Option.bind_eq_bind, Option.bind_eq_some_iff] at go
    obtain ⟨⟨k, σd2, st2⟩, e0, go⟩ := go
    rw [← hcc] at e0
    simp only [wNamed, Option.bind_eq_bind, Option.bind_eq_some_iff] at e0
    obtain ⟨⟨xv, fl, st3⟩, e1, e0⟩ := e0
    simp only at e0
    split at e0
    · cases e0
    rename_i hfl
    rw [not_or] at hfl
    cases e2 : (ev p.cl C).1 (σd1.set i (.im xv)) st3 with
    | none => rw [e2] at e0; cases e0
    | some yy =>
    obtain ⟨yv, fy, st4⟩ := yy
    rw [e2] at e0
    cases e3 : cmpD oo xv yv with
    | none => simp [e3] at e0
    | some kk =>
    simp [e3] at e0
    obtain ⟨rfl, rfl, rfl⟩ := e0
    show WE X e σ1 H1 _
    refine ha X G.g F μ1 σd1 st1 σ1 H1 R1 _ _ _ e1 _ fun v2 H2 μ2 s2 R2 r2 => ?_
    have hl : i < σd1.length := by omega
    have kv := r2.kept R2 hfl.1
    have R3 := R2.setIm kv hl
    have own : ∀ a, Own (σd1.set i (.im xv)) (σ1.set i (some v2)) a → Own σd1 σ1 a := by
      rintro a ⟨j, o, h3, h4⟩
      by_cases z : i = j
      · subst z; rw [List.getElem?_set_self hl] at h3; cases h3
      · rw [List.getElem?_set_ne z] at h3 h4; exact ⟨j, o, h3, h4⟩
    have kv3 : Rv X.K (MM F μ2 (σd1.set i (.im xv)) (σ1.set i (some v2))) μ2 H2 xv v2 := kv.car (Car.less (mm_set own))
    show WE X r (σ1.set i (some v2)) H2 _
    refine hr X G.g F μ2 (σd1.set i (.im xv)) st3 (σ1.set i (some v2)) H2 R3 _ _ _ e2 _ fun v4 H4 μ4 s4 R4 r4 => ?_
    refine cmp_ok G.g.u64 ((Lk.of kv3).next R3 s4) (r4.lk R4) e3 ⟨kk, rfl, ?_⟩
    have s12 := (s1.trans (R1.stp s2)).trans ((stp_agr own).trans (R3.stp s4))
    cases kk with
    | false =>
      simp only [Bool.false_eq_true, if_false] at go ⊢
      cases go
      exact q _ H4 μ4 s12 R4
    | true =>
      simp only [if_true, Option.bind_eq_some_iff] at go ⊢
      obtain ⟨o1, e5, go⟩ := go
      refine ⟨fun σ' H' => ∃ m', m' < m + 1 ∧ ∃ μ' σd' st', Rel X.K F μ' σd' st' σ' H' ∧ Stp (MM F μ σd σ) μ H (MM F μ' σd' σ') μ' H' ∧ whlGo cc (execs p.cl B) m' σd' st' = some o, fun σ' H' h => h, ?_⟩
      refine hb X G F μ4 _ st4 _ H4 R4 o1 e5 _ ?_
      cases o1 with
      | nx σ3 st3 => exact fun σ' H' μ' s' R' => ⟨m, Nat.lt_succ_self m, μ', σ3, st3, R', s12.trans s', go⟩
      | ct σ3 st3 => exact fun σ' H' μ' s' R' => ⟨m, Nat.lt_succ_self m, μ', σ3, st3, R', s12.trans s', go⟩
      | bk σ3 st3 => cases go; exact fun σ' H' μ' s' R' => q σ' H' μ' (s12.trans s') R'
      | rt d fl st3 => cases go; exact q
theorem sx_for {tg iter : Expr} {b : List Stmt} {T : Tg} {I : It} {B : Ss} {pos : Pos} (hns : notSet iter = true) (hi : SI p N sc tg iter (evi p.cl I)) (ht : ST p N sc tg T) (hb : SXs p N sc b (execs p.cl B)) : SX p N sc (.For tg iter b [] pos) (exec p.cl (.forr T I B)) := by
  intro X G F μ σd st σ H R o h D q
  simp only [exec, Option.bind_eq_bind, Option.bind_eq_some_iff] at h
  obtain ⟨⟨items, fl, st1⟩, e1, h⟩ := h
  simp only at h
  split at h
  · cases h
  rename_i hfl
  refine wst_of (ps_for G.pass G.g.calm pi_w pg_wg pss_ws (notSet_fold hns X.env)) ?_
  refine hi X G.g F μ σd st σ H R _ _ _ e1 _ fun J H1 μ1 s1 R1 wk => ?_
  have wk' := wk (MM F μ1 σd σ) (fun _ h => h) fun z => absurd z hfl
  refine ⟨fun i m σ' H' => m = items.length - i ∧ i ≤ items.length ∧ ∃ μ' σd' st', Rel X.K F μ' σd' st' σ' H' ∧ Stp (MM F μ1 σd σ) μ1 H1 (MM F μ' σd' σ') μ' H' ∧ forGo T (execs p.cl B) (items.drop i) σd' st' = some o, ⟨_, rfl, Nat.zero_le _, μ1, σd, st1, R1, Stp.refl, h⟩, ?_⟩
  rintro i m σ2 H2 ⟨rfl, hile, μ2, σd2, st2, R2, s2, go⟩
  obtain ⟨wstop, wgo⟩ := wk' _ _ _ ⟨s2.fr, s2.mg, s2.bx⟩ i
  have s12 := (R.stp s1).trans s2
  by_cases hlt : i < items.length
  · have hdrop : items.drop i = items[i] :: items.drop (i + 1) := List.drop_eq_getElem_cons hlt
    obtain ⟨jgo, jyld⟩ := wgo items[i] (List.getElem?_eq_getElem hlt)
    rw [hdrop] at go
    simp only [forGo, Option.bind_eq_bind, Option.bind_eq_some_iff] at go
    obtain ⟨σd3, b1, o1, b2, go⟩ := go
    refine .inr ⟨jgo, fun σ' H' => ∃ m', m' < items.length - i ∧ (m' = items.length - (i + 1) ∧ i + 1 ≤ items.length ∧ ∃ μ' σd' st', Rel X.K F μ' σd' st' σ' H' ∧ Stp (MM F μ1 σd σ) μ1 H1 (MM F μ' σd' σ') μ' H' ∧ forGo T (execs p.cl B) (items.drop (i + 1)) σd' st' = some o), fun σ' H' h => h, fun x H3 hy => ?_⟩
    obtain ⟨gw, rx⟩ := jyld x H3 hy
    have R3 := R2.gw gw
    refine ht X G.g F μ2 σd2 st2 σ2 H3 R3 _ _ rx σd3 b1 _ fun σ4 R4 ag => ?_
    have s4 : Stp (MM F μ2 σd2 σ2) μ2 H2 (MM F μ2 σd3 σ4) μ2 H3 := (R2.stp (stp_gw gw)).trans (stp_agr (own_agr (bindTg_ow T b1) ag))
    refine hb X G F μ2 σd3 st2 σ4 H3 R4 o1 b2 _ ?_
    cases o1 with
    | nx σ5 st5 => exact fun σ' H' μ' s' R' => ⟨_, by omega, rfl, hlt, μ', σ5, st5, R', (s2.trans s4).trans s', go⟩
    | ct σ5 st5 => exact fun σ' H' μ' s' R' => ⟨_, by omega, rfl, hlt, μ', σ5, st5, R', (s2.trans s4).trans s', go⟩
    | bk σ5 st5 => cases go; exact fun σ' H' μ' s' R' => q σ' H' μ' ((s12.trans s4).trans s') R'
    | rt d fl st5 => cases go; exact q
  · have hie : i = items.length := by omega
    subst hie
    rw [List.drop_length] at go
    simp only [forGo] at go
    cases go
    exact .inl ⟨wstop (Nat.le_refl _), q σ2 H2 μ2 s12 R2⟩
end Pn

set_option Elab.async false
set_option linter.all false
set_option maxRecDepth 100000
namespace Pn
open PySem PySem.Spec PyProof.Rows L2

/-! ### a def by its body -/
section
variable {K : PySem.W.Frag} {M M' : Addr → Prop} {μ : List Addr} {st : Sto} {H : Hp}
theorem RelB.less (R : RelB K M μ st H) (h : ∀ a, M' a → M a) (hm : ∀ a, a ∈ μ → M' a) : RelB K M' μ st H := by
  have c : Car K M μ H M' μ H := Car.less h
  refine ⟨fun n ds e => ?_, R.sz, R.nd, fun a m => R.al a (h a m), fun a o m e => R.nt a o (h a m) e, hm⟩
  obtain ⟨a, vs, e1, e2, r⟩ := R.bx n ds e
  exact ⟨a, vs, e1, e2, r.car c⟩
end
theorem startD_get {fd : Fd} {ds : List D} {i : Nat} {sv : SV} (h : (startD fd ds)[i]? = some sv) : (∃ d, ds[i]? = some d ∧ sv = .im d) ∨ sv = .no := by
  unfold startD at h
  by_cases hi : i < ds.length
  · rw [List.getElem?_append_left (by simpa using hi), List.getElem?_map] at h
    cases e : ds[i]? with
    | none => rw [e] at h; cases h
    | some d => rw [e] at h; cases h; exact .inl ⟨d, rfl, rfl⟩
  · rw [List.getElem?_append_right (by simpa using hi)] at h
    rw [List.getElem?_replicate] at h
    split at h <;> cases h
    exact .inr rfl
theorem rel_start {K : PySem.W.Frag} {M : Addr → Prop} {μ : List Addr} {st : Sto} {H : Hp} {N : List Str} {fd : Fd} {ds : List D} {vs : List V} (b : RelB K M μ st H) (r : RvL K M μ H ds vs) (hn : fd.nn = N.length) (hl : ds.length ≤ N.length) :
    Rel K ⟨M, H, μ⟩ μ (startD fd ds) st (start N vs) H := by
  have noown : ∀ a, ¬ Own (startD fd ds) (start N vs) a := fun a ⟨i, o, e1, _⟩ => by
    rcases startD_get e1 with ⟨d, _, e⟩ | e <;> cases e
  have mm : MM ⟨M, H, μ⟩ μ (startD fd ds) (start N vs) = M := by
    funext a
    apply propext
    constructor
    · rintro (h | h | h)
      · exact h
      · exact b.inM a h
      · exact absurd h (noown a)
    · exact fun h => .inl h
  refine ⟨?_, fun i d e => ?_, fun i o e => ?_, fun i j o o' a e1 => ?_, by rw [mm]; exact b, fun _ _ e _ => e, fun _ h => h, fun _ _ h => h, fun a h => .inl h⟩
  · unfold startD L2.start
    rw [List.length_append, List.length_append, List.length_map, List.length_map, List.length_replicate, List.length_replicate, r.length, hn]
  · rw [mm]
    rcases startD_get e with ⟨d', e1, e2⟩ | e2
    · cases e2
      obtain ⟨v, e3, rv⟩ := r.get e1
      refine ⟨v, ?_, rv⟩
      unfold L2.start
      have hi : i < vs.length := (List.getElem?_eq_some_iff.mp e3).1
      rw [List.getElem?_append_left (by simpa using hi), List.getElem?_map, e3]
      rfl
    · cases e2
  · rcases startD_get e with ⟨d', e1, e2⟩ | e2 <;> cases e2
  · rcases startD_get e1 with ⟨d', e1, e2⟩ | e2 <;> cases e2
/-- a def's body sound: its promise a level higher -/
theorem fn_step {P : Program} {w : World} {K : PySem.W.Frag} {mg : Str → Option Value} {base : Heap} {tb : List Fd} {n f : Nat} {x qual : Str} {stm : Stmt} {fa : Addr} {fdt : FuncData} {N ps : List Str} {fd : Fd} {fns blts : List Str}
    (FU : Fun K x qual stm fa fdt) (S : FnScope N ps (defScope stm)) (htb : tb[f]? = some fd) (hnn : fd.nn = N.length) (hnp : fd.np = ps.length)
    (hbody : SXs ⟨runN tb n, n, fns, blts⟩ N ⟨defScope stm, defScope stm⟩ (defBody stm) (execs (runN tb n) fd.body))
    (hfns : ∀ X : Cx, X.prog = P → X.w = w → X.K = K → X.mg = mg → X.base = base → ∀ i y, fns[i]? = some y → FnAt X (runN tb n) n i y) (hblt : ∀ y, y ∈ blts → mg y = none) :
    FnOk P w K mg base CX0 (n + 1) fa fdt ps (spOf K (runN tb (n + 1)) ps.length f) := by
  refine FU.ok S (fun vs H Q E h => h.1) fun cdv A outer s H vs Q E hr h => ?_
  obtain ⟨hlen, M, μ, ds, st, d, fl, st', b, rv, hcl, post⟩ := h
  simp only [runN, htb] at hcl
  split at hcl
  · rename_i hds
    rw [Option.bind_eq_some_iff] at hcl
    obtain ⟨o, ho, hend⟩ := hcl
    have hpl : ps.length ≤ N.length := by have := congrArg List.length S.pre; rw [List.length_take] at this; omega
    have R : Rel K ⟨M, H, μ⟩ μ (startD fd ds) st (start N vs) H := rel_start b rv hnn (by omega)
    have G : GSt ⟨runN tb n, n, fns, blts⟩ N ⟨defScope stm, defScope stm⟩ (cxOf CX0 P w K mg base N qual (defScope stm) fa cdv A outer s H E).nox := by
      refine ⟨⟨rfl, hr, rfl, S.nd, rfl, fun y hy => ?_, fun i y hy => hfns _ rfl rfl rfl rfl rfl i y hy, hblt⟩, PassesOwn.never, S.kind⟩
      have hy' : stB (defScope stm) y = true := hy
      unfold stB at hy'
      split at hy'
      · exact ⟨.inl (by assumption), .inl rfl⟩
      · exact ⟨.inr (by assumption), .inl rfl⟩
      · cases hy'
    refine ⟨_, pss_ws, ?_⟩
    refine hbody _ G ⟨M, H, μ⟩ μ (startD fd ds) st (start N vs) H R o ho _ ?_
    have stp : ∀ {μ' : List Addr} {σd' : List SV} {st1 : Sto} {σ' : Sg} {H' : Hp}, Rel K ⟨M, H, μ⟩ μ' σd' st1 σ' H' → Stp (· ∈ μ) μ H (· ∈ μ') μ' H' ∧ RelB K (fun a => M a ∨ a ∈ μ') μ' st1 H' := fun {μ' σd' st1 σ' H'} R' => by
      refine ⟨⟨R'.fr, R'.nw, R'.al0, R'.pre⟩, R'.b.less (fun a h => ?_) fun a h => .inr h⟩
      rcases h with h | h
      · exact .inl h
      · exact .inr (.inl h)
    have sub : ∀ {μ' : List Addr} {σd' : List SV} {σ' : Sg} a, (M a ∨ a ∈ μ') → MM ⟨M, H, μ⟩ μ' σd' σ' a := fun a h => by
      rcases h with h | h
      · exact .inl h
      · exact .inr (.inl h)
    cases o with
    | nx σd' st1 =>
      simp only [endOf] at hend
      cases hend
      intro σ' H' μ' s' R'
      obtain ⟨s2, b2⟩ := stp R'
      exact post .non H' μ' s2 b2 (show Rv K (fun a => M a ∨ a ∈ μ') μ' H' .non .non from rv_non)
    | bk σd' st1 => cases hend
    | ct σd' st1 => cases hend
    | rt d0 fl0 st1 =>
      simp only [endOf] at hend
      cases hend
      intro v σd' σ' H' μ' R' r'
      obtain ⟨s2, b2⟩ := stp R'
      refine post v H' μ' s2 b2 ?_
      cases fl0 with
      | pl =>
        show Rv K (fun a => M a ∨ a ∈ μ') μ' H' d v
        exact Rv.car (Car.less sub) r'
      | fr =>
        obtain ⟨a, u, hu, e1, e2, e3, e4, e5, R6, r7⟩ := r'
        have sub2 : ∀ b, ((M b ∨ b ∈ μ') ∨ b = a) → MM (Fx.plus ⟨M, H, μ⟩ a) μ' σd' σ' b := fun b h => by
          rw [MM.plus]
          rcases h with h | h
          · exact .inl (sub b h)
          · exact .inr h
        exact ⟨a, u, hu, e1, e2, e3, e4, fun h => e5 (sub a h), R6.b.less sub2 fun b h => .inl (.inr h), r7.car (Car.less sub2)⟩
      | lk =>
        obtain ⟨i, u, a, e1, e2, rfl, rfl⟩ := r'
        obtain ⟨a', hu, e3, e4, r, n1, m1, z1⟩ := R'.ow i u e1
        rw [e2] at e3; cases e3
        have sub2 : ∀ b, ((M b ∨ b ∈ μ') ∨ b = a) → MM ⟨M, H, μ⟩ μ' σd' σ' b := fun b h => by
          rcases h with h | h
          · exact sub b h
          · subst h; exact .inr (.inr ⟨i, u, e1, e2⟩)
        refine ⟨a, u, hu, rfl, rfl, z1, e4, fun h => ?_, R'.b.less sub2 fun b h => .inl (.inr h), r.car (Car.less sub2)⟩
        rcases h with h | h
        · exact m1 h
        · exact n1 h
  · cases hcl

/-- the text of a def beside its evaluation -/
structure DefT (fns blts : List Str) (fd : Fd) (stm : Stmt) (N ps : List Str) : Prop where
  sc : FnScope N ps (defScope stm)
  nn : fd.nn = N.length
  np : fd.np = ps.length
  body : ∀ (cl : Cl) (n : Nat), SXs ⟨cl, n, fns, blts⟩ N ⟨defScope stm, defScope stm⟩ (defBody stm) (execs cl fd.body)
/-- where a def stands behind the top -/
structure DefA (K : PySem.W.Frag) (mg : Str → Option Value) (x : Str) (stm : Stmt) (ps : List Str) (fa : Addr) (fdt : FuncData) : Prop where
  fu : Fun K x x stm fa fdt
  at_ : mg x = some (.ref fa)
  bi : Binds K fdt ps []
/-- all defs of a table, at every level -/
theorem fns_ok {P : Program} {w : World} {K : PySem.W.Frag} {mg : Str → Option Value} {base : Heap} {tb : List Fd} {fns blts : List Str}
    (h : ∀ (i : Nat) y, fns[i]? = some y → ∃ fd stm N ps fa fdt, tb[i]? = some fd ∧ DefT fns blts fd stm N ps ∧ DefA K mg y stm ps fa fdt) (hblt : ∀ y, y ∈ blts → mg y = none) :
    ∀ (n : Nat) (X : Cx), X.prog = P → X.w = w → X.K = K → X.mg = mg → X.base = base → ∀ i y, fns[i]? = some y → FnAt X (runN tb n) n i y := by
  intro n
  induction n with
  | zero =>
    intro X hP hw hK hm hb i y hy
    obtain ⟨fd, stm, N, ps, fa, fdt, h1, h2, h3⟩ := h i y hy
    subst hP hw hK hm hb
    refine ⟨fa, fdt, ps, h3.at_, h3.fu.kp, h3.bi, fun ds st r e => by simp [runN] at e, ⟨fun vs H Q E h => h.1, fun A outer s H args us vs Q E hr he hb hv hs => ?_⟩⟩
    obtain ⟨_, _, _, _, _, _, _, _, _, _, e, _⟩ := hs
    simp [runN] at e
  | succ n ih =>
    intro X hP hw hK hm hb i y hy
    obtain ⟨fd, stm, N, ps, fa, fdt, h1, h2, h3⟩ := h i y hy
    subst hP hw hK hm hb
    refine ⟨fa, fdt, ps, h3.at_, h3.fu.kp, h3.bi, fun ds st r e => ?_, fn_step h3.fu h2.sc h1 h2.nn h2.np (h2.body _ _) ih hblt⟩
    simp only [runN, h1] at e
    split at e
    · rename_i hl
      rw [hl, h2.np]
    · cases e
end Pn

set_option Elab.async false
set_option linter.all false
set_option maxRecDepth 100000
namespace Pn
open PySem PySem.Spec PyProof.Rows L2

/-! ### stores of several names at once -/
def swNames (sc : Scope) (ts : List Expr) : List Str :=
  ts.filterMap fun
    | .Name id pos => if sc.names.lookup id == some .local && pos.line == (ts.head?.map (·.pos.line)).getD 0 then some id else none
    | _ => none
def noStars (vs : List Expr) : Bool := vs.all notStar
theorem star_noStars {vs : List Expr} (h : noStars vs = true) : (vs.any fun | .Starred .. => true | _ => false) = false := by
  induction vs with
  | nil => rfl
  | cons e r ih =>
    unfold noStars at h
    rw [List.all_cons, Bool.and_eq_true] at h
    rw [List.any_cons, ih h.2, Bool.or_false]
    cases e <;> first | rfl | (exact absurd h.1 Bool.false_ne_true)
theorem sw_some {ts vs : List Expr} {k k2 : Nat} {p p2 : Pos} {env : Env} {sc : Scope} (hsc : env.scope = sc) (hk : sc.kind = .function) (h23 : (ts.length == 2 || ts.length == 3) = true) (hl : vs.length = ts.length) (hs : noStars vs = true)
    (hn : (swNames sc ts).length = ts.length) (he : (swNames sc ts).eraseDups.length = (swNames sc ts).length) (hf : vs.all (foldedForSure 8) = false) (hc : vs.all (constantsAlone 8) = false) :
    swappedStores [.Tuple ts k p] (.Tuple vs k2 p2) env = pure (some (swNames sc ts)) := by
  subst hsc
  have hbk : env.blockKind = .function := blockKind_fn hk
  unfold swappedStores
  have e1 : (!(ts.length == 2 || ts.length == 3) || vs.length != ts.length || env.blockKind != .function) = false := by
    rw [h23, hl, hbk]; simp
  have e2 := star_noStars hs
  simp only [e1, Bool.false_eq_true, if_false]
  refine (if_neg (fun z => Bool.false_ne_true (e2.symm.trans z))).trans ?_
  show (if ((swNames env.scope ts).length != ts.length || (swNames env.scope ts).eraseDups.length != (swNames env.scope ts).length) = true then _ else _) = _
  rw [hn, he, hn]
  simp only [hf, hc, bne_self_eq_false, Bool.or_self, Bool.false_eq_true, if_false]
  rfl
theorem sw_noneN {ts vs : List Expr} {k k2 : Nat} {p p2 : Pos} {env : Env} {sc : Scope} (hsc : env.scope = sc) (h : (vs.length != ts.length || !(ts.length == 2 || ts.length == 3) || (noStars vs && (swNames sc ts).length != ts.length)) = true) :
    swappedStores [.Tuple ts k p] (.Tuple vs k2 p2) env = pure none := by
  subst hsc
  unfold swappedStores
  by_cases e1 : (!(ts.length == 2 || ts.length == 3) || vs.length != ts.length || env.blockKind != .function) = true
  · simp only [e1, if_true]
  · have e1' : (!(ts.length == 2 || ts.length == 3) || vs.length != ts.length || env.blockKind != .function) = false := by simpa using e1
    have h1 : (noStars vs && (swNames env.scope ts).length != ts.length) = true := by
      simp only [Bool.or_eq_true, Bool.or_eq_false_iff] at h e1'
      rcases h with (h | h) | h
      · rw [e1'.1.2] at h; cases h
      · rw [e1'.1.1] at h; cases h
      · exact h
    rw [Bool.and_eq_true] at h1
    have e2 := star_noStars h1.1
    simp only [e1', Bool.false_eq_true, if_false]
    refine (if_neg (fun z => Bool.false_ne_true (e2.symm.trans z))).trans ?_
    show (if ((swNames env.scope ts).length != ts.length || (swNames env.scope ts).eraseDups.length != (swNames env.scope ts).length) = true then _ else _) = _
    rw [h1.2, Bool.true_or]
    rfl
end Pn

set_option Elab.async false
set_option linter.all false
set_option maxRecDepth 100000
namespace Pn
open PySem PySem.Spec PyProof.Rows L2

structure CC where
  fns : List Str
  blts : List Str
  boxf : List Nat
def bopOf : Operator → Option Bop
  | .Add => some .add | .Sub => some .sub | .Mult => some .mul | .FloorDiv => some .fdiv | .Mod => some .mod | .Pow => some .pow | .LShift => some .shl | .RShift => some .shr
  | .BitAnd => some .and | .BitOr => some .or | .BitXor => some .xor | _ => none
theorem bopOf_ok {op : Operator} {o : Bop} (h : bopOf op = some o) : opS o = op := by
  cases op <;> simp only [bopOf] at h <;> cases h <;> rfl
def copOf : CmpOp → Option Cop
  | .Lt => some .lt | .LtE => some .le | .Gt => some .gt | .GtE => some .ge | .Eq => some .eq | .NotEq => some .ne | .Is => some .is | .IsNot => some .isnot | .In => some .in_ | .NotIn => some .notin
theorem copOf_ok {op : CmpOp} {o : Cop} (h : copOf op = some o) : copS o = op := by
  cases op <;> simp only [copOf] at h <;> cases h <;> rfl
def bfAll : List Bf := [.len, .int, .abs, .min, .max, .sum, .all, .any, .tuple, .list, .sorted]
def bfOf (x : Str) : Option Bf := bfAll.find? fun f => decide (bfName f = x)
theorem bfOf_ok {x : Str} {f : Bf} (h : bfOf x = some f) : bfName f = x := of_decide_eq_true (List.find?_some (p := fun f => decide (bfName f = x)) h)
def slotOf (N : List Str) (x : Str) : Option Nat := match N.findIdx? (fun y => decide (y = x)) with
  | some i => if N[i]? = some x then some i else none
  | none => none
theorem slotOf_ok {N : List Str} {x : Str} {i : Nat} (h : slotOf N x = some i) : N[i]? = some x := by
  unfold slotOf at h
  split at h
  · split at h <;> cases h
    assumption
  · cases h
def isBt : E → Bool
  | .nt _ => false | .and _ _ => false | .or _ _ => false | .ite _ _ _ => false | _ => true
theorem isBt_ok {cl : Cl} {A : E} (h : isBt A = true) : (ev cl A).2 = (byTru (ev cl A).1).2 := by
  cases A <;> first | rfl | cases h
def vOk : E → Bool
  | .nt A => isBt A && vOk A
  | .and A B => vOk A && vOk B
  | .or A B => vOk A && vOk B
  | .ite _ A B => vOk A && vOk B
  | _ => true
abbrev Rec := SS → Expr → Option E
def RecOk (p : Pm) (N : List Str) (rec : Rec) : Prop := ∀ sc e A, rec sc e = some A → (vOk A = true → SE p N sc e (ev p.cl A).1) ∧ SB p N sc e (ev p.cl A).2
def recV (rec : Rec) : Rec := fun sc e => match rec sc e with
  | some A => if vOk A then some A else none
  | none => none
theorem recV_ok {p : Pm} {N : List Str} {rec : Rec} (h : RecOk p N rec) {sc : SS} {e : Expr} {A : E} (e1 : recV rec sc e = some A) : SE p N sc e (ev p.cl A).1 := by
  unfold recV at e1
  split at e1
  · split at e1 <;> cases e1
    exact (h _ _ _ (by assumption)).1 (by assumption)
  · cases e1
def compL (rec : Rec) (sc : SS) : List Expr → Option Es
  | [] => some .nil
  | e :: r => if notStar e then (recV rec sc e).bind fun A => (compL rec sc r).map fun B => .cons A B else none
theorem compL_ok {p : Pm} {N : List Str} {rec : Rec} (h : RecOk p N rec) {sc : SS} : ∀ {es : List Expr} {B : Es}, compL rec sc es = some B → SA p N sc es (evs p.cl B) ∧ SL p N sc es (evl p.cl B) ∧ es.all notStar = true
  | [], B, e => by
    simp only [compL] at e
    cases e
    exact ⟨sa_nil, sl_nil, rfl⟩
  | x :: r, B, e => by
    simp only [compL] at e
    split at e
    · rename_i hs
      rw [Option.bind_eq_some_iff] at e
      obtain ⟨A, e1, e⟩ := e
      rw [Option.map_eq_some_iff] at e
      obtain ⟨B', e2, rfl⟩ := e
      obtain ⟨h1, h2, h3⟩ := compL_ok h e2
      exact ⟨sa_cons hs (recV_ok h e1) h1, sl_cons hs (recV_ok h e1) h2, by rw [List.all_cons, hs, h3]; rfl⟩
    · cases e
def compO (rec : Rec) (sc : SS) : Option Expr → Option Eo
  | none => some .no
  | some e => (recV rec sc e).map .so
theorem compO_ok {p : Pm} {N : List Str} {rec : Rec} (h : RecOk p N rec) {sc : SS} {o : Option Expr} {B : Eo} (e : compO rec sc o = some B) : SP' p N sc o (evo p.cl B) := by
  unfold compO at e
  split at e
  · cases e; exact sp_none
  · rw [Option.map_eq_some_iff] at e
    obtain ⟨A, e1, rfl⟩ := e
    exact sp_some (recV_ok h e1)
def compC (rec : Rec) (sc : SS) : List Expr → Option Eo
  | [] => some .no
  | [e] => (rec sc e).map .so
  | _ => none
theorem compC_ok {p : Pm} {N : List Str} {rec : Rec} (h : RecOk p N rec) {sc : SS} {o : List Expr} {B : Eo} (e : compC rec sc o = some B) : SC p N sc o (evc p.cl B) := by
  unfold compC at e
  split at e
  · cases e; exact sc_nil
  · rw [Option.map_eq_some_iff] at e
    obtain ⟨A, e1, rfl⟩ := e
    exact sc_one (h _ _ _ e1).2
  · cases e
mutual
def compT (N : List Str) (ss : Scope) : Nat → Expr → Option Tg
  | 0, _ => none
  | k + 1, e => match e with
    | .Name x _ => if stB ss x then (slotOf N x).map .nm else none
    | .Tuple es _ _ => if es.all notStar then (compTs N ss k es).map .tu else none
    | _ => none
def compTs (N : List Str) (ss : Scope) : Nat → List Expr → Option Tgs
  | 0, _ => none
  | k + 1, es => match es with
    | [] => some .nil
    | e :: r => (compT N ss k e).bind fun t => (compTs N ss k r).map fun r => .cons t r
end
theorem compT_ok {p : Pm} {N : List Str} {sc : SS} : ∀ (k : Nat), (∀ {e : Expr} {T : Tg}, compT N sc.ss k e = some T → ST p N sc e T) ∧ (∀ {es : List Expr} {T : Tgs}, compTs N sc.ss k es = some T → es.all notStar = true → STs p N sc es T ∧ tgsLen T = es.length) := by
  intro k
  induction k with
  | zero => exact ⟨fun h => by simp [compT] at h, fun h => by simp [compTs] at h⟩
  | succ k ih =>
    refine ⟨fun {e T} h => ?_, fun {es T} h hs => ?_⟩
    · simp only [compT] at h
      split at h
      · split at h
        · rename_i hst
          rw [Option.map_eq_some_iff] at h
          obtain ⟨i, e1, rfl⟩ := h
          exact st_name (slotOf_ok e1) hst
        · cases h
      · split at h
        · rename_i hs
          rw [Option.map_eq_some_iff] at h
          obtain ⟨T', e1, rfl⟩ := h
          obtain ⟨h1, h2⟩ := ih.2 e1 hs
          exact st_tup hs h2 h1
        · cases h
      · cases h
    · simp only [compTs] at h
      split at h
      · cases h
        exact ⟨sts_nil, rfl⟩
      · rw [Option.bind_eq_some_iff] at h
        obtain ⟨t, e1, h⟩ := h
        rw [Option.map_eq_some_iff] at h
        obtain ⟨r, e2, rfl⟩ := h
        rw [List.all_cons, Bool.and_eq_true] at hs
        obtain ⟨h1, h2⟩ := ih.2 e2 hs.2
        exact ⟨sts_cons hs.1 (ih.1 e1) h1, by simp [tgsLen, h2]⟩
/-- what is walked -/
def compIt (rec : Rec) (c : CC) (sc : SS) (tg iter : Expr) : Option It :=
  match iter with
  | .Call (.Name x _) [a] [] _ =>
    if x = "range" then (if glB sc.sc "range" && decide (("range" : Str) ∈ c.blts) && notStar a then (recV rec sc a).map .rng else none)
    else if x = "enumerate" then (match tg with
      | .Tuple _ _ _ => if glB sc.sc "enumerate" && decide (("enumerate" : Str) ∈ c.blts) && notStar a then (recV rec sc a).map .enum else none
      | _ => none)
    else (recV rec sc iter).map .seq
  | .Call (.Name x _) [a, b] [] _ =>
    if x = "range" then (if glB sc.sc "range" && decide (("range" : Str) ∈ c.blts) && notStar a && notStar b then (recV rec sc a).bind fun A => (recV rec sc b).map fun B => .rng2 A B else none)
    else if x = "zip" then none else (recV rec sc iter).map .seq
  | _ => (recV rec sc iter).map .seq
theorem compIt_ok {p : Pm} {N : List Str} {rec : Rec} {c : CC} (hc : c.blts = p.blts) (h : RecOk p N rec) {sc : SS} {tg iter : Expr} {I : It} (e : compIt rec c sc tg iter = some I) : SI p N sc tg iter (evi p.cl I) := by
  have sq : ∀ {I : It}, (recV rec sc iter).map It.seq = some I → SI p N sc tg iter (evi p.cl I) := fun {I} e => by
    rw [Option.map_eq_some_iff] at e
    obtain ⟨A, e1, rfl⟩ := e
    exact si_seq (recV_ok h e1)
  unfold compIt at e
  split at e
  · split at e
    · rename_i hx
      split at e
      · rename_i hg
        simp only [Bool.and_eq_true, decide_eq_true_eq] at hg
        rw [Option.map_eq_some_iff] at e
        obtain ⟨A, e1, rfl⟩ := e
        rw [hx]
        exact si_rng hg.1.1 (hc ▸ hg.1.2) hg.2 (recV_ok h e1)
      · cases e
    · split at e
      · rename_i hx
        split at e
        · split at e
          · rename_i hg
            simp only [Bool.and_eq_true, decide_eq_true_eq] at hg
            rw [Option.map_eq_some_iff] at e
            obtain ⟨A, e1, rfl⟩ := e
            rw [hx]
            exact si_enum hg.1.1 (hc ▸ hg.1.2) hg.2 (recV_ok h e1)
          · cases e
        · cases e
      · exact sq e
  · split at e
    · rename_i hx
      split at e
      · rename_i hg
        simp only [Bool.and_eq_true, decide_eq_true_eq] at hg
        rw [Option.bind_eq_some_iff] at e
        obtain ⟨A, e1, e⟩ := e
        rw [Option.map_eq_some_iff] at e
        obtain ⟨B, e2, rfl⟩ := e
        rw [hx]
        exact si_rng2 hg.1.1.1 (hc ▸ hg.1.1.2) hg.1.2 hg.2 (recV_ok h e1) (recV_ok h e2)
      · cases e
    · split at e
      · cases e
      · exact sq e
  · exact sq e
/-- comprehensions -/
def ownOf (N : List Str) (scope : Scope) : List (Str × Nat) := scope.names.filterMap fun (n, k) => if k == .local || k == .cell then (slotOf N n).map fun i => (n, i) else none
def compLC (rec : Rec) (c : CC) (N : List Str) (sc : SS) (elt tg iter : Expr) (ifs : List Expr) (scope : Scope) : Option (Tg × It × Eo × E) :=
  if blkC N sc.sc scope (ownOf N scope) && notSet iter then
    (compIt rec c sc tg iter).bind fun I => (compT N scope 10 tg).bind fun T => if (tgSlots T).all fun j => decide (j ∈ (ownOf N scope).map (·.2)) then
      (compC rec (blkS scope sc) ifs).bind fun C => (recV rec (blkS scope sc) elt).map fun A => (T, I, C, A) else none
  else none
theorem compLC_ok {p : Pm} {N : List Str} {rec : Rec} {c : CC} (hc : c.blts = p.blts) (h : RecOk p N rec) {sc : SS} {elt tg iter : Expr} {ifs : List Expr} {scope : Scope} {T : Tg} {I : It} {C : Eo} {A : E}
    (e : compLC rec c N sc elt tg iter ifs scope = some (T, I, C, A)) : blkC N sc.sc scope (ownOf N scope) = true ∧ notSet iter = true ∧ SI p N sc tg iter (evi p.cl I) ∧ ST p N (blkS scope sc) tg T ∧ (∀ j ∈ tgSlots T, j ∈ (ownOf N scope).map (·.2)) ∧
      SC p N (blkS scope sc) ifs (evc p.cl C) ∧ SE p N (blkS scope sc) elt (ev p.cl A).1 := by
  unfold compLC at e
  split at e
  · rename_i h1
    rw [Bool.and_eq_true] at h1
    rw [Option.bind_eq_some_iff] at e
    obtain ⟨I', e1, e⟩ := e
    rw [Option.bind_eq_some_iff] at e
    obtain ⟨T', e2, e⟩ := e
    split at e
    · rename_i h2
      rw [Option.bind_eq_some_iff] at e
      obtain ⟨C', e3, e⟩ := e
      rw [Option.map_eq_some_iff] at e
      obtain ⟨A', e4, e⟩ := e
      cases e
      refine ⟨h1.1, h1.2, compIt_ok hc h e1, (compT_ok (sc := blkS scope sc) 10).1 e2, fun j hj => of_decide_eq_true (List.all_eq_true.mp h2 j hj), compC_ok h e3, recV_ok h e4⟩
    · cases e
  · cases e
def compCall (rec : Rec) (c : CC) (sc : SS) (x : Str) (args : List Expr) : Option E :=
  if glB sc.sc x then match slotOf c.fns x with
    | some f => (compL rec sc args).map fun B => if f ∈ c.boxf then .box (.call f B) else .call f B
    | none => match bfOf x with
      | some f => if x ∈ c.blts ∧ args ≠ [] then (compL rec sc args).map fun B => .bcf f B else none
      | none => none
  else none
def compBool (rec : Rec) (sc : SS) (op : BoolOp) : List Expr → Option E
  | [] => none
  | [e] => rec sc e
  | e :: r => (rec sc e).bind fun A => (compBool rec sc op r).map fun B => match op with | .And => .and A B | .Or => .or A B
def compE1 (c : CC) (N : List Str) (rec : Rec) : Rec := fun sc e =>
  match e with
  | .Constant (.int i) _ _ => some (.cInt i)
  | .Constant (.bool b) _ _ => some (.cBl b)
  | .Constant .none _ _ => some .cNon
  | .Constant (.str x) _ _ => some (.cStr x)
  | .Name x _ => if visB sc.sc x then (slotOf N x).map .var else none
  | .Tuple es _ _ => (compL rec sc es).map .tup
  | .List es _ => (compL rec sc es).map .lst
  | .BinOp a op b _ => (bopOf op).bind fun o => (recV rec sc a).bind fun A => (recV rec sc b).map fun B => .bin o A B
  | .UnaryOp .USub a _ => (recV rec sc a).map .neg
  | .UnaryOp .Not a _ => (rec sc a).map .nt
  | .BoolOp op es _ => compBool rec sc op es
  | .IfExp t a b _ => (rec sc t).bind fun C => (rec sc a).bind fun A => (rec sc b).map fun B => .ite C A B
  | .Compare a [op] [b] _ => if behindInMarks op b then none else (copOf op).bind fun o => (recV rec sc a).bind fun A => (recV rec sc b).map fun B => .cmp o A B
  | .Compare a [op, op'] [b, d] _ => if lastMarks [op, op'] [b, d] then none else (copOf op).bind fun o => (copOf op').bind fun o' => (recV rec sc a).bind fun A => (recV rec sc b).bind fun B => (recV rec sc d).map fun C => .chain o o' A B C
  | .Call (.Name x _) args [] _ => compCall rec c sc x args
  | .Subscript a (.Slice lo hi none _) _ => (recV rec sc a).bind fun A => (compO rec sc lo).bind fun L => (compO rec sc hi).map fun U => .sl A L U
  | .Subscript a i _ => if notSlice i then (recV rec sc a).bind fun A => (recV rec sc i).map fun I => .ix A I else none
  | .ListComp elt [⟨tg, iter, ifs, 0⟩] scope _ => (compLC rec c N sc elt tg iter ifs scope).map fun (T, I, C, A) => .comp ((ownOf N scope).map (·.2)) T I C A
  | _ => none
theorem sb_ite {p : Pm} {N : List Str} {sc : SS} {c a b : Expr} {C A B : E} {pos : Pos} (hc : SB p N sc c (ev p.cl C).2) (ha : SB p N sc a (ev p.cl A).2) (hb : SB p N sc b (ev p.cl B).2) : SB p N sc (.IfExp c a b pos) (ev p.cl (.ite C A B)).2 := by
  intro X G F μ σd st σ H R k st' h Q q
  simp only [ev, Option.bind_eq_bind, Option.bind_eq_some_iff] at h
  obtain ⟨⟨k1, st1⟩, e1, h⟩ := h
  intro pins s I
  show wpAny _ _ (do if ← isTrue c X.env (eval c X.env) then isTrue a X.env (eval a X.env) else isTrue b X.env (eval b X.env)) _ _ s
  have step := hc X G F μ σd st σ H R _ _ e1 (fun k' H1 => k' = k1 ∧ ∃ μ1, Stp (· ∈ μ) μ H (· ∈ μ1) μ1 H1 ∧ Rel X.K F μ1 σd st1 σ H1) fun H1 μ1 s1 R1 => ⟨rfl, μ1, s1, R1⟩
  refine wpAny_bind (thn (step pins s I) fun k' s1 ⟨H1, I1, ek, μ1, st1', R1⟩ => ?_)
  subst ek
  cases k' with
  | true =>
    simp only [if_true] at h ⊢
    exact ha X G F μ1 σd st1 σ H1 R1 _ _ h _ (fun H2 μ2 s2 R2 => q _ μ2 (st1'.trans s2) R2) pins s1 I1
  | false =>
    simp only [Bool.false_eq_true, if_false] at h ⊢
    exact hb X G F μ1 σd st1 σ H1 R1 _ _ h _ (fun H2 μ2 s2 R2 => q _ μ2 (st1'.trans s2) R2) pins s1 I1
section
variable {p : Pm} {N : List Str} {rec : Rec} {c : CC}
theorem compBool_ok (h : RecOk p N rec) {sc : SS} {op : BoolOp} {pos : Pos} : ∀ {es : List Expr} {A : E}, compBool rec sc op es = some A → es ≠ [] ∧ (vOk A = true → SE p N sc (.BoolOp op es pos) (ev p.cl A).1) ∧ SB p N sc (.BoolOp op es pos) (ev p.cl A).2
  | [], A, e => by simp [compBool] at e
  | [x], A, e => by
    simp only [compBool] at e
    exact ⟨by simp, fun hv => se_one ((h _ _ _ e).1 hv), sb_one (h _ _ _ e).2⟩
  | x :: y :: r, A, e => by
    simp only [compBool, Option.bind_eq_some_iff, Option.map_eq_some_iff] at e
    obtain ⟨A1, e1, B, e2, e3⟩ := e
    have e2' : compBool rec sc op (y :: r) = some B := e2
    obtain ⟨h1, h2, h3⟩ := compBool_ok h (pos := pos) e2'
    obtain ⟨g1, g2⟩ := h _ _ _ e1
    cases op with
    | And =>
      cases e3
      refine ⟨by simp, fun hv => ?_, sb_and h1 g2 h3⟩
      simp only [vOk, Bool.and_eq_true] at hv
      exact se_and h1 (g1 hv.1) (h2 hv.2)
    | Or =>
      cases e3
      refine ⟨by simp, fun hv => ?_, sb_or h1 g2 h3⟩
      simp only [vOk, Bool.and_eq_true] at hv
      exact se_or h1 (g1 hv.1) (h2 hv.2)
theorem both {sc : SS} {e : Expr} {A : E} (hp : plainT e = true) (hb : isBt A = true) (ha : SE p N sc e (ev p.cl A).1) : (vOk A = true → SE p N sc e (ev p.cl A).1) ∧ SB p N sc e (ev p.cl A).2 :=
  ⟨fun _ => ha, by rw [isBt_ok hb]; exact sb_plain hp ha⟩
theorem compE1_ok (hf : c.fns = p.fns) (hc : c.blts = p.blts) (h : RecOk p N rec) : RecOk p N (compE1 c N rec) := by
  intro sc e A e1
  unfold compE1 at e1
  split at e1
  · cases e1; exact both rfl rfl se_int
  · cases e1; exact both rfl rfl se_bl
  · cases e1; exact both rfl rfl se_non
  · cases e1; exact both rfl rfl se_str
  · split at e1
    · rw [Option.map_eq_some_iff] at e1
      obtain ⟨i, e2, rfl⟩ := e1
      exact both rfl rfl (se_var (slotOf_ok e2) (by assumption))
    · cases e1
  · rw [Option.map_eq_some_iff] at e1
    obtain ⟨B, e2, rfl⟩ := e1
    exact both rfl rfl (se_tup (compL_ok h e2).1)
  · rw [Option.map_eq_some_iff] at e1
    obtain ⟨B, e2, rfl⟩ := e1
    exact both rfl rfl (se_lst (compL_ok h e2).1)
  · simp only [Option.bind_eq_some_iff, Option.map_eq_some_iff] at e1
    obtain ⟨o, e2, A1, e3, B, e4, rfl⟩ := e1
    exact both rfl rfl (se_bin (bopOf_ok e2) (recV_ok h e3) (recV_ok h e4))
  · rw [Option.map_eq_some_iff] at e1
    obtain ⟨B, e2, rfl⟩ := e1
    exact both rfl rfl (se_neg (recV_ok h e2))
  · rw [Option.map_eq_some_iff] at e1
    obtain ⟨B, e2, rfl⟩ := e1
    obtain ⟨g1, g2⟩ := h _ _ _ e2
    refine ⟨fun hv => ?_, sb_not g2⟩
    simp only [vOk, Bool.and_eq_true] at hv
    exact se_not (g1 hv.2) (isBt_ok hv.1)
  · obtain ⟨_, h2, h3⟩ := compBool_ok h e1
    exact ⟨h2, h3⟩
  · simp only [Option.bind_eq_some_iff, Option.map_eq_some_iff] at e1
    obtain ⟨C, e2, A1, e3, B, e4, rfl⟩ := e1
    refine ⟨fun hv => ?_, sb_ite (h _ _ _ e2).2 (h _ _ _ e3).2 (h _ _ _ e4).2⟩
    simp only [vOk, Bool.and_eq_true] at hv
    exact se_ite (h _ _ _ e2).2 ((h _ _ _ e3).1 hv.1) ((h _ _ _ e4).1 hv.2)
  · split at e1
    · cases e1
    · rename_i hm
      simp only [Option.bind_eq_some_iff, Option.map_eq_some_iff] at e1
      obtain ⟨o, e2, A1, e3, B, e4, rfl⟩ := e1
      have hm' := (Bool.not_eq_true _).mp hm
      exact ⟨fun _ => se_cmp (copOf_ok e2) hm' (recV_ok h e3) (recV_ok h e4), sb_cmp (copOf_ok e2) hm' (recV_ok h e3) (recV_ok h e4)⟩
  · split at e1
    · cases e1
    · rename_i hm
      simp only [Option.bind_eq_some_iff, Option.map_eq_some_iff] at e1
      obtain ⟨o, e2, o', e2', A1, e3, B, e4, C, e5, rfl⟩ := e1
      have hm' := (Bool.not_eq_true _).mp hm
      exact ⟨fun _ => se_chain (copOf_ok e2) (copOf_ok e2') hm' (recV_ok h e3) (recV_ok h e4) (recV_ok h e5), sb_chain (copOf_ok e2) (copOf_ok e2') hm' (recV_ok h e3) (recV_ok h e4) (recV_ok h e5)⟩
  · rename_i x p1 args p2
    unfold compCall at e1
    split at e1
    · rename_i hg
      split at e1
      · rename_i f hfx
        rw [Option.map_eq_some_iff] at e1
        obtain ⟨B, e2, e3⟩ := e1
        obtain ⟨h1, _, h3⟩ := compL_ok h e2
        have hx : p.fns[f]? = some x := by rw [← hf]; exact slotOf_ok hfx
        have base : SE p N sc (.Call (.Name x p1) args [] p2) (ev p.cl (.call f B)).1 := by
          cases args with
          | nil =>
            simp only [compL] at e2
            cases e2
            exact se_call0 hx hg
          | cons a as => exact se_call hx hg h3 h1
        split at e3
        · subst e3; exact both rfl rfl (se_box base)
        · subst e3; exact both rfl rfl base
      · split at e1
        · rename_i f hbf
          split at e1
          · rename_i hcond
            rw [Option.map_eq_some_iff] at e1
            obtain ⟨B, e2, rfl⟩ := e1
            obtain ⟨_, h2, h3⟩ := compL_ok h e2
            cases args with
            | nil => exact absurd rfl hcond.2
            | cons a as => exact both rfl rfl (se_bcf (bfOf_ok hbf) hg (hc ▸ hcond.1) h3 h2)
          · cases e1
        · cases e1
    · cases e1
  · simp only [Option.bind_eq_some_iff, Option.map_eq_some_iff] at e1
    obtain ⟨A1, e3, L, e4, U, e5, rfl⟩ := e1
    exact both rfl rfl (se_sl (recV_ok h e3) (compO_ok h e4) (compO_ok h e5))
  · split at e1
    · simp only [Option.bind_eq_some_iff, Option.map_eq_some_iff] at e1
      obtain ⟨A1, e3, I, e4, rfl⟩ := e1
      exact both rfl rfl (se_ix (by assumption) (recV_ok h e3) (recV_ok h e4))
    · cases e1
  · rw [Option.map_eq_some_iff] at e1
    obtain ⟨⟨T, I, C, A1⟩, e2, rfl⟩ := e1
    obtain ⟨h1, h2, h3, h4, h5, h6, h7⟩ := compLC_ok hc h e2
    exact both rfl rfl (se_comp h1 h2 h3 h4 h5 h6 h7)
  · cases e1
end
def compE (c : CC) (N : List Str) : Nat → Rec
  | 0 => fun _ _ => none
  | k + 1 => compE1 c N (compE c N k)
theorem compE_ok {p : Pm} {N : List Str} {c : CC} (hf : c.fns = p.fns) (hc : c.blts = p.blts) : ∀ k, RecOk p N (compE c N k)
  | 0 => fun _ _ _ e => by simp [compE] at e
  | k + 1 => compE1_ok hf hc (compE_ok hf hc k)
end Pn

set_option Elab.async false
set_option linter.all false
set_option maxRecDepth 100000
namespace Pn
open PySem PySem.Spec PyProof.Rows L2

/-- statements: own: the slots whose objects the def changes -/
def mkAsg (own : List Nat) (i : Nat) (A : E) : S := if i ∈ own then .own i A else .asg (.nm i) A
def hitsName (scope : Scope) (x : Str) : Bool := scope.names.any fun (n, k) => n == x && (k == .local || k == .cell)
def compAsgN (rec : Rec) (c : CC) (N : List Str) (own : List Nat) (sc : SS) (x : Str) (px : Pos) (e : Expr) : Option S :=
  (slotOf N x).bind fun i => if stB sc.ss x then match e with
    | .ListComp elt [⟨tg, iter, ifs, 0⟩] scope epos => (compLC rec c N sc elt tg iter ifs scope).bind fun (T, I, C, A) =>
      if sc.sc.names.lookup x = some .local then (if (px.line == epos.line) && !hitsName scope x then some (mkAsg own i (.comp ((ownOf N scope).map (·.2)) T I C A)) else none)
      else some (mkAsg own i (.comp ((ownOf N scope).map (·.2)) T I C A))
    | _ => if isComp e then none else (recV rec sc e).map (mkAsg own i)
  else none
def compPar (rec : Rec) (N : List Str) (sc : SS) (ts vs : List Expr) : Option S :=
  match ts, vs with
  | [.Name x _, .Name y _], [a, b] => (slotOf N x).bind fun i => (slotOf N y).bind fun j => if i ≠ j ∧ sc.sc.names.lookup x = some .local ∧ sc.sc.names.lookup y = some .local ∧ swNames sc.sc ts = [x, y] then (compL rec sc [a, b]).map fun B => .par [i, j] B else none
  | [.Name x _, .Name y _, .Name z _], [a, b, d] => (slotOf N x).bind fun i => (slotOf N y).bind fun j => (slotOf N z).bind fun l =>
    if i ≠ j ∧ i ≠ l ∧ j ≠ l ∧ sc.sc.names.lookup x = some .local ∧ sc.sc.names.lookup y = some .local ∧ sc.sc.names.lookup z = some .local ∧ swNames sc.sc ts = [x, y, z] then (compL rec sc [a, b, d]).map fun B => .par [i, j, l] B else none
  | _, _ => none
def swOk (sc : Scope) (ts vs : List Expr) : Bool :=
  (match sc.kind with | .function => true | _ => false) && (ts.length == 2 || ts.length == 3) && decide (vs.length = ts.length) && noStars vs && decide ((swNames sc ts).length = ts.length) && decide ((swNames sc ts).eraseDups.length = (swNames sc ts).length) && !vs.all (foldedForSure 8) && !vs.all (constantsAlone 8)
def swNo (sc : Scope) (ts vs : List Expr) : Bool := vs.length != ts.length || !(ts.length == 2 || ts.length == 3) || (noStars vs && (swNames sc ts).length != ts.length)
def isTupE : Expr → Bool
  | .Tuple .. => true
  | _ => false
def compAsgT (rec : Rec) (N : List Str) (sc : SS) (ts : List Expr) (tg e : Expr) : Option S :=
  match e with
  | .Tuple vs _ _ => if swOk sc.sc ts vs then compPar rec N sc ts vs else if swNo sc.sc ts vs then (compT N sc.ss 10 tg).bind fun T => (recV rec sc e).map fun A => .asg T A else none
  | _ => if isComp e || isTupE e then none else (compT N sc.ss 10 tg).bind fun T => (recV rec sc e).map fun A => .asg T A
abbrev RecS := List Stmt → Option Ss
def compS1 (c : CC) (N : List Str) (own : List Nat) (sc : SS) (rec : Rec) (recS : RecS) (s : Stmt) : Option S :=
  match s with
  | .Return (some e) _ => (recV rec sc e).map .ret
  | .Return none _ => some .retN
  | .Pass _ => some .pass
  | .Break _ => some .brk
  | .Continue _ => some .cnt
  | .If t a b _ => (rec sc t).bind fun C => (recS a).bind fun A => (recS b).map fun B => .iff C A B
  | .While (.Compare (.NamedExpr (.Name x _) e _) [op] [r] _) b [] _ => if stB sc.ss x && !behindInMarks op r then (slotOf N x).bind fun i => (copOf op).bind fun o => (recV rec sc e).bind fun A => (recV rec sc r).bind fun C => (recS b).map fun B => .whlW i A o C B else none
  | .While t b [] _ => (rec sc t).bind fun C => (recS b).map fun B => .whl C B
  | .For tg iter b [] _ => if notSet iter then (compIt rec c sc tg iter).bind fun I => (compT N sc.ss 10 tg).bind fun T => (recS b).map fun B => .forr T I B else none
  | .Assign [.Name x px] e _ => compAsgN rec c N own sc x px e
  | .Assign [.Tuple ts k p] e _ => compAsgT rec N sc ts (.Tuple ts k p) e
  | .Assign [.Subscript (.Name x _) j _] e _ => if visB sc.sc x && !isComp e && notSlice j then (slotOf N x).bind fun i => (recV rec sc e).bind fun A => (recV rec sc j).map fun J => .setIx i J A else none
  | .AugAssign (.Name x _) .Add e _ => if stB sc.ss x then (slotOf N x).bind fun i => (recV rec sc e).map fun A => .aug i .add A else none
  | .AugAssign (.Name x _) .Sub e _ => if stB sc.ss x then (slotOf N x).bind fun i => (recV rec sc e).map fun A => .aug i .sub A else none
  | .Expr (.Call (.Attribute (.Name x _) m apos) [e] [] cpos) _ => if m = "append" ∧ visB sc.sc x = true ∧ notStar e = true ∧ (apos.endLine == cpos.line) = true then (slotOf N x).bind fun i => (recV rec sc e).map fun A => .app i A else none
  | _ => none
section
variable {p : Pm} {N : List Str} {rec : Rec} {c : CC} {sc : SS} {own : List Nat}
theorem sx_mk {i : Nat} {A : E} {s : Stmt} (h1 : SX p N sc s (exec p.cl (.own i A))) (h2 : SX p N sc s (exec p.cl (.asg (.nm i) A))) : SX p N sc s (exec p.cl (mkAsg own i A)) := by
  unfold mkAsg
  split
  · exact h1
  · exact h2
theorem compAsgN_ok (hc : c.blts = p.blts) (h : RecOk p N rec) {x : Str} {px pos : Pos} {e : Expr} {A : S} (h1 : compAsgN rec c N own sc x px e = some A) : SX p N sc (.Assign [.Name x px] e pos) (exec p.cl A) := by
  unfold compAsgN at h1
  rw [Option.bind_eq_some_iff] at h1
  obtain ⟨i, hi, h1⟩ := h1
  split at h1
  · rename_i hst
    split at h1
    · rename_i elt tg iter ifs scope epos
      rw [Option.bind_eq_some_iff] at h1
      obtain ⟨⟨T, I, C, B⟩, e1, h1⟩ := h1
      obtain ⟨g1, g2, g3, g4, g5, g6, g7⟩ := compLC_ok hc h e1
      simp only at h1
      split at h1
      · rename_i hloc
        split at h1
        · rename_i hl
          rw [Bool.and_eq_true, Bool.not_eq_true'] at hl
          cases h1
          exact sx_mk (sx_ownC (slotOf_ok hi) hloc hl.1 hl.2 g1 g2 g3 g4 g5 g6 g7) (sx_asgC (slotOf_ok hi) hloc hl.1 hl.2 g1 g2 g3 g4 g5 g6 g7)
        · cases h1
      · rename_i hloc
        cases h1
        have hsw : ∀ X, GSt p N sc X → swapsWith (.ListComp elt [⟨tg, iter, ifs, 0⟩] scope epos) (some (.Name x px)) pos.line X.env = pure false := fun X G => sw_cell (by rw [G.g.hsc]; exact hloc)
        exact sx_mk (sx_ownN (slotOf_ok hi) hst hsw (se_comp g1 g2 g3 g4 g5 g6 g7)) (sx_asgN (slotOf_ok hi) hst hsw (se_comp g1 g2 g3 g4 g5 g6 g7))
    · split at h1
      · cases h1
      · rename_i hcm
        rw [Option.map_eq_some_iff] at h1
        obtain ⟨B, e1, rfl⟩ := h1
        have hcm' := (Bool.not_eq_true _).mp hcm
        exact sx_mk (sx_ownN (slotOf_ok hi) hst (fun X G => sw_no hcm' _ _ _) (recV_ok h e1)) (sx_asgN (slotOf_ok hi) hst (fun X G => sw_no hcm' _ _ _) (recV_ok h e1))
  · cases h1
theorem swOk_ok {ts vs : List Expr} {k k2 : Nat} {p1 p2 : Pos} (h : swOk sc.sc ts vs = true) : ∀ X, GSt p N sc X → swappedStores [.Tuple ts k p1] (.Tuple vs k2 p2) X.env = pure (some (swNames sc.sc ts)) := by
  intro X G
  unfold swOk at h
  simp only [Bool.and_eq_true, decide_eq_true_eq, Bool.not_eq_true'] at h
  obtain ⟨⟨⟨⟨⟨⟨⟨h0, h1⟩, h2⟩, h3⟩, h4⟩, h5⟩, h6⟩, h7⟩ := h
  have hk : sc.sc.kind = .function := by
    split at h0
    · assumption
    · cases h0
  exact sw_some G.g.hsc hk h1 h2 h3 h4 h5 h6 h7
theorem compPar_ok (h : RecOk p N rec) {ts vs : List Expr} {k k2 : Nat} {p1 p2 pos : Pos} {A : S} (hs : swOk sc.sc ts vs = true) (h1 : compPar rec N sc ts vs = some A) : SX p N sc (.Assign [.Tuple ts k p1] (.Tuple vs k2 p2) pos) (exec p.cl A) := by
  have sw := swOk_ok (p := p) (N := N) (k := k) (k2 := k2) (p1 := p1) (p2 := p2) hs
  unfold compPar at h1
  split at h1
  · rw [Option.bind_eq_some_iff] at h1
    obtain ⟨i, hi, h1⟩ := h1
    rw [Option.bind_eq_some_iff] at h1
    obtain ⟨j, hj, h1⟩ := h1
    split at h1
    · rename_i hc
      rw [Option.map_eq_some_iff] at h1
      obtain ⟨B, e1, rfl⟩ := h1
      rw [hc.2.2.2] at sw
      exact sx_par2 (slotOf_ok hi) (slotOf_ok hj) hc.1 hc.2.1 hc.2.2.1 sw (compL_ok h e1).1
    · cases h1
  · rw [Option.bind_eq_some_iff] at h1
    obtain ⟨i, hi, h1⟩ := h1
    rw [Option.bind_eq_some_iff] at h1
    obtain ⟨j, hj, h1⟩ := h1
    rw [Option.bind_eq_some_iff] at h1
    obtain ⟨l, hl, h1⟩ := h1
    split at h1
    · rename_i hc
      rw [Option.map_eq_some_iff] at h1
      obtain ⟨B, e1, rfl⟩ := h1
      rw [hc.2.2.2.2.2.2] at sw
      exact sx_par3 (slotOf_ok hi) (slotOf_ok hj) (slotOf_ok hl) hc.1 hc.2.1 hc.2.2.1 hc.2.2.2.1 hc.2.2.2.2.1 hc.2.2.2.2.2.1 sw (compL_ok h e1).1
    · cases h1
  · cases h1
theorem sws_notTup {ts : List Expr} {k : Nat} {p1 : Pos} {e : Expr} {env : Env} (h : isTupE e = false) : swappedStores [.Tuple ts k p1] e env = pure none := by
  cases e <;> first | rfl | cases h
theorem compAsgT_ok (h : RecOk p N rec) {ts : List Expr} {k : Nat} {p1 pos : Pos} {e : Expr} {A : S} (h1 : compAsgT rec N sc ts (.Tuple ts k p1) e = some A) : SX p N sc (.Assign [.Tuple ts k p1] e pos) (exec p.cl A) := by
  unfold compAsgT at h1
  split at h1
  · split at h1
    · exact compPar_ok h (by assumption) h1
    · split at h1
      · rename_i hn
        rw [Option.bind_eq_some_iff] at h1
        obtain ⟨T, e1, h1⟩ := h1
        rw [Option.map_eq_some_iff] at h1
        obtain ⟨B, e2, rfl⟩ := h1
        exact sx_asgT rfl rfl (fun X G => sw_noneN G.g.hsc hn) ((compT_ok (sc := sc) 10).1 e1) (recV_ok h e2)
      · cases h1
  · split at h1
    · cases h1
    · rename_i hc
      have hc' := (Bool.not_eq_true _).mp hc
      rw [Bool.or_eq_false_iff] at hc'
      rw [Option.bind_eq_some_iff] at h1
      obtain ⟨T, e1, h1⟩ := h1
      rw [Option.map_eq_some_iff] at h1
      obtain ⟨B, e2, rfl⟩ := h1
      exact sx_asgT hc'.1 rfl (fun X G => sws_notTup hc'.2) ((compT_ok (sc := sc) 10).1 e1) (recV_ok h e2)
theorem compS1_ok {recS : RecS} (hc : c.blts = p.blts) (h : RecOk p N rec) (hS : ∀ ss B, recS ss = some B → SXs p N sc ss (execs p.cl B)) {s : Stmt} {A : S} (h1 : compS1 c N own sc rec recS s = some A) : SX p N sc s (exec p.cl A) := by
  unfold compS1 at h1
  split at h1
  · rw [Option.map_eq_some_iff] at h1
    obtain ⟨B, e1, rfl⟩ := h1
    exact sx_ret (recV_ok h e1)
  · cases h1; exact sx_retN
  · cases h1; exact sx_pass
  · cases h1; exact sx_brk
  · cases h1; exact sx_cnt
  · simp only [Option.bind_eq_some_iff, Option.map_eq_some_iff] at h1
    obtain ⟨C, e1, A1, e2, B, e3, rfl⟩ := h1
    exact sx_if (h _ _ _ e1).2 (hS _ _ e2) (hS _ _ e3)
  · split at h1
    · rename_i hb
      rw [Bool.and_eq_true, Bool.not_eq_true'] at hb
      simp only [Option.bind_eq_some_iff, Option.map_eq_some_iff] at h1
      obtain ⟨i, hi, o, ho, A1, e1, C, e2, B, e3, rfl⟩ := h1
      exact sx_whlW (copOf_ok ho) (slotOf_ok hi) hb.1 hb.2 (recV_ok h e1) (recV_ok h e2) (hS _ _ e3)
    · cases h1
  · simp only [Option.bind_eq_some_iff, Option.map_eq_some_iff] at h1
    obtain ⟨C, e1, B, e3, rfl⟩ := h1
    exact sx_whl (h _ _ _ e1).2 (hS _ _ e3)
  · split at h1
    · simp only [Option.bind_eq_some_iff, Option.map_eq_some_iff] at h1
      obtain ⟨I, e1, T, e2, B, e3, rfl⟩ := h1
      exact sx_for (by assumption) (compIt_ok hc h e1) ((compT_ok (sc := sc) 10).1 e2) (hS _ _ e3)
    · cases h1
  · exact compAsgN_ok hc h h1
  · exact compAsgT_ok h h1
  · split at h1
    · rename_i hb
      simp only [Bool.and_eq_true, Bool.not_eq_true'] at hb
      simp only [Option.bind_eq_some_iff, Option.map_eq_some_iff] at h1
      obtain ⟨i, hi, A1, e1, J, e2, rfl⟩ := h1
      exact sx_setIx (slotOf_ok hi) hb.1.1 hb.1.2 hb.2 (recV_ok h e1) (recV_ok h e2)
    · cases h1
  · split at h1
    · simp only [Option.bind_eq_some_iff, Option.map_eq_some_iff] at h1
      obtain ⟨i, hi, A1, e1, rfl⟩ := h1
      exact sx_aug (.inl ⟨rfl, rfl⟩) (slotOf_ok hi) (by assumption) (recV_ok h e1)
    · cases h1
  · split at h1
    · simp only [Option.bind_eq_some_iff, Option.map_eq_some_iff] at h1
      obtain ⟨i, hi, A1, e1, rfl⟩ := h1
      exact sx_aug (.inr ⟨rfl, rfl⟩) (slotOf_ok hi) (by assumption) (recV_ok h e1)
    · cases h1
  · split at h1
    · rename_i hb
      simp only [Option.bind_eq_some_iff, Option.map_eq_some_iff] at h1
      obtain ⟨i, hi, A1, e1, rfl⟩ := h1
      rw [hb.1]
      exact sx_app (slotOf_ok hi) hb.2.1 hb.2.2.1 hb.2.2.2 (recV_ok h e1)
    · cases h1
  · cases h1
end
mutual
def compSs (c : CC) (N : List Str) (own : List Nat) (sc : SS) : Nat → List Stmt → Option Ss
  | 0, _ => none
  | k + 1, ss => match ss with
    | [] => some .nil
    | s :: r => (compS1 c N own sc (compE c N 40) (compSs c N own sc k) s).bind fun A => (compSs c N own sc k r).map fun B => .cons A B
end
theorem compSs_ok {p : Pm} {N : List Str} {c : CC} {sc : SS} {own : List Nat} (hf : c.fns = p.fns) (hc : c.blts = p.blts) : ∀ (k : Nat) (ss : List Stmt) (B : Ss), compSs c N own sc k ss = some B → SXs p N sc ss (execs p.cl B)
  | 0, _, _, h => by simp [compSs] at h
  | k + 1, ss, B, h => by
    simp only [compSs] at h
    split at h
    · cases h; exact sxs_nil
    · rw [Option.bind_eq_some_iff] at h
      obtain ⟨A, e1, h⟩ := h
      rw [Option.map_eq_some_iff] at h
      obtain ⟨B', e2, rfl⟩ := h
      exact sxs_cons (compS1_ok hc (compE_ok hf hc 40) (fun ss B h => compSs_ok hf hc k ss B h) e1) (compSs_ok hf hc k _ _ e2)
/-- a def's text beside its evaluation, by the compiler -/
theorem defT_of {c : CC} {stm : Stmt} {N ps : List Str} {own : List Nat} {fd : Fd} (S : FnScope N ps (defScope stm)) (nn : fd.nn = N.length) (np : fd.np = ps.length) (h : compSs c N own ⟨defScope stm, defScope stm⟩ 40 (defBody stm) = some fd.body) : DefT c.fns c.blts fd stm N ps :=
  ⟨S, nn, np, fun cl n => compSs_ok (p := ⟨cl, n, c.fns, c.blts⟩) rfl rfl 40 _ _ h⟩
end Pn

set_option Elab.async false
set_option linter.all false
set_option maxRecDepth 100000
namespace Pn
open PySem PySem.Spec PyProof.Rows L2

/-! ### what the top has written, and the law's own head -/
section
variable {P : Program} {w : World} {K : PySem.W.Frag} {mg : Str → Option Value} {h base : Heap}
theorem defA_mk {x : Str} {st : Stmt} {ps : List Str} {f : Addr} {oc : Value} {od an : Option Addr} {sl : Array (Option Value)} {kV dc pm cd ct : Value} (KX : K.In h) (G : h.Ns mainGlobals mg)
    (a : PySem.W.nsIn K mainGlobals x = some (some (.ref f)))
    (l : K.lookup f = some ⟨oc, od, .func (PySem.W.fnOf x x (defArgs st) (defBody st) (defScope st) .none kV dc pm an cd ct), sl⟩) (c : PySem.W.codeIn K cd x = true) (k : PySem.W.keepIn K (.ref f) = true)
    (b : ∀ (kV doc pm : Value) (an : Option Addr) (cdv ct : Value) (us : List Value), us.length = ps.length → bindArgs (PySem.W.fnOf x x (defArgs st) (defBody st) (defScope st) .none kV doc pm an cdv ct) ⟨us, []⟩ = pure (ps.zip us)) :
    DefA K mg x st ps f (PySem.W.fnOf x x (defArgs st) (defBody st) (defScope st) .none kV dc pm an cd ct) :=
  ⟨fun_mk l c k, PySem.W.mg_of KX G a, (fun_mk (st := st) l c k).binds b⟩
theorem blt_nil : ∀ y, y ∈ ([] : List Str) → mg y = none := fun _ h => by cases h
theorem blt_cons {x : Str} {r : List Str} (KX : K.In h) (G : h.Ns mainGlobals mg) (z : PySem.W.nsIn K mainGlobals x = some none) (t : ∀ y, y ∈ r → mg y = none) : ∀ y, y ∈ x :: r → mg y = none := fun y m => by
  rcases List.mem_cons.mp m with rfl | m
  · exact PySem.W.mg_none_of KX G z
  · exact t y m
theorem rvl_int {M : Addr → Prop} {μ : List Addr} {H : Hp} : ∀ ns : List Int, RvL K M μ H (ns.map .int) (ns.map V.int)
  | [] => RvL.nil
  | n :: ns => RvL.cons (by unfold Rv; rfl) (rvl_int ns)
/-- the law's promise -/
theorem law_sp {cl : Cl} {f : Nat} {H : Hp} {a : Addr} {ns : List Int} {E : XK} (hlaw : ∃ st', cl f [.scr (ns.map .int)] [] = some (.bl true, .pl, st')) (hO : Only H) (hS : SqL K H a (ns.map V.int)) : spOf K cl 1 f [.ref a] H (fun v _ => v = .bl true) E := by
  obtain ⟨st', hl⟩ := hlaw
  have sc : ScL K H a (ns.map V.int) := by
    rcases hS with h | h
    · refine .inl ?_
      rcases h with h | ⟨o, h⟩
      · rcases hO a with e | ⟨o, xs, e⟩
        · rw [e] at h; cases h
        · rw [e] at h; cases h
      · exact ⟨o, h⟩
    · exact .inr h
  refine ⟨rfl, fun _ => False, [], [.scr (ns.map .int)], [], .bl true, .pl, st', ⟨fun n ds e => by simp at e, rfl, List.nodup_nil, fun _ h => h.elim, fun _ _ h => h.elim, fun _ h => by cases h⟩, RvL.cons (by unfold Rv; exact ⟨a, _, rfl, sc, rvl_int ns⟩) RvL.nil, hl, fun v H' μ' _ _ r => ?_⟩
  have r' : Rv K (fun a => False ∨ a ∈ μ') μ' H' (.bl true) v := r
  unfold Rv at r'
  exact r'
/-- the law's def at the top, by all defs -/
theorem law_end {x : Str} {st : Stmt} {ps N : List Str} {fa : Addr} {fdt : FuncData} {tb : List Fd} {fns blts : List Str} {i : Nat} {fd : Fd} {n : Nat}
    (A : DefA K mg x st ps fa fdt) (ht : tb[i]? = some fd) (D : DefT fns blts fd st N ps)
    (hall : ∀ (i : Nat) y, fns[i]? = some y → ∃ fd stm N ps fa fdt, tb[i]? = some fd ∧ DefT fns blts fd stm N ps ∧ DefA K mg y stm ps fa fdt) (hb : ∀ y, y ∈ blts → mg y = none) :
    ∀ base : Heap, FnOk P w K mg base CX0 (n + 1) fa fdt ps (spOf K (runN tb (n + 1)) ps.length i) := fun base =>
  fn_step A.fu D.sc ht D.nn D.np (D.body _ _) (fun X h1 h2 h3 h4 h5 => fns_ok hall hb n X h1 h2 h3 h4 h5) hb
end
end Pn

set_option Elab.async false
set_option linter.all false
set_option maxRecDepth 100000
/-! the plain side: what laws share -/
namespace Pn
open PySem

theorem runN_eq {tb : List Fd} {n f : Nat} {fd : Fd} {ds : List D} {st : Sto} (h : tb[f]? = some fd) (hl : ds.length = fd.np) : runN tb (n + 1) f ds st = (execs (runN tb n) fd.body (startD fd ds) st).bind endOf := by
  simp only [runN, h, hl, if_true]

/-! ### statements one by one -/
section
variable {cl : Cl} {s : S} {r a b : Ss} {σ σ1 : List SV} {st st1 st2 : Sto} {o : RS} {d : D} {fl : Fl} {tg : Tg} {it : It} {items ds : List D} {c : E} {k : Bool}
theorem xs_nx (h : exec cl s σ st = some (.nx σ1 st1)) (h2 : execs cl r σ1 st1 = o) : execs cl (.cons s r) σ st = o := by
  simp [execs, h, h2]
theorem xs_rt (h : exec cl s σ st = some (.rt d fl st1)) : execs cl (.cons s r) σ st = some (.rt d fl st1) := by
  simp [execs, h]
theorem x_for (h : evi cl it σ st = some (items, fl, st1)) (h2 : forGo tg (execs cl b) items σ st1 = o) (hf : fl ≠ .lk := by decide) : exec cl (.forr tg it b) σ st = o := by
  simp [exec, h, hf, h2]
theorem x_if (h : (ev cl c).2 σ st = some (k, st1)) (h2 : execs cl (bif k then a else b) σ st1 = o) : exec cl (.iff c a b) σ st = o := by
  cases k <;> simp [exec, h] <;> exact h2
theorem x_asg {e : E} (h : (ev cl e).1 σ st = some (d, fl, st1)) (hf : fl ≠ .lk) (hb : bindTg tg d σ = some σ1) : exec cl (.asg tg e) σ st = some (.nx σ1 st1) := by
  simp [exec, h, hf, hb]
theorem ev_comp {own : List Nat} {cd : Eo} {el : E} (h : evi cl it σ st = some (items, fl, st1)) (hl : items.length ≤ LIM) (ho : own.all (fun i => !isOw σ[i]?) = true) (hc : compGo tg (wipeD σ own) (evc cl cd) (ev cl el).1 items st1 = some (ds, st2)) :
    (ev cl (.comp own tg it cd el)).1 σ st = some (.lst ds, .fr, st2) := by
  simp only [ev, byTru, h, Option.bind_eq_bind, Option.bind_some]
  rw [if_pos ⟨hl, ho⟩, hc]
  rfl
end
@[simp] theorem iops_add (i j : Int) : iops .add i j = some (i + j) := rfl
@[simp] theorem iops_sub (i j : Int) : iops .sub i j = some (i - j) := rfl
theorem evi_rngI {cl : Cl} {a : E} {σ : List SV} {st st1 : Sto} {fl : Fl} {n : Int} (h : (ev cl a).1 σ st = some (.int n, fl, st1)) (h1 : n.natAbs < 1000000) : evi cl (.rng a) σ st = some (rngD 0 n.toNat, .pl, st1) := by
  simp only [evi, h, Option.bind_eq_bind, Option.bind_some]
  exact if_pos h1
theorem evi_rng {cl : Cl} {a : E} {σ : List SV} {st st1 : Sto} {fl : Fl} {n : Nat} (h : (ev cl a).1 σ st = some (.int n, fl, st1)) (hn : n < 1000000) : evi cl (.rng a) σ st = some (rngD 0 n, .pl, st1) := by
  have := evi_rngI (n := n) h (by omega)
  rw [Int.toNat_natCast] at this
  exact this
theorem evi_seq {cl : Cl} {a : E} {σ : List SV} {st st1 : Sto} {fl : Fl} {d : D} {ds : List D} (h : (ev cl a).1 σ st = some (d, fl, st1)) (hd : seqOf d = some ds) : evi cl (.seq a) σ st = some (ds, fl, st1) := by
  simp [evi, h, hd]
theorem evi_enum {cl : Cl} {a : E} {σ : List SV} {st st1 : Sto} {fl : Fl} {d : D} {ds : List D} (h : (ev cl a).1 σ st = some (d, fl, st1)) (hd : seqOf d = some ds) : evi cl (.enum a) σ st = some (enumD 0 ds, fl, st1) := by
  simp [evi, h, hd]
theorem rngD_eq (n : Nat) : rngD 0 n = (List.range n).map fun (i : Nat) => D.int (i : Int) := by
  simp [rngD]

theorem binop_ii (o : Bop) (i j : Int) : binop o (.int i) (.int j) = (iops o i j).map fun k => (D.int k, false) := rfl
theorem binop_tt (a b : List D) : binop .add (.tup a) (.tup b) = if a.length + b.length ≤ LIM then some (.tup (a ++ b), false) else none := rfl
theorem binop_ll (a b : List D) : binop .add (.lst a) (.lst b) = if a.length + b.length ≤ LIM then some (.lst (a ++ b), true) else none := rfl
theorem binop_tiI {a : List D} {k : Int} (h1 : k.natAbs < 1000000) (h3 : a.length * k.toNat ≤ LIM) : binop .mul (.tup a) (.int k) = some (.tup (List.replicate k.toNat a).flatten, false) := if_pos ⟨h1, h3⟩
theorem binop_liI {a : List D} {k : Int} (h1 : k.natAbs < 1000000) (h3 : a.length * k.toNat ≤ LIM) : binop .mul (.lst a) (.int k) = some (.lst (List.replicate k.toNat a).flatten, true) := if_pos ⟨h1, h3⟩
theorem binop_ti {a : List D} {k : Nat} (h2 : k < 1000000) (h3 : a.length * k ≤ LIM) : binop .mul (.tup a) (.int k) = some (.tup (List.replicate k a).flatten, false) := by
  have := binop_tiI (a := a) (k := k) (by omega) (by rw [Int.toNat_natCast]; exact h3)
  rw [Int.toNat_natCast] at this
  exact this
theorem binop_li {a : List D} {k : Nat} (h2 : k < 1000000) (h3 : a.length * k ≤ LIM) : binop .mul (.lst a) (.int k) = some (.lst (List.replicate k a).flatten, true) := by
  have := binop_liI (a := a) (k := k) (by omega) (by rw [Int.toNat_natCast]; exact h3)
  rw [Int.toNat_natCast] at this
  exact this

/-! ### loops -/
theorem compGo_filter {α : Type} {tg : Tg} {σ : List SV} {cd : FT} {el : FE} {st : Sto} {emb g : α → D} {p : α → Bool} : ∀ (l : List α),
    (∀ a, a ∈ l → ∃ σ1, bindTg tg (emb a) σ = some σ1 ∧ cd σ1 st = some (p a, st) ∧ (p a = true → ∃ fl, el σ1 st = some (g a, fl, st) ∧ fl ≠ .lk)) →
    compGo tg σ cd el (l.map emb) st = some ((l.filter p).map g, st)
  | [], _ => rfl
  | a :: l, h => by
    obtain ⟨σ1, e1, e2, e3⟩ := h a (List.mem_cons_self ..)
    have ih := compGo_filter l fun b m => h b (List.mem_cons_of_mem _ m)
    simp only [List.map_cons, compGo, Option.bind_eq_bind, e1, Option.bind_some, e2]
    cases hp : p a with
    | true =>
      obtain ⟨fl, e4, e5⟩ := e3 hp
      simp [e4, e5, ih, hp]
    | false => simp [ih, hp]
theorem compGo_map {α : Type} {tg : Tg} {σ : List SV} {cd : FT} {el : FE} {st : Sto} {emb g : α → D} (l : List α)
    (h : ∀ a, a ∈ l → ∃ σ1 fl, bindTg tg (emb a) σ = some σ1 ∧ cd σ1 st = some (true, st) ∧ el σ1 st = some (g a, fl, st) ∧ fl ≠ .lk) :
    compGo tg σ cd el (l.map emb) st = some (l.map g, st) := by
  have := compGo_filter (tg := tg) (σ := σ) (cd := cd) (el := el) (st := st) (emb := emb) (g := g) (p := fun _ => true) l fun a m => by
    obtain ⟨σ1, fl, e1, e2, e3, e4⟩ := h a m
    exact ⟨σ1, e1, e2, fun _ => ⟨fl, e3, e4⟩⟩
  rw [this, List.filter_eq_self.mpr fun _ _ => rfl]
/-- a comprehension that changes the shared lists -/
theorem compGo_inv {tg : Tg} {σ : List SV} {cd : FT} {el : FE} {P : D → Prop} {I : Nat → Sto → Prop} : ∀ (l : List D) (k : Nat) (st : Sto), I k st →
    (∀ i d, l[i]? = some d → ∀ st, I (k + i) st → ∃ σ1 x fl st1, bindTg tg d σ = some σ1 ∧ cd σ1 st = some (true, st) ∧ el σ1 st = some (x, fl, st1) ∧ fl ≠ .lk ∧ P x ∧ I (k + i + 1) st1) →
    ∃ ds st', compGo tg σ cd el l st = some (ds, st') ∧ ds.length = l.length ∧ (∀ d, d ∈ ds → P d) ∧ I (k + l.length) st'
  | [], k, st, i, _ => ⟨[], st, rfl, rfl, (fun _ h => by cases h), i⟩
  | d :: l, k, st, i, h => by
    obtain ⟨σ1, x, fl, st1, e1, e2, e3, e4, px, i1⟩ := h 0 d rfl st i
    obtain ⟨ds, st', e5, e6, e7, i2⟩ := compGo_inv (tg := tg) (σ := σ) (cd := cd) (el := el) (P := P) (I := I) l (k + 1) st1 i1 fun j b m st i => by
      have := h (j + 1) b (by simpa using m) st (by rw [show k + (j + 1) = k + 1 + j by omega]; exact i)
      rw [show k + (j + 1) + 1 = k + 1 + j + 1 by omega] at this
      exact this
    refine ⟨x :: ds, st', ?_, by simp [e6], fun d m => ?_, ?_⟩
    · simp [compGo, e1, e2, e3, e4, e5]
    · rcases List.mem_cons.mp m with rfl | m
      · exact px
      · exact e7 d m
    · rw [List.length_cons, show k + (l.length + 1) = k + 1 + l.length by omega]
      exact i2
theorem forGo_inv {tg : Tg} {body : FS} {I : Nat → List SV → Sto → Prop} : ∀ (l : List D) (k : Nat) (σ : List SV) (st : Sto), I k σ st →
    (∀ j d, l[j]? = some d → ∀ σ st, I (k + j) σ st → ∃ σ1 σ2 st2, bindTg tg d σ = some σ1 ∧ body σ1 st = some (.nx σ2 st2) ∧ I (k + j + 1) σ2 st2) →
    ∃ σ' st', forGo tg body l σ st = some (.nx σ' st') ∧ I (k + l.length) σ' st'
  | [], k, σ, st, i, _ => ⟨σ, st, rfl, i⟩
  | d :: l, k, σ, st, i, h => by
    obtain ⟨σ1, σ2, st2, e1, e2, i2⟩ := h 0 d rfl σ st i
    obtain ⟨σ', st', e3, i3⟩ := forGo_inv (tg := tg) (body := body) (I := I) l (k + 1) σ2 st2 i2 fun j b m σ st i => by
      have := h (j + 1) b (by simpa using m) σ st (by rw [show k + (j + 1) = k + 1 + j by omega]; exact i)
      rw [show k + (j + 1) + 1 = k + 1 + j + 1 by omega] at this
      exact this
    refine ⟨σ', st', ?_, ?_⟩
    · simp [forGo, e1, e2, e3]
    · rw [List.length_cons, show k + (l.length + 1) = k + 1 + l.length by omega]
      exact i3
/-- a while by a measure -/
theorem whlGo_inv {c : List SV → Sto → Option (Bool × List SV × Sto)} {body : FS} {I : Nat → List SV → Sto → Prop} {R : List SV → Sto → Prop}
    (h : ∀ m σ st, I m σ st → ∃ b σ0 st1, c σ st = some (b, σ0, st1) ∧ (b = false → R σ0 st1) ∧ (b = true → ∃ σ2 st2 m', body σ0 st1 = some (.nx σ2 st2) ∧ m' < m ∧ I m' σ2 st2)) :
    ∀ (n m : Nat) (σ : List SV) (st : Sto), m < n → I m σ st → ∃ σ' st', whlGo c body n σ st = some (.nx σ' st') ∧ R σ' st'
  | 0, m, σ, st, hm, i => by omega
  | n + 1, m, σ, st, hm, i => by
    obtain ⟨b, σ0, st1, e1, e2, e3⟩ := h m σ st i
    cases b with
    | false => exact ⟨σ0, st1, by simp [whlGo, e1], e2 rfl⟩
    | true =>
      obtain ⟨σ2, st2, m', e4, e5, i2⟩ := e3 rfl
      obtain ⟨σ', st', e6, r⟩ := whlGo_inv h n m' σ2 st2 (by omega) i2
      exact ⟨σ', st', by simp [whlGo, e1, e4, e6], r⟩

/-! ### data -/
theorem intsOf_map : ∀ l : List Int, intsOf (l.map .int) = some l
  | [] => rfl
  | x :: l => by simp [intsOf, intsOf_map l]
theorem blsOf_map : ∀ l : List Bool, blsOf (l.map .bl) = some l
  | [] => rfl
  | x :: l => by simp [blsOf, blsOf_map l]
theorem eqOks_int (n : Nat) : ∀ l : List Int, eqOks n (l.map .int) = true
  | [] => by simp [eqOks]
  | x :: l => by simp [eqOks, eqOk, eqOks_int n l]
theorem deqs_int : ∀ l m : List Int, deqs (l.map .int) (m.map .int) = decide (l = m)
  | [], [] => by simp [deqs]
  | [], _ :: _ => by simp [deqs]
  | _ :: _, [] => by simp [deqs]
  | x :: l, y :: m => by
    simp only [List.map_cons, deqs, deq, deqs_int l m, List.cons.injEq, Bool.decide_and]
    rfl
theorem dEq_tup (l m : List Int) : dEq (.tup (l.map .int)) (.tup (m.map .int)) = some (decide (l = m)) := by
  simp [dEq, eqOk, eqOks_int, deq, deqs_int]
theorem dEq_lst (l m : List Int) : dEq (.lst (l.map .int)) (.lst (m.map .int)) = some (decide (l = m)) := by
  simp [dEq, eqOk, eqOks_int, deq, deqs_int]
theorem any_int (l : List Int) (x : Int) : ((l.map D.int).any fun d => deq d (.int x)) = decide (x ∈ l) := by
  induction l with
  | nil => simp
  | cons y l ih =>
    simp only [List.map_cons, List.any_cons, ih, deq, List.mem_cons]
    by_cases h : x = y
    · subst h; simp
    · have h' : ¬ y = x := fun e => h e.symm
      simp [h, h', beq_iff_eq]
theorem log2_lt_of {i : Int} {k : Nat} (h : i.natAbs < 2 ^ k) (hk : 0 < k) : i.natAbs.log2 < k := by
  by_cases h0 : i.natAbs = 0
  · rw [h0]; simpa using hk
  · exact (Nat.log2_lt h0).mpr h
theorem iops_mul {i j : Int} (hi : i.natAbs < 2 ^ 2000) (hj : j.natAbs < 2 ^ 2000) : iops .mul i j = some (i * j) := by
  have := log2_lt_of hi (by omega)
  have := log2_lt_of hj (by omega)
  simp only [iops]
  rw [if_pos (by omega)]
theorem iops_fdiv {i j : Int} (h0 : 0 < j) (hj : j.natAbs < 2 ^ 2000) : iops .fdiv i j = some (i / j) := by
  have := log2_lt_of hj (by omega)
  simp only [iops]
  rw [if_pos ⟨h0, by omega⟩]
theorem iops_mod {i j : Int} (h0 : 0 < j) : iops .mod i j = some (i % j) := by
  simp only [iops]
  rw [if_pos h0]
theorem iops_shl1 {b : Nat} (h : b ≤ 1000) : iops .shl 1 (b : Int) = some (2 ^ b) := by
  simp only [iops]
  rw [if_pos (by constructor; omega; simp; have : Nat.log2 1 = 0 := by decide
                 omega)]
  simp
theorem enumD_length : ∀ (l : List D) (k : Nat), (enumD k l).length = l.length
  | [], _ => rfl
  | _ :: l, k => by simp [enumD, enumD_length l]
theorem enumD_range' (g : Nat → D) : ∀ (n k : Nat), enumD k ((List.range' k n).map g) = (List.range' k n).map fun (i : Nat) => D.tup [.int i, g i]
  | 0, _ => rfl
  | n + 1, k => by simp [List.range'_succ, enumD, enumD_range' g n (k + 1)]
theorem enumD_range (g : Nat → D) (n : Nat) : enumD 0 ((List.range n).map g) = (List.range n).map fun (i : Nat) => D.tup [.int i, g i] := by
  rw [List.range_eq_range']
  exact enumD_range' g n 0
theorem insSort_le {x : Int} : ∀ {l : List Int}, (∀ y, y ∈ l → x ≤ y) → insSort x l = x :: l
  | [], _ => rfl
  | y :: l, h => by simp [insSort, h y (List.mem_cons_self ..)]
theorem sortI_self : ∀ {l : List Int}, l.Pairwise (· ≤ ·) → sortI l = l
  | [], _ => rfl
  | x :: l, h => by
    rw [List.pairwise_cons] at h
    rw [sortI, sortI_self h.2]
    exact insSort_le h.1

/-! ### statements, by what shall hold behind them -/
def Rs (x : RS) (Q : Fo → Prop) : Prop := ∃ o, x = some o ∧ Q o
def Rr (x : RE) (Q : D → Fl → Sto → Prop) : Prop := ∃ d fl st', x = some (d, fl, st') ∧ Q d fl st'
section
variable {cl : Cl} {s : S} {r a b : Ss} {σ σ1 : List SV} {st st1 st2 : Sto} {Q : Fo → Prop} {d : D} {fl : Fl} {tg : Tg} {it : It} {items ds : List D} {c e : E} {k : Bool}
theorem rs_nx (h : exec cl s σ st = some (.nx σ1 st1)) (h2 : Rs (execs cl r σ1 st1) Q) : Rs (execs cl (.cons s r) σ st) Q := by
  rw [xs_nx h rfl]; exact h2
theorem rs_rt (h : exec cl s σ st = some (.rt d fl st1)) (q : Q (.rt d fl st1)) : Rs (execs cl (.cons s r) σ st) Q := ⟨_, xs_rt h, q⟩
theorem rs_ret (h : (ev cl e).1 σ st = some (d, fl, st1)) (q : Q (.rt d fl st1)) : Rs (execs cl (.cons (.ret e) r) σ st) Q := ⟨.rt d fl st1, by simp [execs, exec, h], q⟩
theorem rs_nil (q : Q (.nx σ st)) : Rs (execs cl .nil σ st) Q := ⟨_, rfl, q⟩
/-- what shall hold behind a statement with more behind it -/
def Th (cl : Cl) (r : Ss) (Q : Fo → Prop) : Fo → Prop
  | .nx σ st => Rs (execs cl r σ st) Q
  | o => Q o
theorem rs_cons (h : Rs (exec cl s σ st) (Th cl r Q)) : Rs (execs cl (.cons s r) σ st) Q := by
  obtain ⟨o, e, q⟩ := h
  cases o with
  | nx σ1 st1 => rw [xs_nx e rfl]; exact q
  | bk σ1 st1 => exact ⟨_, by simp [execs, e], q⟩
  | ct σ1 st1 => exact ⟨_, by simp [execs, e], q⟩
  | rt d fl st1 => exact ⟨_, xs_rt e, q⟩
theorem rs_if (h : (ev cl c).2 σ st = some (k, st1)) (h2 : Rs (execs cl (bif k then a else b) σ st1) (Th cl r Q)) : Rs (execs cl (.cons (.iff c a b) r) σ st) Q := by
  refine rs_cons ?_
  rw [x_if h rfl]
  exact h2
theorem rs_if1 (h : (ev cl c).2 σ st = some (true, st1)) (h2 : Rs (execs cl a σ st1) (Th cl r Q)) : Rs (execs cl (.cons (.iff c a b) r) σ st) Q := rs_if h h2
theorem rs_if0 (h : (ev cl c).2 σ st = some (false, st1)) (h2 : Rs (execs cl b σ st1) (Th cl r Q)) : Rs (execs cl (.cons (.iff c a b) r) σ st) Q := rs_if h h2
/-- no else -/
theorem rs_skip (h : (ev cl c).2 σ st = some (false, st1)) (h2 : Rs (execs cl r σ st1) Q) : Rs (execs cl (.cons (.iff c a .nil) r) σ st) Q := rs_if0 h (rs_nil h2)
def Turn (I : List SV → Sto → Prop) (R : List SV → Sto → Prop) (Q : Fo → Prop) : Fo → Prop
  | .nx σ st => I σ st
  | .ct σ st => I σ st
  | .bk σ st => R σ st
  | .rt d fl st => Q (.rt d fl st)
theorem whlGo_rs {ct : List SV → Sto → Option (Bool × List SV × Sto)} {body : FS} {I : Nat → List SV → Sto → Prop} {R : List SV → Sto → Prop}
    (h : ∀ m σ st, I m σ st → ∃ k σ0 st1, ct σ st = some (k, σ0, st1) ∧ (k = false → R σ0 st1) ∧ (k = true → Rs (body σ0 st1) (Turn (fun σ st => ∃ m', m' < m ∧ I m' σ st) R Q))) :
    ∀ (n m : Nat) (σ : List SV) (st : Sto), m < n → I m σ st → Rs (whlGo ct body n σ st) (fun o => match o with | .nx σ st => R σ st | .rt d fl st => Q (.rt d fl st) | _ => False)
  | 0, m, σ, st, hm, i => by omega
  | n + 1, m, σ, st, hm, i => by
    obtain ⟨k, σ0, st1, e1, e2, e3⟩ := h m σ st i
    cases k with
    | false => exact ⟨.nx σ0 st1, by simp [whlGo, e1], e2 rfl⟩
    | true =>
      obtain ⟨o, e4, q⟩ := e3 rfl
      cases o with
      | nx σ2 st2 =>
        obtain ⟨m', hm', i2⟩ := q
        obtain ⟨o', e5, q'⟩ := whlGo_rs h n m' σ2 st2 (by omega) i2
        exact ⟨o', by simp [whlGo, e1, e4, e5], q'⟩
      | ct σ2 st2 =>
        obtain ⟨m', hm', i2⟩ := q
        obtain ⟨o', e5, q'⟩ := whlGo_rs h n m' σ2 st2 (by omega) i2
        exact ⟨o', by simp [whlGo, e1, e4, e5], q'⟩
      | bk σ2 st2 => exact ⟨.nx σ2 st2, by simp [whlGo, e1, e4], q⟩
      | rt d fl st2 => exact ⟨.rt d fl st2, by simp [whlGo, e1, e4], q⟩
theorem rs_whl (I : Nat → List SV → Sto → Prop) (R : List SV → Sto → Prop) (m : Nat) (h0 : I m σ st) (hm : m < FUEL)
    (h : ∀ m σ st, I m σ st → ∃ k st1, (ev cl c).2 σ st = some (k, st1) ∧ (k = false → R σ st1) ∧ (k = true → Rs (execs cl b σ st1) (Turn (fun σ st => ∃ m', m' < m ∧ I m' σ st) R Q)))
    (h2 : ∀ σ st, R σ st → Rs (execs cl r σ st) Q) : Rs (execs cl (.cons (.whl c b) r) σ st) Q := by
  refine rs_cons ?_
  obtain ⟨o, e, q⟩ := whlGo_rs (Q := Q) (ct := wTest (ev cl c).2) (body := execs cl b) (I := I) (R := R) (fun m σ st i => by
    obtain ⟨k, st1, e1, e2, e3⟩ := h m σ st i
    exact ⟨k, σ, st1, by simp [wTest, e1], e2, e3⟩) FUEL m σ st hm h0
  refine ⟨o, e, ?_⟩
  cases o with
  | nx σ st => exact h2 σ st q
  | rt d fl st => exact q
  | bk σ st => exact q.elim
  | ct σ st => exact q.elim
theorem rs_whlW {i : Nat} {o : Cop} {e' : E} (I : Nat → List SV → Sto → Prop) (R : List SV → Sto → Prop) (m : Nat) (h0 : I m σ st) (hm : m < FUEL)
    (h : ∀ m σ st, I m σ st → ∃ k σ0 st1, wNamed i (ev cl e).1 o (ev cl e').1 σ st = some (k, σ0, st1) ∧ (k = false → R σ0 st1) ∧ (k = true → Rs (execs cl b σ0 st1) (Turn (fun σ st => ∃ m', m' < m ∧ I m' σ st) R Q)))
    (h2 : ∀ σ st, R σ st → Rs (execs cl r σ st) Q) : Rs (execs cl (.cons (.whlW i e o e' b) r) σ st) Q := by
  refine rs_cons ?_
  obtain ⟨o, e, q⟩ := whlGo_rs (Q := Q) (ct := wNamed i (ev cl e).1 o (ev cl e').1) (body := execs cl b) (I := I) (R := R) h FUEL m σ st hm h0
  refine ⟨o, e, ?_⟩
  cases o with
  | nx σ st => exact h2 σ st q
  | rt d fl st => exact q
  | bk σ st => exact q.elim
  | ct σ st => exact q.elim
theorem forGo_rs {body : FS} {I : Nat → List SV → Sto → Prop} {R : List SV → Sto → Prop} : ∀ (l : List D) (j : Nat) (σ : List SV) (st : Sto), I j σ st →
    (∀ i d, l[i]? = some d → ∀ σ st, I (j + i) σ st → ∃ σ1, bindTg tg d σ = some σ1 ∧ Rs (body σ1 st) (Turn (I (j + i + 1)) R Q)) → (∀ σ st, I (j + l.length) σ st → R σ st) →
    Rs (forGo tg body l σ st) (fun o => match o with | .nx σ st => R σ st | .rt d fl st => Q (.rt d fl st) | _ => False)
  | [], j, σ, st, i, _, hR => ⟨.nx σ st, rfl, hR σ st i⟩
  | d :: l, j, σ, st, i, h, hR => by
    obtain ⟨σ1, e1, o, e2, q⟩ := h 0 d rfl σ st i
    have ih := fun σ st i => forGo_rs (body := body) (I := I) (R := R) l (j + 1) σ st i (fun m b hb σ st i => by
      have := h (m + 1) b (by simpa using hb) σ st (by rw [show j + (m + 1) = j + 1 + m by omega]; exact i)
      rw [show j + (m + 1) + 1 = j + 1 + m + 1 by omega] at this
      exact this) (fun σ st i => hR σ st (by rw [List.length_cons, show j + (l.length + 1) = j + 1 + l.length by omega]; exact i))
    cases o with
    | nx σ2 st2 =>
      obtain ⟨o', e5, q'⟩ := ih σ2 st2 q
      exact ⟨o', by simp [forGo, e1, e2, e5], q'⟩
    | ct σ2 st2 =>
      obtain ⟨o', e5, q'⟩ := ih σ2 st2 q
      exact ⟨o', by simp [forGo, e1, e2, e5], q'⟩
    | bk σ2 st2 => exact ⟨.nx σ2 st2, by simp [forGo, e1, e2], q⟩
    | rt d fl st2 => exact ⟨.rt d fl st2, by simp [forGo, e1, e2], q⟩
theorem rs_for (I : Nat → List SV → Sto → Prop) (R : List SV → Sto → Prop) (hi : evi cl it σ st = some (items, fl, st1)) (hf : fl ≠ .lk) (h0 : I 0 σ st1)
    (h : ∀ i d, items[i]? = some d → ∀ σ st, I i σ st → ∃ σ1, bindTg tg d σ = some σ1 ∧ Rs (execs cl b σ1 st) (Turn (I (i + 1)) R Q)) (hR : ∀ σ st, I items.length σ st → R σ st)
    (h2 : ∀ σ st, R σ st → Rs (execs cl r σ st) Q) : Rs (execs cl (.cons (.forr tg it b) r) σ st) Q := by
  refine rs_cons ?_
  rw [x_for hi rfl hf]
  obtain ⟨o, e, q⟩ := forGo_rs (tg := tg) (Q := Q) (body := execs cl b) (I := I) (R := R) items 0 σ st1 h0 (fun i d hd σ st i' => by
    have := h i d hd σ st (by rw [Nat.zero_add] at i'; exact i')
    rw [Nat.zero_add]; exact this) (fun σ st i => hR σ st (by rw [Nat.zero_add] at i; exact i))
  refine ⟨o, e, ?_⟩
  cases o with
  | nx σ st => exact h2 σ st q
  | rt d fl st => exact q
  | bk σ st => exact q.elim
  | ct σ st => exact q.elim
end
theorem run_rs {tb : List Fd} {n f : Nat} {fd : Fd} {ds : List D} {st : Sto} {Q : D → Fl → Sto → Prop} (h : tb[f]? = some fd) (hl : ds.length = fd.np) (hb : Rs (execs (runN tb n) fd.body (startD fd ds) st) (fun o => ∃ d fl st', endOf o = some (d, fl, st') ∧ Q d fl st')) : Rr (runN tb (n + 1) f ds st) Q := by
  obtain ⟨o, e, d, fl, st', e2, q⟩ := hb
  refine ⟨d, fl, st', ?_, q⟩
  rw [runN_eq h hl, e]
  exact e2
theorem rr_eq {x : RE} {d : D} {fl : Fl} {st : Sto} (h : Rr x fun d' fl' st' => d' = d ∧ fl' = fl ∧ st' = st) : x = some (d, fl, st) := by
  obtain ⟨_, _, _, e, rfl, rfl, rfl⟩ := h
  exact e
end Pn

set_option Elab.async false
set_option linter.all false
set_option maxRecDepth 100000
/-! the digits that a law draws -/
namespace Pn
open PySem
def Sm (k : Nat) (i : Int) : Prop := i.natAbs < 2 ^ k
theorem Sm.mono {a b : Nat} {i : Int} (h : Sm a i) (l : a ≤ b) : Sm b i := Nat.lt_of_lt_of_le h (Nat.pow_le_pow_right (by decide) l)
theorem Sm.mul {a b : Nat} {i j : Int} (h : Sm a i) (h2 : Sm b j) : Sm (a + b) (i * j) := by
  unfold Sm at *
  rw [Int.natAbs_mul, Nat.pow_add]
  exact Nat.mul_lt_mul'' h h2
theorem Sm.add {a : Nat} {i j : Int} (h : Sm a i) (h2 : Sm a j) : Sm (a + 1) (i + j) := by
  unfold Sm at *
  have := Int.natAbs_add_le i j
  rw [Nat.pow_succ]
  omega
theorem Sm.of {k : Nat} {i m : Int} (h0 : 0 ≤ i) (h1 : i < m) (hm : Sm k m) : Sm k i := by
  unfold Sm at *
  omega
theorem mul_ex {a b : Nat} {i j : Int} (h : Sm a i) (h2 : Sm b j) (hl : a ≤ 2000 := by decide) (hl2 : b ≤ 2000 := by decide) : ∃ p, iops .mul i j = some p ∧ Sm (a + b) p :=
  ⟨_, iops_mul (h.mono hl) (h2.mono hl2), h.mul h2⟩
theorem mod_ex {i m : Int} (h : 0 < m) : ∃ p, iops .mod i m = some p ∧ 0 ≤ p ∧ p < m := ⟨_, iops_mod h, Int.emod_nonneg _ (by omega), Int.emod_lt_of_pos _ h⟩
theorem fdiv_ex {i m : Int} {b : Nat} (h : 0 ≤ i) (h1 : 0 < m) (hm : Sm b m) (hl : b ≤ 2000 := by decide) : ∃ p, iops .fdiv i m = some p ∧ 0 ≤ p ∧ p ≤ i :=
  ⟨_, iops_fdiv h1 (hm.mono hl), Int.ediv_nonneg h (by omega), Int.ediv_le_self _ h⟩
structure BoxOk (st : Sto) (i : Nat) (C : Nat) : Prop where
  ex : ∃ own seed c : Int, st[i]? = some [.int own, .int seed, .int c] ∧ 0 ≤ own ∧ Sm 1000 own ∧ 0 ≤ seed ∧ Sm 62 seed ∧ 0 ≤ c ∧ c ≤ C
theorem BoxOk.mono {st : Sto} {i C C' : Nat} (h : BoxOk st i C) (l : C ≤ C') : BoxOk st i C' := by
  obtain ⟨own, seed, c, a⟩ := h.ex
  exact ⟨own, seed, c, a.1, a.2.1, a.2.2.1, a.2.2.2.1, a.2.2.2.2.1, a.2.2.2.2.2.1, by omega⟩
def bTake : Ss := (.cons (.iff (.cmp .gt (.ix (.var 0) (.cInt 0)) (.cInt 0)) (.cons (.asg (.nm 2) (.bin .mod (.ix (.var 0) (.cInt 0)) (.var 1))) (.cons (.setIx 0 (.cInt 0) (.bin .fdiv (.ix (.var 0) (.cInt 0)) (.var 1))) (.cons (.ret (.var 2)) .nil))) .nil) (.cons (.setIx 0 (.cInt 2) (.bin .add (.ix (.var 0) (.cInt 2)) (.cInt 1))) (.cons (.asg (.nm 3) (.bin .mod (.bin .mul (.bin .add (.bin .add (.ix (.var 0) (.cInt 1)) (.bin .mul (.bin .mul (.cInt 65543) (.ix (.var 0) (.cInt 2))) (.ix (.var 0) (.cInt 2)))) (.cInt 23)) (.cInt 48313)) (.cInt 2305843009213693921))) (.cons (.asg (.nm 3) (.bin .mod (.bin .mul (.var 3) (.bin .add (.bin .mod (.var 3) (.cInt 1000033)) (.bin .mul (.cInt 99991) (.ix (.var 0) (.cInt 2))))) (.cInt 2305843009213693907))) (.cons (.ret (.bin .mod (.bin .add (.bin .fdiv (.var 3) (.cInt 107)) (.bin .fdiv (.var 3) (.cInt 1000037))) (.var 1))) .nil)))))
def bBox : Ss := (.cons (.asg (.nm 2) (.ite (.cmp .lt (.var 1) (.bcf .len (.cons (.var 0) .nil))) (.ix (.var 0) (.var 1)) (.bin .add (.bin .mul (.cInt 31) (.var 1)) (.cInt 4)))) (.cons (.asg (.nm 3) (.bin .mul (.bin .mod (.bcf .abs (.cons (.var 2) .nil)) (.bin .pow (.bin .pow (.cInt 10) (.cInt 60)) (.cInt 5))) (.bcf .int (.cons (.cmp .ge (.bcf .abs (.cons (.var 2) .nil)) (.bin .pow (.cInt 10) (.cInt 18))) .nil)))) (.cons (.ret (.lst (.cons (.var 3) (.cons (.bin .mod (.bin .add (.bin .add (.bin .mul (.bin .mod (.var 2) (.cInt 2305843009213693951)) (.cInt 70061)) (.bin .mul (.bin .mul (.cInt 5303) (.var 1)) (.var 1))) (.cInt 67)) (.cInt 2305843009213693921)) (.cons (.cInt 0) .nil))))) .nil)))
theorem st_set {st : Sto} {i : Nat} {x y : List D} (h : st[i]? = some x) : (st.set i y)[i]? = some y := by
  have : i < st.length := (List.getElem?_eq_some_iff.mp h).1
  simp [this]
theorem take_spec {tb : List Fd} {f n i C m : Nat} {st : Sto} (h : tb[f]? = some ⟨2, 4, bTake⟩) (hb : BoxOk st i C) (hC : C ≤ 1000000) (hm : 1 ≤ m) (hm2 : m ≤ 1000000) :
    Rr (runN tb (n + 1) f [.box i, .int m] st) fun d fl st' => fl = .pl ∧ (∃ r : Nat, d = .int r ∧ r < m) ∧ BoxOk st' i (C + 1) ∧ st'.length = st.length := by
  obtain ⟨own, seed, c, e, o1, o2, s1, s2, c1, c2⟩ := hb.ex
  have sm : Sm 20 (m : Int) := by unfold Sm; omega
  refine run_rs h rfl ?_
  by_cases ho : 0 < own
  · obtain ⟨r, er, r1, r2⟩ := mod_ex (i := own) (m := m) (by omega)
    obtain ⟨q, eq, q1, q2⟩ := fdiv_ex (i := own) (m := m) o1 (by omega) sm
    refine rs_if1 (st1 := st) (by simp [execs, exec, ev, evs, evl, evo, evc, evi, byTru, startD, binop_ii, binop_tt, binop_ll, cmpD, tru, endOf, flEnd, flOf, bfun, bindTg, bindTgs, setAll, isOw, seqOf, ixD, wipeD, slD, wTest, wNamed, e, ho, L2.atI, L2.ixN]) ?_
    refine rs_nx (σ1 := [.im (.box i), .im (.int m), .im (.int r), .no]) (st1 := st) (by simp [execs, exec, ev, evs, evl, evo, evc, evi, byTru, startD, binop_ii, binop_tt, binop_ll, cmpD, tru, endOf, flEnd, flOf, bfun, bindTg, bindTgs, setAll, isOw, seqOf, ixD, wipeD, slD, wTest, wNamed, e, er, L2.atI, L2.ixN]) ?_
    refine rs_nx (σ1 := [.im (.box i), .im (.int m), .im (.int r), .no]) (st1 := st.set i [.int q, .int seed, .int c]) (by simp [execs, exec, ev, evs, evl, evo, evc, evi, byTru, startD, binop_ii, binop_tt, binop_ll, cmpD, tru, endOf, flEnd, flOf, bfun, bindTg, bindTgs, setAll, isOw, seqOf, ixD, wipeD, slD, wTest, wNamed, e, eq, L2.atI, L2.ixN]) ?_
    refine rs_ret (d := .int r) (fl := .pl) (st1 := st.set i [.int q, .int seed, .int c]) (by simp [execs, exec, ev, evs, evl, evo, evc, evi, byTru, startD, binop_ii, binop_tt, binop_ll, cmpD, tru, endOf, flEnd, flOf, bfun, bindTg, bindTgs, setAll, isOw, seqOf, ixD, wipeD, slD, wTest, wNamed]) ⟨_, _, _, rfl, rfl, ⟨r.toNat, by rw [Int.toNat_of_nonneg r1], by omega⟩, ⟨q, seed, c, st_set e, q1, ?_, s1, s2, c1, by omega⟩, by simp⟩
    exact Nat.lt_of_le_of_lt (by omega : q.natAbs ≤ own.natAbs) o2
  · have c3 : Sm 20 (c + 1) := by unfold Sm; omega
    obtain ⟨p1, e1, b1⟩ := mul_ex (i := 65543) (j := c + 1) (a := 20) (by unfold Sm; decide) c3
    obtain ⟨p2, e2, b2⟩ := mul_ex b1 c3
    have b3 : Sm 64 (seed + p2 + 23) := ((s2.add (b2.mono (by decide))).add (Sm.mono (a := 10) (by unfold Sm; decide) (by decide)))
    obtain ⟨p3, e3, b3'⟩ := mul_ex b3 (j := 48313) (b := 20) (by unfold Sm; decide)
    obtain ⟨d1, e4, d1a, d1b⟩ := mod_ex (i := p3) (m := 2305843009213693921) (by decide)
    obtain ⟨d2, e5, d2a, d2b⟩ := mod_ex (i := d1) (m := 1000033) (by decide)
    obtain ⟨p4, e6, b6⟩ := mul_ex (i := 99991) (j := c + 1) (a := 20) (by unfold Sm; decide) c3
    have sd1 : Sm 62 d1 := Sm.of d1a d1b (by unfold Sm; decide)
    have sd2 : Sm 40 d2 := Sm.of d2a d2b (by unfold Sm; decide)
    obtain ⟨p5, e7, b7⟩ := mul_ex sd1 (sd2.add b6)
    obtain ⟨d3, e8, d3a, d3b⟩ := mod_ex (i := p5) (m := 2305843009213693907) (by decide)
    obtain ⟨q1, e9, q1a, q1b⟩ := fdiv_ex (i := d3) (m := 107) (b := 20) d3a (by decide) (by unfold Sm; decide)
    obtain ⟨q2, e10, q2a, q2b⟩ := fdiv_ex (i := d3) (m := 1000037) (b := 20) d3a (by decide) (by unfold Sm; decide)
    obtain ⟨r, e11, r1, r2⟩ := mod_ex (i := q1 + q2) (m := m) (by omega)
    have hs := st_set (y := [.int own, .int seed, .int (c + 1)]) e
    refine rs_skip (st1 := st) (by simp [execs, exec, ev, evs, evl, evo, evc, evi, byTru, startD, binop_ii, binop_tt, binop_ll, cmpD, tru, endOf, flEnd, flOf, bfun, bindTg, bindTgs, setAll, isOw, seqOf, ixD, wipeD, slD, wTest, wNamed, e, ho, L2.atI, L2.ixN]) ?_
    refine rs_nx (σ1 := [.im (.box i), .im (.int m), .no, .no]) (st1 := st.set i [.int own, .int seed, .int (c + 1)]) (by simp [execs, exec, ev, evs, evl, evo, evc, evi, byTru, startD, binop_ii, binop_tt, binop_ll, cmpD, tru, endOf, flEnd, flOf, bfun, bindTg, bindTgs, setAll, isOw, seqOf, ixD, wipeD, slD, wTest, wNamed, e, L2.atI, L2.ixN]) ?_
    refine rs_nx (σ1 := [.im (.box i), .im (.int m), .no, .im (.int d1)]) (st1 := st.set i [.int own, .int seed, .int (c + 1)]) (by simp [execs, exec, ev, evs, evl, evo, evc, evi, byTru, startD, binop_ii, binop_tt, binop_ll, cmpD, tru, endOf, flEnd, flOf, bfun, bindTg, bindTgs, setAll, isOw, seqOf, ixD, wipeD, slD, wTest, wNamed, hs, e1, e2, e3, e4, L2.atI, L2.ixN, -List.getElem?_set_self, -List.getElem?_set_self']) ?_
    refine rs_nx (σ1 := [.im (.box i), .im (.int m), .no, .im (.int d3)]) (st1 := st.set i [.int own, .int seed, .int (c + 1)]) (by simp [execs, exec, ev, evs, evl, evo, evc, evi, byTru, startD, binop_ii, binop_tt, binop_ll, cmpD, tru, endOf, flEnd, flOf, bfun, bindTg, bindTgs, setAll, isOw, seqOf, ixD, wipeD, slD, wTest, wNamed, hs, e5, e6, e7, e8, L2.atI, L2.ixN, -List.getElem?_set_self, -List.getElem?_set_self']) ?_
    refine rs_ret (d := .int r) (fl := .pl) (st1 := st.set i [.int own, .int seed, .int (c + 1)]) (by simp [execs, exec, ev, evs, evl, evo, evc, evi, byTru, startD, binop_ii, binop_tt, binop_ll, cmpD, tru, endOf, flEnd, flOf, bfun, bindTg, bindTgs, setAll, isOw, seqOf, ixD, wipeD, slD, wTest, wNamed, e9, e10, e11]) ⟨_, _, _, rfl, rfl, ⟨r.toNat, by rw [Int.toNat_of_nonneg r1], by omega⟩, ⟨own, seed, c + 1, hs, o1, o2, s1, s2, by omega, by omega⟩, by simp⟩
def T60 : Int := 10 ^ 60
def T300 : Int := 10 ^ 300
def T18 : Int := 10 ^ 18
theorem pow_t60 : iops .pow 10 60 = some T60 := by decide +kernel
theorem pow_t300 : iops .pow T60 5 = some T300 := by decide +kernel
theorem pow_t18 : iops .pow 10 18 = some T18 := by decide +kernel
theorem box_spec {tb : List Fd} {f n k : Nat} {st : Sto} {ns : List Int} (h : tb[f]? = some ⟨2, 4, bBox⟩) (hk : k < 1000) :
    Rr (runN tb (n + 1) f [.scr (ns.map .int), .int k] st) fun d fl st' => fl = .fr ∧ st' = st ∧ ∃ own seed : Int, d = .lst [.int own, .int seed, .int 0] ∧ 0 ≤ own ∧ Sm 1000 own ∧ 0 ≤ seed ∧ Sm 62 seed := by
  refine run_rs h rfl ?_
  have sk : Sm 10 (k : Int) := by unfold Sm; omega
  obtain ⟨p0, e0, b0⟩ := mul_ex (i := 31) (j := k) (a := 20) (by unfold Sm; decide) sk
  obtain ⟨dg, hd⟩ : ∃ dg : Int, (ev (runN tb n) (.ite (.cmp .lt (.var 1) (.bcf .len (.cons (.var 0) .nil))) (.ix (.var 0) (.var 1)) (.bin .add (.bin .mul (.cInt 31) (.var 1)) (.cInt 4)))).1 [.im (.scr (ns.map .int)), .im (.int k), .no, .no] st = some (.int dg, .pl, st) := by
    by_cases hl : k < ns.length
    · have at_ : L2.atI (ns.map D.int) (k : Int) = some (.int ns[k]) := L2.atI_nat (by simp [hl])
      exact ⟨ns[k], by simp [execs, exec, ev, evs, evl, evo, evc, evi, byTru, startD, binop_ii, binop_tt, binop_ll, cmpD, tru, endOf, flEnd, flOf, bfun, bindTg, bindTgs, setAll, isOw, seqOf, ixD, wipeD, slD, wTest, wNamed, hl, at_]⟩
    · exact ⟨p0 + 4, by simp [execs, exec, ev, evs, evl, evo, evc, evi, byTru, startD, binop_ii, binop_tt, binop_ll, cmpD, tru, endOf, flEnd, flOf, bfun, bindTg, bindTgs, setAll, isOw, seqOf, ixD, wipeD, slD, wTest, wNamed, hl, e0]⟩
  refine rs_nx (σ1 := [.im (.scr (ns.map .int)), .im (.int k), .im (.int dg), .no]) (st1 := st) (x_asg hd (by decide) rfl) ?_
  obtain ⟨ab, hab⟩ : ∃ ab : Int, ab = if dg < 0 then -dg else dg := ⟨_, rfl⟩
  obtain ⟨md, e1, m1, m2⟩ := mod_ex (i := ab) (m := T300) (by decide +kernel)
  have smd : Sm 999 md := Sm.of m1 m2 (by unfold Sm; decide +kernel)
  obtain ⟨bb, hbb, hb2⟩ : ∃ bb : Int, (if T18 ≤ ab then 1 else 0) = bb ∧ (bb = 0 ∨ bb = 1) := by
    by_cases hl : T18 ≤ ab
    · exact ⟨1, if_pos hl, .inr rfl⟩
    · exact ⟨0, if_neg hl, .inl rfl⟩
  have sbb : Sm 1 bb := by unfold Sm; omega
  obtain ⟨ow, e2, b2⟩ := mul_ex smd sbb
  have how : 0 ≤ ow := by
    rw [iops_mul (smd.mono (by decide)) (sbb.mono (by decide))] at e2
    cases e2
    exact Int.mul_nonneg m1 (by omega)
  obtain ⟨d1, e3, d1a, d1b⟩ := mod_ex (i := dg) (m := 2305843009213693951) (by decide)
  have sd1 : Sm 62 d1 := Sm.of d1a d1b (by unfold Sm; decide)
  obtain ⟨p1, e4, b4⟩ := mul_ex sd1 (j := 70061) (b := 20) (by unfold Sm; decide)
  obtain ⟨p2, e5, b5⟩ := mul_ex (i := 5303) (j := k) (a := 20) (by unfold Sm; decide) sk
  obtain ⟨p3, e6, b6⟩ := mul_ex b5 sk
  obtain ⟨sd, e7, s7a, s7b⟩ := mod_ex (i := p1 + p3 + 67) (m := 2305843009213693921) (by decide)
  refine rs_nx (σ1 := [.im (.scr (ns.map .int)), .im (.int k), .im (.int dg), .im (.int ow)]) (st1 := st) (by simp [execs, exec, ev, evs, evl, evo, evc, evi, byTru, startD, binop_ii, binop_tt, binop_ll, cmpD, tru, endOf, flEnd, flOf, bfun, bindTg, bindTgs, setAll, isOw, seqOf, ixD, wipeD, slD, wTest, wNamed, pow_t60, pow_t300, pow_t18, ← hab, e1, hbb, e2]) ?_
  refine rs_ret (d := .lst [.int ow, .int sd, .int 0]) (fl := .fr) (st1 := st) (by simp [execs, exec, ev, evs, evl, evo, evc, evi, byTru, startD, binop_ii, binop_tt, binop_ll, cmpD, tru, endOf, flEnd, flOf, bfun, bindTg, bindTgs, setAll, isOw, seqOf, ixD, wipeD, slD, wTest, wNamed, e3, e4, e5, e6, e7, LIM]) ⟨_, _, _, rfl, rfl, rfl, ow, sd, rfl, how, b2, s7a, Sm.of s7a s7b (by unfold Sm; decide)⟩

/-! ### drawn rows -/
theorem take_eq {tb : List Fd} {f n i C m : Nat} {st : Sto} (h : tb[f]? = some ⟨2, 4, bTake⟩) (hb : BoxOk st i C) (hC : C ≤ 1000000) (hm : 1 ≤ m) (hm2 : m ≤ 1000000) :
    ∃ (r : Nat) (st' : Sto), runN tb (n + 1) f [.box i, .int m] st = some (.int r, .pl, st') ∧ r < m ∧ BoxOk st' i (C + 1) ∧ st'.length = st.length := by
  obtain ⟨d, fl, st', e, rfl, ⟨r, rfl, hr⟩, b, l⟩ := take_spec (n := n) h hb hC hm hm2
  exact ⟨r, st', e, hr, b, l⟩
theorem ints_of {p : Int → Prop} : ∀ {l : List D}, (∀ d, d ∈ l → ∃ r : Int, d = .int r ∧ p r) → ∃ ds : List Int, l = ds.map .int ∧ ∀ r, r ∈ ds → p r
  | [], _ => ⟨[], rfl, fun _ h => by cases h⟩
  | d :: l, h => by
    obtain ⟨r, rfl, pr⟩ := h d (List.mem_cons_self ..)
    obtain ⟨ds, rfl, pd⟩ := ints_of fun d m => h d (List.mem_cons_of_mem _ m)
    refine ⟨r :: ds, rfl, fun x m => ?_⟩
    rcases List.mem_cons.mp m with rfl | m
    · exact pr
    · exact pd x m
theorem cutD_take (l : List D) (k : Nat) : cutD l none (some (k : Int)) = l.take k := by
  unfold cutD
  rw [HT.sIx_none, HT.sIx_nat]
  simp only [List.drop_zero, Nat.sub_zero]
  rw [← List.take_take, List.take_of_length_le (i := l.length) (Nat.le_of_eq rfl)]
theorem mem_rep {l : List D} {k : Nat} {d : D} (h : d ∈ (List.replicate k l).flatten) : d ∈ l := by
  rw [List.mem_flatten] at h
  obtain ⟨x, m, h⟩ := h
  rw [(List.mem_replicate.mp m).2] at h
  exact h
end Pn

set_option Elab.async false
set_option linter.all false
set_option maxRecDepth 100000
set_option maxHeartbeats 4000000
namespace Pn
open PySem PySem.Spec PyProof.Rows L2
/-! ### the text -/
def topS (i : Nat) : Stmt := PySem.Challenge.pw_pastenough_k80_whole_all_short_words_of.main.body.getD i (.Pass ⟨0, 0, 0, 0⟩)
def cc : CC := ⟨["predicted", "value_after", "counted", "value_map", "fixed_values", "settled_value", "settled_errors", "_law_box", "_law_take", "_law_of", "_law_row", "_law_word_right", "_law_all", "_law_right", "law"], ["abs", "all", "enumerate", "int", "len", "list", "max", "min", "range", "sorted", "tuple"], [7]⟩
abbrev st_predicted : Stmt := topS 1
def b_predicted : Ss := (.cons (.ret (.ite (.cmp .ge (.var 1) (.bin .shl (.cInt 1) (.bin .sub (.var 0) (.cInt 1)))) (.cInt 1) (.cInt 0))) .nil)
def fd_predicted : Fd := ⟨2, 2, b_predicted⟩
theorem sc_predicted : FnScope ["bits", "value"] ["bits", "value"] (defScope st_predicted) := ⟨rfl, rfl, rfl, by decide +kernel, rfl, by decide +kernel, by decide +kernel⟩
theorem dt_predicted : DefT cc.fns cc.blts fd_predicted st_predicted ["bits", "value"] ["bits", "value"] := defT_of (own := []) sc_predicted rfl rfl (by kernel_rfl)
abbrev st_value_after : Stmt := topS 2
def b_value_after : Ss := (.cons (.ret (.ite (.cmp .eq (.var 2) (.cInt 1)) (.bcf .min (.cons (.bin .add (.var 1) (.cInt 1)) (.cons (.bin .sub (.bin .shl (.cInt 1) (.var 0)) (.cInt 1)) .nil))) (.bcf .max (.cons (.bin .sub (.var 1) (.cInt 1)) (.cons (.cInt 0) .nil))))) .nil)
def fd_value_after : Fd := ⟨3, 3, b_value_after⟩
theorem sc_value_after : FnScope ["bits", "value", "outcome"] ["bits", "value", "outcome"] (defScope st_value_after) := ⟨rfl, rfl, rfl, by decide +kernel, rfl, by decide +kernel, by decide +kernel⟩
theorem dt_value_after : DefT cc.fns cc.blts fd_value_after st_value_after ["bits", "value", "outcome"] ["bits", "value", "outcome"] := defT_of (own := []) sc_value_after rfl rfl (by kernel_rfl)
abbrev st_counted : Stmt := topS 3
def L_counted_1 : Ss := (.cons (.aug 4 .add (.bcf .int (.cons (.cmp .ne (.call 0 (.cons (.var 2) (.cons (.var 3) .nil))) (.var 5)) .nil))) (.cons (.asg (.nm 3) (.call 1 (.cons (.var 2) (.cons (.var 3) (.cons (.var 5) .nil))))) .nil))
def b_counted : Ss := (.cons (.asg (.tu (.cons (.nm 2) (.cons (.nm 3) .nil))) (.var 0)) (.cons (.asg (.nm 4) (.cInt 0)) (.cons (.forr (.nm 5) (.seq (.var 1)) L_counted_1) (.cons (.ret (.tup (.cons (.var 4) (.cons (.var 3) .nil)))) .nil))))
def fd_counted : Fd := ⟨2, 6, b_counted⟩
theorem sc_counted : FnScope ["counter", "outcomes", "bits", "value", "errors", "outcome"] ["counter", "outcomes"] (defScope st_counted) := ⟨rfl, rfl, rfl, by decide +kernel, rfl, by decide +kernel, by decide +kernel⟩
theorem dt_counted : DefT cc.fns cc.blts fd_counted st_counted ["counter", "outcomes", "bits", "value", "errors", "outcome"] ["counter", "outcomes"] := defT_of (own := []) sc_counted rfl rfl (by kernel_rfl)
abbrev st_value_map : Stmt := topS 4
def C_value_map_1 : E := .comp [2] (.nm 2) (.rng (.bin .shl (.cInt 1) (.var 0))) .no (.ix (.call 2 (.cons (.tup (.cons (.var 0) (.cons (.var 2) .nil))) (.cons (.var 1) .nil))) (.cInt 1))
def b_value_map : Ss := (.cons (.ret (.bcf .tuple (.cons C_value_map_1 .nil))) .nil)
def fd_value_map : Fd := ⟨2, 3, b_value_map⟩
theorem sc_value_map : FnScope ["bits", "outcomes", "first"] ["bits", "outcomes"] (defScope st_value_map) := ⟨rfl, rfl, rfl, by decide +kernel, rfl, by decide +kernel, by decide +kernel⟩
theorem dt_value_map : DefT cc.fns cc.blts fd_value_map st_value_map ["bits", "outcomes", "first"] ["bits", "outcomes"] := defT_of (own := []) sc_value_map rfl rfl (by kernel_rfl)
abbrev st_fixed_values : Stmt := topS 5
def C_fixed_values_1 : E := .comp [2, 3] (.tu (.cons (.nm 2) (.cons (.nm 3) .nil))) (.enum (.call 3 (.cons (.var 0) (.cons (.var 1) .nil)))) (.so (.cmp .eq (.var 2) (.var 3))) (.var 2)
def b_fixed_values : Ss := (.cons (.ret (.bcf .tuple (.cons C_fixed_values_1 .nil))) .nil)
def fd_fixed_values : Fd := ⟨2, 4, b_fixed_values⟩
theorem sc_fixed_values : FnScope ["bits", "outcomes", "first", "value"] ["bits", "outcomes"] (defScope st_fixed_values) := ⟨rfl, rfl, rfl, by decide +kernel, rfl, by decide +kernel, by decide +kernel⟩
theorem dt_fixed_values : DefT cc.fns cc.blts fd_fixed_values st_fixed_values ["bits", "outcomes", "first", "value"] ["bits", "outcomes"] := defT_of (own := []) sc_fixed_values rfl rfl (by kernel_rfl)
abbrev st_settled_value : Stmt := topS 6
def L_settled_value_1 : Ss := (.cons (.asg (.nm 3) (.var 4)) .nil)
def b_settled_value : Ss := (.cons (.asg (.tu (.cons (.nm 2) (.cons (.nm 3) .nil))) (.var 0)) (.cons (.whlW 4 (.ix (.call 2 (.cons (.tup (.cons (.var 2) (.cons (.var 3) .nil))) (.cons (.var 1) .nil))) (.cInt 1)) .ne (.var 3) L_settled_value_1) (.cons (.ret (.var 3)) .nil)))
def fd_settled_value : Fd := ⟨2, 5, b_settled_value⟩
theorem sc_settled_value : FnScope ["counter", "outcomes", "bits", "value", "later"] ["counter", "outcomes"] (defScope st_settled_value) := ⟨rfl, rfl, rfl, by decide +kernel, rfl, by decide +kernel, by decide +kernel⟩
theorem dt_settled_value : DefT cc.fns cc.blts fd_settled_value st_settled_value ["counter", "outcomes", "bits", "value", "later"] ["counter", "outcomes"] := defT_of (own := []) sc_settled_value rfl rfl (by kernel_rfl)
abbrev st_settled_errors : Stmt := topS 7
def b_settled_errors : Ss := (.cons (.ret (.ix (.call 2 (.cons (.tup (.cons (.ix (.var 0) (.cInt 0)) (.cons (.call 5 (.cons (.var 0) (.cons (.var 1) .nil))) .nil))) (.cons (.var 1) .nil))) (.cInt 0))) .nil)
def fd_settled_errors : Fd := ⟨2, 2, b_settled_errors⟩
theorem sc_settled_errors : FnScope ["counter", "outcomes"] ["counter", "outcomes"] (defScope st_settled_errors) := ⟨rfl, rfl, rfl, by decide +kernel, rfl, by decide +kernel, by decide +kernel⟩
theorem dt_settled_errors : DefT cc.fns cc.blts fd_settled_errors st_settled_errors ["counter", "outcomes"] ["counter", "outcomes"] := defT_of (own := []) sc_settled_errors rfl rfl (by kernel_rfl)
abbrev st__law_box : Stmt := topS 9
def b__law_box : Ss := (.cons (.asg (.nm 2) (.ite (.cmp .lt (.var 1) (.bcf .len (.cons (.var 0) .nil))) (.ix (.var 0) (.var 1)) (.bin .add (.bin .mul (.cInt 31) (.var 1)) (.cInt 4)))) (.cons (.asg (.nm 3) (.bin .mul (.bin .mod (.bcf .abs (.cons (.var 2) .nil)) (.bin .pow (.bin .pow (.cInt 10) (.cInt 60)) (.cInt 5))) (.bcf .int (.cons (.cmp .ge (.bcf .abs (.cons (.var 2) .nil)) (.bin .pow (.cInt 10) (.cInt 18))) .nil)))) (.cons (.ret (.lst (.cons (.var 3) (.cons (.bin .mod (.bin .add (.bin .add (.bin .mul (.bin .mod (.var 2) (.cInt 2305843009213693951)) (.cInt 70061)) (.bin .mul (.bin .mul (.cInt 5303) (.var 1)) (.var 1))) (.cInt 67)) (.cInt 2305843009213693921)) (.cons (.cInt 0) .nil))))) .nil)))
def fd__law_box : Fd := ⟨2, 4, b__law_box⟩
theorem sc__law_box : FnScope ["_law_script", "_law_k", "_law_digits", "_law_own"] ["_law_script", "_law_k"] (defScope st__law_box) := ⟨rfl, rfl, rfl, by decide +kernel, rfl, by decide +kernel, by decide +kernel⟩
theorem dt__law_box : DefT cc.fns cc.blts fd__law_box st__law_box ["_law_script", "_law_k", "_law_digits", "_law_own"] ["_law_script", "_law_k"] := defT_of (own := []) sc__law_box rfl rfl (by kernel_rfl)
abbrev st__law_take : Stmt := topS 10
def b__law_take : Ss := (.cons (.iff (.cmp .gt (.ix (.var 0) (.cInt 0)) (.cInt 0)) (.cons (.asg (.nm 2) (.bin .mod (.ix (.var 0) (.cInt 0)) (.var 1))) (.cons (.setIx 0 (.cInt 0) (.bin .fdiv (.ix (.var 0) (.cInt 0)) (.var 1))) (.cons (.ret (.var 2)) .nil))) .nil) (.cons (.setIx 0 (.cInt 2) (.bin .add (.ix (.var 0) (.cInt 2)) (.cInt 1))) (.cons (.asg (.nm 3) (.bin .mod (.bin .mul (.bin .add (.bin .add (.ix (.var 0) (.cInt 1)) (.bin .mul (.bin .mul (.cInt 65543) (.ix (.var 0) (.cInt 2))) (.ix (.var 0) (.cInt 2)))) (.cInt 23)) (.cInt 48313)) (.cInt 2305843009213693921))) (.cons (.asg (.nm 3) (.bin .mod (.bin .mul (.var 3) (.bin .add (.bin .mod (.var 3) (.cInt 1000033)) (.bin .mul (.cInt 99991) (.ix (.var 0) (.cInt 2))))) (.cInt 2305843009213693907))) (.cons (.ret (.bin .mod (.bin .add (.bin .fdiv (.var 3) (.cInt 107)) (.bin .fdiv (.var 3) (.cInt 1000037))) (.var 1))) .nil)))))
def fd__law_take : Fd := ⟨2, 4, b__law_take⟩
theorem sc__law_take : FnScope ["_law_box_here", "_law_many", "_law_digit", "_law_drawn"] ["_law_box_here", "_law_many"] (defScope st__law_take) := ⟨rfl, rfl, rfl, by decide +kernel, rfl, by decide +kernel, by decide +kernel⟩
theorem dt__law_take : DefT cc.fns cc.blts fd__law_take st__law_take ["_law_box_here", "_law_many", "_law_digit", "_law_drawn"] ["_law_box_here", "_law_many"] := defT_of (own := []) sc__law_take rfl rfl (by kernel_rfl)
abbrev st__law_of : Stmt := topS 11
def b__law_of : Ss := (.cons (.ret (.ix (.var 1) (.call 8 (.cons (.var 0) (.cons (.bcf .len (.cons (.var 1) .nil)) .nil))))) .nil)
def fd__law_of : Fd := ⟨2, 2, b__law_of⟩
theorem sc__law_of : FnScope ["_law_box_here", "_law_some"] ["_law_box_here", "_law_some"] (defScope st__law_of) := ⟨rfl, rfl, rfl, by decide +kernel, rfl, by decide +kernel, by decide +kernel⟩
theorem dt__law_of : DefT cc.fns cc.blts fd__law_of st__law_of ["_law_box_here", "_law_some"] ["_law_box_here", "_law_some"] := defT_of (own := []) sc__law_of rfl rfl (by kernel_rfl)
abbrev st__law_row : Stmt := topS 12
def L__law_row_1 : Ss := (.cons (.asg (.nm 7) (.and (.cmp .eq (.var 3) (.cInt 2)) (.cmp .gt (.call 8 (.cons (.var 0) (.cons (.cInt 4) .nil))) (.cInt 0)))) (.cons (.app 6 (.ite (.var 7) (.ix (.var 6) (.neg (.cInt 1))) (.call 8 (.cons (.var 0) (.cons (.cInt 2) .nil))))) .nil))
def C__law_row_1 : E := .comp [5] (.nm 5) (.rng (.bin .add (.cInt 1) (.call 8 (.cons (.var 0) (.cons (.bcf .min (.cons (.var 2) (.cons (.cInt 4) .nil))) .nil))))) .no (.call 8 (.cons (.var 0) (.cons (.cInt 2) .nil)))
def b__law_row : Ss := (.cons (.par [2, 3] (.cons (.bin .add (.cInt 1) (.call 8 (.cons (.var 0) (.cons (.var 1) .nil)))) (.cons (.call 8 (.cons (.var 0) (.cons (.cInt 5) .nil))) .nil))) (.cons (.iff (.cmp .eq (.var 3) (.cInt 0)) (.cons (.ret (.bin .add (.bin .mul (.tup (.cons (.cInt 1) .nil)) (.bin .sub (.var 2) (.cInt 1))) (.tup (.cons (.cInt 0) .nil)))) .nil) .nil) (.cons (.iff (.cmp .eq (.var 3) (.cInt 1)) (.cons (.asg (.nm 4) C__law_row_1) (.cons (.ret (.bcf .tuple (.cons (.sl (.bin .mul (.var 4) (.var 2)) .no (.so (.var 2))) .nil))) .nil)) .nil) (.cons (.own 6 (.lst (.cons (.call 8 (.cons (.var 0) (.cons (.cInt 2) .nil))) .nil))) (.cons (.whl (.cmp .lt (.bcf .len (.cons (.var 6) .nil)) (.var 2)) L__law_row_1) (.cons (.ret (.bcf .tuple (.cons (.var 6) .nil))) .nil))))))
def fd__law_row : Fd := ⟨2, 8, b__law_row⟩
theorem sc__law_row : FnScope ["_law_box_here", "_law_most", "_law_size", "_law_kind", "_law_piece", "_law_turn", "_law_found", "_law_is_kept"] ["_law_box_here", "_law_most"] (defScope st__law_row) := ⟨rfl, rfl, rfl, by decide +kernel, rfl, by decide +kernel, by decide +kernel⟩
theorem dt__law_row : DefT cc.fns cc.blts fd__law_row st__law_row ["_law_box_here", "_law_most", "_law_size", "_law_kind", "_law_piece", "_law_turn", "_law_found", "_law_is_kept"] ["_law_box_here", "_law_most"] := defT_of (own := [6]) sc__law_row rfl rfl (by kernel_rfl)
abbrev st__law_word_right : Stmt := topS 13
def L__law_word_right_1 : Ss := (.cons (.asg (.nm 8) (.ix (.var 2) (.var 5))) (.cons (.iff (.or (.cmp .ne (.cmp .gt (.var 8) (.var 5)) (.var 6)) (.cmp .ge (.var 7) (.bin .shl (.cInt 1) (.var 0)))) (.cons (.ret (.cBl false)) .nil) .nil) (.cons (.par [5, 7] (.cons (.var 8) (.cons (.bin .add (.var 7) (.cInt 1)) .nil))) .nil)))
def L__law_word_right_2 : Ss := (.cons (.par [5, 6, 7] (.cons (.var 4) (.cons (.cmp .ge (.ix (.var 2) (.var 4)) (.var 4)) (.cons (.cInt 0) .nil)))) (.cons (.whl (.cmp .notin (.var 5) (.var 3)) L__law_word_right_1) (.cons (.iff (.or (.cmp .gt (.var 7) (.bin .sub (.bin .shl (.cInt 1) (.var 0)) (.cInt 1))) (.cmp .ne (.call 5 (.cons (.tup (.cons (.var 0) (.cons (.var 4) .nil))) (.cons (.var 1) .nil))) (.var 5))) (.cons (.ret (.cBl false)) .nil) .nil) (.cons (.iff (.cmp .ne (.call 6 (.cons (.tup (.cons (.var 0) (.cons (.var 4) .nil))) (.cons (.var 1) .nil))) (.ix (.call 2 (.cons (.tup (.cons (.var 0) (.cons (.var 5) .nil))) (.cons (.var 1) .nil))) (.cInt 0))) (.cons (.ret (.cBl false)) .nil) .nil) .nil))))
def b__law_word_right : Ss := (.cons (.par [2, 3] (.cons (.call 3 (.cons (.var 0) (.cons (.var 1) .nil))) (.cons (.call 4 (.cons (.var 0) (.cons (.var 1) .nil))) .nil))) (.cons (.iff (.or (.cmp .ne (.bcf .len (.cons (.var 2) .nil)) (.bin .shl (.cInt 1) (.var 0))) (.or (.cmp .ne (.bcf .list (.cons (.var 2) .nil)) (.bcf .sorted (.cons (.var 2) .nil))) (.cmp .eq (.var 3) (.tup .nil)))) (.cons (.ret (.cBl false)) .nil) .nil) (.cons (.forr (.nm 4) (.rng (.bin .shl (.cInt 1) (.var 0))) L__law_word_right_2) (.cons (.ret (.cBl true)) .nil))))
def fd__law_word_right : Fd := ⟨2, 9, b__law_word_right⟩
theorem sc__law_word_right : FnScope ["_law_width", "_law_deeds", "_law_told", "_law_fixed", "_law_first", "_law_here", "_law_way_up", "_law_steps_here", "_law_later"] ["_law_width", "_law_deeds"] (defScope st__law_word_right) := ⟨rfl, rfl, rfl, by decide +kernel, rfl, by decide +kernel, by decide +kernel⟩
theorem dt__law_word_right : DefT cc.fns cc.blts fd__law_word_right st__law_word_right ["_law_width", "_law_deeds", "_law_told", "_law_fixed", "_law_first", "_law_here", "_law_way_up", "_law_steps_here", "_law_later"] ["_law_width", "_law_deeds"] := defT_of (own := []) sc__law_word_right rfl rfl (by kernel_rfl)
abbrev st__law_all : Stmt := topS 14
def C__law_all_1 : E := .comp [3] (.nm 3) (.seq (.var 1)) .no (.bin .add (.var 3) (.tup (.cons (.cInt 0) .nil)))
def C__law_all_2 : E := .comp [3] (.nm 3) (.seq (.var 1)) .no (.bin .add (.var 3) (.tup (.cons (.cInt 1) .nil)))
def L__law_all_1 : Ss := (.cons (.asg (.nm 1) (.bin .add C__law_all_1 C__law_all_2)) .nil)
def b__law_all : Ss := (.cons (.asg (.nm 1) (.lst (.cons (.tup .nil) .nil))) (.cons (.forr (.nm 2) (.rng (.var 0)) L__law_all_1) (.cons (.ret (.var 1)) .nil)))
def fd__law_all : Fd := ⟨1, 4, b__law_all⟩
theorem sc__law_all : FnScope ["_law_many", "_law_found", "_law_turn", "_law_row_here"] ["_law_many"] (defScope st__law_all) := ⟨rfl, rfl, rfl, by decide +kernel, rfl, by decide +kernel, by decide +kernel⟩
theorem dt__law_all : DefT cc.fns cc.blts fd__law_all st__law_all ["_law_many", "_law_found", "_law_turn", "_law_row_here"] ["_law_many"] := defT_of (own := []) sc__law_all rfl rfl (by kernel_rfl)
abbrev st__law_right : Stmt := topS 15
def C__law_right_1 : E := .comp [7] (.nm 7) (.seq (.var 5)) .no (.ix (.var 6) (.var 7))
def L__law_right_1 : Ss := (.cons (.par [2, 3, 4] (.cons (.bin .add (.cInt 1) (.call 8 (.cons (.var 0) (.cons (.cInt 4) .nil)))) (.cons (.call 10 (.cons (.var 0) (.cons (.cInt 64) .nil))) (.cons (.call 10 (.cons (.var 0) (.cons (.cInt 12) .nil))) .nil)))) (.cons (.iff (.nt (.call 11 (.cons (.var 2) (.cons (.var 3) .nil)))) (.cons (.ret (.cBl false)) .nil) .nil) (.cons (.asg (.tu (.cons (.nm 5) (.cons (.nm 6) .nil))) (.tup (.cons (.call 3 (.cons (.var 2) (.cons (.var 3) .nil))) (.cons (.call 3 (.cons (.var 2) (.cons (.var 4) .nil))) .nil)))) (.cons (.iff (.cmp .lt (.bin .add (.bcf .len (.cons (.var 3) .nil)) (.bcf .len (.cons (.var 4) .nil))) (.cInt 65)) (.cons (.iff (.cmp .ne (.call 3 (.cons (.var 2) (.cons (.bin .add (.var 3) (.var 4)) .nil))) (.bcf .tuple (.cons C__law_right_1 .nil))) (.cons (.ret (.cBl false)) .nil) .nil) .nil) .nil) .nil))))
def b__law_right : Ss := (.cons (.forr (.nm 1) (.rng (.cInt 10)) L__law_right_1) (.cons (.ret (.cBl true)) .nil))
def fd__law_right : Fd := ⟨1, 8, b__law_right⟩
theorem sc__law_right : FnScope ["_law_box_here", "_law_turn", "_law_width", "_law_deeds", "_law_more", "_law_ahead", "_law_behind", "_law_here"] ["_law_box_here"] (defScope st__law_right) := ⟨rfl, rfl, rfl, by decide +kernel, rfl, by decide +kernel, by decide +kernel⟩
theorem dt__law_right : DefT cc.fns cc.blts fd__law_right st__law_right ["_law_box_here", "_law_turn", "_law_width", "_law_deeds", "_law_more", "_law_ahead", "_law_behind", "_law_here"] ["_law_box_here"] := defT_of (own := []) sc__law_right rfl rfl (by kernel_rfl)
abbrev st_law : Stmt := topS 16
def C_law_1 : E := .comp [4] (.nm 4) (.rng (.bcf .max (.cons (.cInt 1) (.cons (.bcf .min (.cons (.bcf .len (.cons (.var 0) .nil)) (.cons (.cInt 2) .nil))) .nil)))) .no (.call 13 (.cons (.box (.call 7 (.cons (.var 0) (.cons (.var 4) .nil)))) .nil))
def C_law_2 : E := .comp [3] (.nm 3) (.seq (.call 12 (.cons (.var 1) .nil))) .no (.call 11 (.cons (.var 2) (.cons (.var 3) .nil)))
def L_law_1 : Ss := (.cons (.iff (.nt (.bcf .all (.cons C_law_2 .nil))) (.cons (.ret (.cBl false)) .nil) .nil) .nil)
def L_law_2 : Ss := (.cons (.forr (.nm 2) (.seq (.tup (.cons (.cInt 1) (.cons (.cInt 2) (.cons (.cInt 3) (.cons (.cInt 4) .nil)))))) L_law_1) .nil)
def b_law : Ss := (.cons (.forr (.nm 1) (.rng (.cInt 7)) L_law_2) (.cons (.ret (.bcf .all (.cons C_law_1 .nil))) .nil))
def fd_law : Fd := ⟨1, 5, b_law⟩
theorem sc_law : FnScope ["_law_script", "_law_many", "_law_width", "_law_deeds", "_law_k"] ["_law_script"] (defScope st_law) := ⟨rfl, rfl, rfl, by decide +kernel, rfl, by decide +kernel, by decide +kernel⟩
theorem dt_law : DefT cc.fns cc.blts fd_law st_law ["_law_script", "_law_many", "_law_width", "_law_deeds", "_law_k"] ["_law_script"] := defT_of (own := []) sc_law rfl rfl (by kernel_rfl)
def tb : List Fd := [fd_predicted, fd_value_after, fd_counted, fd_value_map, fd_fixed_values, fd_settled_value, fd_settled_errors, fd__law_box, fd__law_take, fd__law_of, fd__law_row, fd__law_word_right, fd__law_all, fd__law_right, fd_law]
/-! ### the end -/
section
variable {P : Program} {w : World} {K : PySem.W.Frag} {mg : Str → Option Value} {base : Heap}
theorem fns_all {fa : Nat → Addr} {fdt : Nat → FuncData}
    (a0 : DefA K mg "predicted" st_predicted ["bits", "value"] (fa 0) (fdt 0))
    (a1 : DefA K mg "value_after" st_value_after ["bits", "value", "outcome"] (fa 1) (fdt 1))
    (a2 : DefA K mg "counted" st_counted ["counter", "outcomes"] (fa 2) (fdt 2))
    (a3 : DefA K mg "value_map" st_value_map ["bits", "outcomes"] (fa 3) (fdt 3))
    (a4 : DefA K mg "fixed_values" st_fixed_values ["bits", "outcomes"] (fa 4) (fdt 4))
    (a5 : DefA K mg "settled_value" st_settled_value ["counter", "outcomes"] (fa 5) (fdt 5))
    (a6 : DefA K mg "settled_errors" st_settled_errors ["counter", "outcomes"] (fa 6) (fdt 6))
    (a7 : DefA K mg "_law_box" st__law_box ["_law_script", "_law_k"] (fa 7) (fdt 7))
    (a8 : DefA K mg "_law_take" st__law_take ["_law_box_here", "_law_many"] (fa 8) (fdt 8))
    (a9 : DefA K mg "_law_of" st__law_of ["_law_box_here", "_law_some"] (fa 9) (fdt 9))
    (a10 : DefA K mg "_law_row" st__law_row ["_law_box_here", "_law_most"] (fa 10) (fdt 10))
    (a11 : DefA K mg "_law_word_right" st__law_word_right ["_law_width", "_law_deeds"] (fa 11) (fdt 11))
    (a12 : DefA K mg "_law_all" st__law_all ["_law_many"] (fa 12) (fdt 12))
    (a13 : DefA K mg "_law_right" st__law_right ["_law_box_here"] (fa 13) (fdt 13))
    (a14 : DefA K mg "law" st_law ["_law_script"] (fa 14) (fdt 14))
    : ∀ (i : Nat) y, cc.fns[i]? = some y → ∃ fd stm N ps fa fdt, tb[i]? = some fd ∧ DefT cc.fns cc.blts fd stm N ps ∧ DefA K mg y stm ps fa fdt := by
  intro i y h
  match i, h with
  | 0, h => cases h; exact ⟨_, _, _, _, _, _, rfl, dt_predicted, a0⟩
  | 1, h => cases h; exact ⟨_, _, _, _, _, _, rfl, dt_value_after, a1⟩
  | 2, h => cases h; exact ⟨_, _, _, _, _, _, rfl, dt_counted, a2⟩
  | 3, h => cases h; exact ⟨_, _, _, _, _, _, rfl, dt_value_map, a3⟩
  | 4, h => cases h; exact ⟨_, _, _, _, _, _, rfl, dt_fixed_values, a4⟩
  | 5, h => cases h; exact ⟨_, _, _, _, _, _, rfl, dt_settled_value, a5⟩
  | 6, h => cases h; exact ⟨_, _, _, _, _, _, rfl, dt_settled_errors, a6⟩
  | 7, h => cases h; exact ⟨_, _, _, _, _, _, rfl, dt__law_box, a7⟩
  | 8, h => cases h; exact ⟨_, _, _, _, _, _, rfl, dt__law_take, a8⟩
  | 9, h => cases h; exact ⟨_, _, _, _, _, _, rfl, dt__law_of, a9⟩
  | 10, h => cases h; exact ⟨_, _, _, _, _, _, rfl, dt__law_row, a10⟩
  | 11, h => cases h; exact ⟨_, _, _, _, _, _, rfl, dt__law_word_right, a11⟩
  | 12, h => cases h; exact ⟨_, _, _, _, _, _, rfl, dt__law_all, a12⟩
  | 13, h => cases h; exact ⟨_, _, _, _, _, _, rfl, dt__law_right, a13⟩
  | 14, h => cases h; exact ⟨_, _, _, _, _, _, rfl, dt_law, a14⟩
  | i + 15, h => simp [cc] at h
end
end Pn

set_option Elab.async false
set_option linter.all false
set_option maxRecDepth 100000
set_option maxHeartbeats 4000000
namespace Pn
open PySem
def pred (b : Nat) (v : Int) : Int := if 2 ^ (b - 1) ≤ v then 1 else 0
def after (b : Nat) (v o : Int) : Int := if o = 1 then (if 2 ^ b - 1 < v + 1 then 2 ^ b - 1 else v + 1) else (if 0 > v - 1 then 0 else v - 1)
theorem run_pred {n b : Nat} {v : Int} {st : Sto} (h1 : 1 ≤ b) (h2 : b ≤ 4) : runN tb (n + 1) 0 [.int b, .int v] st = some (.int (pred b v), .pl, st) := by
  rw [runN_eq (fd := fd_predicted) rfl rfl]
  have e : iops .shl 1 ((b : Int) - 1) = some (2 ^ (b - 1)) := by
    rw [show (b : Int) - 1 = ((b - 1 : Nat) : Int) by omega]
    exact iops_shl1 (by omega)
  unfold pred
  by_cases hv : (2 : Int) ^ (b - 1) ≤ v <;> simp [fd_predicted, b_predicted, execs, exec, ev, evs, evl, evo, evc, evi, byTru, startD, binop_ii, binop_tt, binop_ll, cmpD, tru, endOf, flEnd, flOf, bfun, bindTg, bindTgs, setAll, isOw, seqOf, ixD, wipeD, slD, wTest, wNamed, e, hv]
theorem run_after {n b : Nat} {v o : Int} {st : Sto} (h2 : b ≤ 4) : runN tb (n + 1) 1 [.int b, .int v, .int o] st = some (.int (after b v o), .pl, st) := by
  rw [runN_eq (fd := fd_value_after) rfl rfl]
  have e : iops .shl 1 (b : Int) = some (2 ^ b) := iops_shl1 (by omega)
  unfold after
  by_cases hv : o = 1 <;> simp [fd_value_after, b_value_after, execs, exec, ev, evs, evl, evo, evc, evi, byTru, startD, binop_ii, binop_tt, binop_ll, cmpD, tru, endOf, flEnd, flOf, bfun, bindTg, bindTgs, setAll, isOw, seqOf, ixD, wipeD, slD, wTest, wNamed, e, hv]
def cnt (b : Nat) : List Int → Int × Int → Int × Int
  | [], s => s
  | o :: l, s => cnt b l (s.1 + (if pred b s.2 = o then 0 else 1), after b s.2 o)
theorem counted_loop {n b : Nat} (h1 : 1 ≤ b) (h2 : b ≤ 4) {st : Sto} {d1 d2 : D} : ∀ (ds : List Int) (e v : Int) (x : SV), ∃ x', forGo (.nm 5) (execs (runN tb (n + 1)) L_counted_1) (ds.map .int)
      [.im d1, .im d2, .im (.int b), .im (.int v), .im (.int e), x] st = some (.nx [.im d1, .im d2, .im (.int b), .im (.int (cnt b ds (e, v)).2), .im (.int (cnt b ds (e, v)).1), x'] st)
  | [], e, v, x => ⟨x, rfl⟩
  | o :: l, e, v, x => by
    obtain ⟨x', ih⟩ := counted_loop (n := n) h1 h2 (st := st) (d1 := d1) (d2 := d2) l (e + (if pred b v = o then 0 else 1)) (after b v o) (.im (.int o))
    refine ⟨x', ?_⟩
    have hb : execs (runN tb (n + 1)) L_counted_1 [.im d1, .im d2, .im (.int b), .im (.int v), .im (.int e), .im (.int o)] st = some (.nx [.im d1, .im d2, .im (.int b), .im (.int (after b v o)), .im (.int (e + (if pred b v = o then 0 else 1))), .im (.int o)] st) := by
      by_cases hp : pred b v = o <;> simp [L_counted_1, execs, exec, ev, evs, evl, evo, evc, evi, byTru, startD, binop_ii, binop_tt, binop_ll, cmpD, tru, endOf, flEnd, flOf, bfun, bindTg, bindTgs, setAll, isOw, seqOf, ixD, wipeD, slD, wTest, wNamed, run_pred h1 h2, run_after h2, hp]
    simp only [List.map_cons, forGo, bindTg]
    simp [hb, ih, cnt]
theorem run_counted {n b : Nat} {v : Int} {ds : List Int} {st : Sto} (h1 : 1 ≤ b) (h2 : b ≤ 4) : runN tb (n + 2) 2 [.tup [.int b, .int v], .tup (ds.map .int)] st = some (.tup [.int (cnt b ds (0, v)).1, .int (cnt b ds (0, v)).2], .pl, st) := by
  rw [runN_eq (fd := fd_counted) rfl rfl]
  obtain ⟨x', hl⟩ := counted_loop (n := n) h1 h2 (st := st) (d1 := .tup [.int b, .int v]) (d2 := .tup (ds.map .int)) ds 0 v .no
  simp [fd_counted, b_counted, execs, exec, ev, evs, evl, evo, evc, evi, byTru, startD, binop_ii, binop_tt, binop_ll, cmpD, tru, endOf, flEnd, flOf, bfun, bindTg, bindTgs, setAll, isOw, seqOf, ixD, wipeD, slD, wTest, wNamed, hl, LIM]
def vmap (b : Nat) (ds : List Int) : List Int := (List.range (2 ^ b)).map fun (i : Nat) => (cnt b ds (0, (i : Int))).2
theorem pow4 {b : Nat} (h2 : b ≤ 4) : 2 ^ b ≤ 16 := Nat.pow_le_pow_right (by omega) h2 (n := 2)
theorem run_value_map {n b : Nat} {ds : List Int} {st : Sto} (h1 : 1 ≤ b) (h2 : b ≤ 4) : runN tb (n + 3) 3 [.int b, .tup (ds.map .int)] st = some (.tup ((vmap b ds).map .int), .pl, st) := by
  rw [runN_eq (fd := fd_value_map) rfl rfl]
  have hc : (ev (runN tb (n + 2)) C_value_map_1).1 [.im (.int b), .im (.tup (ds.map .int)), .no] st = some (.lst ((vmap b ds).map .int), .fr, st) := by
    have e : iops .shl 1 (b : Int) = some (2 ^ b) := iops_shl1 (by omega)
    have := pow4 h2
    refine ev_comp (items := rngD 0 (2 ^ b)) (st1 := st) (evi_rng (fl := .pl) (by simp [execs, exec, ev, evs, evl, evo, evc, evi, byTru, startD, binop_ii, binop_tt, binop_ll, cmpD, tru, endOf, flEnd, flOf, bfun, bindTg, bindTgs, setAll, isOw, seqOf, ixD, wipeD, slD, wTest, wNamed, e]) (by omega)) (by simp [rngD, LIM]; omega) rfl ?_
    rw [rngD_eq]
    refine Eq.trans (compGo_map (g := fun (i : Nat) => D.int (cnt b ds (0, (i : Int))).2) _ fun i _ => ⟨_, .pl, rfl, rfl, ?_, by decide⟩) (by simp [vmap])
    simp [execs, exec, ev, evs, evl, evo, evc, evi, byTru, startD, binop_ii, binop_tt, binop_ll, cmpD, tru, endOf, flEnd, flOf, bfun, bindTg, bindTgs, setAll, isOw, seqOf, ixD, wipeD, slD, wTest, wNamed, run_counted h1 h2, LIM]
    trace_state
    rfl
  simp [fd_value_map, b_value_map, execs, exec, ev, evs, evl, evo, evc, evi, byTru, startD, binop_ii, binop_tt, binop_ll, cmpD, tru, endOf, flEnd, flOf, bfun, bindTg, bindTgs, setAll, isOw, seqOf, ixD, wipeD, slD, wTest, wNamed, hc]

/-! ### the map of values -/
def val (b : Nat) : List Int → Int → Int
  | [], v => v
  | o :: l, v => val b l (after b v o)
theorem cnt_val (b : Nat) : ∀ (ds : List Int) (e v : Int), (cnt b ds (e, v)).2 = val b ds v
  | [], _, _ => rfl
  | o :: l, e, v => by simp [cnt, val, cnt_val b l]
theorem after_mono {b : Nat} {v w o : Int} (h : v ≤ w) : after b v o ≤ after b w o := by
  unfold after
  split
  · split <;> split <;> omega
  · split <;> split <;> omega
theorem val_mono (b : Nat) : ∀ (ds : List Int) {v w : Int}, v ≤ w → val b ds v ≤ val b ds w
  | [], _, _, h => h
  | _ :: l, _, _, h => val_mono b l (after_mono h)
theorem after_range {b : Nat} {v o : Int} (h : 0 ≤ v ∧ v < 2 ^ b) : 0 ≤ after b v o ∧ after b v o < 2 ^ b := by
  unfold after
  split <;> split <;> omega
theorem val_range (b : Nat) : ∀ (ds : List Int) {v : Int}, 0 ≤ v ∧ v < 2 ^ b → 0 ≤ val b ds v ∧ val b ds v < 2 ^ b
  | [], _, h => h
  | _ :: l, _, h => val_range b l (after_range h)
theorem val_append (b : Nat) : ∀ (l m : List Int) (v : Int), val b (l ++ m) v = val b m (val b l v)
  | [], _, _ => rfl
  | _ :: l, m, v => val_append b l m _
theorem vmap_eq (b : Nat) (ds : List Int) : vmap b ds = (List.range (2 ^ b)).map fun (i : Nat) => val b ds i := by
  unfold vmap
  exact List.map_congr_left fun i _ => cnt_val b ds 0 i
theorem vmap_get {b : Nat} {ds : List Int} {v : Int} (h : 0 ≤ v ∧ v < 2 ^ b) : L2.atI ((vmap b ds).map D.int) v = some (.int (val b ds v)) := by
  obtain ⟨k, rfl⟩ := Int.eq_ofNat_of_zero_le h.1
  have hk : k < 2 ^ b := by
    have := h.2
    have e : ((2 : Int) ^ b) = ((2 ^ b : Nat) : Int) := by simp
    rw [e] at this
    exact Int.ofNat_lt.mp this
  refine L2.atI_nat (j := k) ?_
  rw [vmap_eq]
  simp [hk]
/-- the orbit of a value -/
def orb (g : Int → Int) : Nat → Int → Int
  | 0, v => v
  | k + 1, v => g (orb g k v)
structure Orb (b : Nat) (ds : List Int) (f : Int) (k : Nat) (v : Int) : Prop where
  e : v = orb (val b ds) k f
  r : 0 ≤ v ∧ v < 2 ^ b
  d : if f ≤ val b ds f then v ≤ val b ds v ∧ f + k ≤ v else val b ds v ≤ v ∧ v ≤ f - k
theorem Orb.start {b : Nat} {ds : List Int} {f : Int} (h : 0 ≤ f ∧ f < 2 ^ b) : Orb b ds f 0 f := by
  refine ⟨rfl, h, ?_⟩
  split <;> simp <;> omega
theorem Orb.step {b : Nat} {ds : List Int} {f v : Int} {k : Nat} (h : Orb b ds f k v) (hv : val b ds v ≠ v) : Orb b ds f (k + 1) (val b ds v) := by
  refine ⟨by rw [h.e]; rfl, val_range b ds h.r, ?_⟩
  have hd := h.d
  split at hd
  · rename_i hf
    rw [if_pos hf]
    exact ⟨val_mono b ds hd.1, by omega⟩
  · rename_i hf
    rw [if_neg hf]
    exact ⟨val_mono b ds hd.1, by omega⟩
theorem Orb.lt {b : Nat} {ds : List Int} {f v : Int} {k : Nat} (hf : 0 ≤ f ∧ f < 2 ^ b) (h : Orb b ds f k v) : (k : Int) < 2 ^ b := by
  have hd := h.d
  have hr := h.r
  split at hd <;> omega
theorem orb_fix {g : Int → Int} {f : Int} {k : Nat} (h : g (orb g k f) = orb g k f) : ∀ m, orb g (k + m) f = orb g k f
  | 0 => rfl
  | m + 1 => by
    rw [← Nat.add_assoc]
    show g (orb g (k + m) f) = _
    rw [orb_fix h m, h]
theorem orb_same {g : Int → Int} {f : Int} {k m : Nat} (h : g (orb g k f) = orb g k f) (h2 : g (orb g m f) = orb g m f) : orb g k f = orb g m f := by
  rcases Nat.le_total k m with hl | hl
  · obtain ⟨j, rfl⟩ := Nat.exists_eq_add_of_le hl
    exact (orb_fix h j).symm
  · obtain ⟨j, rfl⟩ := Nat.exists_eq_add_of_le hl
    exact orb_fix h2 j
theorem fix_ex {b : Nat} {ds : List Int} : ∃ v, (0 ≤ v ∧ v < 2 ^ b) ∧ val b ds v = v := by
  apply Classical.byContradiction
  intro hn
  have h0 : (0 : Int) ≤ 0 ∧ (0 : Int) < 2 ^ b := ⟨by omega, Int.pow_pos (by omega)⟩
  have all : ∀ k, ∃ v, Orb b ds 0 k v := fun k => by
    induction k with
    | zero => exact ⟨0, Orb.start h0⟩
    | succ k ih =>
      obtain ⟨v, o⟩ := ih
      exact ⟨_, o.step fun e => hn ⟨v, o.r, e⟩⟩
  obtain ⟨v, o⟩ := all (2 ^ b)
  have := o.lt h0
  simp at this
def fixd (b : Nat) (ds : List Int) : List Int := ((List.range (2 ^ b)).filter fun (i : Nat) => decide ((i : Int) = val b ds i)).map fun (i : Nat) => (i : Int)
theorem mem_fixd {b : Nat} {ds : List Int} {v : Int} (h : 0 ≤ v ∧ v < 2 ^ b) : v ∈ fixd b ds ↔ val b ds v = v := by
  obtain ⟨k, rfl⟩ := Int.eq_ofNat_of_zero_le h.1
  have hk : k < 2 ^ b := by
    have := h.2
    have e : ((2 : Int) ^ b) = ((2 ^ b : Nat) : Int) := by simp
    rw [e] at this
    exact Int.ofNat_lt.mp this
  unfold fixd
  rw [List.mem_map]
  constructor
  · rintro ⟨i, m, e⟩
    have : i = k := by omega
    subst this
    have := (List.mem_filter.mp m).2
    exact (of_decide_eq_true this).symm
  · intro e
    exact ⟨k, List.mem_filter.mpr ⟨List.mem_range.mpr hk, decide_eq_true e.symm⟩, rfl⟩
theorem fixd_ne {b : Nat} {ds : List Int} : fixd b ds ≠ [] := by
  obtain ⟨v, r, e⟩ := fix_ex (b := b) (ds := ds)
  have := (mem_fixd r).mpr e
  intro e0
  rw [e0] at this
  cases this
theorem vmap_sorted {b : Nat} {ds : List Int} : sortI (vmap b ds) = vmap b ds := by
  apply sortI_self
  rw [vmap_eq, List.pairwise_map]
  exact List.Pairwise.imp (fun h => val_mono b ds (by omega)) (List.pairwise_lt_range (n := 2 ^ b))
theorem run_fixed_values {n b : Nat} {ds : List Int} {st : Sto} (h1 : 1 ≤ b) (h2 : b ≤ 4) : runN tb (n + 4) 4 [.int b, .tup (ds.map .int)] st = some (.tup ((fixd b ds).map .int), .pl, st) := by
  rw [runN_eq (fd := fd_fixed_values) rfl rfl]
  have hc : (ev (runN tb (n + 3)) C_fixed_values_1).1 [.im (.int b), .im (.tup (ds.map .int)), .no, .no] st = some (.lst ((fixd b ds).map .int), .fr, st) := by
    have := pow4 h2
    refine ev_comp (items := enumD 0 ((vmap b ds).map .int)) (st1 := st) (evi_enum (fl := .pl) (d := .tup ((vmap b ds).map .int)) (by simp [execs, exec, ev, evs, evl, evo, evc, evi, byTru, startD, binop_ii, binop_tt, binop_ll, cmpD, tru, endOf, flEnd, flOf, bfun, bindTg, bindTgs, setAll, isOw, seqOf, ixD, wipeD, slD, wTest, wNamed, run_value_map h1 h2]) rfl) (by simp [LIM, enumD_length, vmap]; omega) rfl ?_
    rw [vmap_eq, List.map_map, enumD_range]
    refine Eq.trans (compGo_filter (g := fun (i : Nat) => D.int i) (p := fun (i : Nat) => decide ((i : Int) = val b ds i)) _ fun i _ => ⟨_, rfl, ?_, fun _ => ⟨.pl, rfl, by decide⟩⟩) (by simp [fixd])
    simp [execs, exec, ev, evs, evl, evo, evc, evi, byTru, startD, binop_ii, binop_tt, binop_ll, cmpD, tru, endOf, flEnd, flOf, bfun, bindTg, bindTgs, setAll, isOw, seqOf, ixD, wipeD, slD, wTest, wNamed]
  simp [fd_fixed_values, b_fixed_values, execs, exec, ev, evs, evl, evo, evc, evi, byTru, startD, binop_ii, binop_tt, binop_ll, cmpD, tru, endOf, flEnd, flOf, bfun, bindTg, bindTgs, setAll, isOw, seqOf, ixD, wipeD, slD, wTest, wNamed, hc]

theorem p2 (b : Nat) : ((2 : Int) ^ b) = ((2 ^ b : Nat) : Int) := by simp
theorem run_settled_value {n b : Nat} {f : Int} {ds : List Int} {st : Sto} (h1 : 1 ≤ b) (h2 : b ≤ 4) (hf : 0 ≤ f ∧ f < 2 ^ b) :
    Rr (runN tb (n + 3) 5 [.tup [.int b, .int f], .tup (ds.map .int)] st) fun d fl st' => fl = .pl ∧ st' = st ∧ ∃ k v, d = .int v ∧ Orb b ds f k v ∧ val b ds v = v := by
  have hp := pow4 h2
  refine run_rs (fd := fd_settled_value) rfl rfl ?_
  refine rs_nx (σ1 := [.im (.tup [.int b, .int f]), .im (.tup (ds.map .int)), .im (.int b), .im (.int f), .no]) (st1 := st) (by simp [fd_settled_value, execs, exec, ev, evs, evl, evo, evc, evi, byTru, startD, binop_ii, binop_tt, binop_ll, cmpD, tru, endOf, flEnd, flOf, bfun, bindTg, bindTgs, setAll, isOw, seqOf, ixD, wipeD, slD, wTest, wNamed]) ?_
  refine rs_whlW (fun m σ s => ∃ k v x, σ = [.im (.tup [.int b, .int f]), .im (.tup (ds.map .int)), .im (.int b), .im (.int v), x] ∧ s = st ∧ Orb b ds f k v ∧ m + k = 2 ^ b)
    (fun σ s => ∃ k v x, σ = [.im (.tup [.int b, .int f]), .im (.tup (ds.map .int)), .im (.int b), .im (.int v), x] ∧ s = st ∧ Orb b ds f k v ∧ val b ds v = v) (2 ^ b) ⟨0, f, .no, rfl, rfl, Orb.start hf, rfl⟩ (by unfold FUEL; omega) ?_ ?_
  · rintro m σ s ⟨k, v, x, rfl, rfl, o, hm⟩
    have hk := o.lt hf
    rw [p2] at hk
    have hk' : k < 2 ^ b := Int.ofNat_lt.mp hk
    refine ⟨!decide (val b ds v = v), [.im (.tup [.int b, .int f]), .im (.tup (ds.map .int)), .im (.int b), .im (.int v), .im (.int (val b ds v))], s, ?_, ?_, ?_⟩
    · simp [execs, exec, ev, evs, evl, evo, evc, evi, byTru, startD, binop_ii, binop_tt, binop_ll, cmpD, tru, endOf, flEnd, flOf, bfun, bindTg, bindTgs, setAll, isOw, seqOf, ixD, wipeD, slD, wTest, wNamed, run_counted h1 h2, LIM, cnt_val]
      rfl
    · intro e
      have hv : val b ds v = v := by simpa using e
      exact ⟨k, v, _, rfl, rfl, o, hv⟩
    · intro e
      have hv : val b ds v ≠ v := by simpa using e
      refine rs_nx (σ1 := [.im (.tup [.int b, .int f]), .im (.tup (ds.map .int)), .im (.int b), .im (.int (val b ds v)), .im (.int (val b ds v))]) (st1 := s) (by simp [execs, exec, ev, evs, evl, evo, evc, evi, byTru, startD, binop_ii, binop_tt, binop_ll, cmpD, tru, endOf, flEnd, flOf, bfun, bindTg, bindTgs, setAll, isOw, seqOf, ixD, wipeD, slD, wTest, wNamed]) (rs_nil ?_)
      exact ⟨m - 1, by omega, k + 1, val b ds v, _, rfl, rfl, o.step hv, by omega⟩
  · rintro σ s ⟨k, v, x, rfl, rfl, o, hv⟩
    refine rs_ret (d := .int v) (fl := .pl) (st1 := s) (by simp [execs, exec, ev, evs, evl, evo, evc, evi, byTru, startD, binop_ii, binop_tt, binop_ll, cmpD, tru, endOf, flEnd, flOf, bfun, bindTg, bindTgs, setAll, isOw, seqOf, ixD, wipeD, slD, wTest, wNamed]) ?_
    exact ⟨_, _, _, rfl, rfl, rfl, k, v, rfl, o, hv⟩
theorem run_settled_errors {n b : Nat} {f v : Int} {ds : List Int} {st : Sto} {k : Nat} (h1 : 1 ≤ b) (h2 : b ≤ 4) (hf : 0 ≤ f ∧ f < 2 ^ b) (o : Orb b ds f k v) (hv : val b ds v = v) :
    runN tb (n + 4) 6 [.tup [.int b, .int f], .tup (ds.map .int)] st = some (.int (cnt b ds (0, v)).1, .pl, st) := by
  refine rr_eq (run_rs (fd := fd_settled_errors) rfl rfl ?_)
  obtain ⟨_, _, _, e1, rfl, rfl, k', v', rfl, o', hv'⟩ := run_settled_value (n := n) (st := st) h1 h2 hf
  have ev : v' = v := by
    rw [o.e, o'.e]
    exact orb_same (by rw [← o'.e]; exact hv') (by rw [← o.e]; exact hv)
  subst ev
  refine rs_ret (d := .int (cnt b ds (0, v')).1) (fl := .pl) (by simp [fd_settled_errors, execs, exec, ev, evs, evl, evo, evc, evi, byTru, startD, binop_ii, binop_tt, binop_ll, cmpD, tru, endOf, flEnd, flOf, bfun, bindTg, bindTgs, setAll, isOw, seqOf, ixD, wipeD, slD, wTest, wNamed, e1, run_counted h1 h2, LIM, L2.atI, L2.ixN]) ⟨_, _, _, rfl, rfl, rfl, rfl⟩
end Pn

set_option Elab.async false
set_option linter.all false
set_option maxRecDepth 100000
set_option maxHeartbeats 4000000
namespace Pn
open PySem
def Bit (r : Int) : Prop := r = 0 ∨ r = 1
theorem row_spec {n i C m : Nat} {st : Sto} (hb : BoxOk st i C) (hC : C ≤ 100000) (hm : 1 ≤ m) (hm2 : m ≤ 100) :
    Rr (runN tb (n + 2) 10 [.box i, .int m] st) fun d fl st' => fl = .pl ∧ (∃ ds : List Int, d = .tup (ds.map .int) ∧ ds.length ≤ m ∧ 1 ≤ ds.length ∧ ∀ r, r ∈ ds → Bit r) ∧ BoxOk st' i (C + 300) ∧ st'.length = st.length := by
  have ht : tb[8]? = some ⟨2, 4, bTake⟩ := rfl
  refine run_rs (fd := fd__law_row) rfl rfl ?_
  obtain ⟨r1, st1, e1, l1, b1, n1⟩ := take_eq (n := n) ht hb (by omega) hm (by omega)
  obtain ⟨r2, st2, e2, l2, b2, n2⟩ := take_eq (n := n) (m := 5) ht b1 (by omega) (by omega) (by omega)
  obtain ⟨z, hz⟩ : ∃ z, z = r1 + 1 := ⟨_, rfl⟩
  have hz1 : (1 : Int) + (r1 : Int) = (z : Int) := by omega
  refine rs_nx (σ1 := [.im (.box i), .im (.int m), .im (.int z), .im (.int r2), .no, .no, .no, .no]) (st1 := st2) (by simp at e2; simp [fd__law_row, execs, exec, ev, evs, evl, evo, evc, evi, byTru, startD, binop_ii, binop_tt, binop_ll, cmpD, tru, endOf, flEnd, flOf, bfun, bindTg, bindTgs, setAll, isOw, seqOf, ixD, wipeD, slD, wTest, wNamed, e1, e2, hz1]) ?_
  by_cases k0 : r2 = 0
  · subst k0
    refine rs_if1 (st1 := st2) (by simp [execs, exec, ev, evs, evl, evo, evc, evi, byTru, startD, binop_ii, binop_tt, binop_ll, cmpD, tru, endOf, flEnd, flOf, bfun, bindTg, bindTgs, setAll, isOw, seqOf, ixD, wipeD, slD, wTest, wNamed]) ?_
    refine rs_ret (d := .tup ((List.replicate r1 (1 : Int) ++ [0]).map .int)) (fl := .pl) (st1 := st2) ?_ ⟨_, _, _, rfl, rfl, ⟨_, rfl, by simp; omega, by simp, ?_⟩, b2.mono (by omega), by omega⟩
    · have e : (z : Int) - 1 = (r1 : Int) := by omega
      have c3 : r1 + 1 ≤ 1000000 := by omega
      have c4 : r1 ≤ 1000000 := by omega
      have hb := binop_ti (a := [D.int 1]) (k := r1) (by omega) (by simp [LIM]; omega)
      simp [execs, exec, ev, evs, evl, evo, evc, evi, byTru, startD, binop_ii, binop_tt, binop_ll, cmpD, tru, endOf, flEnd, flOf, bfun, bindTg, bindTgs, setAll, isOw, seqOf, ixD, wipeD, slD, wTest, wNamed, e, hb, c3, LIM]
    · intro r hr
      rcases List.mem_append.mp hr with hr | hr
      · exact .inr (List.mem_replicate.mp hr).2
      · exact .inl (List.mem_singleton.mp hr)
  refine rs_skip (st1 := st2) (by simp [execs, exec, ev, evs, evl, evo, evc, evi, byTru, startD, binop_ii, binop_tt, binop_ll, cmpD, tru, endOf, flEnd, flOf, bfun, bindTg, bindTgs, setAll, isOw, seqOf, ixD, wipeD, slD, wTest, wNamed, k0]) ?_
  by_cases k1 : r2 = 1
  · subst k1
    refine rs_if1 (st1 := st2) (by simp [execs, exec, ev, evs, evl, evo, evc, evi, byTru, startD, binop_ii, binop_tt, binop_ll, cmpD, tru, endOf, flEnd, flOf, bfun, bindTg, bindTgs, setAll, isOw, seqOf, ixD, wipeD, slD, wTest, wNamed]) ?_
    obtain ⟨r3, st3, e3, l3, b3, n3⟩ := take_eq (n := n) (m := min z 4) ht b2 (by omega) (by omega) (by omega)
    have hm4 : (if (4 : Int) < (z : Int) then 4 else (z : Int)) = ((min z 4 : Nat) : Int) := by
      split <;> omega
    obtain ⟨ds, st4, e5, e6, e7, e8⟩ := compGo_inv (tg := .nm 5) (σ := [.im (.box i), .im (.int m), .im (.int z), .im (.int 1), .no, .no, .no, .no]) (cd := evc (runN tb (n + 1)) .no) (el := (ev (runN tb (n + 1)) (.call 8 (.cons (.var 0) (.cons (.cInt 2) .nil)))).1) (P := fun d => ∃ r : Int, d = .int r ∧ Bit r)
      (I := fun k s => BoxOk s i (C + 3 + k) ∧ s.length = st.length) (rngD 0 (r3 + 1)) 0 st3 ⟨b3, by omega⟩ (fun j d hd s hI => by
        have hj : j < r3 + 1 := by
          have := (List.getElem?_eq_some_iff.mp hd).1
          simpa [rngD] using this
        obtain ⟨r, s', er, lr, br, nr⟩ := take_eq (n := n) (m := 2) ht hI.1 (by omega) (by omega) (by omega)
        refine ⟨_, .int r, .pl, s', rfl, rfl, ?_, by decide, ⟨r, rfl, by unfold Bit; omega⟩, br.mono (by omega), by omega⟩
        simp at er
        simp [execs, exec, ev, evs, evl, evo, evc, evi, byTru, startD, binop_ii, binop_tt, binop_ll, cmpD, tru, endOf, flEnd, flOf, bfun, bindTg, bindTgs, setAll, isOw, seqOf, ixD, wipeD, slD, wTest, wNamed, er])
    obtain ⟨ps, rfl, hps⟩ := ints_of e7
    rw [List.length_map] at e6
    have e6' : ps.length = r3 + 1 := by rw [e6]; simp [rngD]
    have hc : (ev (runN tb (n + 1)) C__law_row_1).1 [.im (.box i), .im (.int m), .im (.int z), .im (.int 1), .no, .no, .no, .no] st2 = some (.lst (ps.map .int), .fr, st4) := by
      refine ev_comp (items := rngD 0 (r3 + 1)) (st1 := st3) (evi_rng (n := r3 + 1) (fl := .pl) ?_ (by omega)) (by simp [rngD, LIM]; omega) rfl e5
      simp [execs, exec, ev, evs, evl, evo, evc, evi, byTru, startD, binop_ii, binop_tt, binop_ll, cmpD, tru, endOf, flEnd, flOf, bfun, bindTg, bindTgs, setAll, isOw, seqOf, ixD, wipeD, slD, wTest, wNamed, hm4, e3]
      omega
    refine rs_nx (σ1 := [.im (.box i), .im (.int m), .im (.int z), .im (.int 1), .im (.lst (ps.map .int)), .no, .no, .no]) (st1 := st4) (x_asg hc (by decide) rfl) ?_
    have hlen : (List.replicate z ps).flatten.length = z * (r3 + 1) := by simp [List.length_flatten, e6']
    have hge : z ≤ z * (r3 + 1) := Nat.le_mul_of_pos_right z (by omega)
    have hle : z * (r3 + 1) ≤ 101 * 4 := Nat.mul_le_mul (by omega) (by omega)
    refine rs_ret (d := .tup ((((List.replicate z ps).flatten).take z).map .int)) (fl := .pl) (st1 := st4) ?_ ⟨_, _, _, rfl, rfl, ⟨_, rfl, ?_, ?_, ?_⟩, e8.1.mono (by simp [rngD]; omega), e8.2⟩
    · have hb := binop_li (a := ps.map D.int) (k := z) (by omega) (by rw [List.length_map, e6', Nat.mul_comm]; unfold LIM; omega)
      simp [execs, exec, ev, evs, evl, evo, evc, evi, byTru, startD, binop_ii, binop_tt, binop_ll, cmpD, tru, endOf, flEnd, flOf, bfun, bindTg, bindTgs, setAll, isOw, seqOf, ixD, wipeD, slD, wTest, wNamed, hb, cutD_take, List.map_flatten]
    · rw [List.length_take, hlen]; omega
    · rw [List.length_take, hlen]; omega
    · intro r hr
      have h2 := List.mem_of_mem_take hr
      rw [List.mem_flatten] at h2
      obtain ⟨x, mx, h2⟩ := h2
      rw [(List.mem_replicate.mp mx).2] at h2
      exact hps r h2
  have k1' : ¬ (r2 : Int) = 1 := by omega
  refine rs_skip (st1 := st2) (by simp [execs, exec, ev, evs, evl, evo, evc, evi, byTru, startD, binop_ii, binop_tt, binop_ll, cmpD, tru, endOf, flEnd, flOf, bfun, bindTg, bindTgs, setAll, isOw, seqOf, ixD, wipeD, slD, wTest, wNamed, k1']) ?_
  obtain ⟨r3, st3, e3, l3, b3, n3⟩ := take_eq (n := n) (m := 2) ht b2 (by omega) (by omega) (by omega)
  refine rs_nx (σ1 := [.im (.box i), .im (.int m), .im (.int z), .im (.int r2), .no, .no, .ow (.lst [.int r3]), .no]) (st1 := st3) (by simp at e3; simp [execs, exec, ev, evs, evl, evo, evc, evi, byTru, startD, binop_ii, binop_tt, binop_ll, cmpD, tru, endOf, flEnd, flOf, bfun, bindTg, bindTgs, setAll, isOw, seqOf, ixD, wipeD, slD, wTest, wNamed, e3, LIM]) ?_
  refine rs_whl (fun q σ s => ∃ (ps : List Int) (x : SV), σ = [.im (.box i), .im (.int m), .im (.int z), .im (.int r2), .no, .no, .ow (.lst (ps.map .int)), x] ∧ q + ps.length = z ∧ 1 ≤ ps.length ∧ (∀ r, r ∈ ps → Bit r) ∧ BoxOk s i (C + 1 + 2 * ps.length) ∧ s.length = st.length)
    (fun σ s => ∃ (ps : List Int) (x : SV), σ = [.im (.box i), .im (.int m), .im (.int z), .im (.int r2), .no, .no, .ow (.lst (ps.map .int)), x] ∧ ps.length = z ∧ 1 ≤ ps.length ∧ (∀ r, r ∈ ps → Bit r) ∧ BoxOk s i (C + 1 + 2 * ps.length) ∧ s.length = st.length)
    (z - 1) ⟨[(r3 : Int)], _, rfl, by simp; omega, by simp, by intro r hr; rw [List.mem_singleton.mp hr]; unfold Bit; omega, b3.mono (by simp), by omega⟩ (by unfold FUEL; omega) ?_ ?_
  · rintro q σ s ⟨ps, x, rfl, hq, hp1, hps, hb3, hn⟩
    refine ⟨decide (ps.length < z), s, by simp [execs, exec, ev, evs, evl, evo, evc, evi, byTru, startD, binop_ii, binop_tt, binop_ll, cmpD, tru, endOf, flEnd, flOf, bfun, bindTg, bindTgs, setAll, isOw, seqOf, ixD, wipeD, slD, wTest, wNamed, Ob.toD], ?_, ?_⟩
    · intro e
      have : ¬ ps.length < z := by simpa using e
      exact ⟨ps, x, rfl, by omega, hp1, hps, hb3, hn⟩
    · intro e
      have hlt : ps.length < z := by simpa using e
      obtain ⟨l, w, rfl⟩ : ∃ l w, ps = l ++ [w] := ⟨ps.dropLast, ps.getLast (by intro e; simp [e] at hp1), (List.dropLast_concat_getLast _).symm⟩
      have hw : Bit w := hps w (by simp)
      have key : ∃ (kept : Bool) (s' : Sto), exec (runN tb (n + 1)) (.asg (.nm 7) (.and (.cmp .eq (.var 3) (.cInt 2)) (.cmp .gt (.call 8 (.cons (.var 0) (.cons (.cInt 4) .nil))) (.cInt 0)))) [.im (.box i), .im (.int m), .im (.int z), .im (.int r2), .no, .no, .ow (.lst ((l ++ [w]).map .int)), x] s =
          some (.nx [.im (.box i), .im (.int m), .im (.int z), .im (.int r2), .no, .no, .ow (.lst ((l ++ [w]).map .int)), .im (.bl kept)] s') ∧ BoxOk s' i (C + 1 + 2 * (l ++ [w]).length + 1) ∧ s'.length = st.length := by
        by_cases k2 : r2 = 2
        · subst k2
          obtain ⟨r, s', er, lr, br, nr⟩ := take_eq (n := n) (m := 4) ht hb3 (by simp at hlt ⊢; omega) (by omega) (by omega)
          simp at er
          exact ⟨decide (0 < r), s', by simp [execs, exec, ev, evs, evl, evo, evc, evi, byTru, startD, binop_ii, binop_tt, binop_ll, cmpD, tru, endOf, flEnd, flOf, bfun, bindTg, bindTgs, setAll, isOw, seqOf, ixD, wipeD, slD, wTest, wNamed, er], br, by omega⟩
        · have k2' : ¬ (r2 : Int) = 2 := by omega
          exact ⟨false, s, by simp [execs, exec, ev, evs, evl, evo, evc, evi, byTru, startD, binop_ii, binop_tt, binop_ll, cmpD, tru, endOf, flEnd, flOf, bfun, bindTg, bindTgs, setAll, isOw, seqOf, ixD, wipeD, slD, wTest, wNamed, k2'], hb3.mono (by omega), hn⟩
      obtain ⟨kept, s', ek, hb4, hn4⟩ := key
      refine rs_nx ek ?_
      have lw : L2.atI ((l ++ [w]).map D.int) (-1) = some (.int w) := by
        rw [List.map_append]; exact L2.atI_last _ _
      have hl2 : l.length + 1 < z := by simpa using hlt
      have hlim : l.length + 1 < 1000000 := by omega
      cases kept with
      | true =>
        refine rs_nx (σ1 := [.im (.box i), .im (.int m), .im (.int z), .im (.int r2), .no, .no, .ow (.lst ((l ++ [w] ++ [w]).map .int)), .im (.bl true)]) (st1 := s') ?_ (rs_nil ?_)
        · simp [execs, exec, ev, evs, evl, evo, evc, evi, byTru, startD, binop_ii, binop_tt, binop_ll, cmpD, tru, endOf, flEnd, flOf, bfun, bindTg, bindTgs, setAll, isOw, seqOf, ixD, wipeD, slD, wTest, wNamed, Ob.toD] at lw ⊢
          simp [lw, LIM, hlim]
        · refine ⟨q - 1, ?_, l ++ [w] ++ [w], _, rfl, ?_, ?_, ?_, hb4.mono ?_, hn4⟩
          · simp at hq hlt ⊢; omega
          · simp at hq hlt ⊢; omega
          · simp
          · intro r hr
            rcases List.mem_append.mp hr with hr | hr
            · exact hps r hr
            · rw [List.mem_singleton.mp hr]; exact hw
          · simp; omega
      | false =>
        obtain ⟨r, s2, er, lr, br, nr⟩ := take_eq (n := n) (m := 2) ht hb4 (by simp at hlt ⊢; omega) (by omega) (by omega)
        simp at er
        refine rs_nx (σ1 := [.im (.box i), .im (.int m), .im (.int z), .im (.int r2), .no, .no, .ow (.lst ((l ++ [w] ++ [(r : Int)]).map .int)), .im (.bl false)]) (st1 := s2) ?_ (rs_nil ?_)
        · simp [execs, exec, ev, evs, evl, evo, evc, evi, byTru, startD, binop_ii, binop_tt, binop_ll, cmpD, tru, endOf, flEnd, flOf, bfun, bindTg, bindTgs, setAll, isOw, seqOf, ixD, wipeD, slD, wTest, wNamed, er, LIM, hlim]
        · refine ⟨q - 1, ?_, l ++ [w] ++ [(r : Int)], _, rfl, ?_, ?_, ?_, br.mono ?_, by omega⟩
          · simp at hq hlt ⊢; omega
          · simp at hq hlt ⊢; omega
          · simp
          · intro r hr
            rcases List.mem_append.mp hr with hr | hr
            · exact hps r hr
            · rw [List.mem_singleton.mp hr]; unfold Bit; omega
          · simp; omega
  · rintro σ s ⟨ps, x, rfl, hq, hp1, hps, hb3, hn⟩
    refine rs_ret (d := .tup (ps.map .int)) (fl := .pl) (st1 := s) (by simp [execs, exec, ev, evs, evl, evo, evc, evi, byTru, startD, binop_ii, binop_tt, binop_ll, cmpD, tru, endOf, flEnd, flOf, bfun, bindTg, bindTgs, setAll, isOw, seqOf, ixD, wipeD, slD, wTest, wNamed, Ob.toD]) ⟨_, _, _, rfl, rfl, ⟨ps, rfl, by omega, hp1, hps⟩, hb3.mono (by omega), hn⟩
end Pn

set_option Elab.async false
set_option linter.all false
set_option maxRecDepth 100000
set_option maxHeartbeats 4000000
namespace Pn
open PySem
theorem vmap_len (b : Nat) (ds : List Int) : (vmap b ds).length = 2 ^ b := by simp [vmap]
theorem dEq_nil (l : List Int) : dEq (.tup (l.map .int)) (.tup []) = some (decide (l = [])) := dEq_tup l []
theorem run_word_right {n b : Nat} {ds : List Int} {st : Sto} (h1 : 1 ≤ b) (h2 : b ≤ 4) : runN tb (n + 5) 11 [.int b, .tup (ds.map .int)] st = some (.bl true, .pl, st) := by
  have hp := pow4 h2
  have e : iops .shl 1 (b : Int) = some (2 ^ b) := iops_shl1 (by omega)
  refine rr_eq (run_rs (fd := fd__law_word_right) rfl rfl ?_)
  refine rs_nx (σ1 := [.im (.int b), .im (.tup (ds.map .int)), .im (.tup ((vmap b ds).map .int)), .im (.tup ((fixd b ds).map .int)), .no, .no, .no, .no, .no]) (st1 := st) (by simp [fd__law_word_right, execs, exec, ev, evs, evl, evo, evc, evi, byTru, startD, binop_ii, binop_tt, binop_ll, cmpD, tru, endOf, flEnd, flOf, bfun, bindTg, bindTgs, setAll, isOw, seqOf, ixD, wipeD, slD, wTest, wNamed, run_value_map h1 h2, run_fixed_values h1 h2]) ?_
  refine rs_skip (st1 := st) (by simp [execs, exec, ev, evs, evl, evo, evc, evi, byTru, startD, binop_ii, binop_tt, binop_ll, cmpD, tru, endOf, flEnd, flOf, bfun, bindTg, bindTgs, setAll, isOw, seqOf, ixD, wipeD, slD, wTest, wNamed, e, vmap_len, intsOf_map, vmap_sorted, dEq_lst, dEq_nil, fixd_ne]) ?_
  refine rs_for (items := rngD 0 (2 ^ b)) (fl := .pl) (st1 := st) (fun i σ s => ∃ x4 x5 x6 x7 x8, σ = [.im (.int b), .im (.tup (ds.map .int)), .im (.tup ((vmap b ds).map .int)), .im (.tup ((fixd b ds).map .int)), x4, x5, x6, x7, x8] ∧ s = st)
    (fun σ s => ∃ x4 x5 x6 x7 x8, σ = [.im (.int b), .im (.tup (ds.map .int)), .im (.tup ((vmap b ds).map .int)), .im (.tup ((fixd b ds).map .int)), x4, x5, x6, x7, x8] ∧ s = st)
    (evi_rng (fl := .pl) (by simp [execs, exec, ev, evs, evl, evo, evc, evi, byTru, startD, binop_ii, binop_tt, binop_ll, cmpD, tru, endOf, flEnd, flOf, bfun, bindTg, bindTgs, setAll, isOw, seqOf, ixD, wipeD, slD, wTest, wNamed, e]) (by omega)) (by decide) ⟨_, _, _, _, _, rfl, rfl⟩ ?_ (fun _ _ h => h) ?_
  · rintro i d hd σ s ⟨x4, x5, x6, x7, x8, rfl, rfl⟩
    have hi : i < 2 ^ b := by simpa [rngD] using (List.getElem?_eq_some_iff.mp hd).1
    have hd' : d = .int (i : Int) := by
      simp [rngD, hi] at hd
      exact hd.symm
    subst hd'
    have hf : (0 : Int) ≤ (i : Int) ∧ (i : Int) < 2 ^ b := ⟨by omega, by rw [p2]; exact Int.ofNat_lt.mpr hi⟩
    refine ⟨_, rfl, ?_⟩
    have g0 := vmap_get (ds := ds) hf
    refine rs_nx (σ1 := [.im (.int b), .im (.tup (ds.map .int)), .im (.tup ((vmap b ds).map .int)), .im (.tup ((fixd b ds).map .int)), .im (.int i), .im (.int i), .im (.bl (decide ((i : Int) ≤ val b ds i))), .im (.int 0), x8]) (st1 := s) (by simp [execs, exec, ev, evs, evl, evo, evc, evi, byTru, startD, binop_ii, binop_tt, binop_ll, cmpD, tru, endOf, flEnd, flOf, bfun, bindTg, bindTgs, setAll, isOw, seqOf, ixD, wipeD, slD, wTest, wNamed, g0]) ?_
    refine rs_whl (fun m σ s' => ∃ (k : Nat) (v : Int) (x : SV), σ = [.im (.int b), .im (.tup (ds.map .int)), .im (.tup ((vmap b ds).map .int)), .im (.tup ((fixd b ds).map .int)), .im (.int i), .im (.int v), .im (.bl (decide ((i : Int) ≤ val b ds i))), .im (.int k), x] ∧ s' = s ∧ Orb b ds i k v ∧ m + k = 2 ^ b)
      (fun σ s' => ∃ (k : Nat) (v : Int) (x : SV), σ = [.im (.int b), .im (.tup (ds.map .int)), .im (.tup ((vmap b ds).map .int)), .im (.tup ((fixd b ds).map .int)), .im (.int i), .im (.int v), .im (.bl (decide ((i : Int) ≤ val b ds i))), .im (.int k), x] ∧ s' = s ∧ Orb b ds i k v ∧ val b ds v = v)
      (2 ^ b) ⟨0, i, _, rfl, rfl, Orb.start hf, rfl⟩ (by unfold FUEL; omega) ?_ ?_
    · rintro m σ s' ⟨k, v, x, rfl, rfl, o, hm⟩
      have ha : ((fixd b ds).any ((fun d => deq d (D.int v)) ∘ D.int)) = decide (val b ds v = v) := by
        rw [← List.any_map, any_int]
        simp [mem_fixd o.r]
      refine ⟨!decide (val b ds v = v), s', by simp [execs, exec, ev, evs, evl, evo, evc, evi, byTru, startD, binop_ii, binop_tt, binop_ll, cmpD, tru, endOf, flEnd, flOf, bfun, bindTg, bindTgs, setAll, isOw, seqOf, ixD, wipeD, slD, wTest, wNamed, eqOk, eqOks_int, ha], ?_, ?_⟩
      · intro h
        exact ⟨k, v, x, rfl, rfl, o, by simpa using h⟩
      · intro h
        have hv : val b ds v ≠ v := by simpa using h
        have gv := vmap_get (ds := ds) o.r
        have hk := o.lt hf
        have hk' : ¬ ((2 : Int) ^ b ≤ (k : Int)) := by omega
        have hup : decide (v < val b ds v) = decide ((i : Int) ≤ val b ds i) := by
          have hd := o.d
          split at hd
          · rename_i hc
            rw [decide_eq_true hc, decide_eq_true (by omega)]
          · rename_i hc
            rw [decide_eq_false hc, decide_eq_false (by omega)]
        refine rs_nx (σ1 := [.im (.int b), .im (.tup (ds.map .int)), .im (.tup ((vmap b ds).map .int)), .im (.tup ((fixd b ds).map .int)), .im (.int i), .im (.int v), .im (.bl (decide ((i : Int) ≤ val b ds i))), .im (.int k), .im (.int (val b ds v))]) (st1 := s') (by simp [execs, exec, ev, evs, evl, evo, evc, evi, byTru, startD, binop_ii, binop_tt, binop_ll, cmpD, tru, endOf, flEnd, flOf, bfun, bindTg, bindTgs, setAll, isOw, seqOf, ixD, wipeD, slD, wTest, wNamed, gv]) ?_
        refine rs_skip (st1 := s') (by simp only [execs, exec, ev, evs, evl, evo, evc, evi, byTru, startD, binop_ii, binop_tt, binop_ll, cmpD, tru, endOf, flEnd, flOf, bfun, bindTg, bindTgs, setAll, isOw, seqOf, ixD, wipeD, slD, wTest, wNamed, Option.bind_eq_bind, Option.bind_some, List.getElem?_cons_succ, List.getElem?_cons_zero]; rw [hup]; simp [e, hk']) ?_
        refine rs_nx (σ1 := [.im (.int b), .im (.tup (ds.map .int)), .im (.tup ((vmap b ds).map .int)), .im (.tup ((fixd b ds).map .int)), .im (.int i), .im (.int (val b ds v)), .im (.bl (decide ((i : Int) ≤ val b ds i))), .im (.int ((k + 1 : Nat) : Int)), .im (.int (val b ds v))]) (st1 := s') (by simp [execs, exec, ev, evs, evl, evo, evc, evi, byTru, startD, binop_ii, binop_tt, binop_ll, cmpD, tru, endOf, flEnd, flOf, bfun, bindTg, bindTgs, setAll, isOw, seqOf, ixD, wipeD, slD, wTest, wNamed]) (rs_nil ?_)
        have hk2 : k < 2 ^ b := Int.ofNat_lt.mp (by rw [← p2]; exact hk)
        exact ⟨m - 1, by omega, k + 1, val b ds v, _, rfl, rfl, o.step hv, by omega⟩
    · rintro σ s' ⟨k, v, x, rfl, rfl, o, hv⟩
      have hk := o.lt hf
      have hk' : ¬ ((2 : Int) ^ b - 1 < (k : Int)) := by omega
      obtain ⟨_, _, s', e1, rfl, rfl, k', v', rfl, o', hv'⟩ := run_settled_value (n := n + 1) (st := s') (ds := ds) h1 h2 hf
      have ev : v' = v := by
        rw [o.e, o'.e]
        exact orb_same (by rw [← o'.e]; exact hv') (by rw [← o.e]; exact hv)
      subst ev
      refine rs_skip (st1 := s') (by simp [execs, exec, ev, evs, evl, evo, evc, evi, byTru, startD, binop_ii, binop_tt, binop_ll, cmpD, tru, endOf, flEnd, flOf, bfun, bindTg, bindTgs, setAll, isOw, seqOf, ixD, wipeD, slD, wTest, wNamed, e, hk', e1, LIM]) ?_
      refine rs_skip (st1 := s') (by simp [execs, exec, ev, evs, evl, evo, evc, evi, byTru, startD, binop_ii, binop_tt, binop_ll, cmpD, tru, endOf, flEnd, flOf, bfun, bindTg, bindTgs, setAll, isOw, seqOf, ixD, wipeD, slD, wTest, wNamed, run_settled_errors h1 h2 hf o hv, run_counted h1 h2, LIM, L2.atI, L2.ixN]) ?_
      exact rs_nil ⟨_, _, _, _, _, rfl, rfl⟩
  · rintro σ s ⟨x4, x5, x6, x7, x8, rfl, rfl⟩
    refine rs_ret (d := .bl true) (fl := .pl) (st1 := s) (by simp [execs, exec, ev, evs, evl, evo, evc, evi, byTru, startD, binop_ii, binop_tt, binop_ll, cmpD, tru, endOf, flEnd, flOf, bfun, bindTg, bindTgs, setAll, isOw, seqOf, ixD, wipeD, slD, wTest, wNamed]) ⟨_, _, _, rfl, rfl, rfl, rfl⟩

theorem seqOf_tup (l : List D) : seqOf (.tup l) = some l := rfl
theorem run_all {n m : Nat} {st : Sto} (hm : m ≤ 6) : ∃ ls : List (List Int), runN tb (n + 1) 12 [.int m] st = some (.lst (ls.map fun l => .tup (l.map .int)), .pl, st) ∧ ls.length ≤ 64 := by
  have key : Rr (runN tb (n + 1) 12 [.int m] st) (fun d fl st' => fl = .pl ∧ st' = st ∧ ∃ ls : List (List Int), d = .lst (ls.map fun l => .tup (l.map .int)) ∧ ls.length ≤ 64) := by
    refine run_rs (fd := fd__law_all) rfl rfl ?_
    refine rs_nx (σ1 := [.im (.int m), .im (.lst [.tup []]), .no, .no]) (st1 := st) (by simp [fd__law_all, execs, exec, ev, evs, evl, evo, evc, evi, byTru, startD, binop_ii, binop_tt, binop_ll, cmpD, tru, endOf, flEnd, flOf, bfun, bindTg, bindTgs, setAll, isOw, seqOf, ixD, wipeD, slD, wTest, wNamed, LIM]) ?_
    have hI : ∃ ls : List (List Int), [SV.im (D.int m), .im (.lst [.tup []]), .no, .no] = [SV.im (D.int m), .im (.lst (ls.map fun l => .tup (l.map .int))), .no, .no] ∧ ls.length = 2 ^ 0 ∧ ∀ l, l ∈ ls → l.length = 0 := ⟨[[]], rfl, rfl, by simp⟩
    obtain ⟨ls0, hl0, hl1, hl2⟩ := hI
    refine rs_for (items := rngD 0 m) (fl := .pl) (st1 := st) (fun i σ s => ∃ (ls : List (List Int)) (x : SV), σ = [.im (.int m), .im (.lst (ls.map fun l => .tup (l.map .int))), x, .no] ∧ s = st ∧ ls.length = 2 ^ i ∧ ∀ l, l ∈ ls → l.length = i)
      (fun σ s => ∃ (ls : List (List Int)) (x : SV), σ = [.im (.int m), .im (.lst (ls.map fun l => .tup (l.map .int))), x, .no] ∧ s = st ∧ ls.length = 2 ^ m)
      (evi_rng (fl := .pl) (by simp [execs, exec, ev, evs, evl, evo, evc, evi, byTru, startD, binop_ii, binop_tt, binop_ll, cmpD, tru, endOf, flEnd, flOf, bfun, bindTg, bindTgs, setAll, isOw, seqOf, ixD, wipeD, slD, wTest, wNamed]) (by omega)) (by decide) ⟨ls0, _, hl0, rfl, hl1, hl2⟩ ?_ ?_ ?_
    · rintro i d hd σ s ⟨ls, x, rfl, rfl, l1, l2⟩
      have hi : i < m := by simpa [rngD] using (List.getElem?_eq_some_iff.mp hd).1
      refine ⟨_, rfl, ?_⟩
      have hp6 : 2 ^ i ≤ 2 ^ 6 := Nat.pow_le_pow_right (by omega) (by omega)
      have hc : ∀ (z : Int) (C : E), C = .comp [3] (.nm 3) (.seq (.var 1)) .no (.bin .add (.var 3) (.tup (.cons (.cInt z) .nil))) → (ev (runN tb n) C).1 [.im (.int m), .im (.lst (ls.map fun l => .tup (l.map .int))), .im d, .no] s = some (.lst ((ls.map (· ++ [z])).map fun l => .tup (l.map .int)), .fr, s) := by
        rintro z C rfl
        refine ev_comp (items := ls.map fun l => .tup (l.map .int)) (st1 := s) (evi_seq (fl := .pl) (d := .lst (ls.map fun l => .tup (l.map .int))) (by simp [execs, exec, ev, evs, evl, evo, evc, evi, byTru, startD, binop_ii, binop_tt, binop_ll, cmpD, tru, endOf, flEnd, flOf, bfun, bindTg, bindTgs, setAll, isOw, seqOf, ixD, wipeD, slD, wTest, wNamed]) rfl) (by simp [LIM]; omega) rfl ?_
        refine Eq.trans (compGo_map (g := fun l => D.tup ((l ++ [z]).map .int)) _ fun l hl => ⟨_, .pl, rfl, rfl, ?_, by decide⟩) (by simp)
        have := l2 l hl
        have h7 : l.length + 1 ≤ 1000000 := by omega
        simp [execs, exec, ev, evs, evl, evo, evc, evi, byTru, startD, binop_ii, binop_tt, binop_ll, cmpD, tru, endOf, flEnd, flOf, bfun, bindTg, bindTgs, setAll, isOw, seqOf, ixD, wipeD, slD, wTest, wNamed, LIM, h7]
      have hls : (ls.length + ls.length) ≤ 1000000 := by omega
      refine rs_nx (σ1 := [.im (.int m), .im (.lst ((ls.map (· ++ [0]) ++ ls.map (· ++ [1])).map fun l => .tup (l.map .int))), .im d, .no]) (st1 := s) (by simp [execs, exec, ev, evs, evl, evo, evc, evi, byTru, startD, binop_ii, binop_tt, binop_ll, cmpD, tru, endOf, flEnd, flOf, bfun, bindTg, bindTgs, setAll, isOw, seqOf, ixD, wipeD, slD, wTest, wNamed, hc 0 C__law_all_1 rfl, hc 1 C__law_all_2 rfl, LIM, hls]) (rs_nil ?_)
      refine ⟨_, _, rfl, rfl, ?_, ?_⟩
      · simp; omega
      · intro l hl
        rcases List.mem_append.mp hl with hl | hl
        · obtain ⟨l', m', rfl⟩ := List.mem_map.mp hl
          simp [l2 l' m']
        · obtain ⟨l', m', rfl⟩ := List.mem_map.mp hl
          simp [l2 l' m']
    · rintro σ s ⟨ls, x, rfl, rfl, l1, l2⟩
      exact ⟨ls, x, rfl, rfl, by rw [l1]; simp [rngD]⟩
    · rintro σ s ⟨ls, x, rfl, rfl, l1⟩
      have hp6 : 2 ^ m ≤ 2 ^ 6 := Nat.pow_le_pow_right (by omega) (by omega)
      refine rs_ret (d := .lst (ls.map fun l => .tup (l.map .int))) (fl := .pl) (st1 := s) (by simp [execs, exec, ev, evs, evl, evo, evc, evi, byTru, startD, binop_ii, binop_tt, binop_ll, cmpD, tru, endOf, flEnd, flOf, bfun, bindTg, bindTgs, setAll, isOw, seqOf, ixD, wipeD, slD, wTest, wNamed]) ⟨_, _, _, rfl, rfl, rfl, ls, rfl, by omega⟩
  obtain ⟨_, _, _, e, rfl, rfl, ls, rfl, h⟩ := key
  exact ⟨ls, e, h⟩
theorem vmap_mem {b : Nat} {ds : List Int} {v : Int} (h : v ∈ vmap b ds) : 0 ≤ v ∧ v < 2 ^ b := by
  rw [vmap_eq] at h
  obtain ⟨i, hi, rfl⟩ := List.mem_map.mp h
  exact val_range b ds ⟨by omega, by rw [p2]; exact Int.ofNat_lt.mpr (List.mem_range.mp hi)⟩
theorem vmap_append (b : Nat) (l m : List Int) : vmap b (l ++ m) = (vmap b l).map (val b m) := by
  rw [vmap_eq, vmap_eq, List.map_map]
  exact List.map_congr_left fun i _ => val_append b l m i
theorem run_right {n i C : Nat} {st : Sto} (hb : BoxOk st i C) (hC : C ≤ 10) : ∃ st', runN tb (n + 6) 13 [.box i] st = some (.bl true, .pl, st') := by
  have ht : tb[8]? = some ⟨2, 4, bTake⟩ := rfl
  have key : Rr (runN tb (n + 6) 13 [.box i] st) (fun d fl st' => d = .bl true ∧ fl = .pl) := by
    refine run_rs (fd := fd__law_right) rfl rfl ?_
    refine rs_for (items := rngD 0 10) (fl := .pl) (st1 := st) (fun k σ s => ∃ x1 x2 x3 x4 x5 x6, σ = [.im (.box i), x1, x2, x3, x4, x5, x6, .no] ∧ BoxOk s i (C + 700 * k))
      (fun σ s => True)
      (evi_rng (n := 10) (fl := .pl) (by simp [execs, exec, ev, evs, evl, evo, evc, evi, byTru, startD, binop_ii, binop_tt, binop_ll, cmpD, tru, endOf, flEnd, flOf, bfun, bindTg, bindTgs, setAll, isOw, seqOf, ixD, wipeD, slD, wTest, wNamed]) (by omega)) (by decide) ⟨_, _, _, _, _, _, rfl, hb⟩ ?_ (fun _ _ _ => trivial) ?_
    · rintro k d hd σ s ⟨x1, x2, x3, x4, x5, x6, rfl, hb⟩
      have hk : k < 10 := by simpa [rngD] using (List.getElem?_eq_some_iff.mp hd).1
      refine ⟨_, rfl, ?_⟩
      obtain ⟨r1, s1, e1, l1, b1, n1⟩ := take_eq (n := n + 4) (m := 4) ht hb (by omega) (by omega) (by omega)
      obtain ⟨_, _, s2, e2, rfl, ⟨ds, rfl, m1, m2, _⟩, b2, _⟩ := row_spec (n := n + 3) (m := 64) b1 (by omega) (by omega) (by omega)
      obtain ⟨_, _, s3, e3, rfl, ⟨ms, rfl, m3, m4, _⟩, b3, _⟩ := row_spec (n := n + 3) (m := 12) b2 (by omega) (by omega) (by omega)
      obtain ⟨b, hbz⟩ : ∃ b, b = r1 + 1 := ⟨_, rfl⟩
      have hb1 : (1 : Int) + (r1 : Int) = (b : Int) := by omega
      have h1 : 1 ≤ b := by omega
      have h2 : b ≤ 4 := by omega
      have hp := pow4 h2
      simp at e1 e2 e3
      refine rs_nx (σ1 := [.im (.box i), .im d, .im (.int b), .im (.tup (ds.map .int)), .im (.tup (ms.map .int)), x5, x6, .no]) (st1 := s3) (by simp [execs, exec, ev, evs, evl, evo, evc, evi, byTru, startD, binop_ii, binop_tt, binop_ll, cmpD, tru, endOf, flEnd, flOf, bfun, bindTg, bindTgs, setAll, isOw, seqOf, ixD, wipeD, slD, wTest, wNamed, e1, e2, e3, hb1]) ?_
      refine rs_skip (st1 := s3) (by simp [execs, exec, ev, evs, evl, evo, evc, evi, byTru, startD, binop_ii, binop_tt, binop_ll, cmpD, tru, endOf, flEnd, flOf, bfun, bindTg, bindTgs, setAll, isOw, seqOf, ixD, wipeD, slD, wTest, wNamed, run_word_right h1 h2]) ?_
      refine rs_nx (σ1 := [.im (.box i), .im d, .im (.int b), .im (.tup (ds.map .int)), .im (.tup (ms.map .int)), .im (.tup ((vmap b ds).map .int)), .im (.tup ((vmap b ms).map .int)), .no]) (st1 := s3) (by simp [execs, exec, ev, evs, evl, evo, evc, evi, byTru, startD, binop_ii, binop_tt, binop_ll, cmpD, tru, endOf, flEnd, flOf, bfun, bindTg, bindTgs, setAll, isOw, seqOf, ixD, wipeD, slD, wTest, wNamed, run_value_map h1 h2, LIM]) ?_
      by_cases hl : ds.length + ms.length < 65
      · refine rs_if1 (st1 := s3) (by simp [execs, exec, ev, evs, evl, evo, evc, evi, byTru, startD, binop_ii, binop_tt, binop_ll, cmpD, tru, endOf, flEnd, flOf, bfun, bindTg, bindTgs, setAll, isOw, seqOf, ixD, wipeD, slD, wTest, wNamed]; omega) ?_
        have hc : (ev (runN tb (n + 5)) C__law_right_1).1 [.im (.box i), .im d, .im (.int b), .im (.tup (ds.map .int)), .im (.tup (ms.map .int)), .im (.tup ((vmap b ds).map .int)), .im (.tup ((vmap b ms).map .int)), .no] s3 = some (.lst (((vmap b ds).map (val b ms)).map .int), .fr, s3) := by
          refine ev_comp (items := (vmap b ds).map .int) (st1 := s3) (evi_seq (fl := .pl) (d := .tup ((vmap b ds).map .int)) (by simp [execs, exec, ev, evs, evl, evo, evc, evi, byTru, startD, binop_ii, binop_tt, binop_ll, cmpD, tru, endOf, flEnd, flOf, bfun, bindTg, bindTgs, setAll, isOw, seqOf, ixD, wipeD, slD, wTest, wNamed]) rfl) (by simp [LIM, vmap_len]; omega) rfl ?_
          refine Eq.trans (compGo_map (g := fun v => D.int (val b ms v)) _ fun v hv => ⟨_, .pl, rfl, rfl, ?_, by decide⟩) (by simp)
          have := vmap_get (ds := ms) (vmap_mem hv)
          simp [execs, exec, ev, evs, evl, evo, evc, evi, byTru, startD, binop_ii, binop_tt, binop_ll, cmpD, tru, endOf, flEnd, flOf, bfun, bindTg, bindTgs, setAll, isOw, seqOf, ixD, wipeD, slD, wTest, wNamed, this]
        have hv := run_value_map (n := n + 2) (b := b) (ds := ds ++ ms) (st := s3) h1 h2
        rw [vmap_append] at hv
        rw [show List.map D.int (ds ++ ms) = List.map D.int ds ++ List.map D.int ms from List.map_append ..] at hv
        have hl6 : ds.length + ms.length ≤ 1000000 := by omega
        have heq := dEq_tup ((vmap b ds).map (val b ms)) ((vmap b ds).map (val b ms))
        refine rs_skip (st1 := s3) ?_ ?_
        · simp only [List.map_map] at hv hc heq
          simp [execs, exec, ev, evs, evl, evo, evc, evi, byTru, startD, binop_ii, binop_tt, binop_ll, cmpD, tru, endOf, flEnd, flOf, bfun, bindTg, bindTgs, setAll, isOw, seqOf, ixD, wipeD, slD, wTest, wNamed, hc, hv, LIM, hl6, heq]
        · exact rs_nil (rs_nil ⟨_, _, _, _, _, _, rfl, b3.mono (by omega)⟩)
      · refine rs_skip (st1 := s3) (by simp [execs, exec, ev, evs, evl, evo, evc, evi, byTru, startD, binop_ii, binop_tt, binop_ll, cmpD, tru, endOf, flEnd, flOf, bfun, bindTg, bindTgs, setAll, isOw, seqOf, ixD, wipeD, slD, wTest, wNamed]; omega) ?_
        exact rs_nil ⟨_, _, _, _, _, _, rfl, b3.mono (by omega)⟩
    · rintro σ s _
      exact rs_ret (d := .bl true) (fl := .pl) (st1 := s) (by simp [execs, exec, ev, evs, evl, evo, evc, evi, byTru, startD, binop_ii, binop_tt, binop_ll, cmpD, tru, endOf, flEnd, flOf, bfun, bindTg, bindTgs, setAll, isOw, seqOf, ixD, wipeD, slD, wTest, wNamed]) ⟨_, _, _, rfl, rfl, rfl⟩
  obtain ⟨_, _, st', e, rfl, rfl⟩ := key
  exact ⟨st', e⟩
theorem law_holds (ns : List Int) (hns : ns.length ≤ 63) : ∃ st', runN tb 12 14 [.scr (ns.map .int)] [] = some (.bl true, .pl, st') := by
  have hx : tb[7]? = some ⟨2, 4, bBox⟩ := rfl
  have key : Rr (runN tb 12 14 [.scr (ns.map .int)] []) (fun d fl st' => d = .bl true ∧ fl = .pl) := by
    refine run_rs (n := 11) (fd := fd_law) rfl rfl ?_
    refine rs_for (items := rngD 0 7) (fl := .pl) (st1 := []) (fun k σ s => s = [] ∧ ∃ x1 x2, σ = [.im (.scr (ns.map .int)), x1, x2, .no, .no])
      (fun σ s => s = [] ∧ ∃ x1 x2, σ = [.im (.scr (ns.map .int)), x1, x2, .no, .no])
      (evi_rng (n := 7) (fl := .pl) (by simp [execs, exec, ev, evs, evl, evo, evc, evi, byTru, startD, binop_ii, binop_tt, binop_ll, cmpD, tru, endOf, flEnd, flOf, bfun, bindTg, bindTgs, setAll, isOw, seqOf, ixD, wipeD, slD, wTest, wNamed]) (by omega)) (by decide) ⟨rfl, _, _, rfl⟩ ?_ (fun _ _ h => h) ?_
    · rintro k d hd σ s ⟨rfl, x1, x2, rfl⟩
      have hk : k < 7 := by simpa [rngD] using (List.getElem?_eq_some_iff.mp hd).1
      have hd' : d = .int (k : Int) := by
        simp [rngD, hk] at hd
        exact hd.symm
      subst hd'
      refine ⟨_, rfl, ?_⟩
      refine rs_for (items := [.int 1, .int 2, .int 3, .int 4]) (fl := .pl) (st1 := []) (fun j σ s => s = [] ∧ ∃ x2, σ = [.im (.scr (ns.map .int)), .im (.int k), x2, .no, .no])
        (fun σ s => s = [] ∧ ∃ x2, σ = [.im (.scr (ns.map .int)), .im (.int k), x2, .no, .no])
        (evi_seq (fl := .pl) (d := .tup [.int 1, .int 2, .int 3, .int 4]) (by simp [execs, exec, ev, evs, evl, evo, evc, evi, byTru, startD, binop_ii, binop_tt, binop_ll, cmpD, tru, endOf, flEnd, flOf, bfun, bindTg, bindTgs, setAll, isOw, seqOf, ixD, wipeD, slD, wTest, wNamed, LIM]) rfl) (by decide) ⟨rfl, _, rfl⟩ ?_ (fun _ _ h => h) ?_
      · rintro j d hd σ s ⟨rfl, x2, rfl⟩
        obtain ⟨b, rfl, h1, h2⟩ : ∃ b : Nat, d = .int b ∧ 1 ≤ b ∧ b ≤ 4 := by
          match j, hd with
          | 0, hd => exact ⟨1, (Option.some.inj hd).symm, by omega, by omega⟩
          | 1, hd => exact ⟨2, (Option.some.inj hd).symm, by omega, by omega⟩
          | 2, hd => exact ⟨3, (Option.some.inj hd).symm, by omega, by omega⟩
          | 3, hd => exact ⟨4, (Option.some.inj hd).symm, by omega, by omega⟩
          | j + 4, hd => simp at hd
        refine ⟨_, rfl, ?_⟩
        obtain ⟨ls, el, ll⟩ := run_all (n := 10) (m := k) (st := []) (by omega)
        have hc : (ev (runN tb 11) C_law_2).1 [.im (.scr (ns.map .int)), .im (.int k), .im (.int b), .no, .no] [] = some (.lst ((ls.map fun _ => true).map .bl), .fr, []) := by
          refine ev_comp (items := ls.map fun l => .tup (l.map .int)) (st1 := []) (evi_seq (fl := .pl) (d := .lst (ls.map fun l => .tup (l.map .int))) (by simp [execs, exec, ev, evs, evl, evo, evc, evi, byTru, startD, binop_ii, binop_tt, binop_ll, cmpD, tru, endOf, flEnd, flOf, bfun, bindTg, bindTgs, setAll, isOw, seqOf, ixD, wipeD, slD, wTest, wNamed, el]) rfl) (by simp [LIM]; omega) rfl ?_
          refine Eq.trans (compGo_map (g := fun l => D.bl true) _ fun l hl => ⟨_, .pl, rfl, rfl, ?_, by decide⟩) (by simp)
          simp [execs, exec, ev, evs, evl, evo, evc, evi, byTru, startD, binop_ii, binop_tt, binop_ll, cmpD, tru, endOf, flEnd, flOf, bfun, bindTg, bindTgs, setAll, isOw, seqOf, ixD, wipeD, slD, wTest, wNamed, run_word_right (n := 6) h1 h2]
        refine rs_skip (st1 := []) ?_ (rs_nil ⟨rfl, _, rfl⟩)
        have hbl := blsOf_map (ls.map fun _ => true)
        simp only [List.map_map] at hc hbl
        simp [execs, exec, ev, evs, evl, evo, evc, evi, byTru, startD, binop_ii, binop_tt, binop_ll, cmpD, tru, endOf, flEnd, flOf, bfun, bindTg, bindTgs, setAll, isOw, seqOf, ixD, wipeD, slD, wTest, wNamed, hc, hbl]
      · rintro σ s ⟨rfl, x2, rfl⟩
        exact rs_nil ⟨rfl, _, _, rfl⟩
    · rintro σ s ⟨rfl, x1, x2, rfl⟩
      obtain ⟨q, hq, hq2⟩ : ∃ q : Nat, (if (1 : Int) < (if (2 : Int) < (ns.length : Int) then 2 else (ns.length : Int)) then (if (2 : Int) < (ns.length : Int) then 2 else (ns.length : Int)) else 1) = (q : Int) ∧ q ≤ 2 := by
        refine ⟨max 1 (min ns.length 2), ?_, by omega⟩
        split <;> split <;> omega
      obtain ⟨ds, st4, e5, e6, e7, e8⟩ := compGo_inv (tg := .nm 4) (σ := [.im (.scr (ns.map .int)), x1, x2, .no, .no]) (cd := evc (runN tb 11) .no) (el := (ev (runN tb 11) (.call 13 (.cons (.box (.call 7 (.cons (.var 0) (.cons (.var 4) .nil)))) .nil))).1) (P := fun d => d = .bl true)
        (I := fun k s => True) (rngD 0 q) 0 [] trivial (fun j d hd s hI => by
          have hj : j < q := by simpa [rngD] using (List.getElem?_eq_some_iff.mp hd).1
          have hd' : d = .int (j : Int) := by
            simp [rngD, hj] at hd
            exact hd.symm
          subst hd'
          obtain ⟨_, _, s, e, rfl, rfl, own, seed, rfl, o1, o2, o3, o4⟩ := box_spec (n := 10) (st := s) (ns := ns) (k := j) hx (by omega)
          obtain ⟨s', er⟩ := run_right (n := 5) (C := 0) (i := s.length) (st := s ++ [[.int own, .int seed, .int 0]]) ⟨own, seed, 0, by simp, o1, o2, o3, o4, by omega, by omega⟩ (by omega)
          refine ⟨_, .bl true, .pl, s', rfl, rfl, ?_, by decide, rfl, trivial⟩
          simp [execs, exec, ev, evs, evl, evo, evc, evi, byTru, startD, binop_ii, binop_tt, binop_ll, cmpD, tru, endOf, flEnd, flOf, bfun, bindTg, bindTgs, setAll, isOw, seqOf, ixD, wipeD, slD, wTest, wNamed, e, er])
      have hds : ds = (ds.map fun _ => true).map .bl := by
        rw [List.map_map]
        exact (List.map_id _).symm.trans (List.map_congr_left fun d hd => e7 d hd)
      have hc : (ev (runN tb 11) C_law_1).1 [.im (.scr (ns.map .int)), x1, x2, .no, .no] [] = some (.lst ds, .fr, st4) := by
        refine ev_comp (items := rngD 0 q) (st1 := []) (evi_rng (n := q) (fl := .pl) (by simp [execs, exec, ev, evs, evl, evo, evc, evi, byTru, startD, binop_ii, binop_tt, binop_ll, cmpD, tru, endOf, flEnd, flOf, bfun, bindTg, bindTgs, setAll, isOw, seqOf, ixD, wipeD, slD, wTest, wNamed]; omega) (by omega)) (by simp [rngD, LIM]; omega) rfl e5
      have hbl : blsOf ds = some (ds.map fun _ => true) := by
        conv => lhs; rw [hds]
        exact blsOf_map _
      refine rs_ret (d := .bl true) (fl := .pl) (st1 := st4) (by simp [execs, exec, ev, evs, evl, evo, evc, evi, byTru, startD, binop_ii, binop_tt, binop_ll, cmpD, tru, endOf, flEnd, flOf, bfun, bindTg, bindTgs, setAll, isOw, seqOf, ixD, wipeD, slD, wTest, wNamed, hc, hbl]) ⟨_, _, _, rfl, rfl, rfl⟩
  obtain ⟨_, _, st', e, rfl, rfl⟩ := key
  exact ⟨st', e⟩
end Pn

open PySem PySem.W PyProof.Rows
set_option maxRecDepth 100000 in
set_option maxHeartbeats 0 in
theorem PySem.Challenge.cw_pastenough_k80_whole_all_short_words_of_holds : PySem.Challenge.rw_pastenough_k80_whole_all_short_words_of.Holds := by
  w_on; o_law; k_head; (case hw => w_witness2)
  k_fill
  refine L2.walk_ofK (l := PySem.Challenge.rw_pastenough_k80_whole_all_short_words_of) (n := 63) (k := 12) (x := "_law_script") (CX := L2.CX0) (sp := fun K => Pn.spOf K (Pn.runN Pn.tb 12) 1 14) rfl (by decide) rfl ⟨rfl, by decide, by decide⟩ (fun w h Y => PySem.W.kIn_of Y) ?F (fun K H a ns hl hO hS => Pn.law_sp (Pn.law_holds ns hl) hO hS) (fun _ _ _ _ h => h)
  case F =>
    intro w mg fa h KX G hmg
    obtain ⟨f0, d0, A0, E0⟩ : ∃ f d, Pn.DefA _ mg "predicted" Pn.st_predicted ["bits", "value"] f d ∧ True := by
      refine' ⟨_, _, Pn.defA_mk KX G ?a ?l ?c ?k (fun _ _ _ _ _ _ us hl => match us, hl with | [_, _], _ => rfl), trivial⟩
      (case a => k_is); (case l => k_is); (case c => k_is); (case k => k_is)
    obtain ⟨f1, d1, A1, E1⟩ : ∃ f d, Pn.DefA _ mg "value_after" Pn.st_value_after ["bits", "value", "outcome"] f d ∧ True := by
      refine' ⟨_, _, Pn.defA_mk KX G ?a ?l ?c ?k (fun _ _ _ _ _ _ us hl => match us, hl with | [_, _, _], _ => rfl), trivial⟩
      (case a => k_is); (case l => k_is); (case c => k_is); (case k => k_is)
    obtain ⟨f2, d2, A2, E2⟩ : ∃ f d, Pn.DefA _ mg "counted" Pn.st_counted ["counter", "outcomes"] f d ∧ True := by
      refine' ⟨_, _, Pn.defA_mk KX G ?a ?l ?c ?k (fun _ _ _ _ _ _ us hl => match us, hl with | [_, _], _ => rfl), trivial⟩
      (case a => k_is); (case l => k_is); (case c => k_is); (case k => k_is)
    obtain ⟨f3, d3, A3, E3⟩ : ∃ f d, Pn.DefA _ mg "value_map" Pn.st_value_map ["bits", "outcomes"] f d ∧ True := by
      refine' ⟨_, _, Pn.defA_mk KX G ?a ?l ?c ?k (fun _ _ _ _ _ _ us hl => match us, hl with | [_, _], _ => rfl), trivial⟩
      (case a => k_is); (case l => k_is); (case c => k_is); (case k => k_is)
    obtain ⟨f4, d4, A4, E4⟩ : ∃ f d, Pn.DefA _ mg "fixed_values" Pn.st_fixed_values ["bits", "outcomes"] f d ∧ True := by
      refine' ⟨_, _, Pn.defA_mk KX G ?a ?l ?c ?k (fun _ _ _ _ _ _ us hl => match us, hl with | [_, _], _ => rfl), trivial⟩
      (case a => k_is); (case l => k_is); (case c => k_is); (case k => k_is)
    obtain ⟨f5, d5, A5, E5⟩ : ∃ f d, Pn.DefA _ mg "settled_value" Pn.st_settled_value ["counter", "outcomes"] f d ∧ True := by
      refine' ⟨_, _, Pn.defA_mk KX G ?a ?l ?c ?k (fun _ _ _ _ _ _ us hl => match us, hl with | [_, _], _ => rfl), trivial⟩
      (case a => k_is); (case l => k_is); (case c => k_is); (case k => k_is)
    obtain ⟨f6, d6, A6, E6⟩ : ∃ f d, Pn.DefA _ mg "settled_errors" Pn.st_settled_errors ["counter", "outcomes"] f d ∧ True := by
      refine' ⟨_, _, Pn.defA_mk KX G ?a ?l ?c ?k (fun _ _ _ _ _ _ us hl => match us, hl with | [_, _], _ => rfl), trivial⟩
      (case a => k_is); (case l => k_is); (case c => k_is); (case k => k_is)
    obtain ⟨f7, d7, A7, E7⟩ : ∃ f d, Pn.DefA _ mg "_law_box" Pn.st__law_box ["_law_script", "_law_k"] f d ∧ True := by
      refine' ⟨_, _, Pn.defA_mk KX G ?a ?l ?c ?k (fun _ _ _ _ _ _ us hl => match us, hl with | [_, _], _ => rfl), trivial⟩
      (case a => k_is); (case l => k_is); (case c => k_is); (case k => k_is)
    obtain ⟨f8, d8, A8, E8⟩ : ∃ f d, Pn.DefA _ mg "_law_take" Pn.st__law_take ["_law_box_here", "_law_many"] f d ∧ True := by
      refine' ⟨_, _, Pn.defA_mk KX G ?a ?l ?c ?k (fun _ _ _ _ _ _ us hl => match us, hl with | [_, _], _ => rfl), trivial⟩
      (case a => k_is); (case l => k_is); (case c => k_is); (case k => k_is)
    obtain ⟨f9, d9, A9, E9⟩ : ∃ f d, Pn.DefA _ mg "_law_of" Pn.st__law_of ["_law_box_here", "_law_some"] f d ∧ True := by
      refine' ⟨_, _, Pn.defA_mk KX G ?a ?l ?c ?k (fun _ _ _ _ _ _ us hl => match us, hl with | [_, _], _ => rfl), trivial⟩
      (case a => k_is); (case l => k_is); (case c => k_is); (case k => k_is)
    obtain ⟨f10, d10, A10, E10⟩ : ∃ f d, Pn.DefA _ mg "_law_row" Pn.st__law_row ["_law_box_here", "_law_most"] f d ∧ True := by
      refine' ⟨_, _, Pn.defA_mk KX G ?a ?l ?c ?k (fun _ _ _ _ _ _ us hl => match us, hl with | [_, _], _ => rfl), trivial⟩
      (case a => k_is); (case l => k_is); (case c => k_is); (case k => k_is)
    obtain ⟨f11, d11, A11, E11⟩ : ∃ f d, Pn.DefA _ mg "_law_word_right" Pn.st__law_word_right ["_law_width", "_law_deeds"] f d ∧ True := by
      refine' ⟨_, _, Pn.defA_mk KX G ?a ?l ?c ?k (fun _ _ _ _ _ _ us hl => match us, hl with | [_, _], _ => rfl), trivial⟩
      (case a => k_is); (case l => k_is); (case c => k_is); (case k => k_is)
    obtain ⟨f12, d12, A12, E12⟩ : ∃ f d, Pn.DefA _ mg "_law_all" Pn.st__law_all ["_law_many"] f d ∧ True := by
      refine' ⟨_, _, Pn.defA_mk KX G ?a ?l ?c ?k (fun _ _ _ _ _ _ us hl => match us, hl with | [_], _ => rfl), trivial⟩
      (case a => k_is); (case l => k_is); (case c => k_is); (case k => k_is)
    obtain ⟨f13, d13, A13, E13⟩ : ∃ f d, Pn.DefA _ mg "_law_right" Pn.st__law_right ["_law_box_here"] f d ∧ True := by
      refine' ⟨_, _, Pn.defA_mk KX G ?a ?l ?c ?k (fun _ _ _ _ _ _ us hl => match us, hl with | [_], _ => rfl), trivial⟩
      (case a => k_is); (case l => k_is); (case c => k_is); (case k => k_is)
    obtain ⟨f14, d14, A14, E14⟩ : ∃ f d, Pn.DefA _ mg "law" Pn.st_law ["_law_script"] f d ∧ ∀ (s : Shared) (v : Value), BindsTo s d ⟨[v], []⟩ [("_law_script", v)] := by
      refine' ⟨_, _, Pn.defA_mk KX G ?a ?l ?c ?k (fun _ _ _ _ _ _ us hl => match us, hl with | [_], _ => rfl), fun s v => .of_eq rfl⟩
      (case a => k_is); (case l => k_is); (case c => k_is); (case k => k_is)
    have ef : f14 = fa := by have := A14.at_.symm.trans hmg; cases this; rfl
    subst ef
    have hb : ∀ y, y ∈ Pn.cc.blts → mg y = none :=
      (Pn.blt_cons KX G (by k_is) (Pn.blt_cons KX G (by k_is) (Pn.blt_cons KX G (by k_is) (Pn.blt_cons KX G (by k_is) (Pn.blt_cons KX G (by k_is) (Pn.blt_cons KX G (by k_is) (Pn.blt_cons KX G (by k_is) (Pn.blt_cons KX G (by k_is) (Pn.blt_cons KX G (by k_is) (Pn.blt_cons KX G (by k_is) (Pn.blt_cons KX G (by k_is) Pn.blt_nil)))))))))))
    exact ⟨_, E14, fun base _ _ => Pn.law_end A14 rfl Pn.dt_law (Pn.fns_all (fa := fun i => [f0, f1, f2, f3, f4, f5, f6, f7, f8, f9, f10, f11, f12, f13, f14].getD i f14) (fdt := fun i => [d0, d1, d2, d3, d4, d5, d6, d7, d8, d9, d10, d11, d12, d13, d14].getD i d14) A0 A1 A2 A3 A4 A5 A6 A7 A8 A9 A10 A11 A12 A13 A14) hb base⟩
