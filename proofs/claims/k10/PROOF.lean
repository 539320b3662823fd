import PyProof.Rows.All
import Wide.All
import OpenK.AllK
import Wide.FinOn
import HandS.ForMost
import HandS.Wide
import HandS.WideBits
import HandS.Style
import HandS.Deep
import HandS.Flow
import HandS.Defaults
import HandS.IsInst
import HandS.RevRange
import HandS.TupAny
import HandS.Head0
import HandS.Head1
import HandS.Head2
import HandS.HeadEnd
import HandS.HeadHook1
import HandS.HeadHook2
import PySem.Challenge.RW_modulusfields_k10_whole_products_of_all
set_option Elab.async false
set_option linter.all false
set_option maxRecDepth 100000
/-! CorA: the core language, its data, its evaluator. -/
namespace Cor
open PySem

/-! ### data: every list and dict bears a tag (0: never changed here) -/
inductive DKey where
  | int (i : Int) | str (x : Str) | ints (l : List Int)
  deriving DecidableEq

inductive D where
  | non | bl (b : Bool) | int (i : Int) | str (x : Str) | rep (x : PyData)
  | ints (t : Nat) (l : List Int)
  | lst (t : Nat) (xs : List D)
  | tup (xs : List D)
  | dct (t : Nat) (kvs : List (DKey × D))
  | gd (kvs : List (Int × Int))
  | scr (l : List Int)
  | gen | bot

def isFlat : D → Bool
  | .non | .bl _ | .int _ | .str _ | .rep _ => true
  | _ => false

mutual
def tags : D → List Nat
  | .ints t _ => [t]
  | .lst t xs => t :: tagsL xs
  | .tup xs => tagsL xs
  | .dct t kvs => t :: tagsK kvs
  | .scr _ => [0]
  | _ => []
def tagsL : List D → List Nat
  | [] => []
  | x :: xs => tags x ++ tagsL xs
def tagsK : List (DKey × D) → List Nat
  | [] => []
  | (_, x) :: xs => tags x ++ tagsK xs
end

/-- all ints -/
def intsOf : List D → Option (List Int)
  | [] => some []
  | .int i :: xs => (intsOf xs).map (i :: ·)
  | _ :: _ => none
/-- a list: of ints if it can be -/
def mkL (t : Nat) (xs : List D) : D := match intsOf xs with
  | some l => .ints t l
  | none => .lst t xs

mutual
def retag (f : Nat → Nat) : D → D
  | .ints t l => .ints (f t) l
  | .lst t xs => mkL (f t) (retagL f xs)
  | .tup xs => .tup (retagL f xs)
  | .dct t kvs => .dct (f t) (retagK f kvs)
  | d => d
def retagL (f : Nat → Nat) : List D → List D
  | [] => []
  | x :: xs => retag f x :: retagL f xs
def retagK (f : Nat → Nat) : List (DKey × D) → List (DKey × D)
  | [] => []
  | (k, x) :: xs => (k, retag f x) :: retagK f xs
end

mutual
/-- what may have changed is forgotten -/
def wipeT (t : Nat) : D → D
  | .ints u l => if Nat.beq u t then .bot else .ints u l
  | .lst u xs => if Nat.beq u t then .bot else .lst u (wipeTL t xs)
  | .tup xs => .tup (wipeTL t xs)
  | .dct u kvs => if Nat.beq u t then .bot else .dct u (wipeTK t kvs)
  | d => d
def wipeTL (t : Nat) : List D → List D
  | [] => []
  | x :: xs => wipeT t x :: wipeTL t xs
def wipeTK (t : Nat) : List (DKey × D) → List (DKey × D)
  | [] => []
  | (k, x) :: xs => (k, wipeT t x) :: wipeTK t xs
end
def wipeO (t : Nat) : Option D → Option D
  | none => none
  | some d => some (wipeT t d)
def wipeEnv (t : Nat) : List (Option D) → List (Option D)
  | [] => []
  | x :: xs => wipeO t x :: wipeEnv t xs

/-! ### the data as plain Python data -/
mutual
def toPy : D → Option PyData
  | .non => some .none
  | .bl b => some (.bool b)
  | .int i => some (.int i)
  | .str x => some (.str x)
  | .ints _ l => some (.list (l.map .int))
  | .lst _ xs => (toPyL xs).map .list
  | .tup xs => (toPyL xs).map .tuple
  | _ => none
def toPyL : List D → Option (List PyData)
  | [] => some []
  | x :: xs => match toPy x, toPyL xs with
    | some y, some ys => some (y :: ys)
    | _, _ => none
end
mutual
def pyEq : PyData → PyData → Bool
  | .none, .none => true
  | .bool a, .bool b => a == b
  | .int a, .int b => a == b
  | .str a, .str b => a == b
  | .list a, .list b => pyEqL a b
  | .tuple a, .tuple b => pyEqL a b
  | _, _ => false
def pyEqL : List PyData → List PyData → Bool
  | [], [] => true
  | x :: xs, y :: ys => pyEq x y && pyEqL xs ys
  | _, _ => false
end
mutual
def intsSmall : PyData → Bool
  | .int i => decide (i.natAbs < 10 ^ 12)
  | .list xs => intsSmallL xs
  | .tuple xs => intsSmallL xs
  | _ => true
def intsSmallL : List PyData → Bool
  | [] => true
  | x :: xs => intsSmall x && intsSmallL xs
end

/-! ### the language -/
inductive BOp where
  | add | sub | mul | fdiv | mod | pow
  deriving DecidableEq
inductive COp where
  | eq | ne | lt | le | gt | ge | is | isnot | mem | nmem
  deriving DecidableEq
inductive Bi where
  | len | int | list | tuple | max2 | min2 | sum | repr | sorted | bits | index | count
  deriving DecidableEq
inductive Ty where
  | non | bool | int | str | list | tuple | dict
  deriving DecidableEq
inductive Tg where
  | v (i : Nat)
  | tup (is : List Nat)
mutual
inductive CE where
  | var (i : Nat)
  | non | bl (b : Bool) | int (i : Int) | str (x : Str)
  | gdict (g : Nat) (kvs : List (Int × Int))
  | gtup (g : Nat) (l : List Int)
  | bin (op : BOp) (a b : CE)
  | neg (a : CE) | not (a : CE)
  | and (a b : CE) | or (a b : CE)
  | cmp (op : COp) (a b : CE)
  | chain (op op' : COp) (a b c : CE)
  | ite (c a b : CE)
  | call (f : Nat) (pm : List Nat) (args : List CE)
  | bi (b : Bi) (args : List CE)
  | isi (a : CE) (ty : Ty)
  | idx (a b : CE)
  | sl (a : CE) (lo hi : Option CE)
  | rev (a : CE)
  | lst (es : List CE)
  | tup (es : List CE)
  | dict (ks : List DKey) (es : List CE)
  | comp (elt : CE) (tg : Tg) (it : CI) (ifs : Option CE) (own : List Nat)
  | comp2 (elt : CE) (tg : Tg) (it : CI) (ifs : Option CE) (tg1 : Tg) (it1 : CI) (ifs1 : Option CE) (own own1 : List Nat)
inductive CI where
  | of (e : CE)
  | rng1 (a : CE) | rng2 (a b : CE) | rng3 (a b c : CE)
  | enum (e : CE)
  | zip (strict : Bool) (a b : CE)
  | rev (e : CE)
end
inductive CS where
  | asg (tg : Tg) (e : CE)
  | par (is : List Nat) (es : List CE)
  | gen (i : Nat) (e : CE)
  | expr (e : CE)
  | app (i : Nat) (e : CE)
  | pop (i : Nat)
  | set (i : Nat) (k e : CE)
  | for (tg : Tg) (it : CI) (body : List CS)
  | whl (c : CE) (body : List CS)
  | if (c : CE) (a b : List CS)
  | ret (e : CE)
  | retN
  | raise
  | brk | pass
structure CFun where
  np : Nat
  n : Nat
  body : List CS

/-! ### the evaluator -/
structure Stt where
  env : List (Option D)
  c : Nat
  fz : List Nat
  lk : List Nat
  g : Option (List Int)
  h : Bool
inductive Fl where
  | nx | bk | ct | rt (d : D)

def truth : D → Option Bool
  | .non => some false
  | .bl b => some b
  | .int i => some (i != 0)
  | .ints _ l => some (!l.isEmpty)
  | .lst _ xs => some (!xs.isEmpty)
  | .tup xs => some (!xs.isEmpty)
  | _ => none
/-- the items of a list -/
def itemsL : D → Option (List D)
  | .ints _ l => some (l.map .int)
  | .lst _ xs => some xs
  | _ => none
def tagOf : D → Nat
  | .ints t _ => t
  | .lst t _ => t
  | .dct t _ => t
  | _ => 0
def place (n : Nat) (i : Int) : Option Nat :=
  if 0 ≤ i then (if i < n then some i.toNat else none) else if -(n : Int) ≤ i then some (i + n).toNat else none
def fits (n : Nat) : Bool := Nat.ble n 16777216
def isSmall (i : Int) : Bool := decide (-(2 ^ 64) < i) && decide (i < 2 ^ 64)
def new (d : Nat → D) (S : Stt) : Option (D × Stt) := some (d S.c, { S with c := S.c + 1 })

def cut (n d : Nat) : Option Int → Nat
  | none => d
  | some v => if v < 0 then (v + (n : Int)).toNat else min v.toNat n
def cutL {α : Type} (xs : List α) (lo hi : Option Int) : List α :=
  (xs.drop (cut xs.length 0 lo)).take (cut xs.length xs.length hi - cut xs.length 0 lo)

def opBin : BOp → D → D → Stt → Option (D × Stt)
  | .add, .int i, .int j, S => some (.int (i + j), S)
  | .add, .ints _ a, .ints _ b, S => if fits (a.length + b.length) then new (fun t => .ints t (a ++ b)) S else none
  | .add, a, b, S => match itemsL a, itemsL b with
    | some xs, some ys => if fits (xs.length + ys.length) then new (fun t => .lst t (xs ++ ys)) S else none
    | _, _ => none
  | .sub, .int i, .int j, S => some (.int (i - j), S)
  | .mul, .int i, .int j, S => if isSmall i || (isSmall j || decide (Nat.log2 i.natAbs + Nat.log2 j.natAbs < 1000000)) then some (.int (i * j), S) else none
  | .mul, .ints _ a, .int k, S => if decide (-(2 ^ 63) ≤ k) && decide (k < 2 ^ 63) && fits (a.length * k.toNat) then new (fun t => .ints t (List.replicate k.toNat a).flatten) S else none
  | .mul, .lst _ xs, .int k, S => if decide (-(2 ^ 63) ≤ k) && decide (k < 2 ^ 63) && fits (xs.length * k.toNat) then new (fun t => .lst t (List.replicate k.toNat xs).flatten) S else none
  | .fdiv, .int i, .int j, S => if decide (0 < j) && decide (Nat.log2 j.natAbs < 9000) then some (.int (i / j), S) else none
  | .mod, .int i, .int j, S => if decide (0 < j) then some (.int (i % j), S) else none
  | .pow, .int i, .int j, S => if decide (0 ≤ j) && decide (j ≤ 1000) && decide (Nat.log2 i.natAbs < 1000) then some (.int (i ^ j.toNat), S) else none
  | _, _, _, _ => none

def eqD (a b : D) : Option Bool := match a, b with
  | .int i, .int j => some (i == j)
  | .ints _ l, .ints _ m => some (l == m)
  | .rep x, .rep y => if pyEq x y then some true else none
  | a, b => match toPy a, toPy b with
    | some x, some y => if SeqAt.shaped x && SeqAt.shaped y then some (PyData.eqv x y) else none
    | _, _ => none
def opMem (a b : D) : Option Bool := match b with
  | .tup xs => (match a, intsOf xs with
    | .int i, some l => some (l.contains i)
    | _, _ => none)
  | b => match toPy a, itemsL b with
    | some d, some xs => (match toPyL xs with
      | some ds => if SeqAt.shaped d && SeqAt.shaped (.list ds) then some (ds.any fun z => PyData.eqv z d) else none
      | none => none)
    | _, _ => none
def opCmp : COp → D → D → Option Bool
  | .eq, a, b => eqD a b
  | .ne, a, b => (eqD a b).map (!·)
  | .lt, .int i, .int j => some (decide (i < j))
  | .le, .int i, .int j => some (decide (i ≤ j))
  | .gt, .int i, .int j => some (decide (j < i))
  | .ge, .int i, .int j => some (decide (j ≤ i))
  | .is, a, .non => (match a with
    | .non => some true
    | .bot => none
    | .gen => none
    | _ => some false)
  | .isnot, a, .non => (match a with
    | .non => some false
    | .bot => none
    | .gen => none
    | _ => some true)
  | .is, .bl a, .bl b => some (a == b)
  | .isnot, .bl a, .bl b => some (a != b)
  | .mem, a, b => opMem a b
  | .nmem, a, b => (opMem a b).map (!·)
  | _, _, _ => none

def tyD : D → Option Ty
  | .non => some .non
  | .bl _ => some .bool
  | .int _ => some .int
  | .str _ => some .str
  | .rep _ => some .str
  | .ints _ _ => some .list
  | .lst _ _ => some .list
  | .tup _ => some .tuple
  | .dct _ _ => some .dict
  | .scr _ => some .list
  | _ => none
def subTy : Ty → Ty → Bool
  | .non, .non | .bool, .bool | .bool, .int | .int, .int | .str, .str | .list, .list | .tuple, .tuple | .dict, .dict => true
  | _, _ => false
def opIsi (d : D) (ty : Ty) : Option Bool := (tyD d).map fun t => subTy t ty

def opIdx (S : Stt) (a b : D) : Option D := match a, b with
  | .ints _ l, .int i => (place l.length i).bind fun j => (l[j]?).map .int
  | .lst _ xs, .int i => (place xs.length i).bind fun j => xs[j]?
  | .tup xs, .int i => (place xs.length i).bind fun j => xs[j]?
  | .scr l, .int i => (place l.length i).bind fun j => (l[j]?).map .int
  | .gen, .int i => S.g.bind fun l => (place l.length i).bind fun j => (l[j]?).map .int
  | .dct _ kvs, .int i => (kvs.find? fun kv => decide (kv.1 = .int i)).map (·.2)
  | .gd kvs, .int i => (kvs.find? fun kv => decide (kv.1 = i)).map fun kv => .int kv.2
  | _, _ => none

def opBi : Bi → List D → Stt → Option (D × Stt)
  | .len, [.ints _ l], S => some (.int l.length, S)
  | .len, [.lst _ xs], S => some (.int xs.length, S)
  | .len, [.tup xs], S => some (.int xs.length, S)
  | .len, [.scr l], S => some (.int l.length, S)
  | .int, [.int i], S => some (.int i, S)
  | .int, [.bl b], S => some (.int (if b then 1 else 0), S)
  | .list, [.ints _ l], S => new (fun t => .ints t l) S
  | .list, [.lst _ xs], S => new (fun t => .lst t xs) S
  | .list, [.tup xs], S => new (fun t => .lst t xs) S
  | .tuple, [.ints _ l], S => some (.tup (l.map .int), S)
  | .tuple, [.lst _ xs], S => some (.tup xs, S)
  | .tuple, [.tup xs], S => some (.tup xs, S)
  | .max2, [.int i, .int j], S => some (.int (if j > i then j else i), S)
  | .min2, [.int i, .int j], S => some (.int (if j < i then j else i), S)
  | .sum, [.ints _ l], S => some (.int l.sum, S)
  | .repr, [d], S => match toPy d with
    | some x => if PyData.layable0 x && intsSmall x then some (.rep x, S) else none
    | none => none
  | .bits, [.int i], S => some (.int (Builtin.Int.intBits i : Nat), S)
  | _, _, _ => none

/-- the items of a range -/
def rangeL (lo c : Int) : Nat → List D
  | 0 => []
  | n + 1 => .int lo :: rangeL (lo + c) c n
def okRng (i : Int) : Bool := decide (-(2 ^ 40) ≤ i) && decide (i < 2 ^ 40)
def enumL : Int → List D → List D
  | _, [] => []
  | i, x :: xs => .tup [.int i, x] :: enumL (i + 1) xs
def zipL : List D → List D → List D
  | x :: xs, y :: ys => .tup [x, y] :: zipL xs ys
  | _, _ => []

def asgV (i : Nat) (d : D) (S : Stt) : Stt := { S with env := S.env.set i (some d) }
def asgVs : List Nat → List D → Stt → Option Stt
  | [], [], S => some S
  | i :: is, d :: ds, S => asgVs is ds (asgV i d S)
  | _, _, _ => none
def asgT : Tg → D → Stt → Option Stt
  | .v i, d, S => some (asgV i d S)
  | .tup is, .tup ds, S => asgVs is ds S
  | _, _, _ => none
def wipeV : List Nat → List (Option D) → List (Option D)
  | [], e => e
  | i :: is, e => (wipeV is e).set i none

/-- a tag whose objects may be changed here -/
def mayT (t : Nat) (S : Stt) : Bool := !(Nat.beq t 0) && (!(S.fz.contains t) && !(S.lk.contains t))
/-- the list in slot i becomes d (of tag t) -/
def putV (i t : Nat) (d : D) (S : Stt) : Stt := { S with env := (wipeEnv t S.env).set i (some d) }

structure Ev where
  e : CE → Stt → Option (D × Stt)
  s : CS → Stt → Option (Fl × Stt)

section
variable (r : Ev)
def evEs : List CE → Stt → Option (List D × Stt)
  | [], S => some ([], S)
  | x :: xs, S => match r.e x S with
    | some (d, S1) => (match evEs xs S1 with
      | some (ds, S2) => some (d :: ds, S2)
      | none => none)
    | none => none
def evSs : List CS → Stt → Option (Fl × Stt)
  | [], S => some (.nx, S)
  | x :: xs, S => match r.s x S with
    | some (.nx, S1) => evSs xs S1
    | some (f, S1) => some (f, S1)
    | none => none
def evO : Option CE → Stt → Option (Option Int × Stt)
  | none, S => some (none, S)
  | some x, S => match r.e x S with
    | some (.int i, S1) => some (some i, S1)
    | _ => none
/-- what is walked: the items, the tag that must stay -/
def evI : CI → Stt → Option (List D × List Nat × Stt)
  | .of x, S => match r.e x S with
    | some (.tup xs, S1) => some (xs, tagsL xs, S1)
    | some (d, S1) => (itemsL d).map fun xs => (xs, tags d, S1)
    | none => none
  | .rng1 a, S => match r.e a S with
    | some (.int j, S1) => if okRng j then some (rangeL 0 1 j.toNat, [], S1) else none
    | _ => none
  | .rng2 a b, S => match r.e a S with
    | some (.int i, S1) => (match r.e b S1 with
      | some (.int j, S2) => if okRng i && okRng j then some (rangeL i 1 (j - i).toNat, [], S2) else none
      | _ => none)
    | _ => none
  | .rng3 a b c, S => match r.e a S with
    | some (.int i, S1) => (match r.e b S1 with
      | some (.int j, S2) => (match r.e c S2 with
        | some (.int k, S3) => if okRng i && (okRng j && k == -1) then some (rangeL i (-1) (i - j).toNat, [], S3) else none
        | _ => none)
      | _ => none)
    | _ => none
  | .enum x, S => match r.e x S with
    | some (d, S1) => (itemsL d).map fun xs => (enumL 0 xs, tags d, S1)
    | none => none
  | .zip false a b, S => match r.e a S with
    | some (x, S1) => (match r.e b S1 with
      | some (y, S2) => (match itemsL x, itemsL y with
        | some xs, some ys => some (zipL xs ys, tags x ++ tags y, S2)
        | _, _ => none)
      | none => none)
    | none => none
  | _, _ => none
def testO : Option CE → Stt → Option (Bool × Stt)
  | none, S => some (true, S)
  | some c, S => match r.e c S with
    | some (d, S1) => (truth d).map fun b => (b, S1)
    | none => none
def forL (tg : Tg) (body : List CS) : List D → Stt → Option (Fl × Stt)
  | [], S => some (.nx, S)
  | x :: xs, S => match asgT tg x S with
    | some S1 => (match evSs r body S1 with
      | some (.nx, S2) => forL tg body xs S2
      | some (.ct, S2) => forL tg body xs S2
      | some (.bk, S2) => some (.nx, S2)
      | some (.rt d, S2) => some (.rt d, S2)
      | none => none)
    | none => none
def whL (c : CE) (body : List CS) : Nat → Stt → Option (Fl × Stt)
  | 0, _ => none
  | m + 1, S => match r.e c S with
    | some (d, S1) => (match truth d with
      | some true => (match evSs r body S1 with
        | some (.nx, S2) => whL c body m S2
        | some (.ct, S2) => whL c body m S2
        | some (.bk, S2) => some (.nx, S2)
        | some (.rt d, S2) => some (.rt d, S2)
        | none => none)
      | some false => some (.nx, S1)
      | none => none)
    | none => none
def compL (elt : CE) (tg : Tg) (ifs : Option CE) (e0 : List (Option D)) : List D → List D → Stt → Option (List D × Stt)
  | [], acc, S => some (acc, S)
  | x :: xs, acc, S => match asgT tg x { S with env := e0 } with
    | some S1 => (match testO r ifs S1 with
      | some (true, S2) => (match r.e elt S2 with
        | some (d, S3) => if fits (acc.length + 1) then compL elt tg ifs e0 xs (acc ++ [d]) S3 else none
        | none => none)
      | some (false, S2) => compL elt tg ifs e0 xs acc S2
      | none => none)
    | none => none
end

/-- no generator within -/
def noGen : D → Bool
  | .gen => false
  | _ => true
def slot (i : Nat) (S : Stt) : Option D := match S.env[i]? with
  | some (some d) => some d
  | _ => none
def ungen : List (Option D) → List (Option D)
  | [] => []
  | some .gen :: r => some .bot :: ungen r
  | x :: r => x :: ungen r
def pick {α : Type} (ds : List α) : List Nat → Option (List α)
  | [] => some []
  | i :: is => match ds[i]?, pick ds is with
    | some d, some r => some (d :: r)
    | _, _ => none
def permute {α : Type} (pm : List Nat) (ds : List α) : Option (List α) := match pm with
  | [] => some ds
  | pm => pick ds pm
def isGenL : List D → Bool
  | [] => false
  | .gen :: _ => true
  | _ :: r => isGenL r
/-- behind a call: what is told, tagged for the caller -/
def back (ds : List D) (d : D) (g : Option (List Int)) (S : Stt) : D × Stt :=
  (retag (fun t => if Nat.beq t 0 then 0 else S.c) d,
   { S with c := S.c + 1, fz := if (tags d).contains 0 then tagsL ds ++ S.fz else S.fz, g := if isGenL ds then g else S.g })

abbrev CallF := Nat → List D → Option (List Int) → Option (D × Option (List Int))

def opSl (d : D) (lo hi : Option Int) (S : Stt) : Option (D × Stt) := match d with
  | .ints _ l => new (fun t => .ints t (cutL l lo hi)) S
  | .lst _ xs => new (fun t => .lst t (cutL xs lo hi)) S
  | .scr l => new (fun t => .ints t (cutL l lo hi)) S
  | .tup xs => some (.tup (cutL xs lo hi), S)
  | _ => none
def opRev (d : D) (S : Stt) : Option (D × Stt) := match d with
  | .ints _ l => new (fun t => .ints t l.reverse) S
  | .lst _ xs => new (fun t => .lst t xs.reverse) S
  | _ => none
def noTup : List DKey → Bool
  | [] => true
  | .ints _ :: _ => false
  | _ :: r => noTup r

/-- how often a while may turn -/
def most : Nat := 1000000

section
variable (cf : CallF) (r : Ev)
def stepE : CE → Stt → Option (D × Stt)
  | .var i, S => match slot i S with
    | some d => some (d, S)
    | none => none
  | .non, S => some (.non, S)
  | .bl b, S => some (.bl b, S)
  | .int i, S => some (.int i, S)
  | .str x, S => some (.str x, S)
  | .gdict _ kvs, S => some (.gd kvs, S)
  | .gtup _ l, S => some (.tup (l.map .int), S)
  | .bin op a b, S => match r.e a S with
    | some (x, S1) => (match r.e b S1 with
      | some (y, S2) => opBin op x y S2
      | none => none)
    | none => none
  | .neg a, S => match r.e a S with
    | some (.int i, S1) => some (.int (-i), S1)
    | _ => none
  | .not a, S => match r.e a S with
    | some (x, S1) => (truth x).map fun b => (.bl (!b), S1)
    | none => none
  | .and a b, S => match r.e a S with
    | some (x, S1) => (match truth x with
      | some true => r.e b S1
      | some false => some (x, S1)
      | none => none)
    | none => none
  | .or a b, S => match r.e a S with
    | some (x, S1) => (match truth x with
      | some true => some (x, S1)
      | some false => r.e b S1
      | none => none)
    | none => none
  | .cmp op a b, S => match r.e a S with
    | some (x, S1) => (match r.e b S1 with
      | some (y, S2) => (opCmp op x y).map fun k => (.bl k, S2)
      | none => none)
    | none => none
  | .chain op op' a b c, S => match r.e a S with
    | some (x, S1) => (match r.e b S1 with
      | some (y, S2) => (match opCmp op x y with
        | some true => (match r.e c S2 with
          | some (z, S3) => (opCmp op' y z).map fun k => (.bl k, S3)
          | none => none)
        | some false => some (.bl false, S2)
        | none => none)
      | none => none)
    | none => none
  | .ite c a b, S => match r.e c S with
    | some (x, S1) => (match truth x with
      | some true => r.e a S1
      | some false => r.e b S1
      | none => none)
    | none => none
  | .call f pm args, S => match evEs r args S with
    | some (ds, S1) => (match permute pm ds with
      | some es => (match cf f (retagL (fun _ => 0) es) (if isGenL es then S1.g else none) with
        | some (d, g) => some (back es d g S1)
        | none => none)
      | none => none)
    | none => none
  | .bi b args, S => match evEs r args S with
    | some (ds, S1) => opBi b ds S1
    | none => none
  | .isi a ty, S => match r.e a S with
    | some (x, S1) => (opIsi x ty).map fun k => (.bl k, S1)
    | none => none
  | .idx a b, S => match r.e a S with
    | some (x, S1) => (match r.e b S1 with
      | some (y, S2) => (opIdx S2 x y).map fun d => (d, S2)
      | none => none)
    | none => none
  | .sl a lo hi, S => match r.e a S with
    | some (x, S1) => (match evO r lo S1 with
      | some (i, S2) => (match evO r hi S2 with
        | some (j, S3) => opSl x i j S3
        | none => none)
      | none => none)
    | none => none
  | .rev a, S => match r.e a S with
    | some (x, S1) => opRev x S1
    | none => none
  | .lst es, S => match evEs r es S with
    | some (ds, S1) => if ds.all noGen && fits ds.length then new (fun t => mkL t ds) S1 else none
    | none => none
  | .tup es, S => match evEs r es S with
    | some (ds, S1) => if ds.all noGen && fits ds.length then some (.tup ds, S1) else none
    | none => none
  | .dict ks es, S => match evEs r es S with
    | some (ds, S1) => if ds.all noGen && (Nat.beq ks.length ds.length && (Nat.ble ks.length 15 && (noTup ks && decide ks.Nodup))) then new (fun t => .dct t (ks.zip ds)) S1 else none
    | none => none
  | .comp elt tg it ifs own, S => match evI r it S with
    | some (xs, _, S1) => (match compL r elt tg ifs (wipeV own S1.env) xs [] S1 with
      | some (ds, S2) => if ds.all noGen then new (fun t => mkL t ds) { S2 with env := S.env } else none
      | none => none)
    | none => none
  | _, _ => none
def stepS : CS → Stt → Option (Fl × Stt)
  | .asg tg e, S => match r.e e S with
    | some (d, S1) => if noGen d then (asgT tg d S1).map fun S2 => (.nx, S2) else none
    | none => none
  | .par is es, S => match evEs r es S with
    | some (ds, S1) => if ds.all noGen then (asgVs is ds S1).map fun S2 => (.nx, S2) else none
    | none => none
  | .gen i e, S => match r.e e S with
    | some (.ints t l, S1) => if mayT t S1 && S1.h then some (.nx, { S1 with env := (ungen (wipeEnv t S1.env)).set i (some .gen), g := some l }) else none
    | _ => none
  | .expr e, S => match r.e e S with
    | some (_, S1) => some (.nx, S1)
    | none => none
  | .app i e, S => match slot i S, r.e e S with
    | some (.ints t l), some (d, S1) => if mayT t S1 && (fits (l.length + 1) && (noGen d && !(tags d).contains t)) then
        some (.nx, putV i t (match d with
          | .int k => .ints t (l ++ [k])
          | d => .lst t (l.map .int ++ [d])) S1) else none
    | some (.lst t xs), some (d, S1) => if mayT t S1 && (fits (xs.length + 1) && (noGen d && !(tags d).contains t)) then
        some (.nx, putV i t (.lst t (wipeTL t xs ++ [d])) S1) else none
    | _, _ => none
  | .pop i, S => match slot i S with
    | some (.ints t l) => if mayT t S && !l.isEmpty then some (.nx, putV i t (.ints t l.dropLast) S) else none
    | some (.lst t xs) => if mayT t S && !xs.isEmpty then some (.nx, putV i t (.lst t (wipeTL t xs.dropLast)) S) else none
    | _ => none
  | .set i k e, S => match r.e e S with
    | some (d, S1) => (match slot i S1 with
      | some (.ints t l) => (match r.e k S1 with
        | some (.int j, S2) => (match place l.length j with
          | some m => if mayT t S2 && (noGen d && !(tags d).contains t) then
              some (.nx, putV i t (match d with
                | .int z => .ints t (l.set m z)
                | d => .lst t ((l.map .int).set m d)) S2) else none
          | none => none)
        | _ => none)
      | some (.lst t xs) => (match r.e k S1 with
        | some (.int j, S2) => (match place xs.length j with
          | some m => if mayT t S2 && (noGen d && !(tags d).contains t) then
              some (.nx, putV i t (.lst t ((wipeTL t xs).set m d)) S2) else none
          | none => none)
        | _ => none)
      | some .gen => (match r.e k S1, d with
        | some (.int j, S2), .int z => (match S2.g with
          | some l => (match place l.length j with
            | some m => some (.nx, { S2 with g := some (l.set m z) })
            | none => none)
          | none => none)
        | _, _ => none)
      | _ => none)
    | none => none
  | .for tg it body, S => match evI r it S with
    | some (xs, ls, S1) => (match forL r tg body xs { S1 with lk := ls ++ S1.lk } with
      | some (f, S2) => some (f, { S2 with lk := S1.lk })
      | none => none)
    | none => none
  | .whl c body, S => whL r c body most S
  | .if c a b, S => match r.e c S with
    | some (d, S1) => (match truth d with
      | some true => evSs r a S1
      | some false => evSs r b S1
      | none => none)
    | none => none
  | .ret e, S => match r.e e S with
    | some (d, S1) => if noGen d then some (.rt d, S1) else none
    | none => none
  | .retN, S => some (.rt .non, S)
  | .brk, S => some (.bk, S)
  | .pass, S => some (.nx, S)
  | .raise, _ => none
def step : Ev := ⟨stepE cf r, stepS r⟩
end
/-- .. nested so deep -/
def evN (cf : CallF) : Nat → Ev
  | 0 => ⟨fun _ _ => none, fun _ _ => none⟩
  | n + 1 => step cf (evN cf n)
/-- what a def hands back -/
def told (fz : List Nat) (d : D) : D := retag (fun t => if Nat.beq t 0 || fz.contains t then 0 else 1) d
/-- the generator behind a def, if it was given one -/
def keepG : Option (List Int) → Option (List Int) → Option (List Int)
  | none, _ => none
  | some _, x => x
def run (cf : CallF) (fn : CFun) (ds : List D) (g : Option (List Int)) : Option (D × Option (List Int)) :=
  if Nat.beq ds.length fn.np then
    match evSs (evN cf 48) fn.body ⟨ds.map some ++ List.replicate (fn.n - fn.np) none, 1, [], [], g, !g.isSome⟩ with
    | some (.nx, S) => some (.non, keepG g S.g)
    | some (.rt d, S) => some (told S.fz d, keepG g S.g)
    | _ => none
  else none
/-- calls, so deep -/
def evC (tb : Nat → Option CFun) : Nat → CallF
  | 0 => fun _ _ _ => none
  | n + 1 => fun f ds g => match tb f with
    | some fn => run (evC tb n) fn ds g
    | none => none
end Cor

/-! CorB: from the program's text to the core. -/
namespace Cor
open PySem L2

structure Cfg where
  N : List Str
  fid : Str → Option (Nat × List Str)
  gl : Str → Option CE
  free : Str → Bool

def idxOf (x : Str) : List Str → Option Nat
  | [] => none
  | y :: r => if x == y then some 0 else (idxOf x r).map (· + 1)
def isStar : Expr → Bool
  | .Starred _ _ => true
  | _ => false
def isSlice : Expr → Bool
  | .Slice _ _ _ _ => true
  | _ => false
def isSet : Expr → Bool
  | .Set _ _ _ => true
  | _ => false
def isComp : Expr → Bool
  | .ListComp _ _ _ _ => true
  | .SetComp _ _ _ _ => true
  | .DictComp _ _ _ _ _ => true
  | _ => false
/-- tests by truth -/
def byTruth : Expr → Bool
  | .UnaryOp .Not _ _ => false
  | .BoolOp _ _ _ => false
  | .IfExp _ _ _ _ => false
  | .Compare _ _ _ _ => false
  | _ => true
def opC : Operator → Option BOp
  | .Add => some .add
  | .Sub => some .sub
  | .Mult => some .mul
  | .FloorDiv => some .fdiv
  | .Mod => some .mod
  | .Pow => some .pow
  | _ => none
def cmpC : CmpOp → COp
  | .Eq => .eq
  | .NotEq => .ne
  | .Lt => .lt
  | .LtE => .le
  | .Gt => .gt
  | .GtE => .ge
  | .Is => .is
  | .IsNot => .isnot
  | .In => .mem
  | .NotIn => .nmem
def plainX (x : Str) : Bool := !(x == ("__debug__" : Str)) && (!(x == ("__classdict__" : Str)) && !(x == ("__name__" : Str)))
def isG (sc : Scope) (x : Str) : Bool := match sc.names.lookup x with
  | some .globalImplicit => true
  | _ => false
/-- a built-in's name here -/
def isB (c : Cfg) (sc : Scope) (x : Str) : Bool := isG sc x && c.free x
def nameC (c : Cfg) (sc : Scope) (x : Str) : Option CE := if plainX x then (match sc.names.lookup x with
  | some .local => (idxOf x c.N).map .var
  | some .cell => (idxOf x c.N).map .var
  | some .free => (idxOf x c.N).map .var
  | some .globalImplicit => c.gl x
  | _ => none) else none
def slotC (c : Cfg) (sc : Scope) (x : Str) : Option Nat := match sc.names.lookup x with
  | some .local => idxOf x c.N
  | some .cell => idxOf x c.N
  | _ => none
def tgName (c : Cfg) (sc : Scope) : Expr → Option Nat
  | .Name x _ => slotC c sc x
  | _ => none
def tgNames (c : Cfg) (sc : Scope) : List Expr → Option (List Nat)
  | [] => some []
  | e :: r => match tgName c sc e, tgNames c sc r with
    | some i, some is => some (i :: is)
    | _, _ => none
def tgC (c : Cfg) (sc : Scope) : Expr → Option Tg
  | .Name x _ => (slotC c sc x).map .v
  | .Tuple es _ _ => (tgNames c sc es).map .tup
  | _ => none
def tgSlots : Tg → List Nat
  | .v i => [i]
  | .tup is => is
def isTup : Tg → Bool
  | .tup _ => true
  | _ => false
/-- the keywords' values in the parameters' order: where each parameter's value stands -/
def pmC (ps : List Str) (n : Nat) (ks : List Str) : Option (List Nat) := if !(decide ks.Nodup && ks.all fun k => (ps.drop n).contains k) then none else
  (List.range ps.length).mapM fun j => if j < n then some j else match ps[j]? with
    | some x => (idxOf x ks).map (· + n)
    | none => none
def kwNames : List Keyword → Option (List Str)
  | [] => some []
  | ⟨some x, _, _⟩ :: r => (kwNames r).map (x :: ·)
  | ⟨none, _, _⟩ :: _ => none
def dkeyC : Option Expr → Option DKey
  | some (.Constant (.int i) _ _) => some (.int i)
  | some (.Constant (.str x) _ _) => some (.str x)
  | _ => none
def allM {α β : Type} (f : α → Option β) : List α → Option (List β)
  | [] => some []
  | x :: r => match f x, allM f r with
    | some y, some ys => some (y :: ys)
    | _, _ => none
def strIs (x : Str) (n : String) : Bool := x == (Str.ofString n)
def tyC (x : Str) : Option Ty :=
  if strIs x "int" then some .int else if strIs x "bool" then some .bool else if strIs x "list" then some .list else if strIs x "tuple" then some .tuple else if strIs x "str" then some .str else none
/-- the slots of a comprehension's own names -/
def ownC (c : Cfg) : List (Str × NameKind) → Option (List (Str × Nat))
  | [] => some []
  | (x, .local) :: r => match idxOf x c.N, ownC c r with
    | some i, some is => some ((x, i) :: is)
    | _, _ => none
  | (x, .cell) :: r => match idxOf x c.N, ownC c r with
    | some i, some is => some ((x, i) :: is)
    | _, _ => none
  | _ :: r => ownC c r
def biC (x : Str) (n : Nat) : Option Bi := match n with
  | 1 => if strIs x "len" then some .len else if strIs x "int" then some .int else if strIs x "list" then some .list else if strIs x "tuple" then some .tuple else
      if strIs x "sum" then some .sum else if strIs x "repr" then some .repr else if strIs x "sorted" then some .sorted else none
  | 2 => if strIs x "max" then some .max2 else if strIs x "min" then some .min2 else none
  | _ => none

def needTup : CI → Bool
  | .enum _ => true
  | .zip _ _ _ => true
  | _ => false
section
variable (c : Cfg)
mutual
def compE : Nat → Scope → Expr → Option CE
  | 0, _, _ => none
  | n + 1, sc, e => match e with
    | .Name x _ => nameC c sc x
    | .Constant .none _ _ => some .non
    | .Constant (.bool b) _ _ => some (.bl b)
    | .Constant (.int i) _ _ => some (.int i)
    | .Constant (.str x) _ _ => some (.str x)
    | .BinOp a op b _ => match opC op, compE n sc a, compE n sc b with
      | some o, some x, some y => some (.bin o x y)
      | _, _, _ => none
    | .UnaryOp .USub a _ => (compE n sc a).map .neg
    | .UnaryOp .Not a _ => (compE n sc a).map .not
    | .BoolOp _ [a] _ => compE n sc a
    | .BoolOp .And (a :: b :: r) p => match compE n sc a, compE n sc (.BoolOp .And (b :: r) p) with
      | some x, some y => some (.and x y)
      | _, _ => none
    | .BoolOp .Or (a :: b :: r) p => match compE n sc a, compE n sc (.BoolOp .Or (b :: r) p) with
      | some x, some y => some (.or x y)
      | _, _ => none
    | .Compare a [op] [b] _ => if behindInMarks op b then none else match compE n sc a, compE n sc b with
      | some x, some y => some (.cmp (cmpC op) x y)
      | _, _ => none
    | .Compare a [op, op'] [b, d] _ => if lastMarks [op, op'] [b, d] then none else match compE n sc a, compE n sc b, compE n sc d with
      | some x, some y, some z => some (.chain (cmpC op) (cmpC op') x y z)
      | _, _, _ => none
    | .IfExp t a b _ => match compT n sc t, compE n sc a, compE n sc b with
      | some z, some x, some y => some (.ite z x y)
      | _, _, _ => none
    | .Call (.Name f _) args [] _ => if plainX f then (match c.fid f with
      | some (i, ps) => if isG sc f && (Nat.beq args.length ps.length && !args.isEmpty) then (compEs n sc args).map (.call i []) else none
      | none => if isB c sc f then (match args with
        | [a, .Name ty _] => if strIs f "isinstance" then (if isB c sc ty && plainX ty then (match tyC ty, compE n sc a with
            | some t, some x => some (.isi x t)
            | _, _ => none) else none) else (match biC f 2, compEs n sc args with
            | some b, some es => some (.bi b es)
            | _, _ => none)
        | _ => match biC f args.length, compEs n sc args with
          | some b, some es => some (.bi b es)
          | _, _ => none) else none) else none
    | .Call (.Name f _) args kws _ => if plainX f then (match c.fid f, kwNames kws with
      | some (i, ps), some ks => if isG sc f then (match pmC ps args.length ks, compEs n sc (args ++ kws.map fun k => k.value) with
        | some pm, some es => if Nat.beq (args.length + kws.length) ps.length then some (.call i pm es) else none
        | _, _ => none) else none
      | _, _ => none) else none
    | .Call (.Attribute (.Name o po) m ap) [] [] p => if strIs m "bit_length" && Nat.beq ap.endLine p.line then (compE n sc (.Name o po)).map fun x => .bi .bits [x] else none
    | .Subscript a (.Slice lo hi none _) _ => match compE n sc a, compO n sc lo, compO n sc hi with
      | some x, some l, some h => some (.sl x l h)
      | _, _, _ => none
    | .Subscript a (.Slice none none (some (.UnaryOp .USub (.Constant (.int 1) _ _) _)) _) _ => (compE n sc a).map .rev
    | .Subscript a b _ => if isSlice b then none else match compE n sc a, compE n sc b with
      | some x, some y => some (.idx x y)
      | _, _ => none
    | .List es _ => (compEs n sc es).map .lst
    | .Tuple es _ _ => (compEs n sc es).map .tup
    | .Dict ks vs _ => if ks.isEmpty || !(Nat.ble ks.length 15) then none else match allM dkeyC ks, compEs n sc vs with
      | some k, some v => if Nat.beq k.length v.length then some (.dict k v) else none
      | _, _ => none
    | .ListComp elt [⟨tg, it, ifs, 0⟩] scope _ => match ownC c scope.names with
      | some own => if blkC c.N sc scope own && !isSet it then (
        match compE n (relS scope sc) elt, tgC c scope tg, compI n sc it, compF n (relS scope sc) ifs with
        | some x, some t, some i, some f => if (needTup i && !isTup t) || !((tgSlots t).all fun i => (own.map (·.2)).contains i) then none else some (.comp x t i f (own.map (·.2)))
        | _, _, _, _ => none) else none
      | none => none
    | _ => none
def compT : Nat → Scope → Expr → Option CE
  | 0, _, _ => none
  | n + 1, sc, e => match e with
    | .UnaryOp .Not a _ => (compT n sc a).map .not
    | .BoolOp _ [a] _ => compT n sc a
    | .BoolOp .And (a :: b :: r) p => match compT n sc a, compT n sc (.BoolOp .And (b :: r) p) with
      | some x, some y => some (.and x y)
      | _, _ => none
    | .BoolOp .Or (a :: b :: r) p => match compT n sc a, compT n sc (.BoolOp .Or (b :: r) p) with
      | some x, some y => some (.or x y)
      | _, _ => none
    | .IfExp _ _ _ _ => none
    | e => compE n sc e
def compEs : Nat → Scope → List Expr → Option (List CE)
  | 0, _, _ => none
  | _ + 1, _, [] => some []
  | n + 1, sc, e :: r => if isStar e then none else match compE n sc e, compEs n sc r with
    | some x, some xs => some (x :: xs)
    | _, _ => none
def compO : Nat → Scope → Option Expr → Option (Option CE)
  | 0, _, _ => none
  | _ + 1, _, none => some none
  | n + 1, sc, some e => (compE n sc e).map some
def compF : Nat → Scope → List Expr → Option (Option CE)
  | 0, _, _ => none
  | _ + 1, _, [] => some none
  | n + 1, sc, [e] => (compT n sc e).map some
  | _, _, _ => none
def compI : Nat → Scope → Expr → Option CI
  | 0, _, _ => none
  | n + 1, sc, e => match e with
    | .Call (.Name f _) args [] _ => if isB c sc f && plainX f then (
      if strIs f "range" then (match args with
        | [a] => (compE n sc a).map .rng1
        | [a, b] => (match compE n sc a, compE n sc b with
          | some x, some y => some (.rng2 x y)
          | _, _ => none)
        | [a, b, d] => (match compE n sc a, compE n sc b, compE n sc d with
          | some x, some y, some z => some (.rng3 x y z)
          | _, _, _ => none)
        | _ => none)
      else if strIs f "enumerate" then (match args with
        | [a] => (compE n sc a).map .enum
        | _ => none)
      else if strIs f "zip" then (match args with
        | [a, b] => (match compE n sc a, compE n sc b with
          | some x, some y => some (.zip false x y)
          | _, _ => none)
        | _ => none)
      else (compE n sc e).map .of) else (compE n sc e).map .of
    | e => (compE n sc e).map .of
end

/-- how a pair is stored -/
def swapR (sc : Scope) (ts vs : List Expr) : Option (Option (List Str)) :=
  if !(ts.length == 2 || ts.length == 3) || vs.length != ts.length then some none
  else if vs.any isStar then some none
  else if (ts.filterMap fun
    | .Name id pos => if sc.names.lookup id == some .local && pos.line == (ts.head?.map (·.pos.line)).getD 0 then some id else none
    | _ => none).length != ts.length || (ts.filterMap fun
    | .Name id pos => if sc.names.lookup id == some .local && pos.line == (ts.head?.map (·.pos.line)).getD 0 then some id else none
    | _ => none).eraseDups.length != (ts.filterMap fun
    | .Name id pos => if sc.names.lookup id == some .local && pos.line == (ts.head?.map (·.pos.line)).getD 0 then some id else none
    | _ => none).length then some none
  else if vs.all (foldedForSure 8) then some none
  else if vs.all (constantsAlone 8) then none
  else some (some (ts.filterMap fun
    | .Name id pos => if sc.names.lookup id == some .local && pos.line == (ts.head?.map (·.pos.line)).getD 0 then some id else none
    | _ => none))

def genName : Str := Str.ofString "_law_generator_here"
mutual
def compS : Nat → Scope → Stmt → Option CS
  | 0, _, _ => none
  | n + 1, sc, st => match st with
    | .Return none _ => some .retN
    | .Return (some e) _ => (compE c n sc e).map .ret
    | .Assign [.Name x px] e p => match slotC c sc x, compE c n sc e with
      | some i, some v => if isComp e && !(match sc.names.lookup x with | some .local => true | _ => false) then none else if x == genName then some (.gen i v) else some (.asg (.v i) v)
      | _, _ => none
    | .Assign [.Tuple ts k pt] (.Tuple vs k2 p2) p => match swapR sc ts vs, tgNames c sc ts, compEs c n sc vs with
      | some none, some is, some es => some (.asg (.tup is) (.tup es))
      | some (some _), some is, some es => some (.par is es)
      | _, _, _ => none
    | .Assign [.Tuple ts k pt] e p => if isComp e then none else match tgNames c sc ts, compE c n sc e with
      | some is, some v => some (.asg (.tup is) v)
      | _, _ => none
    | .Assign [.Subscript (.Name x _) k _] e p => if isComp e || (isSlice k) then none else match slotC c sc x, compE c n sc k, compE c n sc e with
      | some i, some y, some v => if plainX x then some (.set i y v) else none
      | _, _, _ => none
    | .Expr (.Call (.Attribute (.Name x _) m ap) [a] [] cp) _ => if strIs m "append" && (plainX x && (Nat.beq ap.endLine cp.line && !isStar a)) then (match slotC c sc x, compE c n sc a with
      | some i, some y => some (.app i y)
      | _, _ => none) else none
    | .Expr (.Call (.Attribute (.Name x _) m ap) [] [] cp) _ => if strIs m "pop" && (plainX x && Nat.beq ap.endLine cp.line) then (slotC c sc x).map .pop else none
    | .Expr (.Constant (.str _) _ _) _ => some .pass
    | .Expr (.Call (.Name f pf) args kws cp) _ => (compE c n sc (.Call (.Name f pf) args kws cp)).map .expr
    | .For tg it body [] _ => if isSet it then none else match tgC c sc tg, compI c n sc it, compSs n sc body with
      | some t, some i, some b => if needTup i && !isTup t then none else some (.for t i b)
      | _, _, _ => none
    | .While t body [] _ => match compT c n sc t, compSs n sc body with
      | some x, some b => some (.whl x b)
      | _, _ => none
    | .If t a b _ => match compT c n sc t, compSs n sc a, compSs n sc b with
      | some x, some y, some z => some (.if x y z)
      | _, _, _ => none
    | .Raise _ _ _ => some .raise
    | .Break _ => some .brk
    | .Pass _ => some .pass
    | _ => none
def compSs : Nat → Scope → List Stmt → Option (List CS)
  | 0, _, _ => none
  | _ + 1, _, [] => some []
  | n + 1, sc, s :: r => match compS n sc s, compSs n sc r with
    | some x, some xs => some (x :: xs)
    | _, _ => none
end
end

/-! ### a def of the text -/
def argNames : List Arg → List Str
  | [] => []
  | a :: r => a.arg :: argNames r
/-- the names of a def by slot: the parameters, its own, those of its comprehensions -/
def addNew (N : List Str) : List (Str × NameKind) → List Str
  | [] => N
  | (x, .local) :: r => if N.contains x then addNew N r else addNew (N ++ [x]) r
  | (x, .cell) :: r => if N.contains x then addNew N r else addNew (N ++ [x]) r
  | _ :: r => addNew N r
mutual
def namesE : Nat → List Str → Expr → List Str
  | 0, N, _ => N
  | n + 1, N, e => match e with
    | .BoolOp _ es _ => namesEs n N es
    | .BinOp a _ b _ => namesE n (namesE n N a) b
    | .UnaryOp _ a _ => namesE n N a
    | .IfExp a b d _ => namesE n (namesE n (namesE n N a) b) d
    | .Dict _ vs _ => namesEs n N vs
    | .ListComp elt gs sc _ => namesE n (namesG n (addNew N sc.names) gs) elt
    | .Compare a _ es _ => namesEs n (namesE n N a) es
    | .Call f args kws _ => namesEs n (namesEs n (namesE n N f) args) (kws.map fun k => k.value)
    | .Attribute a _ _ => namesE n N a
    | .Subscript a b _ => namesE n (namesE n N a) b
    | .List es _ => namesEs n N es
    | .Tuple es _ _ => namesEs n N es
    | .Slice a b d _ => namesO n (namesO n (namesO n N a) b) d
    | _ => N
def namesO : Nat → List Str → Option Expr → List Str
  | n + 1, N, some e => namesE n N e
  | _, N, _ => N
def namesEs : Nat → List Str → List Expr → List Str
  | n + 1, N, e :: r => namesEs n (namesE n N e) r
  | _, N, _ => N
def namesG : Nat → List Str → List Comprehension → List Str
  | n + 1, N, ⟨_, it, ifs, _⟩ :: r => namesG n (namesEs n (namesE n N it) ifs) r
  | _, N, _ => N
end
mutual
def namesS : Nat → List Str → Stmt → List Str
  | 0, N, _ => N
  | n + 1, N, s => match s with
    | .Return (some e) _ => namesE n N e
    | .Assign ts e _ => namesE n (namesEs n N ts) e
    | .Expr e _ => namesE n N e
    | .For _ it body _ _ => namesSs n (namesE n N it) body
    | .While t body _ _ => namesSs n (namesE n N t) body
    | .If t a b _ => namesSs n (namesSs n (namesE n N t) a) b
    | _ => N
def namesSs : Nat → List Str → List Stmt → List Str
  | n + 1, N, s :: r => namesSs n (namesS n N s) r
  | _, N, _ => N
end
def slotsOf (ps : List Str) (sc : Scope) (body : List Stmt) : List Str := namesSs 400 (addNew ps sc.names) body

structure TDef where
  name : Str
  args : Arguments
  body : List Stmt
  scope : Scope
def tdefs : List Stmt → List TDef
  | [] => []
  | .FunctionDef n a b _ _ _ sc _ _ _ :: r => ⟨n, a, b, sc⟩ :: tdefs r
  | _ :: r => tdefs r
def compD (fid : Str → Option (Nat × List Str)) (gl : Str → Option CE) (free : Str → Bool) (d : TDef) : Option CFun :=
  (compSs ⟨slotsOf (argNames d.args.args) d.scope d.body, fid, gl, free⟩ 400 d.scope d.body).map fun b => ⟨d.args.args.length, (slotsOf (argNames d.args.args) d.scope d.body).length, b⟩
end Cor

/-! CorC: how the core's data lie in the heap. -/
namespace Cor
open PySem L2

abbrev OkT := Nat → Addr → Prop
/-- a list that is only read: the script -/
def SqF (K : PySem.W.Frag) (H : Hp) (a : Addr) (xs : List V) : Prop :=
  (∃ o, H a = some (.frz o (.lst xs))) ∨
    ∃ (o : Obj) (its : Array Value) (n : Nat), K.lookup a = some o ∧ o.cls = .type "list" ∧ o.dict = none ∧ o.data = .seq its n ∧ its.size ≤ sizeLine ∧ Vals xs its.toList
theorem SqF.sq {K : PySem.W.Frag} {H : Hp} {a : Addr} {xs : List V} (h : SqF K H a xs) : SqL K H a xs := h.elim (fun ⟨o, z⟩ => .inl (.inr ⟨o, z⟩)) .inr
/-- a dict of the module, from ints to ints -/
def GDict (K : PySem.W.Frag) (a : Addr) (kvs : List (Int × Int)) : Prop :=
  (a == sysModules) = false ∧ ∀ (P : Program) (w : World) (h : Heap), K.In h → ∃ vs, KV (kvs.map fun kv => ((Sum.inl kv.1 : L2.Key), V.int kv.2)) vs ∧ h.DictOf (mixKind P w) a vs

def keyOf : DKey → Option L2.Key
  | .int i => some (.inl i)
  | .str x => some (.inr x)
  | .ints _ => none

section
variable (K : PySem.W.Frag) (H : Hp) (ok : OkT) (ga : Option Addr)
mutual
def Rep : D → V → Prop
  | .non, x => x = .non
  | .bl b, x => x = .bl b
  | .int i, x => x = .int i
  | .str s, x => x = .str s
  | .rep d, x => x = .str (PyData.shown d)
  | .ints t l, x => ∃ a, x = .ref a ∧ ok t a ∧ H a = some (.lst (l.map V.int))
  | .lst t xs, x => ∃ a vs, x = .ref a ∧ ok t a ∧ H a = some (.lst vs) ∧ RepL xs vs
  | .tup xs, x => ∃ a vs, x = .ref a ∧ SqT K H a vs ∧ RepL xs vs
  | .dct t kvs, x => ∃ a vs, x = .ref a ∧ ok t a ∧ H a = some (.dK vs) ∧ RepK kvs vs
  | .gd kvs, x => ∃ a, x = .ref a ∧ GDict K a kvs
  | .scr l, x => ∃ a, x = .ref a ∧ SqF K H a (l.map V.int)
  | .gen, x => ∃ a, x = .ref a ∧ ga = some a
  | .bot, _ => True
def RepL : List D → List V → Prop
  | [], vs => vs = []
  | d :: ds, vs => ∃ v r, vs = v :: r ∧ Rep d v ∧ noGen d = true ∧ RepL ds r
def RepK : List (DKey × D) → List (L2.Key × V) → Prop
  | [], vs => vs = []
  | (k, d) :: ds, vs => ∃ k' v r, vs = (k', v) :: r ∧ keyOf k = some k' ∧ Rep d v ∧ noGen d = true ∧ RepK ds r
end
/-- arguments: the generator too -/
def RepA : List D → List V → Prop
  | [], vs => vs = []
  | d :: ds, vs => ∃ v r, vs = v :: r ∧ Rep K H ok ga d v ∧ RepA ds r
end

/-- what is tracked stays, but the generator -/
def Sub (ga : Option Addr) (H H' : Hp) : Prop := ∀ a o, H a = some o → ga ≠ some a → H' a = some o
theorem Sub.refl (ga : Option Addr) (H : Hp) : Sub ga H H := fun _ _ h _ => h
theorem Sub.trans {ga : Option Addr} {H H1 H2 : Hp} (a : Sub ga H H1) (b : Sub ga H1 H2) : Sub ga H H2 := fun x o h n => b x o (a x o h n) n
theorem Sub.upd {ga : Option Addr} {H : Hp} {p : Addr} {o : HO} (h : H p = none) : Sub ga H (upd H p o) := fun a u e _ => by
  rw [upd_ne (ne_of_none e h)]; exact e
def GenAt (ga : Option Addr) (H : Hp) : Prop := ∀ a, ga = some a → ∃ l, H a = some (.lst l)

section
variable {K : PySem.W.Frag} {H H' : Hp} {ok ok' : OkT} {ga : Option Addr}
theorem sqT_sub {a : Addr} {xs : List V} (h : SqT K H a xs) (s : Sub ga H H') (g : GenAt ga H) : SqT K H' a xs := by
  rcases h with (h | ⟨o, h⟩) | h
  · refine .inl (.inl (s _ _ h fun e => ?_))
    obtain ⟨l, q⟩ := g _ e
    rw [h] at q; cases q
  · refine .inl (.inr ⟨o, s _ _ h fun e => ?_⟩)
    obtain ⟨l, q⟩ := g _ e
    rw [h] at q; cases q
  · exact .inr h
theorem SqF.sub {a : Addr} {xs : List V} (h : SqF K H a xs) (s : Sub ga H H') (g : GenAt ga H) : SqF K H' a xs := by
  rcases h with ⟨o, h⟩ | h
  · refine .inl ⟨o, s _ _ h fun e => ?_⟩
    obtain ⟨l, q⟩ := g _ e
    rw [h] at q; cases q
  · exact .inr h
variable (s : Sub ga H H') (g : GenAt ga H) (hok : ∀ t a, ok t a → ok' t a) (hg : ∀ t a, ok t a → ga ≠ some a)
include s g hok hg
mutual
theorem Rep.mono : ∀ (d : D) (v : V), Rep K H ok ga d v → Rep K H' ok' ga d v
  | .non, _, h => h
  | .bl _, _, h => h
  | .int _, _, h => h
  | .str _, _, h => h
  | .rep _, _, h => h
  | .ints t l, x, h => by
    obtain ⟨a, e, o, q⟩ := h
    exact ⟨a, e, hok _ _ o, s _ _ q (hg _ _ o)⟩
  | .lst t xs, x, h => by
    obtain ⟨a, vs, e, o, q, r⟩ := h
    exact ⟨a, vs, e, hok _ _ o, s _ _ q (hg _ _ o), RepL.mono xs vs r⟩
  | .tup xs, x, h => by
    obtain ⟨a, vs, e, q, r⟩ := h
    exact ⟨a, vs, e, sqT_sub q s g, RepL.mono xs vs r⟩
  | .dct t kvs, x, h => by
    obtain ⟨a, vs, e, o, q, r⟩ := h
    exact ⟨a, vs, e, hok _ _ o, s _ _ q (hg _ _ o), RepK.mono kvs vs r⟩
  | .gd kvs, x, h => h
  | .scr l, x, h => by
    obtain ⟨a, e, q⟩ := h
    exact ⟨a, e, q.sub s g⟩
  | .gen, x, h => h
  | .bot, x, h => trivial
theorem RepL.mono : ∀ (ds : List D) (vs : List V), RepL K H ok ga ds vs → RepL K H' ok' ga ds vs
  | [], _, h => h
  | d :: ds, vs, h => by
    obtain ⟨v, r, e, h1, n, h2⟩ := h
    exact ⟨v, r, e, Rep.mono d v h1, n, RepL.mono ds r h2⟩
theorem RepK.mono : ∀ (ds : List (DKey × D)) (vs : List (L2.Key × V)), RepK K H ok ga ds vs → RepK K H' ok' ga ds vs
  | [], _, h => h
  | (k, d) :: ds, vs, h => by
    obtain ⟨k', v, r, e, hk, h1, n, h2⟩ := h
    exact ⟨k', v, r, e, hk, Rep.mono d v h1, n, RepK.mono ds r h2⟩
end
theorem RepA.mono : ∀ (ds : List D) (vs : List V), RepA K H ok ga ds vs → RepA K H' ok' ga ds vs
  | [], _, h => h
  | d :: ds, vs, h => by
    obtain ⟨v, r, e, h1, h2⟩ := h
    exact ⟨v, r, e, Rep.mono s g hok hg d v h1, RepA.mono ds r h2⟩
end

/-- which addresses a tag stands for: 0 is what is never changed here -/
def okf (τ : Addr → Option Nat) (fz : List Nat) : OkT := fun t a => (t = 0 ∧ (τ a = some 0 ∨ ∃ u, u ∈ fz ∧ τ a = some u)) ∨ (t ≠ 0 ∧ τ a = some t)
theorem okf.some {τ : Addr → Option Nat} {fz : List Nat} {t : Nat} {a : Addr} (h : okf τ fz t a) : ∃ u, τ a = Option.some u := by
  rcases h with ⟨_, h | ⟨u, _, h⟩⟩ | ⟨_, h⟩ <;> exact ⟨_, h⟩
theorem okf.mono {τ τ' : Addr → Option Nat} {fz fz' : List Nat} (h1 : ∀ a t, τ a = Option.some t → τ' a = Option.some t) (h2 : ∀ u, u ∈ fz → u ∈ fz') {t : Nat} {a : Addr} (h : okf τ fz t a) : okf τ' fz' t a := by
  rcases h with ⟨e, h | ⟨u, m, h⟩⟩ | ⟨e, h⟩
  · exact .inl ⟨e, .inl (h1 _ _ h)⟩
  · exact .inl ⟨e, .inr ⟨u, h2 _ m, h1 _ _ h⟩⟩
  · exact .inr ⟨e, h1 _ _ h⟩

/-- a frame: its state, slots and heap. H0, g0: the heap and the generator at the entry -/
structure Rl (K : PySem.W.Frag) (H0 : Hp) (g0 : Option Addr) (τ : Addr → Option Nat) (ga : Option Addr) (S : Stt) (σ : St) (H : Hp) : Prop where
  pos : 0 < S.c
  clk : ∀ a t, τ a = some t → t < S.c
  trk : ∀ a t, τ a = some t → ∃ o, H a = some o
  old : ∀ a o, H0 a = some o → g0 ≠ some a → H a = some o ∧ (τ a = none ∨ τ a = some 0)
  g0n : ∀ a, g0 = some a → τ a = none
  hg : S.h = true → g0 = none
  gga : S.h = false → ga = g0
  gnew : ∀ a o, ga = some a → H0 a = some o → g0 = some a
  gen : ∀ a, ga = some a → τ a = none ∧ ∃ l, S.g = some l ∧ H a = some (.lst (l.map V.int))
  len : S.env.length = σ.length
  env : ∀ (i : Nat) (d : D), S.env[i]? = some (some d) → ∃ v, σ[i]? = some (some v) ∧ Rep K H (okf τ S.fz) ga d v
/-- what an expression may do -/
structure Ex (ga : Option Addr) (τ : Addr → Option Nat) (S : Stt) (H : Hp) (τ' : Addr → Option Nat) (S' : Stt) (H' : Hp) : Prop where
  sub : Sub ga H H'
  tau : ∀ a t, τ a = some t → τ' a = some t
  fz : ∀ u, u ∈ S.fz → u ∈ S'.fz
  lk : S'.lk = S.lk
  hh : S'.h = S.h
  env : S'.env = S.env
  dom : ∀ a o, H a = some o → ∃ u, H' a = some u
  new : ∀ a t, τ' a = some t → τ a = some t ∨ H a = none
theorem upd_dom {H : Hp} {p : Addr} {q : HO} : ∀ a o, H a = some o → ∃ u, upd H p q a = some u := fun a o e => by
  by_cases z : a = p
  · rw [z]; exact ⟨q, upd_same⟩
  · exact ⟨o, by rw [upd_ne z]; exact e⟩
theorem Ex.refl (ga : Option Addr) (τ : Addr → Option Nat) (S : Stt) (H : Hp) : Ex ga τ S H τ S H := ⟨Sub.refl _ _, fun _ _ h => h, fun _ h => h, rfl, rfl, rfl, fun _ o e => ⟨o, e⟩, fun _ _ e => .inl e⟩
theorem Ex.trans {ga : Option Addr} {τ τ1 τ2 : Addr → Option Nat} {S S1 S2 : Stt} {H H1 H2 : Hp} (a : Ex ga τ S H τ1 S1 H1) (b : Ex ga τ1 S1 H1 τ2 S2 H2) : Ex ga τ S H τ2 S2 H2 :=
  ⟨a.sub.trans b.sub, fun x t h => b.tau x t (a.tau x t h), fun u h => b.fz u (a.fz u h), b.lk.trans a.lk, b.hh.trans a.hh, b.env.trans a.env, fun x o e => let ⟨u, e2⟩ := a.dom x o e; b.dom x u e2, fun x t e => by
    rcases b.new x t e with e | e
    · exact a.new x t e
    · right
      cases q : H x with
      | none => rfl
      | some o =>
        obtain ⟨u, z⟩ := a.dom x o q
        rw [e] at z; cases z⟩
section
variable {K : PySem.W.Frag} {H0 : Hp} {g0 ga : Option Addr} {τ τ' : Addr → Option Nat} {S S' : Stt} {σ σ' : St} {H H' : Hp} {d : D} {v : V}
theorem Rl.genAt (R : Rl K H0 g0 τ ga S σ H) : GenAt ga H := fun a e => let ⟨_, l, _, h⟩ := R.gen a e; ⟨_, h⟩
theorem Rl.okg (R : Rl K H0 g0 τ ga S σ H) {fz : List Nat} : ∀ t a, okf τ fz t a → ga ≠ some a := fun t a h e => by
  obtain ⟨u, q⟩ := okf.some h
  rw [(R.gen a e).1] at q; cases q
/-- a value stays what it is -/
theorem Rl.keep (R : Rl K H0 g0 τ ga S σ H) (x : Ex ga τ S H τ' S' H') (h : Rep K H (okf τ S.fz) ga d v) : Rep K H' (okf τ' S'.fz) ga d v :=
  Rep.mono x.sub R.genAt (fun _ _ q => okf.mono x.tau x.fz q) R.okg d v h
theorem Rl.keepA (R : Rl K H0 g0 τ ga S σ H) (x : Ex ga τ S H τ' S' H') {ds : List D} {vs : List V} (h : RepA K H (okf τ S.fz) ga ds vs) : RepA K H' (okf τ' S'.fz) ga ds vs :=
  RepA.mono x.sub R.genAt (fun _ _ q => okf.mono x.tau x.fz q) R.okg ds vs h
theorem Rl.keepL (R : Rl K H0 g0 τ ga S σ H) (x : Ex ga τ S H τ' S' H') {ds : List D} {vs : List V} (h : RepL K H (okf τ S.fz) ga ds vs) : RepL K H' (okf τ' S'.fz) ga ds vs :=
  RepL.mono x.sub R.genAt (fun _ _ q => okf.mono x.tau x.fz q) R.okg ds vs h
def putT (τ : Addr → Option Nat) (p : Addr) (t : Nat) : Addr → Option Nat := fun a => if a = p then some t else τ a
theorem putT_same {p : Addr} {t : Nat} : putT τ p t p = some t := if_pos rfl
theorem putT_ne {p a : Addr} {t : Nat} (h : a ≠ p) : putT τ p t a = τ a := if_neg h
theorem Rl.tnone (R : Rl K H0 g0 τ ga S σ H) {p : Addr} (h : H p = none) : τ p = none := by
  cases e : τ p with
  | none => rfl
  | some t =>
    obtain ⟨o, q⟩ := R.trk _ _ e
    rw [h] at q; cases q
theorem Rl.allocX (R : Rl K H0 g0 τ ga S σ H) {p : Addr} (h : H p = none) (o : HO) : Ex ga τ S H (putT τ p S.c) { S with c := S.c + 1 } (upd H p o) :=
  ⟨Sub.upd h, fun a t e => by
    rw [putT_ne (fun q => by rw [q, R.tnone h] at e; cases e)]; exact e, fun _ m => m, rfl, rfl, rfl, upd_dom, fun a t e => by
    by_cases q : a = p
    · rw [q]; exact .inr h
    · rw [putT_ne q] at e; exact .inl e⟩
/-- a new object, with a tag -/
theorem Rl.alloc (R : Rl K H0 g0 τ ga S σ H) {p : Addr} (h : H p = none) (o : HO) : Rl K H0 g0 (putT τ p S.c) ga { S with c := S.c + 1 } σ (upd H p o) where
  pos := Nat.succ_pos _
  clk := fun a t e => by
    by_cases q : a = p
    · rw [q, putT_same] at e; cases e; exact Nat.lt_succ_self _
    · rw [putT_ne q] at e; exact Nat.lt_succ_of_lt (R.clk _ _ e)
  trk := fun a t e => by
    by_cases q : a = p
    · rw [q]; exact ⟨o, upd_same⟩
    · rw [putT_ne q] at e; rw [upd_ne q]; exact R.trk _ _ e
  old := fun a u e n => by
    obtain ⟨h1, h2⟩ := R.old a u e n
    have q := ne_of_none h1 h
    rw [upd_ne q, putT_ne q]
    exact ⟨h1, h2⟩
  g0n := fun a e => by
    have q : a ≠ p := fun z => by
      subst z
      by_cases hS : S.h = true
      · rw [R.hg hS] at e; cases e
      · obtain ⟨_, l, _, z⟩ := R.gen a ((R.gga (by simpa using hS)).trans e)
        rw [h] at z; cases z
    rw [putT_ne q]; exact R.g0n a e
  hg := R.hg
  gga := R.gga
  gnew := R.gnew
  gen := fun a e => by
    obtain ⟨h1, l, h2, h3⟩ := R.gen a e
    have q := ne_of_none h3 h
    exact ⟨by rw [putT_ne q]; exact h1, l, h2, by rw [upd_ne q]; exact h3⟩
  len := R.len
  env := fun i d e => by
    obtain ⟨v, h1, h2⟩ := R.env i d e
    exact ⟨v, h1, R.keep (R.allocX h o) h2⟩
/-- a new object that bears no tag: a tuple -/
theorem Rl.laid (R : Rl K H0 g0 τ ga S σ H) {p : Addr} (h : H p = none) (o : HO) : Rl K H0 g0 τ ga S σ (upd H p o) ∧ Ex ga τ S H τ S (upd H p o) := by
  have x : Ex ga τ S H τ S (upd H p o) := ⟨Sub.upd h, fun _ _ e => e, fun _ m => m, rfl, rfl, rfl, upd_dom, fun _ _ e => .inl e⟩
  refine ⟨⟨R.pos, R.clk, fun a t e => ?_, fun a u e n => ?_, R.g0n, R.hg, R.gga, R.gnew, fun a e => ?_, R.len, fun i d e => ?_⟩, x⟩
  · obtain ⟨u, q⟩ := R.trk a t e
    exact ⟨u, by rw [upd_ne (ne_of_none q h)]; exact q⟩
  · obtain ⟨h1, h2⟩ := R.old a u e n
    exact ⟨by rw [upd_ne (ne_of_none h1 h)]; exact h1, h2⟩
  · obtain ⟨h1, l, h2, h3⟩ := R.gen a e
    exact ⟨h1, l, h2, by rw [upd_ne (ne_of_none h3 h)]; exact h3⟩
  · obtain ⟨v, h1, h2⟩ := R.env i d e
    exact ⟨v, h1, R.keep x h2⟩
theorem Rl.okNew (R : Rl K H0 g0 τ ga S σ H) {p : Addr} : okf (putT τ p S.c) S.fz S.c p := .inr ⟨Nat.ne_of_gt R.pos, putT_same⟩
end

section
variable {K : PySem.W.Frag} {H : Hp} {ok : OkT} {ga : Option Addr}
theorem RepL.length : ∀ {ds : List D} {vs : List V}, RepL K H ok ga ds vs → vs.length = ds.length
  | [], vs, h => by rw [show vs = [] from h]; rfl
  | d :: ds, _, h => by
    obtain ⟨v, r, rfl, _, _, h2⟩ := h
    simp [RepL.length h2]
theorem RepA.length : ∀ {ds : List D} {vs : List V}, RepA K H ok ga ds vs → vs.length = ds.length
  | [], vs, h => by rw [show vs = [] from h]; rfl
  | d :: ds, _, h => by
    obtain ⟨v, r, rfl, _, h2⟩ := h
    simp [RepA.length h2]
theorem RepA.noGen : ∀ {ds : List D} {vs : List V}, RepA K H ok ga ds vs → ds.all Cor.noGen = true → RepL K H ok ga ds vs
  | [], vs, h, _ => h
  | d :: ds, _, h, n => by
    obtain ⟨v, r, rfl, h1, h2⟩ := h
    rw [List.all_cons, Bool.and_eq_true] at n
    exact ⟨v, r, rfl, h1, n.1, RepA.noGen h2 n.2⟩
theorem RepA.get : ∀ {ds : List D} {vs : List V} {i : Nat} {d : D}, RepA K H ok ga ds vs → ds[i]? = some d → ∃ v, vs[i]? = some v ∧ Rep K H ok ga d v
  | [], _, _, _, _, e => by simp at e
  | d :: ds, _, 0, _, h, e => by
    obtain ⟨v, r, rfl, h1, _⟩ := h
    simp at e; subst e
    exact ⟨v, rfl, h1⟩
  | d :: ds, _, i + 1, _, h, e => by
    obtain ⟨v, r, rfl, _, h2⟩ := h
    obtain ⟨w, h3, h4⟩ := RepA.get (i := i) h2 (by simpa using e)
    exact ⟨w, by simpa using h3, h4⟩
theorem RepL.get : ∀ {ds : List D} {vs : List V} {i : Nat} {d : D}, RepL K H ok ga ds vs → ds[i]? = some d → ∃ v, vs[i]? = some v ∧ Rep K H ok ga d v ∧ Cor.noGen d = true
  | [], _, _, _, _, e => by simp at e
  | d :: ds, _, 0, _, h, e => by
    obtain ⟨v, r, rfl, h1, n, _⟩ := h
    simp at e; subst e
    exact ⟨v, rfl, h1, n⟩
  | d :: ds, _, i + 1, _, h, e => by
    obtain ⟨v, r, rfl, _, _, h2⟩ := h
    obtain ⟨w, h3, h4⟩ := RepL.get (i := i) h2 (by simpa using e)
    exact ⟨w, by simpa using h3, h4⟩
theorem RepL.append : ∀ {ds es : List D} {vs ws : List V}, RepL K H ok ga ds vs → RepL K H ok ga es ws → RepL K H ok ga (ds ++ es) (vs ++ ws)
  | [], _, vs, _, h, h' => by rw [show vs = [] from h]; exact h'
  | d :: ds, _, _, _, h, h' => by
    obtain ⟨v, r, rfl, h1, n, h2⟩ := h
    exact ⟨v, r ++ _, rfl, h1, n, RepL.append h2 h'⟩
theorem RepL.one {d : D} {v : V} (h : Rep K H ok ga d v) (n : Cor.noGen d = true) : RepL K H ok ga [d] [v] := ⟨v, [], rfl, h, n, rfl⟩
theorem RepL.ints : ∀ l : List Int, RepL K H ok ga (l.map D.int) (l.map V.int)
  | [] => rfl
  | i :: l => ⟨.int i, l.map V.int, rfl, rfl, rfl, RepL.ints l⟩
theorem RepL.ints_eq : ∀ {l : List Int} {vs : List V}, RepL K H ok ga (l.map D.int) vs → vs = l.map V.int
  | [], _, h => h
  | i :: l, _, h => by
    obtain ⟨v, r, rfl, h1, _, h2⟩ := h
    rw [RepL.ints_eq h2, show v = V.int i from h1]; rfl
theorem RepL.take : ∀ {ds : List D} {vs : List V} (n : Nat), RepL K H ok ga ds vs → RepL K H ok ga (ds.take n) (vs.take n)
  | [], vs, n, h => by rw [show vs = [] from h]; simp [RepL]
  | d :: ds, _, 0, h => by simp [RepL]
  | d :: ds, _, n + 1, h => by
    obtain ⟨v, r, rfl, h1, g, h2⟩ := h
    exact ⟨v, r.take n, rfl, h1, g, RepL.take n h2⟩
theorem RepL.drop : ∀ {ds : List D} {vs : List V} (n : Nat), RepL K H ok ga ds vs → RepL K H ok ga (ds.drop n) (vs.drop n)
  | [], vs, n, h => by rw [show vs = [] from h]; simp [RepL]
  | d :: ds, _, 0, h => h
  | d :: ds, _, n + 1, h => by
    obtain ⟨v, r, rfl, h1, _, h2⟩ := h
    simpa using RepL.drop n h2
theorem RepL.reverse : ∀ {ds : List D} {vs : List V}, RepL K H ok ga ds vs → RepL K H ok ga ds.reverse vs.reverse
  | [], vs, h => by rw [show vs = [] from h]; simp [RepL]
  | d :: ds, _, h => by
    obtain ⟨v, r, rfl, h1, n, h2⟩ := h
    rw [List.reverse_cons, List.reverse_cons]
    exact RepL.append (RepL.reverse h2) (RepL.one h1 n)
theorem RepL.set {d : D} {v : V} (hv : Rep K H ok ga d v) (hn : Cor.noGen d = true) : ∀ {ds : List D} {vs : List V} (n : Nat), RepL K H ok ga ds vs → RepL K H ok ga (ds.set n d) (vs.set n v)
  | [], vs, n, h => by rw [show vs = [] from h]; simp [RepL]
  | e :: ds, _, 0, h => by
    obtain ⟨w, r, rfl, h1, _, h2⟩ := h
    exact ⟨v, r, rfl, hv, hn, h2⟩
  | e :: ds, _, n + 1, h => by
    obtain ⟨w, r, rfl, h1, g, h2⟩ := h
    exact ⟨w, r.set n v, rfl, h1, g, RepL.set hv hn n h2⟩
theorem RepL.dropLast {ds : List D} {vs : List V} (h : RepL K H ok ga ds vs) : RepL K H ok ga ds.dropLast vs.dropLast := by
  rw [List.dropLast_eq_take, List.dropLast_eq_take, RepL.length h]
  exact RepL.take _ h
theorem RepL.rep {ds : List D} {vs : List V} (h : RepL K H ok ga ds vs) : ∀ k : Nat, RepL K H ok ga (List.replicate k ds).flatten (List.replicate k vs).flatten
  | 0 => by simp [RepL]
  | k + 1 => by
    rw [List.replicate_succ, List.replicate_succ, List.flatten_cons, List.flatten_cons]
    exact RepL.append h (RepL.rep h k)
end
theorem intsOf_some : ∀ {xs : List D} {l : List Int}, intsOf xs = some l → xs = l.map D.int
  | [], l, h => by cases h; rfl
  | .int i :: xs, l, h => by
    simp only [intsOf] at h
    cases e : intsOf xs with
    | none => rw [e] at h; cases h
    | some m =>
      rw [e] at h; cases h
      rw [intsOf_some e]; rfl
  | .non :: _, _, h => by cases h
  | .bl _ :: _, _, h => by cases h
  | .str _ :: _, _, h => by cases h
  | .rep _ :: _, _, h => by cases h
  | .ints _ _ :: _, _, h => by cases h
  | .lst _ _ :: _, _, h => by cases h
  | .tup _ :: _, _, h => by cases h
  | .dct _ _ :: _, _, h => by cases h
  | .gd _ :: _, _, h => by cases h
  | .scr _ :: _, _, h => by cases h
  | .gen :: _, _, h => by cases h
  | .bot :: _, _, h => by cases h
/-- a list by its items -/
theorem Rep.mkL {K : PySem.W.Frag} {H : Hp} {ok : OkT} {ga : Option Addr} {t : Nat} {a : Addr} {xs : List D} {vs : List V} (h1 : ok t a) (h2 : H a = some (.lst vs)) (h3 : RepL K H ok ga xs vs) : Rep K H ok ga (mkL t xs) (.ref a) := by
  unfold Cor.mkL
  cases e : intsOf xs with
  | none => exact ⟨a, vs, rfl, h1, h2, h3⟩
  | some l =>
    rw [intsOf_some e] at h3
    rw [RepL.ints_eq h3] at h2
    exact ⟨a, rfl, h1, h2⟩
/-- the items of a list -/
theorem Rep.items {K : PySem.W.Frag} {H : Hp} {ok : OkT} {ga : Option Addr} : ∀ {d : D} {xs : List D} {v : V}, itemsL d = some xs → Rep K H ok ga d v → ∃ a vs, v = .ref a ∧ ok (tagOf d) a ∧ H a = some (.lst vs) ∧ RepL K H ok ga xs vs
  | .ints t l, xs, v, e, h => by
    cases e
    obtain ⟨a, rfl, o, q⟩ := h
    exact ⟨a, _, rfl, o, q, RepL.ints l⟩
  | .lst t ys, xs, v, e, h => by
    cases e
    obtain ⟨a, vs, rfl, o, q, r⟩ := h
    exact ⟨a, vs, rfl, o, q, r⟩
  | .non, _, _, e, _ => by cases e
  | .bl _, _, _, e, _ => by cases e
  | .int _, _, _, e, _ => by cases e
  | .str _, _, _, e, _ => by cases e
  | .rep _, _, _, e, _ => by cases e
  | .tup _, _, _, e, _ => by cases e
  | .dct _ _, _, _, e, _ => by cases e
  | .gd _, _, _, e, _ => by cases e
  | .scr _, _, _, e, _ => by cases e
  | .gen, _, _, e, _ => by cases e
  | .bot, _, _, e, _ => by cases e
end Cor

/-! CorD: operators, comparisons, by values. -/
namespace Cor
open PySem L2
open PyProof.Rows (mul_int pow_int)

theorem fits_le {n : Nat} (h : fits n = true) : n ≤ sizeLine := by
  rw [sizeLine_eq]; exact Nat.le_of_ble_eq_true h
theorem b2 {a b : Bool} (h : (a && b) = true) : a = true ∧ b = true := Bool.and_eq_true_iff.mp h

section
variable {K : PySem.W.Frag} {H0 : Hp} {g0 ga : Option Addr} {τ : Addr → Option Nat} {S S' : Stt} {σ : St} {H : Hp} {d x y : D} {v w : V}
/-- what is wanted of a value -/
abbrev Want (K : PySem.W.Frag) (H0 : Hp) (g0 : Option Addr) (ga : Option Addr) (τ : Addr → Option Nat) (S : Stt) (H : Hp) (σ : St) (d : D) (S' : Stt) (Q : VK) : Prop :=
  ∀ τ' H' v, Ex ga τ S H τ' S' H' → Rl K H0 g0 τ' ga S' σ H' → Rep K H' (okf τ' S'.fz) ga d v → Q v H'
theorem Want.now {Q : VK} (R : Rl K H0 g0 τ ga S σ H) (h : Want K H0 g0 ga τ S H σ d S Q) (r : Rep K H (okf τ S.fz) ga d v) : Q v H := h τ H v (Ex.refl _ _ _ _) R r
/-- a new tracked object -/
theorem Want.new {Q : VK} (R : Rl K H0 g0 τ ga S σ H) {o : HO} {f : Nat → D} (h : Want K H0 g0 ga τ S H σ (f S.c) { S with c := S.c + 1 } Q) {p : Addr} (hp : H p = none)
    (r : Rep K (upd H p o) (okf (putT τ p S.c) S.fz) ga (f S.c) (.ref p)) : Q (.ref p) (upd H p o) := h _ _ _ (R.allocX hp o) (R.alloc hp o) r

theorem map_append_int (a b : List Int) : (a ++ b).map V.int = a.map V.int ++ b.map V.int := List.map_append
theorem flat_int (k : Nat) (a : List Int) : ((List.replicate k a).flatten).map V.int = (List.replicate k (a.map V.int)).flatten := by
  rw [List.map_flatten, List.map_replicate]

def CMulA (i j : Int) : Prop := CMul i j ∨ CMulW i j
theorem CMulA.ok {i j : Int} (h : CMulA i j) : IntMulOk i j := h.elim CMul.ok CMulW.ok
def CPowA (i j : Int) : Prop := 0 ≤ j ∧ (Builtin.Int.intBits i : Int) * j ≤ 2 ^ 27
/-- by the operator: all that is let -/
def rB : BOp → R2
  | .add => fun x y H Q => rI0 (fun i j => .int (i + j)) x y H Q ∨ rCat x y H Q
  | .sub => rI0 fun i j => .int (i - j)
  | .mul => fun x y H Q => rI CMulA (fun i j => .int (i * j)) x y H Q ∨ rRep x y H Q
  | .fdiv => rI CDivW fun i j => .int (i / j)
  | .mod => rI (fun _ j => 0 < j) fun i j => .int (i % j)
  | .pow => rI CPowA fun i j => .int (i ^ j.toNat)
theorem opB_ok {X : Cx} : ∀ {o : Operator} {b : BOp}, opC o = some b → OpR X (binaryOp o) (rB b)
  | .Add, _, h => by cases h; exact OpR.or op_add op_cat
  | .Sub, _, h => by cases h; exact op_sub
  | .Mult, _, h => by cases h; exact OpR.or (opI fun _ _ _ _ _ _ _ hc q => mul_int q hc.ok) op_rep
  | .FloorDiv, _, h => by cases h; exact op_fdivW
  | .Mod, _, h => by cases h; exact op_mod
  | .Pow, _, h => by cases h; exact opI fun _ _ _ _ _ _ _ hc q => pow_int hc.1 hc.2 q
  | .MatMult, _, h => by cases h
  | .Div, _, h => by cases h
  | .LShift, _, h => by cases h
  | .RShift, _, h => by cases h
  | .BitOr, _, h => by cases h
  | .BitXor, _, h => by cases h
  | .BitAnd, _, h => by cases h

theorem small_of {i : Int} (h : isSmall i = true) : -(2 ^ 64) < i ∧ i < 2 ^ 64 := by
  obtain ⟨a, b⟩ := b2 h
  exact ⟨of_decide_eq_true a, of_decide_eq_true b⟩
theorem pow_ok {i j : Int} (h : (decide (0 ≤ j) && decide (j ≤ 1000) && decide (Nat.log2 i.natAbs < 1000)) = true) : CPowA i j := by
  obtain ⟨h1, h2⟩ := b2 h
  obtain ⟨h0, h1⟩ := b2 h1
  have a := of_decide_eq_true h0
  have b := of_decide_eq_true h1
  have c := of_decide_eq_true h2
  refine ⟨a, ?_⟩
  have d : Builtin.Int.intBits i ≤ 1000 := by
    unfold Builtin.Int.intBits
    split
    · exact Nat.zero_le _
    · omega
  have e : (Builtin.Int.intBits i : Int) * j ≤ 1000 * 1000 := Int.mul_le_mul (by omega) b a (by decide)
  have f : (2 : Int) ^ 27 = 134217728 := by decide
  omega
theorem new_eq {f : Nat → D} (h : Cor.new f S = some (d, S')) : d = f S.c ∧ S' = { S with c := S.c + 1 } := by
  unfold Cor.new at h
  cases h; exact ⟨rfl, rfl⟩

theorem cat_ok {xs ys : List D} {Q : VK} (R : Rl K H0 g0 τ ga S σ H) {a b : Addr} {vs ws : List V} (ha : H a = some (.lst vs)) (hb : H b = some (.lst ws)) (ra : RepL K H (okf τ S.fz) ga xs vs) (rb : RepL K H (okf τ S.fz) ga ys ws)
    (z : fits (xs.length + ys.length) = true) (f : Nat → D) (hf : ∀ p, Rep K (upd H p (.lst (vs ++ ws))) (okf (putT τ p S.c) S.fz) ga (f S.c) (.ref p) ∨ f S.c = .lst S.c (xs ++ ys))
    (h : Want K H0 g0 ga τ S H σ (f S.c) { S with c := S.c + 1 } Q) : rCat (.ref a) (.ref b) H Q := by
  refine ⟨a, b, vs, ws, rfl, rfl, ha, hb, ?_, fun p hp => ?_⟩
  · rw [RepL.length ra, RepL.length rb]; exact fits_le z
  · refine Want.new R h hp ?_
    rcases hf p with q | q
    · exact q
    · rw [q]
      exact ⟨p, _, rfl, R.okNew, upd_same, RepL.append (R.keepL (R.allocX hp _) ra) (R.keepL (R.allocX hp _) rb)⟩
/-- a list, a list: joined -/
theorem add_lists {Q : VK} (R : Rl K H0 g0 τ ga S σ H) {xs ys : List D} (ex : itemsL x = some xs) (ey : itemsL y = some ys) (rx : Rep K H (okf τ S.fz) ga x v) (ry : Rep K H (okf τ S.fz) ga y w)
    (z : fits (xs.length + ys.length) = true) (h : Want K H0 g0 ga τ S H σ (.lst S.c (xs ++ ys)) { S with c := S.c + 1 } Q) : rB .add v w H Q := by
  obtain ⟨a, vs, rfl, _, ha, ra⟩ := Rep.items ex rx
  obtain ⟨b, ws, rfl, _, hb, rb⟩ := Rep.items ey ry
  exact .inr (cat_ok R ha hb ra rb z (fun t => .lst t (xs ++ ys)) (fun _ => .inr rfl) h)
theorem bin_ok {o : BOp} {Q : VK} (R : Rl K H0 g0 τ ga S σ H) (rx : Rep K H (okf τ S.fz) ga x v) (ry : Rep K H (okf τ S.fz) ga y w) (e : opBin o x y S = some (d, S'))
    (h : Want K H0 g0 ga τ S H σ d S' Q) : rB o v w H Q := by
  unfold opBin at e
  split at e
  · cases e
    rw [show v = .int _ from rx, show w = .int _ from ry]
    exact .inl ⟨_, _, rfl, rfl, Want.now R h rfl⟩
  · rename_i a b
    split at e
    · rename_i z
      obtain ⟨rfl, rfl⟩ := new_eq e
      obtain ⟨p, rfl, _, hp⟩ := rx
      obtain ⟨q, rfl, _, hq⟩ := ry
      refine .inr (cat_ok R hp hq (RepL.ints _) (RepL.ints _) (by simpa using z) (fun t => .ints t _) (fun p' => .inl ?_) h)
      exact ⟨p', rfl, R.okNew, by rw [upd_same, map_append_int]⟩
    · cases e
  · split at e
    · rename_i xs ys ex ey
      split at e
      · rename_i z
        obtain ⟨rfl, rfl⟩ := new_eq e
        exact add_lists R ex ey rx ry z h
      · cases e
    · cases e
  · cases e
    rw [show v = .int _ from rx, show w = .int _ from ry]
    exact ⟨_, _, rfl, rfl, Want.now R h rfl⟩
  · rename_i i j
    split at e
    · rename_i z
      cases e
      rw [show v = .int _ from rx, show w = .int _ from ry]
      refine .inl ⟨_, _, rfl, rfl, ?_, Want.now R h rfl⟩
      cases z1 : isSmall i with
      | true => exact .inl (.inl (small_of z1))
      | false =>
        cases z2 : isSmall j with
        | true => exact .inl (.inr (small_of z2))
        | false =>
          rw [z1, z2] at z
          exact .inr (show _ < _ from of_decide_eq_true (by simpa using z))
    · cases e
  · rename_i a k
    split at e
    · rename_i z
      obtain ⟨rfl, rfl⟩ := new_eq e
      obtain ⟨z1, z3⟩ := b2 z
      obtain ⟨z1, z2⟩ := b2 z1
      obtain ⟨p, rfl, _, hp⟩ := rx
      rw [show w = .int _ from ry]
      refine .inr ⟨p, k, _, rfl, rfl, hp, of_decide_eq_true z1, of_decide_eq_true z2, by rw [List.length_map]; exact fits_le z3, fun q hq => ?_⟩
      refine Want.new (f := fun t => .ints t _) R h hq ⟨q, rfl, R.okNew, ?_⟩
      rw [upd_same, flat_int]
    · cases e
  · rename_i xs k
    split at e
    · rename_i z
      obtain ⟨rfl, rfl⟩ := new_eq e
      obtain ⟨z1, z3⟩ := b2 z
      obtain ⟨z1, z2⟩ := b2 z1
      obtain ⟨p, vs, rfl, _, hp, rp⟩ := rx
      rw [show w = .int _ from ry]
      refine .inr ⟨p, k, _, rfl, rfl, hp, of_decide_eq_true z1, of_decide_eq_true z2, by rw [RepL.length rp]; exact fits_le z3, fun q hq => ?_⟩
      exact Want.new (f := fun t => .lst t _) R h hq ⟨q, _, rfl, R.okNew, upd_same, RepL.rep (R.keepL (R.allocX hq _) rp) _⟩
    · cases e
  · split at e
    · rename_i z
      cases e
      obtain ⟨z1, z2⟩ := b2 z
      rw [show v = .int _ from rx, show w = .int _ from ry]
      exact ⟨_, _, rfl, rfl, ⟨of_decide_eq_true z1, of_decide_eq_true z2⟩, Want.now R h rfl⟩
    · cases e
  · split at e
    · rename_i z
      cases e
      rw [show v = .int _ from rx, show w = .int _ from ry]
      exact ⟨_, _, rfl, rfl, of_decide_eq_true z, Want.now R h rfl⟩
    · cases e
  · split at e
    · rename_i z
      cases e
      rw [show v = .int _ from rx, show w = .int _ from ry]
      exact ⟨_, _, rfl, rfl, pow_ok z, Want.now R h rfl⟩
    · cases e
  · cases e
end

/-! ### data at any depth -/
section
variable {K : PySem.W.Frag} {H : Hp} {ok : OkT} {ga : Option Addr}
theorem dp_ints : ∀ l : List Int, DpAll K H (l.map V.int) (l.map PyData.int)
  | [] => .nil
  | i :: l => .cons (.int i) (dp_ints l)
mutual
theorem Rep.dp : ∀ (d : D) (v : V) (x : PyData), toPy d = some x → Rep K H ok ga d v → Dp K H v x
  | .non, _, _, e, h => by cases e; rw [show _ = V.non from h]; exact .non
  | .bl b, _, _, e, h => by cases e; rw [show _ = V.bl b from h]; exact .bl b
  | .int b, _, _, e, h => by cases e; rw [show _ = V.int b from h]; exact .int b
  | .str b, _, _, e, h => by cases e; rw [show _ = V.str b from h]; exact .str b
  | .ints t l, _, _, e, h => by
    cases e
    obtain ⟨a, rfl, _, q⟩ := h
    exact .lst (SqL.of q) (dp_ints l)
  | .lst t xs, _, x, e, h => by
    obtain ⟨a, vs, rfl, _, q, r⟩ := h
    simp only [toPy] at e
    cases e2 : toPyL xs with
    | none => rw [e2] at e; cases e
    | some ys =>
      rw [e2] at e; cases e
      exact .lst (SqL.of q) (RepL.dp xs vs ys e2 r)
  | .tup xs, _, x, e, h => by
    obtain ⟨a, vs, rfl, q, r⟩ := h
    simp only [toPy] at e
    cases e2 : toPyL xs with
    | none => rw [e2] at e; cases e
    | some ys =>
      rw [e2] at e; cases e
      exact .tup q (RepL.dp xs vs ys e2 r)
  | .rep _, _, _, e, _ => by simp [toPy] at e
  | .dct _ _, _, _, e, _ => by simp [toPy] at e
  | .gd _, _, _, e, _ => by simp [toPy] at e
  | .scr _, _, _, e, _ => by simp [toPy] at e
  | .gen, _, _, e, _ => by simp [toPy] at e
  | .bot, _, _, e, _ => by simp [toPy] at e
theorem RepL.dp : ∀ (ds : List D) (vs : List V) (xs : List PyData), toPyL ds = some xs → RepL K H ok ga ds vs → DpAll K H vs xs
  | [], vs, xs, e, h => by
    simp only [toPyL] at e; cases e
    rw [show vs = [] from h]; exact .nil
  | d :: ds, vs, xs, e, h => by
    obtain ⟨v, r, rfl, h1, _, h2⟩ := h
    simp only [toPyL] at e
    cases e1 : toPy d with
    | none => rw [e1] at e; cases e
    | some y =>
      cases e2 : toPyL ds with
      | none => rw [e1, e2] at e; cases e
      | some ys =>
        rw [e1, e2] at e; cases e
        exact .cons (Rep.dp d v y e1 h1) (RepL.dp ds r ys e2 h2)
end
end
theorem eqv_int (i j : Int) : PyData.eqv (.int i) (.int j) = (i == j) := by simp [PyData.eqv]
theorem eqvAll_ints : ∀ l m : List Int, PyData.eqvAll (l.map .int) (m.map .int) = (l == m)
  | [], [] => by simp [PyData.eqvAll]
  | [], _ :: _ => by simp [PyData.eqvAll]
  | _ :: _, [] => by simp [PyData.eqvAll]
  | i :: l, j :: m => by
    simp only [List.map_cons, PyData.eqvAll, eqvAll_ints l m, eqv_int]
    rfl
theorem canLay_ints : ∀ l : List Int, PyData.canLayAll0 (l.map .int) = true
  | [] => by simp [PyData.canLayAll0]
  | i :: l => by simp [PyData.canLayAll0, PyData.canLay0, canLay_ints l]
theorem depth_ints : ∀ l : List Int, PyData.depthAll (l.map .int) = 0
  | [] => by simp [PyData.depthAll]
  | i :: l => by simp [PyData.depthAll, PyData.depth, depth_ints l]
theorem shaped_ints (l : List Int) : SeqAt.shaped (.list (l.map .int)) = true := by
  unfold SeqAt.shaped
  simp [PyData.canLay0, canLay_ints l, PyData.depth, depth_ints l]
theorem shaped_int (i : Int) : SeqAt.shaped (.int i) = true := by
  unfold SeqAt.shaped
  simp [PyData.canLay0, PyData.depth]
mutual
theorem pyEq_eq : ∀ x y : PyData, pyEq x y = true → x = y
  | .none, .none, _ => rfl
  | .bool a, .bool b, h => by simp only [pyEq, beq_iff_eq] at h; rw [h]
  | .int a, .int b, h => by simp only [pyEq, beq_iff_eq] at h; rw [h]
  | .str a, .str b, h => by simp only [pyEq, beq_iff_eq] at h; rw [h]
  | .list a, .list b, h => by simp only [pyEq] at h; rw [pyEqL_eq a b h]
  | .tuple a, .tuple b, h => by simp only [pyEq] at h; rw [pyEqL_eq a b h]
  | .dict _, y, h => by cases y <;> simp [pyEq] at h
  | .none, .bool _, h | .none, .int _, h | .none, .str _, h | .none, .list _, h | .none, .tuple _, h | .none, .dict _, h => by simp [pyEq] at h
  | .bool _, .none, h | .bool _, .int _, h | .bool _, .str _, h | .bool _, .list _, h | .bool _, .tuple _, h | .bool _, .dict _, h => by simp [pyEq] at h
  | .int _, .none, h | .int _, .bool _, h | .int _, .str _, h | .int _, .list _, h | .int _, .tuple _, h | .int _, .dict _, h => by simp [pyEq] at h
  | .str _, .none, h | .str _, .bool _, h | .str _, .int _, h | .str _, .list _, h | .str _, .tuple _, h | .str _, .dict _, h => by simp [pyEq] at h
  | .list _, .none, h | .list _, .bool _, h | .list _, .int _, h | .list _, .str _, h | .list _, .tuple _, h | .list _, .dict _, h => by simp [pyEq] at h
  | .tuple _, .none, h | .tuple _, .bool _, h | .tuple _, .int _, h | .tuple _, .str _, h | .tuple _, .list _, h | .tuple _, .dict _, h => by simp [pyEq] at h
theorem pyEqL_eq : ∀ x y : List PyData, pyEqL x y = true → x = y
  | [], [], _ => rfl
  | [], _ :: _, h => by simp [pyEqL] at h
  | _ :: _, [], h => by simp [pyEqL] at h
  | a :: x, b :: y, h => by
    simp only [pyEqL, Bool.and_eq_true] at h
    rw [pyEq_eq a b h.1, pyEqL_eq x y h.2]
end

/-! ### comparisons -/
def rC (K : PySem.W.Frag) : COp → R2
  | .eq => fun x y H Q => rEqD K x y H Q ∨ rEq x y H Q
  | .ne => fun x y H Q => rNeD K x y H Q ∨ rNe x y H Q
  | .lt => rI0 fun i j => .bl (decide (i < j))
  | .le => rI0 fun i j => .bl (decide (i ≤ j))
  | .gt => rI0 fun i j => .bl (decide (j < i))
  | .ge => rI0 fun i j => .bl (decide (j ≤ i))
  | .is => fun x y H Q => (y = .non ∧ Q (.bl (decide (x = .non))) H) ∨ rIsB x y H Q
  | .isnot => fun x y H Q => (y = .non ∧ Q (.bl (!decide (x = .non))) H) ∨ rNotB x y H Q
  | .mem => fun x y H Q => rIn K false x y H Q ∨ rInD K x y H Q
  | .nmem => fun x y H Q => rIn K true x y H Q ∨ rNotInD K x y H Q
end Cor

/-! CorE: comparisons, truth, items, built-ins, by values. -/
namespace Cor
open PySem L2

section
variable {X : Cx}
theorem opC_ok (hu : X.A.units + 65 < cLine) : ∀ o : CmpOp, OpR X (compareOp o) (rC X.K (cmpC o))
  | .Eq => OpR.or (op_eqD (by omega)) op_eq
  | .NotEq => OpR.or (op_neD (by omega)) op_ne
  | .Lt => op_lt
  | .LtE => op_le
  | .Gt => op_gt
  | .GtE => op_ge
  | .Is => OpR.or op_isN op_isBl
  | .IsNot => OpR.or op_notN op_notBl
  | .In => OpR.or op_in_seq (op_inD hu)
  | .NotIn => OpR.or op_notIn_seq (op_notInD hu)
end

section
variable {K : PySem.W.Frag} {H : Hp} {ok : OkT} {ga : Option Addr} {x y d : D} {v w : V} {Q : VK}
theorem eqD_cases {k : Bool} (rx : Rep K H ok ga x v) (ry : Rep K H ok ga y w) (e : eqD x y = some k) :
    (∃ a b, Dp K H v a ∧ Dp K H w b ∧ SeqAt.shaped a = true ∧ SeqAt.shaped b = true ∧ PyData.eqv a b = k) ∨ (scal v w = true ∧ decide (v = w) = k) := by
  unfold eqD at e
  split at e
  · cases e
    refine .inl ⟨.int _, .int _, Rep.dp (.int _) v _ rfl rx, Rep.dp (.int _) w _ rfl ry, shaped_int _, shaped_int _, eqv_int _ _⟩
  · cases e
    refine .inl ⟨_, _, Rep.dp (.ints _ _) v _ rfl rx, Rep.dp (.ints _ _) w _ rfl ry, shaped_ints _, shaped_ints _, ?_⟩
    simp only [PyData.eqv]
    exact eqvAll_ints _ _
  · split at e
    · rename_i z
      cases e
      rw [show v = .str _ from rx, show w = .str _ from ry, pyEq_eq _ _ z]
      exact .inr ⟨rfl, decide_eq_true rfl⟩
    · cases e
  · split at e
    · rename_i ex ey
      split at e
      · rename_i z
        obtain ⟨z1, z2⟩ := b2 z
        cases e
        exact .inl ⟨_, _, Rep.dp _ v _ ex rx, Rep.dp _ w _ ey ry, z1, z2, rfl⟩
      · cases e
    · cases e
theorem inV_ints (i : Int) : ∀ l : List Int, inV (.int i) (l.map V.int) = l.contains i
  | [] => rfl
  | j :: l => by
    have e : inV (.int i) ((j :: l).map V.int) = ((j == i) || inV (.int i) (l.map V.int)) := rfl
    rw [e, inV_ints i l, List.contains_cons, Bool.beq_comm]
theorem flat_ints : ∀ l : List Int, (l.map V.int).all flatV = true
  | [] => rfl
  | j :: l => by simp only [List.map_cons, List.all_cons, flat_ints l]; rfl
theorem opMem_cases {k : Bool} (rx : Rep K H ok ga x v) (ry : Rep K H ok ga y w) (e : opMem x y = some k) :
    (∃ (p : Addr) (i : Int) (l : List Int), w = .ref p ∧ SqT K H p (l.map V.int) ∧ v = .int i ∧ inV (.int i) (l.map V.int) = k) ∨
    (∃ (a : PyData) (ds : List PyData), Dp K H v a ∧ Dp K H w (.list ds) ∧ SeqAt.shaped a = true ∧ SeqAt.shaped (.list ds) = true ∧ (ds.any fun z => PyData.eqv z a) = k) := by
  unfold opMem at e
  split at e
  · split at e
    · rename_i i l el
      cases e
      obtain ⟨p, vs, rfl, hq, r⟩ := ry
      rw [intsOf_some el] at r
      rw [RepL.ints_eq r] at hq
      exact .inl ⟨p, i, l, rfl, hq, rx, inV_ints _ _⟩
    · cases e
  · split at e
    · rename_i ea exs
      split at e
      · rename_i eds
        split at e
        · rename_i z
          obtain ⟨z1, z2⟩ := b2 z
          cases e
          obtain ⟨a, vs, rfl, _, q, r⟩ := Rep.items exs ry
          exact .inr ⟨_, _, Rep.dp _ v _ ea rx, .lst (SqL.of q) (RepL.dp _ _ _ eds r), z1, z2, rfl⟩
        · cases e
      · cases e
    · cases e
theorem not_non (rx : Rep K H ok ga d v) (h : opCmp .is d .non = some false) : v ≠ .non := by
  cases d with
  | «ints» t l => obtain ⟨a, rfl, _⟩ := rx; exact fun z => nomatch z
  | lst t xs => obtain ⟨a, _, rfl, _⟩ := rx; exact fun z => nomatch z
  | tup xs => obtain ⟨a, _, rfl, _⟩ := rx; exact fun z => nomatch z
  | dct t xs => obtain ⟨a, _, rfl, _⟩ := rx; exact fun z => nomatch z
  | gd t => obtain ⟨a, rfl, _⟩ := rx; exact fun z => nomatch z
  | scr t => obtain ⟨a, rfl, _⟩ := rx; exact fun z => nomatch z
  | non => cases h
  | gen => cases h
  | bot => cases h
  | bl b => rw [show v = .bl b from rx]; exact fun z => nomatch z
  | int b => rw [show v = .int b from rx]; exact fun z => nomatch z
  | str b => rw [show v = .str b from rx]; exact fun z => nomatch z
  | rep b => rw [show v = .str _ from rx]; exact fun z => nomatch z
theorem is_non {k : Bool} (rx : Rep K H ok ga d v) (h : opCmp .is d .non = some k) : decide (v = .non) = k := by
  cases k with
  | false => exact decide_eq_false (not_non rx h)
  | true =>
    cases d with
    | non => exact decide_eq_true rx
    | _ => cases h
theorem isnot_is (k : Bool) (h : opCmp .isnot d .non = some k) : opCmp .is d .non = some (!k) := by
  cases d <;> cases h <;> rfl
theorem cmp_ok {o : COp} {k : Bool} (rx : Rep K H ok ga x v) (ry : Rep K H ok ga y w) (e : opCmp o x y = some k) (q : Q (.bl k) H) : rC K o v w H Q := by
  unfold opCmp at e
  split at e
  · rcases eqD_cases rx ry e with ⟨a, b, h1, h2, h3, h4, h5⟩ | ⟨h1, h2⟩
    · exact .inl ⟨a, b, h1, h2, h3, h4, by rw [h5]; exact q⟩
    · exact .inr ⟨h1, by rw [h2]; exact q⟩
  · rename_i _ _ 
    cases e1 : eqD x y with
    | none => rw [e1] at e; cases e
    | some m =>
      rw [e1] at e; cases e
      rcases eqD_cases rx ry e1 with ⟨a, b, h1, h2, h3, h4, h5⟩ | ⟨h1, h2⟩
      · exact .inl ⟨a, b, h1, h2, h3, h4, by rw [h5]; exact q⟩
      · exact .inr ⟨h1, by rw [h2]; exact q⟩
  · cases e; exact ⟨_, _, rx, ry, q⟩
  · cases e; exact ⟨_, _, rx, ry, q⟩
  · cases e; exact ⟨_, _, rx, ry, q⟩
  · cases e; exact ⟨_, _, rx, ry, q⟩
  · refine .inl ⟨ry, ?_⟩
    rw [is_non (k := k) rx e]; exact q
  · refine .inl ⟨ry, ?_⟩
    rw [is_non (k := !k) rx (isnot_is k e), Bool.not_not]; exact q
  · rename_i a b
    cases e
    refine .inr ⟨a, b, rx, ry, ?_⟩
    rw [Bool.beq_eq_decide_eq] at q; exact q
  · rename_i a b
    cases e
    refine .inr ⟨a, b, rx, ry, ?_⟩
    rw [bne, Bool.beq_eq_decide_eq] at q; exact q
  · rcases opMem_cases rx ry e with ⟨p, i, l, rfl, hq, rfl, h⟩ | ⟨a, ds, h1, h2, h3, h4, h5⟩
    · exact .inl ⟨p, _, rfl, .inr hq, rfl, flat_ints l, by rw [h]; exact q⟩
    · exact .inr ⟨a, ds, h1, h2, h3, h4, by rw [h5]; exact q⟩
  · cases e1 : opMem x y with
    | none => rw [e1] at e; cases e
    | some m =>
      rw [e1] at e; cases e
      rcases opMem_cases rx ry e1 with ⟨p, i, l, rfl, hq, rfl, h⟩ | ⟨a, ds, h1, h2, h3, h4, h5⟩
      · exact .inl ⟨p, _, rfl, .inr hq, rfl, flat_ints l, by rw [h]; exact q⟩
      · exact .inr ⟨a, ds, h1, h2, h3, h4, by rw [h5]; exact q⟩
  · cases e

theorem isEmpty_map {α β : Type} (f : α → β) (l : List α) : (l.map f).isEmpty = l.isEmpty := by cases l <;> rfl
theorem RepL.isEmpty : ∀ {ds : List D} {vs : List V}, RepL K H ok ga ds vs → vs.isEmpty = ds.isEmpty
  | [], vs, h => by rw [show vs = [] from h]; rfl
  | _ :: _, _, h => by obtain ⟨v, r, rfl, _, _⟩ := h; rfl
theorem truth_ok {k : Bool} (rx : Rep K H ok ga d v) (e : truth d = some k) : TruV K v H k := by
  unfold truth at e
  split at e
  · cases e; rw [show v = .non from rx]; rfl
  · cases e; rw [show v = .bl _ from rx]; rfl
  · cases e; rw [show v = .int _ from rx]; rfl
  · cases e
    obtain ⟨a, rfl, _, q⟩ := rx
    exact .inl ⟨_, SqL.of q, by rw [isEmpty_map]⟩
  · cases e
    obtain ⟨a, vs, rfl, _, q, r⟩ := rx
    exact .inl ⟨_, SqL.of q, by rw [RepL.isEmpty r]⟩
  · cases e
    obtain ⟨a, vs, rfl, q, r⟩ := rx
    exact .inr (.inl ⟨_, q, by rw [RepL.isEmpty r]⟩)
  · cases e
end
end Cor

/-! CorF: what the core's terms promise; defs; calls. -/
namespace Cor
open PySem L2

/-! ### readings -/
section
variable (K : PySem.W.Frag)
def TX (f : CE → Stt → Option (D × Stt)) (x : CE) : TE := fun σ H Q => ∃ (H0 : Hp) (g0 : Option Addr) (τ : Addr → Option Nat) (ga : Option Addr) (S : Stt) (d : D) (S' : Stt),
  Rl K H0 g0 τ ga S σ H ∧ f x S = some (d, S') ∧ Want K H0 g0 ga τ S H σ d S' Q
/-- of some values: the generator may be one -/
abbrev WantA (H0 : Hp) (g0 : Option Addr) (ga : Option Addr) (τ : Addr → Option Nat) (S : Stt) (H : Hp) (σ : St) (ds : List D) (S' : Stt) (Q : List V → Hp → Prop) : Prop :=
  ∀ τ' H' vs, Ex ga τ S H τ' S' H' → Rl K H0 g0 τ' ga S' σ H' → RepA K H' (okf τ' S'.fz) ga ds vs → Q vs H'
def TXs (r : Ev) (xs : List CE) : TA := fun σ H Q => ∃ (H0 : Hp) (g0 : Option Addr) (τ : Addr → Option Nat) (ga : Option Addr) (S : Stt) (ds : List D) (S' : Stt),
  Rl K H0 g0 τ ga S σ H ∧ evEs r xs S = some (ds, S') ∧ WantA K H0 g0 ga τ S H σ ds S' Q
abbrev WantB {α : Type} (H0 : Hp) (g0 : Option Addr) (ga : Option Addr) (τ : Addr → Option Nat) (S : Stt) (H : Hp) (σ : St) (b : α) (S' : Stt) (Q : α → Hp → Prop) : Prop :=
  ∀ τ' H', Ex ga τ S H τ' S' H' → Rl K H0 g0 τ' ga S' σ H' → Q b H'
def TXo (r : Ev) (o : Option CE) : TO := fun σ H Q => ∃ (H0 : Hp) (g0 : Option Addr) (τ : Addr → Option Nat) (ga : Option Addr) (S : Stt) (i : Option Int) (S' : Stt),
  Rl K H0 g0 τ ga S σ H ∧ evO r o S = some (i, S') ∧ WantB K H0 g0 ga τ S H σ i S' Q
def TXt (f : CE → Stt → Option (D × Stt)) (x : CE) : TT := fun σ H Q => ∃ (H0 : Hp) (g0 : Option Addr) (τ : Addr → Option Nat) (ga : Option Addr) (S : Stt) (d : D) (b : Bool) (S' : Stt),
  Rl K H0 g0 τ ga S σ H ∧ f x S = some (d, S') ∧ truth d = some b ∧ WantB K H0 g0 ga τ S H σ b S' Q
def TXf (r : Ev) (o : Option CE) : TT := fun σ H Q => ∃ (H0 : Hp) (g0 : Option Addr) (τ : Addr → Option Nat) (ga : Option Addr) (S : Stt) (b : Bool) (S' : Stt),
  Rl K H0 g0 τ ga S σ H ∧ testO r o S = some (b, S') ∧ WantB K H0 g0 ga τ S H σ b S' Q
end

theorem peW {X : Cx} {e : Expr} {t t' : TE} (h : PE X e t) (w : ∀ σ H Q, t' σ H Q → t σ H Q) : PE X e t' := ⟨fun pins s σ H Q I q => h.run pins s σ H Q I (w σ H Q q)⟩
theorem ptW {X : Cx} {e : Expr} {t t' : TT} (h : PT X e t) (w : ∀ σ H Q, t' σ H Q → t σ H Q) : PT X e t' := ⟨fun pins s σ H Q I q => h.run pins s σ H Q I (w σ H Q q)⟩
theorem pwW {X : Cx} {e : Expr} {t t' : TT} (h : PW X e t) (w : ∀ σ H Q, t' σ H Q → t σ H Q) : PW X e t' := ⟨fun wh pins s σ H Q I q => h.run wh pins s σ H Q I (w σ H Q q)⟩
theorem ptsW {X : Cx} {e : List Expr} {t t' : TT} (h : PTs X e t) (w : ∀ σ H Q, t' σ H Q → t σ H Q) : PTs X e t' := ⟨fun pins s σ H Q I q => h.run pins s σ H Q I (w σ H Q q)⟩
theorem paW {X : Cx} {e : List Expr} {t t' : TA} (h : PA X e t) (w : ∀ σ H Q, t' σ H Q → t σ H Q) : PA X e t' := ⟨fun pos pins s σ H Q I q => h.run pos pins s σ H Q I (w σ H Q q)⟩
theorem poW {X : Cx} {e : Option Expr} {t t' : TO} (h : PO X e t) (w : ∀ σ H Q, t' σ H Q → t σ H Q) : PO X e t' := ⟨fun pins s σ H Q I q => h.run pins s σ H Q I (w σ H Q q)⟩
theorem piW {X : Cx} {tg e : Expr} {t t' : TI} (h : PI X tg e t) (w : ∀ σ H Q, t' σ H Q → t σ H Q) : PI X tg e t' := ⟨fun pins s σ H Q I q => h.run pins s σ H Q I (w σ H Q q)⟩
theorem psW {X : Cx} {st : Stmt} {t t' : TS} (h : PS X st t) (w : ∀ D σ H, t' D σ H → t D σ H) : PS X st t' := ⟨fun pins s σ H D I q => h.run pins s σ H D I (w D σ H q)⟩
theorem pssW {X : Cx} {st : List Stmt} {t t' : TS} (h : PSs X st t) (w : ∀ D σ H, t' D σ H → t D σ H) : PSs X st t' := ⟨fun pins s σ H D I q => h.run pins s σ H D I (w D σ H q)⟩

/-! ### what a def promises -/
def GenIs (H : Hp) (ga : Option Addr) (g : Option (List Int)) : Prop := match ga, g with
  | none, none => True
  | some a, some l => H a = some (.lst (l.map V.int))
  | _, _ => False
/-- what stands at the call's arguments -/
def okA (H : Hp) (ga : Option Addr) (B : Addr → Prop) : OkT := fun t a => t = 0 ∧ B a ∧ ga ≠ some a ∧ ∃ o, H a = some o
/-- what comes: 0 is of the arguments, or new and shared; else new -/
def okR (H H' : Hp) (ga : Option Addr) (B cls : Addr → Prop) : OkT := fun t a => ga ≠ some a ∧ (∃ o, H' a = some o) ∧ ((t = 0 ∧ (B a ∨ (H a = none ∧ ¬ cls a))) ∨ (t ≠ 0 ∧ H a = none ∧ cls a))
def spC (K : PySem.W.Frag) (cf : CallF) (i : Nat) (vs : List V) (H : Hp) (Q : VK) : Prop :=
  ∃ (B : Addr → Prop) (ds : List D) (ga : Option Addr) (g : Option (List Int)) (d : D) (g' : Option (List Int)),
    RepA K H (okA H ga B) ga ds vs ∧ GenIs H ga g ∧ cf i ds g = some (d, g') ∧
    ∀ (H' : Hp) (v : V) (cls : Addr → Prop), Sub ga H H' → GenIs H' ga g' → noGen d = true → Rep K H' (okR H H' ga B cls) none d v → Q v H'
/-- a def at f keeps its promise, where the guards are none -/
structure FnG (P : Program) (w : World) (K : PySem.W.Frag) (mg : Str → Option Value) (base : Heap) (k : Nat) (f : Addr) (fd : FuncData) (ps : List Str) (sp : List V → Hp → VK → Prop) : Prop where
  run : ∀ (A : Around) (outer : List Env) (s : Shared) (H : Hp) (args : Args) (us : List Value) (vs : List V) (Q : VK), Room k A → A.guards = some [] → Env0 P w K mg base A outer s H → BindsTo s fd args (ps.zip us) → Vals vs us → vs.length = ps.length → sp vs H Q →
    codeAny (model P w) A (.call (.ref f) args) (CR CX0 outer P w H s Q E0) s
/-- a def of the module, named x -/
structure Fact (X : Cx) (cf : CallF) (k : Nat) (x : Str) (i : Nat) (ps : List Str) : Prop where
  ex : ∃ (f : Addr) (fd : FuncData), X.mg x = some (.ref f) ∧ PySem.W.keepIn X.K (.ref f) = true ∧ FnG X.prog X.w X.K X.mg X.base k f fd ps (spC X.K cf i) ∧
    (∀ (s : Shared) (us : List Value), us.length = ps.length → BindsTo s fd ⟨us, []⟩ (ps.zip us)) ∧
    (∀ (n : Nat) (ks : List Str) (pm : List Nat) (s : Shared) (us ws zs : List Value), pmC ps n ks = some pm → n + ks.length = ps.length → us.length = n → ws.length = ks.length → pick (us ++ ws) pm = some zs → BindsTo s fd ⟨us, ks.zip ws⟩ (ps.zip zs))
structure CtxOk (c : Cfg) (cf : CallF) (k : Nat) (X : Cx) (sc : Scope) : Prop where
  N : X.N = c.N
  nd : X.N.Nodup
  calm : X.calm = true
  names : X.env.scope.names = sc.names
  kind : X.env.scope.kind = .function
  room : Room k X.A
  guards : X.A.guards = some []
  skind : sc.kind = .function
  fns : ∀ x i ps, c.fid x = some (i, ps) → Fact X cf k x i ps
  gls : ∀ x y, c.gl x = some y → ∃ (u : Value) (v : V), X.mg x = some u ∧ RelV v u ∧ match y with
    | .int i => v = .int i
    | .gdict _ kvs => ∃ a, v = .ref a ∧ GDict X.K a kvs
    | .gtup _ l => ∃ a, v = .ref a ∧ ∀ H, SqT X.K H a (l.map V.int)
    | _ => False
  free : ∀ x, c.free x = true → X.mg x = none
section
variable {c : Cfg} {cf : CallF} {k : Nat} {X : Cx} {sc : Scope}
theorem CtxOk.hu (C : CtxOk c cf k X sc) : X.A.units + 65 < cLine := by have := C.room.un; omega
theorem idxOf_ok {x : Str} : ∀ {N : List Str} {i : Nat}, idxOf x N = some i → N[i]? = some x
  | [], _, h => by cases h
  | y :: r, i, h => by
    unfold idxOf at h
    split at h
    · rename_i e
      cases h
      rw [eq_of_beq e]; rfl
    · cases e : idxOf x r with
      | none => rw [e] at h; cases h
      | some j =>
        rw [e] at h; cases h
        simpa using idxOf_ok e
theorem CtxOk.gl (C : CtxOk c cf k X sc) {x : Str} (h : isG sc x = true) : Gl X x := by
  unfold Gl Env.kindOf
  rw [C.names]
  unfold isG at h
  split at h
  · assumption
  · cases h
theorem plain1 {x : Str} (h : plainX x = true) : (x == ("__debug__" : Str)) = false := by
  unfold plainX at h
  exact (Bool.not_eq_true' _).mp (b2 h).1
theorem plain2 {x : Str} (h : plainX x = true) : (x == ("__classdict__" : Str)) = false := by
  unfold plainX at h
  exact (Bool.not_eq_true' _).mp (b2 (b2 h).2).1
theorem plain3 {x : Str} (h : plainX x = true) : x ≠ ("__name__" : Str) := fun e => by
  unfold plainX at h
  have q := (Bool.not_eq_true' _).mp (b2 (b2 h).2).2
  rw [e, beq_self_eq_true] at q
  cases q
theorem strIs_eq {x : Str} {n : String} (h : strIs x n = true) : x = (n : Str) := eq_of_beq h

/-! ### names, constants -/
theorem rep_var {K : PySem.W.Frag} {H0 : Hp} {g0 ga : Option Addr} {τ : Addr → Option Nat} {S S' : Stt} {σ : St} {H : Hp} {d : D} {i : Nat} {Q : VK} (R : Rl K H0 g0 τ ga S σ H)
    (e : slot i S = some d) (h : Want K H0 g0 ga τ S H σ d S Q) : tVar i σ H Q := by
  unfold slot at e
  split at e
  · rename_i z
    cases e
    obtain ⟨v, h1, h2⟩ := R.env i d z
    exact ⟨v, h1, Want.now R h h2⟩
  · cases e
theorem snd_name (C : CtxOk c cf k X sc) {r : Ev} {x : Str} {pos : Pos} {y : CE} (h : nameC c sc x = some y) : PE X (.Name x pos) (TX X.K (stepE cf r) y) := by
  unfold nameC at h
  split at h
  · rename_i px
    have go : (Vis X.env.scope x) → (idxOf x c.N).map CE.var = some y → PE X (.Name x pos) (TX X.K (stepE cf r) y) := fun hv h => by
      cases e : idxOf x c.N with
      | none => rw [e] at h; cases h
      | some i =>
        rw [e] at h; cases h
        refine peW (pe_var (i := i) (by rw [C.N]; exact idxOf_ok e) hv (plain1 px) (plain2 px)) fun σ H Q ⟨H0, g0, τ, ga, S, d, S', R, ev, q⟩ => ?_
        cases z : slot i S with
        | none => simp [stepE, z] at ev
        | some d0 =>
          simp [stepE, z] at ev
          obtain ⟨rfl, rfl⟩ := ev
          exact rep_var (S' := S) R z q
    split at h
    · rename_i z; exact go (.inl (by rw [C.names]; exact z)) h
    · rename_i z; exact go (.inr (.inl (by rw [C.names]; exact z))) h
    · rename_i z; exact go (.inr (.inr (by rw [C.names]; exact z))) h
    · rename_i z
      have hg : Gl X x := by unfold Gl Env.kindOf; rw [C.names]; exact z
      obtain ⟨u, v, hm, rv, m⟩ := C.gls x y h
      refine peW (pe_glob hg hm rv (plain1 px)) fun σ H Q ⟨H0, g0, τ, ga, S, d, S', R, ev, q⟩ => ?_
      split at m
      · cases ev
        rw [m]; exact Want.now R q rfl
      · cases ev
        obtain ⟨a, e1, e2⟩ := m
        rw [e1]; exact Want.now R q ⟨a, rfl, e2⟩
      · cases ev
        obtain ⟨a, e1, e2⟩ := m
        rw [e1]; exact Want.now R q ⟨a, _, rfl, e2 H, RepL.ints _⟩
      · exact m.elim
    · cases h
  · cases h
end
end Cor

/-! CorG: calls of the text's own defs. -/
namespace Cor
open PySem L2

section
variable {K : PySem.W.Frag} {H : Hp} {ok ok' : OkT} {ga ga' : Option Addr}
mutual
/-- without the generator its place does not matter -/
theorem Rep.noga : ∀ (d : D) (v : V), noGen d = true → Rep K H ok ga d v → Rep K H ok ga' d v
  | .non, _, _, h => h
  | .bl _, _, _, h => h
  | .int _, _, _, h => h
  | .str _, _, _, h => h
  | .rep _, _, _, h => h
  | .ints t l, x, _, h => h
  | .lst t xs, x, _, h => by
    obtain ⟨a, vs, e, o, q, r⟩ := h
    exact ⟨a, vs, e, o, q, RepL.noga xs vs r⟩
  | .tup xs, x, _, h => by
    obtain ⟨a, vs, e, q, r⟩ := h
    exact ⟨a, vs, e, q, RepL.noga xs vs r⟩
  | .dct t kvs, x, _, h => by
    obtain ⟨a, vs, e, o, q, r⟩ := h
    exact ⟨a, vs, e, o, q, RepK.noga kvs vs r⟩
  | .gd kvs, x, _, h => h
  | .scr l, x, _, h => h
  | .gen, x, n, _ => by cases n
  | .bot, x, _, _ => trivial
theorem RepL.noga : ∀ (ds : List D) (vs : List V), RepL K H ok ga ds vs → RepL K H ok ga' ds vs
  | [], _, h => h
  | d :: ds, vs, h => by
    obtain ⟨v, r, e, h1, n, h2⟩ := h
    exact ⟨v, r, e, Rep.noga d v n h1, n, RepL.noga ds r h2⟩
theorem RepK.noga : ∀ (ds : List (DKey × D)) (vs : List (L2.Key × V)), RepK K H ok ga ds vs → RepK K H ok ga' ds vs
  | [], _, h => h
  | (k, d) :: ds, vs, h => by
    obtain ⟨k', v, r, e, hk, h1, n, h2⟩ := h
    exact ⟨k', v, r, e, hk, Rep.noga d v n h1, n, RepK.noga ds r h2⟩
end
theorem noGen_mkL (t : Nat) (xs : List D) : noGen (mkL t xs) = true := by
  unfold mkL
  cases intsOf xs <;> rfl
theorem noGen_retag (f : Nat → Nat) (d : D) : noGen (retag f d) = noGen d := by
  cases d <;> first | rfl | (unfold retag; exact noGen_mkL _ _) | (unfold retag; rfl)
variable (f : Nat → Nat)
mutual
theorem Rep.retag : ∀ (d : D) (v : V), (∀ t a, t ∈ tags d → ok t a → ok' (f t) a) → Rep K H ok ga d v → Rep K H ok' ga (Cor.retag f d) v
  | .non, _, _, h => h
  | .bl _, _, _, h => h
  | .int _, _, _, h => h
  | .str _, _, _, h => h
  | .rep _, _, _, h => h
  | .ints t l, x, m, h => by
    obtain ⟨a, e, o, q⟩ := h
    exact ⟨a, e, m _ _ (by simp [tags]) o, q⟩
  | .lst t xs, x, m, h => by
    obtain ⟨a, vs, e, o, q, r⟩ := h
    rw [e]
    simp only [Cor.retag]
    exact Rep.mkL (m _ _ (by simp [tags]) o) q (RepL.retag xs vs (fun u b hu => m u b (by simp [tags, hu])) r)
  | .tup xs, x, m, h => by
    obtain ⟨a, vs, e, q, r⟩ := h
    exact ⟨a, vs, e, q, RepL.retag xs vs (fun u b hu => m u b (by simpa [tags] using hu)) r⟩
  | .dct t kvs, x, m, h => by
    obtain ⟨a, vs, e, o, q, r⟩ := h
    exact ⟨a, vs, e, m _ _ (by simp [tags]) o, q, RepK.retag kvs vs (fun u b hu => m u b (by simp [tags, hu])) r⟩
  | .gd kvs, x, _, h => h
  | .scr l, x, _, h => h
  | .gen, x, _, h => h
  | .bot, x, _, _ => trivial
theorem RepL.retag : ∀ (ds : List D) (vs : List V), (∀ t a, t ∈ tagsL ds → ok t a → ok' (f t) a) → RepL K H ok ga ds vs → RepL K H ok' ga (Cor.retagL f ds) vs
  | [], _, _, h => h
  | d :: ds, vs, m, h => by
    obtain ⟨v, r, e, h1, n, h2⟩ := h
    exact ⟨v, r, e, Rep.retag d v (fun u b hu => m u b (by simp [tagsL, hu])) h1, by rw [noGen_retag]; exact n, RepL.retag ds r (fun u b hu => m u b (by simp [tagsL, hu])) h2⟩
theorem RepK.retag : ∀ (ds : List (DKey × D)) (vs : List (L2.Key × V)), (∀ t a, t ∈ tagsK ds → ok t a → ok' (f t) a) → RepK K H ok ga ds vs → RepK K H ok' ga (Cor.retagK f ds) vs
  | [], _, _, h => h
  | (k, d) :: ds, vs, m, h => by
    obtain ⟨k', v, r, e, hk, h1, n, h2⟩ := h
    exact ⟨k', v, r, e, hk, Rep.retag d v (fun u b hu => m u b (by simp [tagsK, hu])) h1, by rw [noGen_retag]; exact n, RepK.retag ds r (fun u b hu => m u b (by simp [tagsK, hu])) h2⟩
end
theorem RepA.retag : ∀ (ds : List D) (vs : List V), (∀ t a, t ∈ tagsL ds → ok t a → ok' (f t) a) → (∀ d v, d ∈ ds → Rep K H ok ga d v → Rep K H ok ga' d v) → RepA K H ok ga ds vs → RepA K H ok' ga' (Cor.retagL f ds) vs
  | [], _, _, _, h => h
  | d :: ds, vs, m, n, h => by
    obtain ⟨v, r, e, h1, h2⟩ := h
    exact ⟨v, r, e, Rep.retag f d v (fun u b hu => m u b (by simp [tagsL, hu])) (n d v (by simp) h1), RepA.retag ds r (fun u b hu => m u b (by simp [tagsL, hu])) (fun d v hd => n d v (by simp [hd])) h2⟩
end

theorem isGenL_mem : ∀ {ds : List D}, isGenL ds = true → D.gen ∈ ds
  | [], h => by cases h
  | .gen :: _, _ => by simp
  | .non :: r, h | .bl _ :: r, h | .int _ :: r, h | .str _ :: r, h | .rep _ :: r, h | .ints _ _ :: r, h | .lst _ _ :: r, h | .tup _ :: r, h | .dct _ _ :: r, h | .gd _ :: r, h | .scr _ :: r, h | .bot :: r, h =>
    List.mem_cons_of_mem _ (isGenL_mem (ds := r) h)
theorem not_isGenL : ∀ {ds : List D}, isGenL ds = false → ∀ d ∈ ds, noGen d = true
  | [], _, _, m => by cases m
  | .gen :: _, h, _, _ => by cases h
  | .non :: r, h, d, m | .bl _ :: r, h, d, m | .int _ :: r, h, d, m | .str _ :: r, h, d, m | .rep _ :: r, h, d, m | .ints _ _ :: r, h, d, m | .lst _ _ :: r, h, d, m | .tup _ :: r, h, d, m
  | .dct _ _ :: r, h, d, m | .gd _ :: r, h, d, m | .scr _ :: r, h, d, m | .bot :: r, h, d, m => by
    rcases List.mem_cons.mp m with e | m
    · rw [e]; rfl
    · exact not_isGenL (ds := r) h d m
theorem RepA.mem {K : PySem.W.Frag} {H : Hp} {ok : OkT} {ga : Option Addr} : ∀ {ds : List D} {vs : List V} {d : D}, RepA K H ok ga ds vs → d ∈ ds → ∃ v, Rep K H ok ga d v
  | [], _, _, _, m => by cases m
  | e :: ds, _, d, h, m => by
    obtain ⟨v, r, _, h1, h2⟩ := h
    rcases List.mem_cons.mp m with q | m
    · rw [q]; exact ⟨v, h1⟩
    · exact RepA.mem h2 m

section
variable {K : PySem.W.Frag} {H0 : Hp} {g0 ga : Option Addr} {τ : Addr → Option Nat} {S : Stt} {σ : St} {H : Hp} {ds : List D} {vs : List V} {d : D} {g' : Option (List Int)} {cf : CallF} {i : Nat} {Q : VK}
open Classical
/-- the tags behind a call -/
noncomputable def tauC (τ : Addr → Option Nat) (H H' : Hp) (cls : Addr → Prop) (c : Nat) : Addr → Option Nat := fun a =>
  match τ a with
  | some t => some t
  | none => if H a = none ∧ ∃ o, H' a = some o then (if cls a then some c else some 0) else none
theorem tauC_old {τ : Addr → Option Nat} {H H' : Hp} {cls : Addr → Prop} {c t : Nat} {a : Addr} (h : τ a = some t) : tauC τ H H' cls c a = some t := by unfold tauC; rw [h]
theorem tauC_none {τ : Addr → Option Nat} {H H' : Hp} {cls : Addr → Prop} {c : Nat} {a : Addr} (h : τ a = none) (n : H a ≠ none) : tauC τ H H' cls c a = none := by
  unfold tauC; rw [h]
  show (if H a = none ∧ _ then _ else _) = _
  rw [if_neg (fun z => n z.1)]
theorem tauC_cls {τ : Addr → Option Nat} {H H' : Hp} {cls : Addr → Prop} {c : Nat} {a : Addr} (h : τ a = none) (n : H a = none) (o : ∃ o, H' a = some o) (k : cls a) : tauC τ H H' cls c a = some c := by
  unfold tauC; rw [h]
  show (if H a = none ∧ _ then _ else _) = _
  rw [if_pos ⟨n, o⟩, if_pos k]
theorem tauC_shr {τ : Addr → Option Nat} {H H' : Hp} {cls : Addr → Prop} {c : Nat} {a : Addr} (h : τ a = none) (n : H a = none) (o : ∃ o, H' a = some o) (k : ¬ cls a) : tauC τ H H' cls c a = some 0 := by
  unfold tauC; rw [h]
  show (if H a = none ∧ _ then _ else _) = _
  rw [if_pos ⟨n, o⟩, if_neg k]
theorem tauC_some {τ : Addr → Option Nat} {H H' : Hp} {cls : Addr → Prop} {c t : Nat} {a : Addr} (h : tauC τ H H' cls c a = some t) : τ a = some t ∨ (τ a = none ∧ H a = none ∧ (∃ o, H' a = some o) ∧ (t = c ∨ t = 0)) := by
  cases e : τ a with
  | some u => rw [tauC_old e] at h; exact .inl h
  | none =>
    right
    unfold tauC at h
    rw [e] at h
    have h2 : (if H a = none ∧ ∃ o, H' a = some o then (if cls a then some c else some 0) else none) = some t := h
    split at h2
    · rename_i z
      refine ⟨rfl, z.1, z.2, ?_⟩
      split at h2
      · cases h2; exact .inl rfl
      · cases h2; exact .inr rfl
    · cases h2
theorem Rl.g0at (R : Rl K H0 g0 τ ga S σ H) {a : Addr} (e : g0 = some a) : H a ≠ none := fun n => by
  by_cases hS : S.h = true
  · rw [R.hg hS] at e; cases e
  · obtain ⟨_, l, _, z⟩ := R.gen a ((R.gga (by simpa using hS)).trans e)
    rw [n] at z; cases z
/-- the promise, from a frame -/
theorem spC_of (R : Rl K H0 g0 τ ga S σ H) (ra : RepA K H (okf τ S.fz) ga ds vs) (ev : cf i (retagL (fun _ => 0) ds) (if isGenL ds then S.g else none) = some (d, g'))
    (q : Want K H0 g0 ga τ S H σ (back ds d g' S).1 (back ds d g' S).2 Q) : spC K cf i vs H Q := by
  have hga : ∃ ga' : Option Addr, (isGenL ds = true → ga' = ga ∧ ∃ a, ga = some a) ∧ (isGenL ds = false → ga' = none) := by
    cases e : isGenL ds with
    | true =>
      obtain ⟨v, a, _, q⟩ := RepA.mem ra (isGenL_mem e)
      exact ⟨ga, ⟨fun _ => ⟨rfl, a, q⟩, fun z => Bool.noConfusion z⟩⟩
    | false => exact ⟨none, ⟨fun z => (Bool.noConfusion z), fun _ => rfl⟩⟩
  obtain ⟨ga', hg1, hg2⟩ := hga
  have hgn : ∀ a, ga ≠ some a → ga' ≠ some a := fun a n => by
    cases e : isGenL ds with
    | true => rw [(hg1 e).1]; exact n
    | false => rw [hg2 e]; exact fun z => nomatch z
  refine ⟨fun a => ∃ t, t ∈ tagsL ds ∧ okf τ S.fz t a, retagL (fun _ => 0) ds, ga', if isGenL ds then S.g else none, d, g', ?_, ?_, ev, ?_⟩
  · refine RepA.retag (ok := okf τ S.fz) (ga := ga) _ ds vs (fun t a ht o => ⟨rfl, ⟨t, ht, o⟩, hgn a (R.okg t a o), ?_⟩) (fun d v hd h => ?_) ra
    · obtain ⟨u, e⟩ := okf.some o
      exact R.trk _ _ e
    · cases e : isGenL ds with
      | true => rw [(hg1 e).1]; exact h
      | false => exact Rep.noga d v (not_isGenL e d hd) h
  · cases e : isGenL ds with
    | true =>
      obtain ⟨e1, a, e2⟩ := hg1 e
      obtain ⟨_, l, e3, e4⟩ := R.gen a e2
      rw [e1, e2, if_pos rfl, e3]
      exact e4
    | false =>
      rw [hg2 e, if_neg (by decide)]
      exact trivial
  · intro H' v cls sub gi ng rv
    have hsub : Sub ga H H' := fun a o h n => sub a o h (hgn a n)
    have x : Ex ga τ S H (tauC τ H H' cls S.c) (back ds d g' S).2 H' := by
      refine ⟨hsub, fun a t h => tauC_old h, fun u m => ?_, rfl, rfl, rfl, fun a o e => ?_, fun a t e => (tauC_some e).elim .inl fun z => .inr z.2.1⟩
      rotate_left
      · by_cases n : ga' = some a
        · rw [n] at gi
          cases g' with
          | none => exact gi.elim
          | some l => exact ⟨_, gi⟩
        · exact ⟨o, sub a o e n⟩
      show u ∈ (if (tags d).contains 0 then tagsL ds ++ S.fz else S.fz)
      split
      · exact List.mem_append_right _ m
      · exact m
    have hgen : ∀ a, ga = some a → ∃ l, (back ds d g' S).2.g = some l ∧ H' a = some (.lst (l.map V.int)) := fun a e => by
      show ∃ l, (if isGenL ds then g' else S.g) = some l ∧ _
      cases z : isGenL ds with
      | true =>
        rw [(hg1 z).1, e] at gi
        cases g' with
        | none => exact gi.elim
        | some l => exact ⟨l, if_pos rfl, gi⟩
      | false =>
        obtain ⟨_, l, e3, e4⟩ := R.gen a e
        refine ⟨l, by rw [if_neg (by decide)]; exact e3, sub a _ e4 ?_⟩
        rw [hg2 z]; exact fun w => nomatch w
    refine q _ H' v x ⟨Nat.succ_pos _, fun a t h => ?_, fun a t h => ?_, fun a o h n => ?_, fun a e => ?_, R.hg, R.gga, R.gnew, fun a e => ?_, R.len, fun j e h => ?_⟩ ?_
    · rcases tauC_some h with h | ⟨_, _, _, h | h⟩
      · exact Nat.lt_succ_of_lt (R.clk _ _ h)
      · rw [h]; exact Nat.lt_succ_self _
      · rw [h]; exact Nat.succ_pos _
    · rcases tauC_some h with h | ⟨_, _, h, _⟩
      · obtain ⟨o, e⟩ := R.trk _ _ h
        by_cases n : ga = some a
        · rw [(R.gen a n).1] at h; cases h
        · exact ⟨o, hsub a o e n⟩
      · exact h
    · obtain ⟨h1, h2⟩ := R.old a o h n
      have hn : ga ≠ some a := fun e => n (R.gnew a o e h)
      refine ⟨hsub a o h1 hn, ?_⟩
      rcases h2 with h2 | h2
      · exact .inl (tauC_none h2 (by rw [h1]; exact fun w => nomatch w))
      · exact .inr (tauC_old h2)
    · exact tauC_none (R.g0n a e) (R.g0at e)
    · obtain ⟨h1, l, h2, h3⟩ := R.gen a e
      exact ⟨tauC_none h1 (by rw [h3]; exact fun w => nomatch w), hgen a e⟩
    · obtain ⟨w, h1, h2⟩ := R.env j e h
      exact ⟨w, h1, R.keep x h2⟩
    · refine Rep.retag (ok := okR H H' ga' _ cls) _ d v (fun t a ht o => ?_) (Rep.noga d v ng rv)
      obtain ⟨n, tr, o⟩ := o
      have fresh : H a = none → τ a = none := R.tnone
      rcases o with ⟨rfl, o⟩ | ⟨nz, hn, k⟩
      · rw [if_pos (by decide)]
        have hc : (tags d).contains 0 = true := by simpa using ht
        have hfz : (back ds d g' S).2.fz = tagsL ds ++ S.fz := by
          show (if (tags d).contains 0 then tagsL ds ++ S.fz else S.fz) = _
          rw [if_pos hc]
        rw [hfz]
        rcases o with ⟨u, hu, o⟩ | ⟨hn, k⟩
        · rcases o with ⟨_, o | ⟨w, hw, o⟩⟩ | ⟨_, o⟩
          · exact .inl ⟨rfl, .inl (tauC_old o)⟩
          · exact .inl ⟨rfl, .inr ⟨w, List.mem_append_right _ hw, tauC_old o⟩⟩
          · exact .inl ⟨rfl, .inr ⟨u, List.mem_append_left _ hu, tauC_old o⟩⟩
        · exact .inl ⟨rfl, .inl (tauC_shr (fresh hn) hn tr k)⟩
      · rw [if_neg (by simpa using nz)]
        exact .inr ⟨Nat.ne_of_gt R.pos, tauC_cls (fresh hn) hn tr k⟩
end
end Cor

/-! CorH: the rules for expressions. -/
namespace Cor
open PySem L2

theorem star_cons {e : Expr} {es : List Expr} {env : Env} (h : isStar e = false) : starEach (e :: es) env = (false, eval e env) :: starEach es env := by
  cases e <;> first | rfl | cases h
theorem noStar_all {n : Nat} {c : Cfg} {sc : Scope} : ∀ {es : List Expr} {xs : List CE} {n : Nat}, compEs c n sc es = some xs → ∀ e ∈ es, isStar e = false
  | [], _, _, _, _, m => by cases m
  | e :: r, xs, 0, h, _, _ => by simp [compEs] at h
  | e :: r, xs, n + 1, h, e', m => by
    simp only [compEs] at h
    cases z : isStar e with
    | true => rw [z, if_pos rfl] at h; cases h
    | false =>
      rcases List.mem_cons.mp m with q | m
      · rw [q]; exact z
      · rw [z, if_neg (by decide)] at h
        cases e1 : compE c n sc e with
        | none => rw [e1] at h; cases h
        | some x =>
          cases e2 : compEs c n sc r with
          | none => rw [e1, e2] at h; cases h
          | some ys => exact noStar_all (n := n) e2 e' m
theorem star_plain {env : Env} {pos : Pos} : ∀ {es : List Expr}, (∀ e ∈ es, isStar e = false) → (backTo pos (starEach es env)).any (·.1) = false
  | [], _ => rfl
  | e :: r, h => by
    rw [star_cons (h e (by simp))]
    show (false || (backTo pos (starEach r env)).any (·.1)) = false
    rw [star_plain fun x m => h x (by simp [m])]; rfl

section
variable {K : PySem.W.Frag} {H0 : Hp} {g0 ga : Option Addr} {τ τ1 : Addr → Option Nat} {S S1 S' : Stt} {σ : St} {H H1 : Hp} {d : D} {Q : VK}
theorem Want.aft (x : Ex ga τ S H τ1 S1 H1) (q : Want K H0 g0 ga τ S H σ d S' Q) : Want K H0 g0 ga τ1 S1 H1 σ d S' Q := fun τ' H' v x' R r => q τ' H' v (x.trans x') R r
end

section
variable {c : Cfg} {cf : CallF} {k : Nat} {X : Cx} {sc : Scope} {r : Ev} {a b : Expr} {x y z : CE} {pos : Pos}

theorem snd_non {j : Nat} : PE X (.Constant .none j pos) (TX X.K (stepE cf r) .non) := peW pe_non fun σ H Q ⟨H0, g0, τ, ga, S, d, S', R, ev, q⟩ => by
  cases ev; exact Want.now R q rfl
theorem snd_bl {j : Nat} {v : Bool} : PE X (.Constant (.bool v) j pos) (TX X.K (stepE cf r) (.bl v)) := peW pe_bl fun σ H Q ⟨H0, g0, τ, ga, S, d, S', R, ev, q⟩ => by
  cases ev; exact Want.now R q rfl
theorem snd_int {j : Nat} {v : Int} : PE X (.Constant (.int v) j pos) (TX X.K (stepE cf r) (.int v)) := peW pe_int fun σ H Q ⟨H0, g0, τ, ga, S, d, S', R, ev, q⟩ => by
  cases ev; exact Want.now R q rfl
theorem snd_str {j : Nat} {v : Str} : PE X (.Constant (.str v) j pos) (TX X.K (stepE cf r) (.str v)) := peW pe_str fun σ H Q ⟨H0, g0, τ, ga, S, d, S', R, ev, q⟩ => by
  cases ev; exact Want.now R q rfl
theorem snd_bin {o : Operator} {op : BOp} (ho : opC o = some op) (ha : PE X a (TX X.K r.e x)) (hb : PE X b (TX X.K r.e y)) : PE X (.BinOp a o b pos) (TX X.K (stepE cf r) (.bin op x y)) :=
  peW (pe_op (opB_ok ho) ha hb) fun σ H Q ⟨H0, g0, τ, ga, S, d, S', R, ev, q⟩ => by
    cases e1 : r.e x S with
    | none => simp [stepE, e1] at ev
    | some p1 =>
      obtain ⟨d1, S1⟩ := p1
      cases e2 : r.e y S1 with
      | none => simp [stepE, e1, e2] at ev
      | some p2 =>
        obtain ⟨d2, S2⟩ := p2
        simp only [stepE, e1, e2] at ev
        exact ⟨H0, g0, τ, ga, S, d1, S1, R, e1, fun τ1 H1 v x1 R1 r1 => ⟨H0, g0, τ1, ga, S1, d2, S2, R1, e2, fun τ2 H2 w x2 R2 r2 => bin_ok R2 (R1.keep x2 r1) r2 ev (q.aft (x1.trans x2))⟩⟩
theorem snd_neg (ha : PE X a (TX X.K r.e x)) : PE X (.UnaryOp .USub a pos) (TX X.K (stepE cf r) (.neg x)) :=
  peW (pe_un un_neg ha) fun σ H Q ⟨H0, g0, τ, ga, S, d, S', R, ev, q⟩ => by
    cases e1 : r.e x S with
    | none => simp [stepE, e1] at ev
    | some p1 =>
      obtain ⟨d1, S1⟩ := p1
      simp only [stepE, e1] at ev
      split at ev
      · rename_i i S2 e3
        cases e3; cases ev
        exact ⟨H0, g0, τ, ga, S, _, _, R, e1, fun τ1 H1 v x1 R1 r1 => ⟨i, r1, Want.now R1 (q.aft x1) rfl⟩⟩
      · cases ev
theorem snd_not (ha : PE X a (TX X.K r.e x)) : PE X (.UnaryOp .Not a pos) (TX X.K (stepE cf r) (.not x)) :=
  peW (pe_notT ha) fun σ H Q ⟨H0, g0, τ, ga, S, d, S', R, ev, q⟩ => by
    cases e1 : r.e x S with
    | none => simp [stepE, e1] at ev
    | some p1 =>
      obtain ⟨d1, S1⟩ := p1
      cases e2 : truth d1 with
      | none => simp [stepE, e1, e2] at ev
      | some t =>
        simp [stepE, e1, e2] at ev
        obtain ⟨rfl, rfl⟩ := ev
        exact ⟨H0, g0, τ, ga, S, d1, S1, R, e1, fun τ1 H1 v x1 R1 r1 => ⟨t, truth_ok r1 e2, Want.now R1 (q.aft x1) rfl⟩⟩
theorem snd_and {rest : List Expr} (ha : PE X a (TX X.K r.e x)) (hb : PE X (.BoolOp .And (b :: rest) pos) (TX X.K r.e y)) : PE X (.BoolOp .And (a :: b :: rest) pos) (TX X.K (stepE cf r) (.and x y)) :=
  peW (pe_andT ha hb) fun σ H Q ⟨H0, g0, τ, ga, S, d, S', R, ev, q⟩ => by
    cases e1 : r.e x S with
    | none => simp [stepE, e1] at ev
    | some p1 =>
      obtain ⟨d1, S1⟩ := p1
      refine ⟨H0, g0, τ, ga, S, d1, S1, R, e1, fun τ1 H1 v x1 R1 r1 => ?_⟩
      cases e2 : truth d1 with
      | none => simp [stepE, e1, e2] at ev
      | some t =>
        refine ⟨t, truth_ok r1 e2, ?_⟩
        cases t with
        | true =>
          simp only [stepE, e1, e2] at ev
          exact ⟨H0, g0, τ1, ga, S1, d, S', R1, ev, q.aft x1⟩
        | false =>
          simp [stepE, e1, e2] at ev
          obtain ⟨rfl, rfl⟩ := ev
          exact Want.now R1 (q.aft x1) r1
theorem snd_or {rest : List Expr} (ha : PE X a (TX X.K r.e x)) (hb : PE X (.BoolOp .Or (b :: rest) pos) (TX X.K r.e y)) : PE X (.BoolOp .Or (a :: b :: rest) pos) (TX X.K (stepE cf r) (.or x y)) :=
  peW (pe_orT ha hb) fun σ H Q ⟨H0, g0, τ, ga, S, d, S', R, ev, q⟩ => by
    cases e1 : r.e x S with
    | none => simp [stepE, e1] at ev
    | some p1 =>
      obtain ⟨d1, S1⟩ := p1
      refine ⟨H0, g0, τ, ga, S, d1, S1, R, e1, fun τ1 H1 v x1 R1 r1 => ?_⟩
      cases e2 : truth d1 with
      | none => simp [stepE, e1, e2] at ev
      | some t =>
        refine ⟨t, truth_ok r1 e2, ?_⟩
        cases t with
        | true =>
          simp [stepE, e1, e2] at ev
          obtain ⟨rfl, rfl⟩ := ev
          exact Want.now R1 (q.aft x1) r1
        | false =>
          simp only [stepE, e1, e2] at ev
          exact ⟨H0, g0, τ1, ga, S1, d, S', R1, ev, q.aft x1⟩
theorem cmp_ev {op : COp} {S S' : Stt} {d : D} (ev : stepE cf r (.cmp op x y) S = some (d, S')) : ∃ d1 S1 d2 t, r.e x S = some (d1, S1) ∧ r.e y S1 = some (d2, S') ∧ opCmp op d1 d2 = some t ∧ d = .bl t := by
  cases e1 : r.e x S with
  | none => simp [stepE, e1] at ev
  | some p1 =>
    obtain ⟨d1, S1⟩ := p1
    cases e2 : r.e y S1 with
    | none => simp [stepE, e1, e2] at ev
    | some p2 =>
      obtain ⟨d2, S2⟩ := p2
      cases e3 : opCmp op d1 d2 with
      | none => simp [stepE, e1, e2, e3] at ev
      | some t =>
        simp [stepE, e1, e2, e3] at ev
        obtain ⟨rfl, rfl⟩ := ev
        exact ⟨d1, S1, d2, t, rfl, e2, e3, rfl⟩
theorem snd_cmp (C : CtxOk c cf k X sc) {o : CmpOp} (hm : behindInMarks o b = false) (ha : PE X a (TX X.K r.e x)) (hb : PE X b (TX X.K r.e y)) : PE X (.Compare a [o] [b] pos) (TX X.K (stepE cf r) (.cmp (cmpC o) x y)) :=
  peW (pe_cmpR (opC_ok C.hu o) ha hb hm) fun σ H Q ⟨H0, g0, τ, ga, S, d, S', R, ev, q⟩ => by
    obtain ⟨d1, S1, d2, t, e1, e2, e3, rfl⟩ := cmp_ev ev
    exact ⟨H0, g0, τ, ga, S, d1, S1, R, e1, fun τ1 H1 v x1 R1 r1 => ⟨H0, g0, τ1, ga, S1, d2, S', R1, e2, fun τ2 H2 w x2 R2 r2 => cmp_ok (R1.keep x2 r1) r2 e3 (Want.now R2 (q.aft (x1.trans x2)) rfl)⟩⟩
theorem snd_cmpT (C : CtxOk c cf k X sc) {o : CmpOp} (hm : behindInMarks o b = false) (ha : PE X a (TX X.K r.e x)) (hb : PE X b (TX X.K r.e y)) : PT X (.Compare a [o] [b] pos) (TXt X.K (stepE cf r) (.cmp (cmpC o) x y)) :=
  ptW (pt_cmpR (opC_ok C.hu o) ha hb hm) fun σ H Q ⟨H0, g0, τ, ga, S, d, t', S', R, ev, et, q⟩ => by
    obtain ⟨d1, S1, d2, t, e1, e2, e3, rfl⟩ := cmp_ev ev
    obtain rfl : t = t' := Option.some.inj et
    exact ⟨H0, g0, τ, ga, S, d1, S1, R, e1, fun τ1 H1 v x1 R1 r1 => ⟨H0, g0, τ1, ga, S1, d2, S', R1, e2, fun τ2 H2 w x2 R2 r2 => cmp_ok (R1.keep x2 r1) r2 e3 ⟨t, rfl, q _ _ (x1.trans x2) R2⟩⟩⟩
theorem chain_ev {op op' : COp} {S S' : Stt} {d : D} (ev : stepE cf r (.chain op op' x y z) S = some (d, S')) : ∃ d1 S1 d2 S2 t, r.e x S = some (d1, S1) ∧ r.e y S1 = some (d2, S2) ∧ opCmp op d1 d2 = some t ∧
    ((t = true ∧ ∃ d3 t', r.e z S2 = some (d3, S') ∧ opCmp op' d2 d3 = some t' ∧ d = .bl t') ∨ (t = false ∧ d = .bl false ∧ S' = S2)) := by
  cases e1 : r.e x S with
  | none => simp [stepE, e1] at ev
  | some p1 =>
    obtain ⟨d1, S1⟩ := p1
    cases e2 : r.e y S1 with
    | none => simp [stepE, e1, e2] at ev
    | some p2 =>
      obtain ⟨d2, S2⟩ := p2
      cases e3 : opCmp op d1 d2 with
      | none => simp [stepE, e1, e2, e3] at ev
      | some t =>
        refine ⟨d1, S1, d2, S2, t, rfl, e2, e3, ?_⟩
        cases t with
        | false =>
          simp [stepE, e1, e2, e3] at ev
          exact .inr ⟨rfl, ev.1.symm, ev.2.symm⟩
        | true =>
          left
          cases e4 : r.e z S2 with
          | none => simp [stepE, e1, e2, e3, e4] at ev
          | some p3 =>
            obtain ⟨d3, S3⟩ := p3
            cases e5 : opCmp op' d2 d3 with
            | none => simp [stepE, e1, e2, e3, e4, e5] at ev
            | some t' =>
              simp [stepE, e1, e2, e3, e4, e5] at ev
              obtain ⟨rfl, rfl⟩ := ev
              exact ⟨rfl, d3, t', rfl, e5, rfl⟩
theorem chain_rd {d' : Expr} {o o' : CmpOp} {H0 : Hp} {g0 ga : Option Addr} {τ : Addr → Option Nat} {S S' : Stt} {d : D} {σ : St} {H : Hp} {Q : VK} (R : Rl X.K H0 g0 τ ga S σ H) (ev : stepE cf r (.chain (cmpC o) (cmpC o') x y z) S = some (d, S'))
    (q : ∀ t, d = .bl t → ∀ τ' H', Ex ga τ S H τ' S' H' → Rl X.K H0 g0 τ' ga S' σ H' → Q (.bl t) H') : tChain (rC X.K (cmpC o)) (rC X.K (cmpC o')) (TX X.K r.e x) (TX X.K r.e y) (TX X.K r.e z) σ H Q := by
  obtain ⟨d1, S1, d2, S2, t, e1, e2, e3, h⟩ := chain_ev ev
  refine ⟨H0, g0, τ, ga, S, d1, S1, R, e1, fun τ1 H1 v x1 R1 r1 => ⟨H0, g0, τ1, ga, S1, d2, S2, R1, e2, fun τ2 H2 w x2 R2 r2 => cmp_ok (R1.keep x2 r1) r2 e3 ⟨t, rfl, ?_⟩⟩⟩
  rcases h with ⟨rfl, d3, t', e4, e5, rfl⟩ | ⟨rfl, rfl, rfl⟩
  · rw [if_pos rfl]
    exact ⟨H0, g0, τ2, ga, S2, d3, S', R2, e4, fun τ3 H3 u x3 R3 r3 => cmp_ok (R2.keep x3 r2) r3 e5 (q t' rfl _ _ ((x1.trans x2).trans x3) R3)⟩
  · rw [if_neg (by decide)]
    exact q false rfl _ _ (x1.trans x2) R2
theorem snd_chain (C : CtxOk c cf k X sc) {d' : Expr} {o o' : CmpOp} (hm : lastMarks [o, o'] [b, d'] = false) (ha : PE X a (TX X.K r.e x)) (hb : PE X b (TX X.K r.e y)) (hd : PE X d' (TX X.K r.e z)) :
    PE X (.Compare a [o, o'] [b, d'] pos) (TX X.K (stepE cf r) (.chain (cmpC o) (cmpC o') x y z)) :=
  peW (pe_chain (opC_ok C.hu o) (opC_ok C.hu o') ha hb hd hm) fun σ H Q ⟨H0, g0, τ, ga, S, d, S', R, ev, q⟩ => chain_rd (d' := d') R ev fun t e τ' H' x' R' => by
    rw [e] at q; exact q τ' H' _ x' R' rfl
theorem snd_chainT (C : CtxOk c cf k X sc) {d' : Expr} {o o' : CmpOp} (hm : lastMarks [o, o'] [b, d'] = false) (ha : PE X a (TX X.K r.e x)) (hb : PE X b (TX X.K r.e y)) (hd : PE X d' (TX X.K r.e z)) :
    PT X (.Compare a [o, o'] [b, d'] pos) (TXt X.K (stepE cf r) (.chain (cmpC o) (cmpC o') x y z)) :=
  ptW (pt_chain (opC_ok C.hu o) (opC_ok C.hu o') ha hb hd hm) fun σ H Q ⟨H0, g0, τ, ga, S, d, t', S', R, ev, et, q⟩ => by
    have w : tChain (rC X.K (cmpC o)) (rC X.K (cmpC o')) (TX X.K r.e x) (TX X.K r.e y) (TX X.K r.e z) σ H (fun v H' => ∃ k, v = .bl k ∧ Q k H') := chain_rd (d' := d') R ev fun t e τ' H' x' R' => by
      rw [e] at et
      obtain rfl : t = t' := Option.some.inj et
      exact ⟨t, rfl, q τ' H' x' R'⟩
    exact w
theorem snd_ite {t : Expr} (ht : PT X t (TXt X.K r.e z)) (ha : PE X a (TX X.K r.e x)) (hb : PE X b (TX X.K r.e y)) : PE X (.IfExp t a b pos) (TX X.K (stepE cf r) (.ite z x y)) :=
  peW (pe_ifExp ht ha hb) fun σ H Q ⟨H0, g0, τ, ga, S, d, S', R, ev, q⟩ => by
    cases e1 : r.e z S with
    | none => simp [stepE, e1] at ev
    | some p1 =>
      obtain ⟨d1, S1⟩ := p1
      cases e2 : truth d1 with
      | none => simp [stepE, e1, e2] at ev
      | some t =>
        refine ⟨H0, g0, τ, ga, S, d1, t, S1, R, e1, e2, fun τ1 H1 x1 R1 => ?_⟩
        cases t with
        | true =>
          simp only [stepE, e1, e2] at ev
          exact ⟨H0, g0, τ1, ga, S1, d, S', R1, ev, q.aft x1⟩
        | false =>
          simp only [stepE, e1, e2] at ev
          exact ⟨H0, g0, τ1, ga, S1, d, S', R1, ev, q.aft x1⟩

/-! ### tests -/
theorem snd_truth {e : Expr} (hb : byTruth e = true) (he : PE X e (TX X.K (stepE cf r) x)) : PT X e (TXt X.K (stepE cf r) x) := by
  refine ptW (pt_truth he ?_) fun σ H Q ⟨H0, g0, τ, ga, S, d, t, S', R, ev, et, q⟩ => ⟨H0, g0, τ, ga, S, d, S', R, ev, fun τ1 H1 v x1 R1 r1 => ⟨t, truth_ok r1 et, q τ1 H1 x1 R1⟩⟩
  intro w
  cases e with
  | UnaryOp op a p => cases op <;> first | rfl | cases hb
  | BoolOp _ _ _ => cases hb
  | IfExp _ _ _ _ => cases hb
  | Compare _ _ _ _ => cases hb
  | _ => rfl
theorem snd_notT (ha : PT X a (TXt X.K r.e x)) : PT X (.UnaryOp .Not a pos) (TXt X.K (stepE cf r) (.not x)) :=
  ptW (pt_not ha) fun σ H Q ⟨H0, g0, τ, ga, S, d, t, S', R, ev, et, q⟩ => by
    cases e1 : r.e x S with
    | none => simp [stepE, e1] at ev
    | some p1 =>
      obtain ⟨d1, S1⟩ := p1
      cases e2 : truth d1 with
      | none => simp [stepE, e1, e2] at ev
      | some t' =>
        simp [stepE, e1, e2] at ev
        obtain ⟨rfl, rfl⟩ := ev
        obtain rfl : (!t') = t := Option.some.inj et
        exact ⟨H0, g0, τ, ga, S, d1, t', S1, R, e1, e2, fun τ1 H1 x1 R1 => q τ1 H1 x1 R1⟩
theorem snd_andT {rest : List Expr} (ha : PT X a (TXt X.K r.e x)) (hb : PW X (.BoolOp .And (b :: rest) pos) (TXt X.K r.e y)) : PW X (.BoolOp .And (a :: b :: rest) pos) (TXt X.K (stepE cf r) (.and x y)) :=
  pwW (pw_and ha hb) fun σ H Q ⟨H0, g0, τ, ga, S, d, t, S', R, ev, et, q⟩ => by
    cases e1 : r.e x S with
    | none => simp [stepE, e1] at ev
    | some p1 =>
      obtain ⟨d1, S1⟩ := p1
      cases e2 : truth d1 with
      | none => simp [stepE, e1, e2] at ev
      | some t1 =>
        refine ⟨H0, g0, τ, ga, S, d1, t1, S1, R, e1, e2, fun τ1 H1 x1 R1 => ?_⟩
        cases t1 with
        | true =>
          simp only [stepE, e1, e2] at ev
          exact ⟨H0, g0, τ1, ga, S1, d, t, S', R1, ev, et, fun τ' H' x' R' => q τ' H' (x1.trans x') R'⟩
        | false =>
          simp [stepE, e1, e2] at ev
          obtain ⟨rfl, rfl⟩ := ev
          rw [e2] at et; cases et
          exact q τ1 H1 x1 R1
theorem snd_orT {rest : List Expr} (ha : PT X a (TXt X.K r.e x)) (hb : PW X (.BoolOp .Or (b :: rest) pos) (TXt X.K r.e y)) : PW X (.BoolOp .Or (a :: b :: rest) pos) (TXt X.K (stepE cf r) (.or x y)) :=
  pwW (pw_or ha hb) fun σ H Q ⟨H0, g0, τ, ga, S, d, t, S', R, ev, et, q⟩ => by
    cases e1 : r.e x S with
    | none => simp [stepE, e1] at ev
    | some p1 =>
      obtain ⟨d1, S1⟩ := p1
      cases e2 : truth d1 with
      | none => simp [stepE, e1, e2] at ev
      | some t1 =>
        refine ⟨H0, g0, τ, ga, S, d1, t1, S1, R, e1, e2, fun τ1 H1 x1 R1 => ?_⟩
        cases t1 with
        | false =>
          simp only [stepE, e1, e2] at ev
          exact ⟨H0, g0, τ1, ga, S1, d, t, S', R1, ev, et, fun τ' H' x' R' => q τ' H' (x1.trans x') R'⟩
        | true =>
          simp [stepE, e1, e2] at ev
          obtain ⟨rfl, rfl⟩ := ev
          rw [e2] at et; cases et
          exact q τ1 H1 x1 R1

/-! ### arguments -/
theorem snd_nil : PA X [] (TXs X.K r []) := paW pa_nil fun σ H Q ⟨H0, g0, τ, ga, S, ds, S', R, ev, q⟩ => by
  cases ev
  exact q τ H [] (Ex.refl _ _ _ _) R rfl
theorem snd_cons {es : List Expr} {xs : List CE} (hs : isStar a = false) (ha : PE X a (TX X.K r.e x)) (hr : PA X es (TXs X.K r xs)) : PA X (a :: es) (TXs X.K r (x :: xs)) :=
  paW (pa_cons ha hr (star_cons hs)) fun σ H Q ⟨H0, g0, τ, ga, S, ds, S', R, ev, q⟩ => by
    cases e1 : r.e x S with
    | none => simp [evEs, e1] at ev
    | some p1 =>
      obtain ⟨d1, S1⟩ := p1
      cases e2 : evEs r xs S1 with
      | none => simp [evEs, e1, e2] at ev
      | some p2 =>
        obtain ⟨ds2, S2⟩ := p2
        simp [evEs, e1, e2] at ev
        obtain ⟨rfl, rfl⟩ := ev
        exact ⟨H0, g0, τ, ga, S, d1, S1, R, e1, fun τ1 H1 v x1 R1 r1 => ⟨H0, g0, τ1, ga, S1, ds2, S2, R1, e2, fun τ2 H2 vs x2 R2 r2 => q τ2 H2 (v :: vs) (x1.trans x2) R2 ⟨v, vs, rfl, R1.keep x2 r1, r2⟩⟩⟩
/-! ### parts of a slice, a clause's test -/
theorem snd_o0 : PO X none (TXo X.K r none) := poW po_none fun σ H Q ⟨H0, g0, τ, ga, S, i, S', R, ev, q⟩ => by
  cases ev
  exact q τ H (Ex.refl _ _ _ _) R
theorem snd_o1 (ha : PE X a (TX X.K r.e x)) : PO X (some a) (TXo X.K r (some x)) := poW (po_some ha) fun σ H Q ⟨H0, g0, τ, ga, S, i, S', R, ev, q⟩ => by
  cases e1 : r.e x S with
  | none => simp [evO, e1] at ev
  | some p1 =>
    obtain ⟨d1, S1⟩ := p1
    simp only [evO, e1] at ev
    split at ev
    · rename_i j S2 e3
      cases e3; cases ev
      exact ⟨H0, g0, τ, ga, S, _, _, R, e1, fun τ1 H1 v x1 R1 r1 => ⟨j, r1, q τ1 H1 x1 R1⟩⟩
    · cases ev
theorem snd_f0 : PTs X [] (TXf X.K r none) := ptsW pts_nil fun σ H Q ⟨H0, g0, τ, ga, S, b, S', R, ev, q⟩ => by
  cases ev
  exact q τ H (Ex.refl _ _ _ _) R
theorem snd_f1 (ha : PT X a (TXt X.K r.e x)) : PTs X [a] (TXf X.K r (some x)) := ptsW (pts_one ha) fun σ H Q ⟨H0, g0, τ, ga, S, b, S', R, ev, q⟩ => by
  cases e1 : r.e x S with
  | none => simp [testO, e1] at ev
  | some p1 =>
    obtain ⟨d1, S1⟩ := p1
    cases e2 : truth d1 with
    | none => simp [testO, e1, e2] at ev
    | some t =>
      simp [testO, e1, e2] at ev
      obtain ⟨rfl, rfl⟩ := ev
      exact ⟨H0, g0, τ, ga, S, d1, t, S1, R, e1, e2, q⟩
/-! ### displays -/
theorem snd_lst {es : List Expr} {xs : List CE} (h : PA X es (TXs X.K r xs)) : PE X (.List es pos) (TX X.K (stepE cf r) (.lst xs)) :=
  peW (pe_lst h) fun σ H Q ⟨H0, g0, τ, ga, S, d, S', R, ev, q⟩ => by
    cases e1 : evEs r xs S with
    | none => simp [stepE, e1] at ev
    | some p1 =>
      obtain ⟨ds, S1⟩ := p1
      simp only [stepE, e1] at ev
      split at ev
      · rename_i z1
        obtain ⟨z1, z2⟩ := b2 z1
        obtain ⟨rfl, rfl⟩ := new_eq ev
        refine ⟨H0, g0, τ, ga, S, ds, S1, R, e1, fun τ1 H1 vs x1 R1 r1 => ⟨by rw [RepA.length r1]; exact fits_le z2, fun p hp => ?_⟩⟩
        refine Want.new (f := fun t => mkL t ds) R1 (q.aft x1) hp (Rep.mkL R1.okNew upd_same (R1.keepL (R1.allocX hp _) (RepA.noGen r1 z1)))
      · cases ev
theorem snd_tup {es : List Expr} {xs : List CE} {j : Nat} (h : PA X es (TXs X.K r xs)) : PE X (.Tuple es j pos) (TX X.K (stepE cf r) (.tup xs)) :=
  peW (pe_tup h) fun σ H Q ⟨H0, g0, τ, ga, S, d, S', R, ev, q⟩ => by
    cases e1 : evEs r xs S with
    | none => simp [stepE, e1] at ev
    | some p1 =>
      obtain ⟨ds, S1⟩ := p1
      simp only [stepE, e1] at ev
      split at ev
      · rename_i z1
        obtain ⟨z1, z2⟩ := b2 z1
        cases ev
        refine ⟨H0, g0, τ, ga, S, ds, _, R, e1, fun τ1 H1 vs x1 R1 r1 => ⟨by rw [RepA.length r1]; exact fits_le z2, fun p hp => ?_⟩⟩
        obtain ⟨R2, x2⟩ := R1.laid hp (.tup vs)
        exact q _ _ _ (x1.trans x2) R2 ⟨p, vs, rfl, SqT.of upd_same, R1.keepL x2 (RepA.noGen r1 z1)⟩
      · cases ev
end
end Cor

/-! CorI: items, slices, built-ins, calls. -/
namespace Cor
open PySem L2

/-! ### items -/
def rIdx (K : PySem.W.Frag) : R2 := fun x y H Q => rIx K x y H Q ∨ (∃ a v, x = .ref a ∧ DGet H a y (some v) ∧ Q v H) ∨
  ∃ a kvs i j, x = .ref a ∧ y = .int i ∧ GDict K a kvs ∧ ((kvs.find? fun kv => decide (kv.1 = i)).map fun kv => kv.2) = some j ∧ Q (.int j) H
theorem gd_val (i : Int) : ∀ kvs : List (Int × Int), valV (kvs.map fun kv => ((Sum.inl kv.1 : L2.Key), V.int kv.2)) (Sum.inl i) = ((kvs.find? fun kv => decide (kv.1 = i)).map fun kv => V.int kv.2)
  | [] => rfl
  | (k, v) :: r => by
    by_cases e : k = i
    · rw [List.map_cons, valV_pos (by rw [e]), List.find?_cons_of_pos (by simpa using e)]; rfl
    · rw [List.map_cons, valV_neg (fun q => e (Sum.inl.inj q)), List.find?_cons_of_neg (by simpa using e)]
      exact gd_val i r
theorem ix_all {X : Cx} (hu : X.A.units + 1 < cLine) : IxR X (rIdx X.K) := by
  refine IxR.or ix_seq (IxR.or ?_ ?_)
  · intro value slice pins s σ H x y v u Q I rx ry q hs
    obtain ⟨a, z, rfl, g, q⟩ := q
    obtain rfl : v = Value.ref a := rx
    exact PyProof.Rows.tail_any (dict_typeIs I g) PySem.F.slot_dict_getitem.lookup (d_getItem hu I g ry fun w' s3 I3 r => ⟨z, H, I3, r, q⟩) hs
  · intro value slice pins s σ H x y v u Q I rx ry q hs
    obtain ⟨a, kvs, i, j, rfl, rfl, ⟨_, gd⟩, e, q⟩ := q
    obtain rfl : v = Value.ref a := rx
    obtain ⟨vs, rel, dd⟩ := gd X.prog X.w s.heap I.kIn
    obtain ⟨w', hw, rw'⟩ := RelO.some_of (v := .int j) (o := valueAt vs (Sum.inl i)) (by
      have := rel.val (Sum.inl i : L2.Key)
      rw [gd_val] at this
      cases z : (kvs.find? fun kv => decide (kv.1 = i)) with
      | none => rw [z] at e; cases e
      | some kv => rw [z] at e this; cases e; exact this)
    exact PyProof.Rows.tail_any dd.typeIs PySem.F.slot_dict_getitem.lookup (wpAny_getItem_of (kV_is (k := Sum.inl i) ry) dd.mapOf hw ⟨.int j, H, I.tok _, rw', q⟩) hs
theorem plain_ix {b : Expr} (h : isSlice b = false) : PlainIx b := fun o i => by
  cases b <;> first | rfl | cases h

section
variable {K : PySem.W.Frag} {H0 : Hp} {g0 ga : Option Addr} {τ : Addr → Option Nat} {S S' : Stt} {σ : St} {H : Hp} {d x y : D} {v w : V} {Q : VK}
theorem place_ix (n : Nat) (i : Int) : place n i = ixN n i := rfl
theorem atI_of {vs : List V} {n : Nat} {i : Int} {j : Nat} {z : V} (hn : vs.length = n) (h1 : place n i = some j) (h2 : vs[j]? = some z) : atI vs i = some z := by
  unfold atI
  rw [hn, ← place_ix, h1]
  exact h2
theorem ints_get {l : List Int} {j : Nat} {z : Int} (h : l[j]? = some z) : (l.map V.int)[j]? = some (.int z) := by rw [List.getElem?_map, h]; rfl
theorem idx_ok (R : Rl K H0 g0 τ ga S σ H) (rx : Rep K H (okf τ S.fz) ga x v) (ry : Rep K H (okf τ S.fz) ga y w) (e : opIdx S x y = some d)
    (q : ∀ z, Rep K H (okf τ S.fz) ga d z → Q z H) : rIdx K v w H Q := by
  have li : ∀ {l : List Int} {a : Addr} {i : Int}, SqL K H a (l.map V.int) → ((place l.length i).bind fun j => (l[j]?).map D.int) = some d → rIdx K (.ref a) (.int i) H Q := fun {l a i} hq e => by
    cases e1 : place l.length i with
    | none => rw [e1] at e; cases e
    | some j =>
      rw [e1] at e
      cases e2 : l[j]? with
      | none => rw [Option.bind_some, e2] at e; cases e
      | some z =>
        rw [Option.bind_some, e2] at e; cases e
        exact .inl (.inl ⟨a, _, i, .int z, rfl, rfl, hq, atI_of (List.length_map _) e1 (ints_get e2), q _ rfl⟩)
  have ls : ∀ {xs : List D} {vs : List V} {i : Int}, RepL K H (okf τ S.fz) ga xs vs → ((place xs.length i).bind fun j => xs[j]?) = some d → ∃ z, atI vs i = some z ∧ Q z H := fun {xs vs i} r e => by
    cases e1 : place xs.length i with
    | none => rw [e1] at e; cases e
    | some j =>
      rw [e1, Option.bind_some] at e
      obtain ⟨z, h1, h2, _⟩ := RepL.get r e
      exact ⟨z, atI_of (RepL.length r) e1 h1, q z h2⟩
  unfold opIdx at e
  split at e
  · obtain ⟨a, rfl, _, hq⟩ := rx
    rw [show w = .int _ from ry]
    exact li (SqL.of hq) e
  · obtain ⟨a, vs, rfl, _, hq, r⟩ := rx
    rw [show w = .int _ from ry]
    obtain ⟨z, h1, h2⟩ := ls r e
    exact .inl (.inl ⟨a, _, _, z, rfl, rfl, SqL.of hq, h1, h2⟩)
  · obtain ⟨a, vs, rfl, hq, r⟩ := rx
    rw [show w = .int _ from ry]
    obtain ⟨z, h1, h2⟩ := ls r e
    exact .inl (.inr (.inl ⟨a, _, _, z, rfl, rfl, hq, h1, h2⟩))
  · obtain ⟨a, rfl, hq⟩ := rx
    rw [show w = .int _ from ry]
    exact li hq.sq e
  · obtain ⟨a, rfl, hg⟩ := rx
    rw [show w = .int _ from ry]
    obtain ⟨_, l, h1, h2⟩ := R.gen a hg
    rw [h1, Option.bind_some] at e
    exact li (SqL.of h2) e
  · rename_i t kvs i
    obtain ⟨a, vs, rfl, _, hq, r⟩ := rx
    rw [show w = .int _ from ry]
    refine .inr (.inl ?_)
    have go : ∀ {kvs : List (DKey × D)} {vs : List (L2.Key × V)}, RepK K H (okf τ S.fz) ga kvs vs → (kvs.find? fun kv => decide (kv.1 = .int i)).map (·.2) = some d → ∃ z, valV vs (Sum.inl i) = some z ∧ Rep K H (okf τ S.fz) ga d z := by
      intro kvs
      induction kvs with
      | nil => intro vs _ e; cases e
      | cons kv rest ih =>
        intro vs r e
        obtain ⟨k, d0⟩ := kv
        obtain ⟨k', z, r', rfl, hk, h1, _, h2⟩ := r
        by_cases ek : k = .int i
        · subst ek
          cases hk
          rw [List.find?_cons_of_pos (by simp)] at e
          cases e
          exact ⟨z, valV_pos rfl, h1⟩
        · rw [List.find?_cons_of_neg (by simpa using ek)] at e
          obtain ⟨z', h3, h4⟩ := ih h2 e
          refine ⟨z', ?_, h4⟩
          rw [valV_neg]
          · exact h3
          · intro q
            cases k with
            | int j => cases hk; exact ek (by rw [Sum.inl.inj q])
            | str s => cases hk; cases q
            | «ints» l => cases hk
    obtain ⟨z, h1, h2⟩ := go r e
    exact ⟨a, z, rfl, by rw [← h1]; exact DGet.k (k := Sum.inl i) hq, q z h2⟩
  · rename_i kvs i
    obtain ⟨a, rfl, hg⟩ := rx
    rw [show w = .int _ from ry]
    cases e1 : (kvs.find? fun kv => decide (kv.1 = i)) with
    | none => rw [e1] at e; cases e
    | some kv =>
      rw [e1] at e; cases e
      exact .inr (.inr ⟨a, kvs, i, kv.2, rfl, rfl, hg, by rw [e1]; rfl, q _ rfl⟩)
  · cases e

/-! ### slices -/
def rSl (K : PySem.W.Frag) (x : V) (lo hi : Option Int) (H : Hp) (Q : VK) : Prop := rSlL K x lo hi H Q ∨ rSlA K x lo hi H Q
theorem cut_eq (vs : List V) (lo hi : Option Int) : cutV vs lo hi = cutL vs lo hi := rfl
theorem RepL.cut {xs : List D} {vs : List V} {ok : OkT} (r : RepL K H ok ga xs vs) (lo hi : Option Int) : RepL K H ok ga (cutL xs lo hi) (cutL vs lo hi) := by
  unfold cutL
  rw [RepL.length r]
  exact RepL.take _ (RepL.drop _ r)
theorem cut_map (l : List Int) (lo hi : Option Int) : (cutL l lo hi).map V.int = cutL (l.map V.int) lo hi := by
  unfold cutL
  rw [List.map_take, List.map_drop, List.length_map]
theorem sl_ok {lo hi : Option Int} (R : Rl K H0 g0 τ ga S σ H) (rx : Rep K H (okf τ S.fz) ga x v) (e : opSl x lo hi S = some (d, S')) (q : Want K H0 g0 ga τ S H σ d S' Q) : rSl K v lo hi H Q := by
  unfold opSl at e
  split at e
  · obtain ⟨rfl, rfl⟩ := new_eq e
    obtain ⟨a, rfl, _, hq⟩ := rx
    refine .inl ⟨a, _, rfl, SqL.of hq, fun p hp => Want.new (f := fun t => .ints t _) R q hp ⟨p, rfl, R.okNew, by rw [upd_same, cut_map]; rfl⟩⟩
  · obtain ⟨rfl, rfl⟩ := new_eq e
    obtain ⟨a, vs, rfl, _, hq, r⟩ := rx
    refine .inl ⟨a, _, rfl, SqL.of hq, fun p hp => Want.new (f := fun t => .lst t _) R q hp ⟨p, _, rfl, R.okNew, upd_same, R.keepL (R.allocX hp _) (RepL.cut r lo hi)⟩⟩
  · obtain ⟨rfl, rfl⟩ := new_eq e
    obtain ⟨a, rfl, hq⟩ := rx
    refine .inl ⟨a, _, rfl, hq.sq, fun p hp => Want.new (f := fun t => .ints t _) R q hp ⟨p, rfl, R.okNew, by rw [upd_same, cut_map]; rfl⟩⟩
  · cases e
    obtain ⟨a, vs, rfl, hq, r⟩ := rx
    refine .inr ⟨a, vs, rfl, hq, fun z => ?_, fun _ p hp => ?_⟩
    · refine Want.now R q ⟨a, _, rfl, hq, ?_⟩
      have h := RepL.cut r lo hi
      have e : cutL vs lo hi = vs := by
        have z1 : cut vs.length 0 lo = 0 := z.1
        have z2 : cut vs.length vs.length hi = vs.length := z.2
        unfold cutL
        rw [z1, z2]; simp
      rw [e] at h; exact h
    · obtain ⟨R2, x2⟩ := R.laid hp (.tup (cutV vs lo hi))
      exact q _ _ _ x2 R2 ⟨p, _, rfl, SqT.of upd_same, R.keepL x2 (RepL.cut r lo hi)⟩
  · cases e
theorem rev_ok (R : Rl K H0 g0 τ ga S σ H) (rx : Rep K H (okf τ S.fz) ga x v) (e : opRev x S = some (d, S')) (q : Want K H0 g0 ga τ S H σ d S' Q) :
    ∃ a xs, v = .ref a ∧ SqL K H a xs ∧ ∀ p, H p = none → Q (.ref p) (upd H p (.lst xs.reverse)) := by
  unfold opRev at e
  split at e
  · obtain ⟨rfl, rfl⟩ := new_eq e
    obtain ⟨a, rfl, _, hq⟩ := rx
    exact ⟨a, _, rfl, SqL.of hq, fun p hp => Want.new (f := fun t => .ints t _) R q hp ⟨p, rfl, R.okNew, by rw [upd_same, List.map_reverse]⟩⟩
  · obtain ⟨rfl, rfl⟩ := new_eq e
    obtain ⟨a, vs, rfl, _, hq, r⟩ := rx
    exact ⟨a, _, rfl, SqL.of hq, fun p hp => Want.new (f := fun t => .lst t _) R q hp ⟨p, _, rfl, R.okNew, upd_same, R.keepL (R.allocX hp _) (RepL.reverse r)⟩⟩
  · cases e
end

section
variable {c : Cfg} {cf : CallF} {k : Nat} {X : Cx} {sc : Scope} {r : Ev} {a b : Expr} {x y z : CE} {pos : Pos}
theorem snd_idx (C : CtxOk c cf k X sc) (hb : isSlice b = false) (ha : PE X a (TX X.K r.e x)) (hi : PE X b (TX X.K r.e y)) : PE X (.Subscript a b pos) (TX X.K (stepE cf r) (.idx x y)) :=
  peW (pe_ix (ix_all (by have := C.hu; omega)) ha hi (plain_ix hb)) fun σ H Q ⟨H0, g0, τ, ga, S, d, S', R, ev, q⟩ => by
    cases e1 : r.e x S with
    | none => simp [stepE, e1] at ev
    | some p1 =>
      obtain ⟨d1, S1⟩ := p1
      cases e2 : r.e y S1 with
      | none => simp [stepE, e1, e2] at ev
      | some p2 =>
        obtain ⟨d2, S2⟩ := p2
        cases e3 : opIdx S2 d1 d2 with
        | none => simp [stepE, e1, e2, e3] at ev
        | some d3 =>
          simp [stepE, e1, e2, e3] at ev
          obtain ⟨rfl, rfl⟩ := ev
          exact ⟨H0, g0, τ, ga, S, d1, S1, R, e1, fun τ1 H1 v x1 R1 r1 => ⟨H0, g0, τ1, ga, S1, d2, S2, R1, e2, fun τ2 H2 w x2 R2 r2 => idx_ok R2 (R1.keep x2 r1) r2 e3 fun u ru => Want.now R2 (q.aft (x1.trans x2)) ru⟩⟩
theorem snd_sl {lo hi : Option Expr} {l h : Option CE} {p2 : Pos} (ha : PE X a (TX X.K r.e x)) (hl : PO X lo (TXo X.K r l)) (hh : PO X hi (TXo X.K r h)) : PE X (.Subscript a (.Slice lo hi none p2) pos) (TX X.K (stepE cf r) (.sl x l h)) :=
  peW (pe_slice (SlR.or sl_list sl_tupA) ha hl hh) fun σ H Q ⟨H0, g0, τ, ga, S, d, S', R, ev, q⟩ => by
    cases e1 : r.e x S with
    | none => simp [stepE, e1] at ev
    | some p1 =>
      obtain ⟨d1, S1⟩ := p1
      cases e2 : evO r l S1 with
      | none => simp [stepE, e1, e2] at ev
      | some p2 =>
        obtain ⟨i, S2⟩ := p2
        cases e3 : evO r h S2 with
        | none => simp [stepE, e1, e2, e3] at ev
        | some p3 =>
          obtain ⟨j, S3⟩ := p3
          simp only [stepE, e1, e2, e3] at ev
          exact ⟨H0, g0, τ, ga, S, d1, S1, R, e1, fun τ1 H1 v x1 R1 r1 => ⟨H0, g0, τ1, ga, S1, i, S2, R1, e2, fun τ2 H2 x2 R2 => ⟨H0, g0, τ2, ga, S2, j, S3, R2, e3, fun τ3 H3 x3 R3 =>
            sl_ok R3 (R1.keep (x2.trans x3) r1) ev (q.aft ((x1.trans x2).trans x3))⟩⟩⟩
theorem snd_rev {j : Nat} {p1 p2 p3 : Pos} (ha : PE X a (TX X.K r.e x)) : PE X (.Subscript a (.Slice none none (some (.UnaryOp .USub (.Constant (.int 1) j p1) p2)) p3) pos) (TX X.K (stepE cf r) (.rev x)) :=
  peW (pe_revL ha) fun σ H Q ⟨H0, g0, τ, ga, S, d, S', R, ev, q⟩ => by
    cases e1 : r.e x S with
    | none => simp [stepE, e1] at ev
    | some p1 =>
      obtain ⟨d1, S1⟩ := p1
      simp only [stepE, e1] at ev
      exact ⟨H0, g0, τ, ga, S, d1, S1, R, e1, fun τ1 H1 v x1 R1 r1 => rev_ok R1 r1 ev (q.aft x1)⟩
end

/-! ### built-ins -/
mutual
theorem small_short : ∀ x : PyData, intsSmall x = true → x.intsShort 13 = true
  | .none, _ => by simp [PyData.intsShort]
  | .bool _, _ => by simp [PyData.intsShort]
  | .int i, h => by
    have := PyData.shown_int_le (i := i) (by simpa [intsSmall] using h)
    simp [PyData.intsShort]; exact this
  | .str _, _ => by simp [PyData.intsShort]
  | .list xs, h => by simp only [PyData.intsShort]; exact small_shortL xs (by simpa [intsSmall] using h)
  | .tuple xs, h => by simp only [PyData.intsShort]; exact small_shortL xs (by simpa [intsSmall] using h)
  | .dict _, _ => by simp [PyData.intsShort]
theorem small_shortL : ∀ xs : List PyData, intsSmallL xs = true → PyData.intsShortAll 13 xs = true
  | [], _ => by simp [PyData.intsShortAll]
  | x :: xs, h => by
    obtain ⟨h1, h2⟩ := b2 (by simpa only [intsSmallL] using h)
    simp only [PyData.intsShortAll, small_short x h1, small_shortL xs h2, Bool.and_self]
end
theorem shown_fits {x : PyData} (h1 : x.layable0 = true) (h2 : intsSmall x = true) : (PyData.shown x).length ≤ sizeLine :=
  PyData.shown_fits_of_layable0 (B := 13) (by decide) (by decide) h1 (small_short x h2)
end Cor

/-! CorJ: values behind a change; built-ins; calls; dicts. -/
namespace Cor
open PySem L2

/-- what stands at tags T stays -/
structure LkP (T : Nat → Prop) (ok : OkT) (H : Hp) (ok' : OkT) (H' : Hp) : Prop where
  obj : ∀ t a o, T t → ok t a → H a = some o → H' a = some o ∧ ok' t a
  tup : ∀ a vs, H a = some (.tup vs) → H' a = some (.tup vs)
  frz : ∀ a o u, H a = some (.frz o u) → H' a = some (.frz o u)
section
variable {K : PySem.W.Frag} {H H' : Hp} {ok ok' : OkT} {ga ga' : Option Addr} {T : Nat → Prop}
theorem sqT_lk (L : LkP T ok H ok' H') {a : Addr} {xs : List V} (h : SqT K H a xs) : SqT K H' a xs := by
  rcases h with (h | ⟨o, h⟩) | h
  · exact .inl (.inl (L.tup _ _ h))
  · exact .inl (.inr ⟨o, L.frz _ _ _ h⟩)
  · exact .inr h
variable (L : LkP T ok H ok' H')
include L
mutual
theorem Rep.move : ∀ (d : D) (v : V), (∀ t ∈ tags d, T t) → (noGen d = true ∨ ga = ga') → Rep K H ok ga d v → Rep K H' ok' ga' d v
  | .non, _, _, _, h => h
  | .bl _, _, _, _, h => h
  | .int _, _, _, _, h => h
  | .str _, _, _, _, h => h
  | .rep _, _, _, _, h => h
  | .ints t l, x, m, _, h => by
    obtain ⟨a, e, o, q⟩ := h
    obtain ⟨h1, h2⟩ := L.obj t a _ (m t (by simp [tags])) o q
    exact ⟨a, e, h2, h1⟩
  | .lst t xs, x, m, _, h => by
    obtain ⟨a, vs, e, o, q, r⟩ := h
    obtain ⟨h1, h2⟩ := L.obj t a _ (m t (by simp [tags])) o q
    exact ⟨a, vs, e, h2, h1, RepL.move xs vs (fun u hu => m u (by simp [tags, hu])) r⟩
  | .tup xs, x, m, _, h => by
    obtain ⟨a, vs, e, q, r⟩ := h
    exact ⟨a, vs, e, sqT_lk L q, RepL.move xs vs (fun u hu => m u (by simpa [tags] using hu)) r⟩
  | .dct t kvs, x, m, _, h => by
    obtain ⟨a, vs, e, o, q, r⟩ := h
    obtain ⟨h1, h2⟩ := L.obj t a _ (m t (by simp [tags])) o q
    exact ⟨a, vs, e, h2, h1, RepK.move kvs vs (fun u hu => m u (by simp [tags, hu])) r⟩
  | .gd kvs, x, _, _, h => h
  | .scr l, x, _, _, h => by
    obtain ⟨a, e, q⟩ := h
    refine ⟨a, e, ?_⟩
    rcases q with ⟨o, q⟩ | q
    · exact .inl ⟨o, L.frz _ _ _ q⟩
    · exact .inr q
  | .gen, x, _, n, h => by
    obtain ⟨a, e, q⟩ := h
    rcases n with n | n
    · cases n
    · exact ⟨a, e, n ▸ q⟩
  | .bot, x, _, _, h => trivial
theorem RepL.move : ∀ (ds : List D) (vs : List V), (∀ t ∈ tagsL ds, T t) → RepL K H ok ga ds vs → RepL K H' ok' ga' ds vs
  | [], _, _, h => h
  | d :: ds, vs, m, h => by
    obtain ⟨v, r, e, h1, n, h2⟩ := h
    exact ⟨v, r, e, Rep.move d v (fun u hu => m u (by simp [tagsL, hu])) (.inl n) h1, n, RepL.move ds r (fun u hu => m u (by simp [tagsL, hu])) h2⟩
theorem RepK.move : ∀ (ds : List (DKey × D)) (vs : List (L2.Key × V)), (∀ t ∈ tagsK ds, T t) → RepK K H ok ga ds vs → RepK K H' ok' ga' ds vs
  | [], _, _, h => h
  | (k, d) :: ds, vs, m, h => by
    obtain ⟨k', v, r, e, hk, h1, n, h2⟩ := h
    exact ⟨k', v, r, e, hk, Rep.move d v (fun u hu => m u (by simp [tagsK, hu])) (.inl n) h1, n, RepK.move ds r (fun u hu => m u (by simp [tagsK, hu])) h2⟩
end
end

section
variable {K : PySem.W.Frag} {H0 : Hp} {g0 ga : Option Addr} {τ τ2 : Addr → Option Nat} {S S2 : Stt} {σ : St} {H H2 : Hp} {p : Addr} {o' : HO}
/-- an object that bears no tag yet, changed and tagged -/
theorem Ex.fin (x : Ex ga τ S H τ2 S2 H2) (hp : H p = none) (h2 : τ2 p = none) : Ex ga τ S H (putT τ2 p S2.c) { S2 with c := S2.c + 1 } (upd H2 p o') :=
  ⟨fun a u e n => by rw [upd_ne (ne_of_none e hp)]; exact x.sub a u e n, fun a t e => by
    have q := x.tau a t e
    rw [putT_ne (fun z => by rw [z, h2] at q; cases q)]; exact q, x.fz, x.lk, x.hh, x.env, fun a o e => let ⟨u, z⟩ := x.dom a o e; upd_dom a u z, fun a t e => by
    by_cases q : a = p
    · rw [q]; exact .inr hp
    · rw [putT_ne q] at e; exact x.new a t e⟩
/-- the object at p is one of ours, without a tag -/
structure Loose (H0 : Hp) (g0 ga : Option Addr) (τ : Addr → Option Nat) (H : Hp) (p : Addr) : Prop where
  tau : τ p = none
  at_ : (∃ xs, H p = some (.lst xs)) ∨ ∃ kvs, H p = some (.dK kvs)
  nga : ga ≠ some p
  ng0 : g0 ≠ some p
  new : H0 p = none
theorem Loose.notTup (l : Loose H0 g0 ga τ H p) {vs : List V} : H p ≠ some (.tup vs) := fun e => by
  rcases l.at_ with ⟨_, h⟩ | ⟨_, h⟩ <;> (rw [h] at e; cases e)
theorem Loose.notFrz (l : Loose H0 g0 ga τ H p) {o : Obj} {u : HO} : H p ≠ some (.frz o u) := fun e => by
  rcases l.at_ with ⟨_, h⟩ | ⟨_, h⟩ <;> (rw [h] at e; cases e)
/-- a change at a loose object -/
theorem Loose.lk (l : Loose H0 g0 ga τ H p) {fz : List Nat} : LkP (fun _ => True) (okf τ fz) H (okf τ fz) (upd H p o') where
  obj := fun t a o _ k e => by
    obtain ⟨u, q⟩ := okf.some k
    have n : a ≠ p := fun z => by rw [z, l.tau] at q; cases q
    exact ⟨by rw [upd_ne n]; exact e, k⟩
  tup := fun a vs e => by
    have n : a ≠ p := fun z => by subst z; exact l.notTup e
    rw [upd_ne n]; exact e
  frz := fun a o u e => by
    have n : a ≠ p := fun z => by subst z; exact l.notFrz e
    rw [upd_ne n]; exact e
theorem Loose.tagLk (l : Loose H0 g0 ga τ H p) {fz : List Nat} {t0 : Nat} : LkP (fun _ => True) (okf τ fz) H (okf (putT τ p t0) fz) (upd H p o') where
  obj := fun t a o h k e => by
    obtain ⟨h1, h2⟩ := (l.lk (o' := o')).obj t a o h k e
    exact ⟨h1, okf.mono (fun b u q => by rw [putT_ne (fun z => by rw [z, l.tau] at q; cases q)]; exact q) (fun _ m => m) h2⟩
  tup := (l.lk (fz := fz) (o' := o')).tup
  frz := (l.lk (fz := fz) (o' := o')).frz
theorem Rl.loose (R : Rl K H0 g0 τ ga S σ H) (l : Loose H0 g0 ga τ H p) : Rl K H0 g0 τ ga S σ (upd H p o') := by
  refine ⟨R.pos, R.clk, fun a t e => ?_, fun a u e n => ?_, R.g0n, R.hg, R.gga, R.gnew, fun a e => ?_, R.len, fun i d e => ?_⟩
  · obtain ⟨u, q⟩ := R.trk a t e
    exact ⟨u, by rw [upd_ne (fun z => by rw [z, l.tau] at e; cases e)]; exact q⟩
  · obtain ⟨h1, h2⟩ := R.old a u e n
    exact ⟨by rw [upd_ne (fun z => by rw [z, l.new] at e; cases e)]; exact h1, h2⟩
  · obtain ⟨h1, m, h2, h3⟩ := R.gen a e
    exact ⟨h1, m, h2, by rw [upd_ne (fun z => l.nga (by rw [← z]; exact e))]; exact h3⟩
  · obtain ⟨v, h1, h2⟩ := R.env i d e
    exact ⟨v, h1, Rep.move (l.lk (fz := S.fz)) d v (fun _ _ => trivial) (.inr rfl) h2⟩
theorem Rl.tagLoose (R : Rl K H0 g0 τ ga S σ H) (l : Loose H0 g0 ga τ H p) : Rl K H0 g0 (putT τ p S.c) ga { S with c := S.c + 1 } σ (upd H p o') := by
  refine ⟨Nat.succ_pos _, fun a t e => ?_, fun a t e => ?_, fun a u e n => ?_, fun a e => ?_, R.hg, R.gga, R.gnew, fun a e => ?_, R.len, fun i d e => ?_⟩
  · by_cases q : a = p
    · rw [q, putT_same] at e; cases e; exact Nat.lt_succ_self _
    · rw [putT_ne q] at e; exact Nat.lt_succ_of_lt (R.clk _ _ e)
  · by_cases q : a = p
    · rw [q]; exact ⟨o', upd_same⟩
    · rw [putT_ne q] at e; rw [upd_ne q]; exact R.trk _ _ e
  · obtain ⟨h1, h2⟩ := R.old a u e n
    have q : a ≠ p := fun z => by rw [z, l.new] at e; cases e
    rw [upd_ne q, putT_ne q]; exact ⟨h1, h2⟩
  · rw [putT_ne (fun z => l.ng0 (by rw [← z]; exact e))]; exact R.g0n a e
  · obtain ⟨h1, m, h2, h3⟩ := R.gen a e
    have q : a ≠ p := fun z => l.nga (by rw [← z]; exact e)
    exact ⟨by rw [putT_ne q]; exact h1, m, h2, by rw [upd_ne q]; exact h3⟩
  · obtain ⟨v, h1, h2⟩ := R.env i d e
    exact ⟨v, h1, Rep.move (l.tagLk (fz := S.fz)) d v (fun _ _ => trivial) (.inr rfl) h2⟩
theorem Loose.fresh (R : Rl K H0 g0 τ ga S σ H) (hp : H p = none) (ho : (∃ xs, o' = .lst xs) ∨ ∃ kvs, o' = .dK kvs) : Loose H0 g0 ga τ (upd H p o') p := by
  refine ⟨R.tnone hp, ?_, fun e => ?_, fun e => R.g0at e hp, ?_⟩
  · rcases ho with ⟨x, rfl⟩ | ⟨x, rfl⟩
    · exact .inl ⟨x, upd_same⟩
    · exact .inr ⟨x, upd_same⟩
  · obtain ⟨_, l, _, h⟩ := R.gen p e
    rw [hp] at h; cases h
  · cases e : H0 p with
    | none => rfl
    | some u =>
      have := (R.old p u e (fun z => R.g0at z hp)).1
      rw [hp] at this; cases this
/-- an expression leaves it loose -/
theorem Loose.stay (l : Loose H0 g0 ga τ H p) (x : Ex ga τ S H τ2 S2 H2) : Loose H0 g0 ga τ2 H2 p ∧ H2 p = H p := by
  have h : H2 p = H p := by
    rcases l.at_ with ⟨_, h⟩ | ⟨_, h⟩ <;> exact (x.sub p _ h l.nga).trans h.symm
  refine ⟨⟨?_, by rw [h]; exact l.at_, l.nga, l.ng0, l.new⟩, h⟩
  cases e : τ2 p with
  | none => rfl
  | some t =>
    rcases x.new p t e with q | q
    · rw [l.tau] at q; cases q
    · rcases l.at_ with ⟨_, h⟩ | ⟨_, h⟩ <;> (rw [q] at h; cases h)
end

/-! ### built-ins by values -/
mutual
theorem small_showable : ∀ x : PyData, intsSmall x = true → x.canLay0 = true → x.showable = true
  | .none, _, _ => by simp [PyData.showable]
  | .bool _, _, _ => by simp [PyData.showable]
  | .int i, h, _ => by
    have h1 : i.natAbs < 10 ^ 12 := by simpa [intsSmall] using h
    simp only [PyData.showable, decide_eq_true_eq]
    by_cases z : i.natAbs = 0
    · rw [z]; decide
    · have := (Nat.log2_lt z (k := 1920)).mpr (Nat.lt_trans h1 (Nat.lt_of_lt_of_le (by decide : 10 ^ 12 < 2 ^ 64) (Nat.pow_le_pow_right (by decide) (by decide))))
      exact this
  | .str _, _, _ => by simp [PyData.showable]
  | .list xs, h, c => by simp only [PyData.showable]; exact small_showableL xs (by simpa [intsSmall] using h) (by simpa [PyData.canLay0] using c)
  | .tuple xs, h, c => by simp only [PyData.showable]; exact small_showableL xs (by simpa [intsSmall] using h) (by simpa [PyData.canLay0] using c)
  | .dict _, _, c => by simp [PyData.canLay0] at c
theorem small_showableL : ∀ xs : List PyData, intsSmallL xs = true → PyData.canLayAll0 xs = true → PyData.showableAll xs = true
  | [], _, _ => by simp [PyData.showableAll]
  | x :: xs, h, c => by
    obtain ⟨h1, h2⟩ := b2 (by simpa only [intsSmallL] using h)
    obtain ⟨c1, c2⟩ := b2 (by simpa only [PyData.canLayAll0] using c)
    simp only [PyData.showableAll, small_showable x h1 c1, small_showableL xs h2 c2, Bool.and_self]
end
def rRepr (K : PySem.W.Frag) : List V → Hp → VK → Prop := fun xs H Q => ∃ x d, xs = [x] ∧ Dp K H x d ∧ d.layable0 = true ∧ intsSmall d = true ∧ Q (.str (PyData.shown d)) H
theorem call_repr {X : Cx} (hg : X.A.guards = some []) (hu : X.A.units + 65 < cLine) : CallR X (.builtin "repr") (rRepr X.K) := by
  intro pins s σ H xs us Q I r h
  obtain ⟨x, d, rfl, dp, h1, h2, q⟩ := h
  obtain ⟨u, rfl, rx⟩ := vals1 r
  have hsz := shown_fits h1 h2
  have hl : (d.canLay0 = true ∧ d.depth ≤ 64) ∧ d.weight ≤ 2 ^ 20 := by
    have := h1
    unfold PyData.layable0 at this
    simpa [Bool.and_eq_true] using this
  have hs := small_showable d h2 hl.1.1
  obtain ⟨as, rd⟩ := Dp.reads I d x u dp rx
  cases dp with
  | non =>
    cases (show u = Value.none from rx)
    exact PySem.P.repr_of_none ⟨.str _, H, I.tok _, ⟨_, rfl⟩, by simpa only [PyData.shown] using q⟩
  | bl b =>
    cases (show u = Value.bool b from rx)
    exact PySem.P.repr_of_bool ⟨.str _, H, I.tok _, ⟨_, rfl⟩, by simpa only [PyData.shown] using q⟩
  | int i =>
    obtain ⟨t, rfl⟩ := (show ∃ t, u = Value.int i t from rx)
    exact PySem.P.repr_of_int (by simpa [PyData.showable] using hs) ⟨.str _, H, I.tok _, ⟨_, rfl⟩, by simpa only [PyData.shown] using q⟩
  | str y =>
    obtain ⟨t, rfl⟩ := (show ∃ t, u = Value.str y t from rx)
    exact PySem.P.repr_of_str ⟨.str _, H, I.tok _, ⟨_, rfl⟩, by simpa only [PyData.shown] using q⟩ (by simpa only [PyData.shown] using hsz)
  | @lst a xs ds hq hd =>
    cases (show u = Value.ref a from rx)
    exact repr_of_reads' rd hs (PyData.noDict_hsm (PyData.hasDict_of_canLay _ hl.1.1)) hg (by omega) (fun _ _ e => e) (fun h' w tk hk => ⟨.str _, H, I.kept hk, ⟨_, rfl⟩, q⟩) hsz
  | @tup a xs ds hq hd =>
    cases (show u = Value.ref a from rx)
    exact repr_of_reads' rd hs (PyData.noDict_hsm (PyData.hasDict_of_canLay _ hl.1.1)) hg (by omega) (fun _ _ e => e) (fun h' w tk hk => ⟨.str _, H, I.kept hk, ⟨_, rfl⟩, q⟩) hsz
/-- what each built-in asks -/
def rBi (K : PySem.W.Frag) : Bi → List V → Hp → VK → Prop
  | .len => fun xs H Q => ∃ p ys, xs = [.ref p] ∧ (SqL K H p ys ∨ SqT K H p ys) ∧ Q (.int ys.length) H
  | .int => fun xs H Q => (∃ i, xs = [.int i] ∧ Q (.int i) H) ∨ ∃ k, xs = [.bl k] ∧ Q (.int (if k then 1 else 0)) H
  | .list => fun xs H Q => ∃ p ys, xs = [.ref p] ∧ (SqL K H p ys ∨ SqT K H p ys) ∧ ∀ l, H l = none → Q (.ref l) (upd H l (.lst ys))
  | .tuple => fun xs H Q => ∃ p ys, xs = [.ref p] ∧ ((SqL K H p ys ∧ ∀ l, H l = none → Q (.ref l) (upd H l (.tup ys))) ∨ (SqT K H p ys ∧ Q (.ref p) H))
  | .max2 => fun xs H Q => ∃ i j, xs = [.int i, .int j] ∧ Q (.int (if j > i then j else i)) H
  | .min2 => fun xs H Q => ∃ i j, xs = [.int i, .int j] ∧ Q (.int (if j < i then j else i)) H
  | .sum => fun vs H Q => ∃ (a : Addr) (ns : List Int), vs = [V.ref a] ∧ SqL K H a (ns.map V.int) ∧ Q (.int ns.sum) H
  | .repr => rRepr K
  | _ => fun _ _ _ => False
section
variable {K : PySem.W.Frag} {H0 : Hp} {g0 ga : Option Addr} {τ : Addr → Option Nat} {S S' : Stt} {σ : St} {H : Hp} {d : D} {ds : List D} {vs : List V} {Q : VK}
theorem repA1 {ok : OkT} {x : D} (h : RepA K H ok ga [x] vs) : ∃ v, vs = [v] ∧ Rep K H ok ga x v := by
  obtain ⟨v, r, e, h1, h2⟩ := h
  have h2' : r = [] := h2
  exact ⟨v, by rw [e, h2'], h1⟩
theorem repA2 {ok : OkT} {x y : D} (h : RepA K H ok ga [x, y] vs) : ∃ v w, vs = [v, w] ∧ Rep K H ok ga x v ∧ Rep K H ok ga y w := by
  obtain ⟨v, r, e, h1, h2⟩ := h
  obtain ⟨w, e2, h3⟩ := repA1 h2
  exact ⟨v, w, by rw [e, e2], h1, h3⟩
theorem bi_ok {b : Bi} (nb : b ≠ .bits) (R : Rl K H0 g0 τ ga S σ H) (ra : RepA K H (okf τ S.fz) ga ds vs) (e : opBi b ds S = some (d, S')) (q : Want K H0 g0 ga τ S H σ d S' Q) : rBi K b vs H Q := by
  unfold opBi at e
  split at e
  · cases e
    obtain ⟨v, rfl, a, rfl, _, h⟩ := repA1 ra
    exact ⟨a, _, rfl, .inl (SqL.of h), by rw [List.length_map]; exact Want.now R q rfl⟩
  · cases e
    obtain ⟨v, rfl, a, ws, rfl, _, h, r⟩ := repA1 ra
    exact ⟨a, _, rfl, .inl (SqL.of h), by rw [RepL.length r]; exact Want.now R q rfl⟩
  · cases e
    obtain ⟨v, rfl, a, ws, rfl, h, r⟩ := repA1 ra
    exact ⟨a, _, rfl, .inr h, by rw [RepL.length r]; exact Want.now R q rfl⟩
  · cases e
    obtain ⟨v, rfl, a, rfl, h⟩ := repA1 ra
    exact ⟨a, _, rfl, .inl h.sq, by rw [List.length_map]; exact Want.now R q rfl⟩
  · cases e
    obtain ⟨v, rfl, h⟩ := repA1 ra
    exact .inl ⟨_, by rw [show v = _ from h], Want.now R q rfl⟩
  · cases e
    obtain ⟨v, rfl, h⟩ := repA1 ra
    exact .inr ⟨_, by rw [show v = _ from h], Want.now R q rfl⟩
  · obtain ⟨rfl, rfl⟩ := new_eq e
    obtain ⟨v, rfl, a, rfl, _, h⟩ := repA1 ra
    exact ⟨a, _, rfl, .inl (SqL.of h), fun p hp => Want.new (f := fun t => .ints t _) R q hp ⟨p, rfl, R.okNew, upd_same⟩⟩
  · obtain ⟨rfl, rfl⟩ := new_eq e
    obtain ⟨v, rfl, a, ws, rfl, _, h, r⟩ := repA1 ra
    exact ⟨a, _, rfl, .inl (SqL.of h), fun p hp => Want.new (f := fun t => .lst t _) R q hp ⟨p, _, rfl, R.okNew, upd_same, R.keepL (R.allocX hp _) r⟩⟩
  · obtain ⟨rfl, rfl⟩ := new_eq e
    obtain ⟨v, rfl, a, ws, rfl, h, r⟩ := repA1 ra
    exact ⟨a, _, rfl, .inr h, fun p hp => Want.new (f := fun t => .lst t _) R q hp ⟨p, _, rfl, R.okNew, upd_same, R.keepL (R.allocX hp _) r⟩⟩
  · cases e
    obtain ⟨v, rfl, a, rfl, _, h⟩ := repA1 ra
    refine ⟨a, _, rfl, .inl ⟨SqL.of h, fun p hp => ?_⟩⟩
    obtain ⟨R2, x2⟩ := R.laid hp (.tup (List.map V.int _))
    exact q _ _ _ x2 R2 ⟨p, _, rfl, SqT.of upd_same, RepL.ints _⟩
  · cases e
    obtain ⟨v, rfl, a, ws, rfl, _, h, r⟩ := repA1 ra
    refine ⟨a, _, rfl, .inl ⟨SqL.of h, fun p hp => ?_⟩⟩
    obtain ⟨R2, x2⟩ := R.laid hp (.tup ws)
    exact q _ _ _ x2 R2 ⟨p, _, rfl, SqT.of upd_same, R.keepL x2 r⟩
  · cases e
    obtain ⟨v, rfl, a, ws, rfl, h, r⟩ := repA1 ra
    exact ⟨a, _, rfl, .inr ⟨h, Want.now R q ⟨a, _, rfl, h, r⟩⟩⟩
  · cases e
    obtain ⟨v, w, rfl, h1, h2⟩ := repA2 ra
    exact ⟨_, _, by rw [show v = _ from h1, show w = _ from h2], Want.now R q rfl⟩
  · cases e
    obtain ⟨v, w, rfl, h1, h2⟩ := repA2 ra
    exact ⟨_, _, by rw [show v = _ from h1, show w = _ from h2], Want.now R q rfl⟩
  · cases e
    obtain ⟨v, rfl, a, rfl, _, h⟩ := repA1 ra
    exact ⟨a, _, rfl, SqL.of h, Want.now R q rfl⟩
  · split at e
    · rename_i x ex
      split at e
      · rename_i z
        obtain ⟨z1, z2⟩ := b2 z
        cases e
        obtain ⟨v, rfl, h⟩ := repA1 ra
        exact ⟨v, x, rfl, Rep.dp _ v x ex h, z1, z2, Want.now R q rfl⟩
      · cases e
    · cases e
  · exact absurd rfl nb
  · cases e
end

section
variable {c : Cfg} {cf : CallF} {k : Nat} {X : Cx} {sc : Scope} {r : Ev} {a b : Expr} {x y z : CE} {pos p : Pos} {es : List Expr} {xs : List CE} {n : Nat}
theorem bi_rd {b : Bi} (nb : b ≠ .bits) : ∀ σ H Q, TX X.K (stepE cf r) (.bi b xs) σ H Q → TXs X.K r xs σ H fun vs H' => rBi X.K b vs H' Q := fun σ H Q ⟨H0, g0, τ, ga, S, d, S', R, ev, q⟩ => by
  cases e1 : evEs r xs S with
  | none => simp [stepE, e1] at ev
  | some p1 =>
    obtain ⟨ds, S1⟩ := p1
    simp only [stepE, e1] at ev
    exact ⟨H0, g0, τ, ga, S, ds, S1, R, e1, fun τ1 H1 vs x1 R1 r1 => bi_ok nb R1 r1 ev (q.aft x1)⟩
theorem snd_biB {e : Expr} {f : String} {b : Bi} (C : CtxOk c cf k X sc) (nb : b ≠ .bits) (hb : isB c sc (f : Str) = true) (hp : plainX (f : Str) = true) (hv : bootBuiltins (f : Str) = some (.builtin f)) (hc : CallR X (.builtin f) (rBi X.K b))
    (hs : ∀ y ∈ e :: es, isStar y = false) (ha : PA X (e :: es) (TXs X.K r xs)) : PE X (.Call (.Name (f : Str) p) (e :: es) [] pos) (TX X.K (stepE cf r) (.bi b xs)) :=
  peW (pe_callB hc (C.gl (b2 hb).1) (C.free _ (b2 hb).2) hv ha (plain3 hp) (plain1 hp) (star_cons (hs e (by simp))) (star_plain fun y m => hs y (by simp [m]))) (bi_rd nb)
theorem snd_biT {e : Expr} {f : String} {b : Bi} (C : CtxOk c cf k X sc) (nb : b ≠ .bits) (hb : isB c sc (f : Str) = true) (hp : plainX (f : Str) = true) (hv : bootBuiltins (f : Str) = some (.type f)) (hc : CallR X (.type f) (rBi X.K b))
    (hs : ∀ y ∈ e :: es, isStar y = false) (ha : PA X (e :: es) (TXs X.K r xs)) : PE X (.Call (.Name (f : Str) p) (e :: es) [] pos) (TX X.K (stepE cf r) (.bi b xs)) :=
  peW (pe_callTy hc (C.gl (b2 hb).1) (C.free _ (b2 hb).2) hv ha (plain3 hp) (plain1 hp) (star_cons (hs e (by simp))) (star_plain fun y m => hs y (by simp [m]))) (bi_rd nb)
theorem len1 {α : Type} {l : List α} (h : l.length = 1) : ∃ x, l = [x] := by
  cases l with
  | nil => cases h
  | cons x r => cases r with
    | nil => exact ⟨x, rfl⟩
    | cons _ _ => cases h
theorem snd_bi (C : CtxOk c cf k X sc) {f : Str} {b : Bi} (hf : biC f es.length = some b) (hb : isB c sc f = true) (hp : plainX f = true) (hs : ∀ y ∈ es, isStar y = false) (ha : PA X es (TXs X.K r xs)) :
    PE X (.Call (.Name f p) es [] pos) (TX X.K (stepE cf r) (.bi b xs)) := by
  cases es with
  | nil => cases hf
  | cons e rest =>
    unfold biC at hf
    split at hf
    · split at hf
      · rename_i z; cases hf; rw [strIs_eq z] at hb hp ⊢
        exact snd_biB C (by decide) hb hp boot_len call_len_seq hs ha
      · split at hf
        · rename_i z; cases hf; rw [strIs_eq z] at hb hp ⊢
          exact snd_biT C (by decide) hb hp PyProof.Rows.boot_int call_int1 hs ha
        · split at hf
          · rename_i z; cases hf; rw [strIs_eq z] at hb hp ⊢
            exact snd_biT C (by decide) hb hp PyProof.Rows.boot_list call_list_of hs ha
          · split at hf
            · rename_i z; cases hf; rw [strIs_eq z] at hb hp ⊢
              exact snd_biT C (by decide) hb hp PyProof.Rows.boot_tuple call_tuple_of hs ha
            · split at hf
              · rename_i z; cases hf; rw [strIs_eq z] at hb hp ⊢
                exact snd_biB C (by decide) hb hp (by decide +kernel) (cr_sum C.calm) hs ha
              · split at hf
                · rename_i z; cases hf; rw [strIs_eq z] at hb hp ⊢
                  exact snd_biB C (by decide) hb hp PyProof.Rows.boot_repr (call_repr C.guards C.hu) hs ha
                · split at hf
                  · rename_i z; cases hf; rw [strIs_eq z] at hb hp ⊢
                    exact snd_biB C (by decide) hb hp PyProof.Rows.boot_sorted (fun _ _ _ _ _ _ _ _ _ h => h.elim) hs ha
                  · cases hf
    · split at hf
      · rename_i z; cases hf; rw [strIs_eq z] at hb hp ⊢
        exact snd_biB C (by decide) hb hp PyProof.Rows.boot_max (call_max2 C.calm) hs ha
      · split at hf
        · rename_i z; cases hf; rw [strIs_eq z] at hb hp ⊢
          exact snd_biB C (by decide) hb hp PyProof.Rows.boot_min (call_min2 C.calm) hs ha
        · cases hf
    · cases hf
theorem snd_bits {o : Str} {m : Str} {po ap : Pos} (hm : strIs m "bit_length" = true) (hl : Nat.beq ap.endLine pos.line = true) (ha : PE X (.Name o po) (TX X.K r.e x)) : PE X (.Call (.Attribute (.Name o po) m ap) [] [] pos) (TX X.K (stepE cf r) (.bi .bits [x])) := by
  rw [strIs_eq hm]
  refine peW (pe_bits ha rfl (by rw [Nat.eq_of_beq_eq_true hl]; exact beq_self_eq_true _)) fun σ H Q ⟨H0, g0, τ, ga, S, d, S', R, ev, q⟩ => ?_
  cases e1 : r.e x S with
  | none => simp [stepE, evEs, e1] at ev
  | some p1 =>
    obtain ⟨d1, S1⟩ := p1
    simp only [stepE, evEs, e1] at ev
    unfold opBi at ev
    split at ev
    all_goals try (rename_i z _; cases z)
    all_goals try (rename_i z; cases z)
    all_goals try cases ev
    rename_i i
    exact ⟨H0, g0, τ, ga, S, _, _, R, e1, fun τ1 H1 v x1 R1 r1 => ⟨i, r1, Want.now R1 (q.aft x1) rfl⟩⟩
end
end Cor

/-! CorK: own defs called; isinstance; dict displays. -/
namespace Cor
open PySem L2

inductive F2 (P : Expr → CE → Prop) : List Expr → List CE → Prop
  | nil : F2 P [] []
  | cons {e x es xs} : P e x → F2 P es xs → F2 P (e :: es) (x :: xs)
theorem F2.split {P : Expr → CE → Prop} : ∀ {as bs : List Expr} {l : List CE}, F2 P (as ++ bs) l → ∃ xs ys, l = xs ++ ys ∧ F2 P as xs ∧ F2 P bs ys
  | [], _, l, h => ⟨[], l, rfl, .nil, h⟩
  | a :: as, bs, l, h => by
    cases h with
    | @cons _ x _ xs p q =>
      obtain ⟨ys, zs, e, h1, h2⟩ := F2.split q
      exact ⟨x :: ys, zs, by rw [e]; rfl, .cons p h1, h2⟩
theorem F2.len {P : Expr → CE → Prop} : ∀ {es : List Expr} {xs : List CE}, F2 P es xs → xs.length = es.length
  | _, _, .nil => rfl
  | _, _, .cons _ h => by simp [F2.len h]
theorem F2.imp {P P' : Expr → CE → Prop} (h : ∀ e x, P e x → P' e x) : ∀ {es : List Expr} {xs : List CE}, F2 P es xs → F2 P' es xs
  | _, _, .nil => .nil
  | _, _, .cons p q => .cons (h _ _ p) (F2.imp h q)
section
variable {r : Ev}
theorem evEs_len : ∀ {xs : List CE} {ds : List D} {S S' : Stt}, evEs r xs S = some (ds, S') → ds.length = xs.length
  | [], ds, S, S', h => by cases h; rfl
  | x :: xs, ds, S, S', h => by
    unfold evEs at h
    split at h
    · split at h
      · rename_i e; cases h; simp [evEs_len e]
      · cases h
    · cases h
theorem evEs_app : ∀ {xs ys : List CE} {ds : List D} {S S' : Stt}, evEs r (xs ++ ys) S = some (ds, S') → ∃ d1 d2 S1, evEs r xs S = some (d1, S1) ∧ evEs r ys S1 = some (d2, S') ∧ ds = d1 ++ d2
  | [], ys, ds, S, S', h => ⟨[], ds, S, rfl, h, rfl⟩
  | x :: xs, ys, ds, S, S', h => by
    have h' : evEs r (x :: (xs ++ ys)) S = some (ds, S') := h
    unfold evEs at h'
    split at h'
    · rename_i d S1 e
      split at h'
      · rename_i ds2 S2 e2
        cases h'
        obtain ⟨d1, d2, S3, e3, e4, e5⟩ := evEs_app e2
        refine ⟨d :: d1, d2, S3, ?_, e4, by rw [e5]; rfl⟩
        unfold evEs
        rw [e]
        simp only [e3]
      · cases h'
    · cases h'
end
theorem RepA.append {K : PySem.W.Frag} {H : Hp} {ok : OkT} {ga : Option Addr} : ∀ {ds es : List D} {vs ws : List V}, RepA K H ok ga ds vs → RepA K H ok ga es ws → RepA K H ok ga (ds ++ es) (vs ++ ws)
  | [], es, vs, ws, h, h2 => by
    have h' : vs = [] := h
    rw [h']; exact h2
  | d :: ds, es, vs, ws, h, h2 => by
    obtain ⟨v, r, e, h1, h3⟩ := h
    exact ⟨v, r ++ ws, by rw [e]; rfl, h1, RepA.append h3 h2⟩
theorem pick_rel {K : PySem.W.Frag} {H : Hp} {ok : OkT} {ga : Option Addr} {ds : List D} {vs : List V} (h : RepA K H ok ga ds vs) : ∀ {pm : List Nat} {es : List D}, pick ds pm = some es → ∃ ws, pick vs pm = some ws ∧ RepA K H ok ga es ws
  | [], es, e => by cases e; exact ⟨[], rfl, rfl⟩
  | i :: pm, es, e => by
    unfold pick at e
    split at e
    · rename_i d r e1 e2
      cases e
      obtain ⟨v, h1, h2⟩ := RepA.get h e1
      obtain ⟨ws, h3, h4⟩ := pick_rel h e2
      exact ⟨v :: ws, by unfold pick; rw [h1, h3], v, ws, rfl, h2, h4⟩
    · cases e
theorem pick_vals {vs : List V} {us : List Value} (h : Vals vs us) : ∀ {pm : List Nat} {ws : List V}, pick vs pm = some ws → ∃ zs, pick us pm = some zs ∧ Vals ws zs
  | [], ws, e => by cases e; exact ⟨[], rfl, .nil⟩
  | i :: pm, ws, e => by
    unfold pick at e
    split at e
    · rename_i d r e1 e2
      cases e
      obtain ⟨u, h1, h2⟩ := h.get e1
      obtain ⟨zs, h3, h4⟩ := pick_vals h e2
      exact ⟨u :: zs, by unfold pick; rw [h1, h3], .cons h2 h4⟩
    · cases e
theorem pick_len {α : Type} {l : List α} : ∀ {pm : List Nat} {ws : List α}, pick l pm = some ws → ws.length = pm.length
  | [], ws, e => by cases e; rfl
  | i :: pm, ws, e => by
    unfold pick at e
    split at e
    · rename_i e1 e2; cases e; simp [pick_len e2]
    · cases e
theorem mapM_len {α β : Type} {f : α → Option β} : ∀ {l : List α} {m : List β}, l.mapM f = some m → m.length = l.length
  | [], m, e => by simp at e; rw [e]; rfl
  | x :: l, m, e => by
    rw [List.mapM_cons] at e
    cases e1 : f x with
    | none => rw [e1] at e; cases e
    | some y =>
      cases e2 : l.mapM f with
      | none => rw [e1, e2] at e; cases e
      | some r =>
        rw [e1, e2] at e; cases e
        simp [mapM_len e2]
theorem pmC_len {ps ks : List Str} {n : Nat} {pm : List Nat} (h : pmC ps n ks = some pm) : pm.length = ps.length := by
  unfold pmC at h
  split at h
  · cases h
  · have := mapM_len h
    rwa [List.length_range] at this

section
variable {c : Cfg} {cf : CallF} {k : Nat} {X : Cx} {sc : Scope} {r : Ev} {pos p : Pos} {es : List Expr} {xs : List CE}
/-- from each, all -/
theorem pa_of2 : ∀ {es : List Expr} {xs : List CE}, F2 (fun e x => isStar e = false ∧ PE X e (TX X.K r.e x)) es xs → PA X es (TXs X.K r xs)
  | _, _, .nil => snd_nil
  | _, _, .cons h t => snd_cons h.1 h.2 (pa_of2 t)
theorem star_of2 {P : Expr → CE → Prop} : ∀ {es : List Expr} {xs : List CE}, F2 (fun e x => isStar e = false ∧ P e x) es xs → ∀ e ∈ es, isStar e = false
  | _, _, .nil, _, m => by cases m
  | _, _, .cons h t, e, m => by
    rcases List.mem_cons.mp m with q | m
    · rw [q]; exact h.1
    · exact star_of2 t e m
theorem pk_of2 : ∀ {kws : List Keyword} {xs : List CE}, F2 (fun e x => isStar e = false ∧ PE X e (TX X.K r.e x)) (kws.map fun k => k.value) xs → PK X kws (TXs X.K r xs)
  | [], xs, h => by
    cases h
    exact ⟨fun pos pins s σ H Q I q => pk_nil.run pos pins s σ H Q I (by
      obtain ⟨H0, g0, τ, ga, S, ds, S', R, ev, q⟩ := q
      cases ev
      exact q _ _ _ (Ex.refl _ _ _ _) R rfl)⟩
  | ⟨nm, v, kp⟩ :: kws, xs, h => by
    cases h with
    | @cons _ x _ xs h t =>
      exact ⟨fun pos pins s σ H Q I q => (pk_cons h.2 (pk_of2 t)).run pos pins s σ H Q I (by
        obtain ⟨H0, g0, τ, ga, S, ds, S', R, ev, q⟩ := q
        unfold evEs at ev
        split at ev
        · rename_i d S1 e1
          split at ev
          · rename_i ds2 S2 e2
            cases ev
            refine ⟨H0, g0, τ, ga, S, d, S1, R, e1, fun τ1 H1 v x1 R1 r1 => ⟨H0, g0, τ1, ga, S1, ds2, _, R1, e2, fun τ2 H2 vs x2 R2 r2 => q _ _ _ (x1.trans x2) R2 ⟨v, vs, rfl, R1.keep x2 r1, r2⟩⟩⟩
          · cases ev
        · cases ev)⟩
theorem kw_names {env : Env} {pos : Pos} : ∀ {kws : List Keyword} {ks : List Str}, kwNames kws = some ks → (backToKw pos (keywordEach kws env)).all (·.1.isSome) = true ∧ (backToKw pos (keywordEach kws env)).filterMap (·.1) = ks ∧
    (backToKw pos (keywordEach kws env)).any (·.1.isNone) = false ∧ kws.length = ks.length
  | [], ks, h => by cases h; exact ⟨rfl, rfl, rfl, rfl⟩
  | ⟨some x, v, kp⟩ :: kws, ks, h => by
    have h' : (kwNames kws).map (x :: ·) = some ks := h
    cases e : kwNames kws with
    | none => rw [e] at h'; cases h'
    | some ks' =>
      rw [e] at h'; cases h'
      obtain ⟨h1, h2, h3, h4⟩ := kw_names (env := env) (pos := pos) e
      refine ⟨?_, ?_, ?_, by simp [h4]⟩
      · show (true && (backToKw pos (keywordEach kws env)).all (·.1.isSome)) = true
        rw [h1]; rfl
      · show x :: (backToKw pos (keywordEach kws env)).filterMap (·.1) = _
        rw [h2]
      · show (false || (backToKw pos (keywordEach kws env)).any (·.1.isNone)) = false
        rw [h3]; rfl
  | ⟨none, _, _⟩ :: _, ks, h => by cases h

theorem run_own {f : Addr} {fd : FuncData} {i : Nat} {ps : List Str} {pins : List (Addr × Obj)} {s : Shared} {σ : St} {H : Hp} {Q : VK} {us ws : List Value} {ks : List Str} {vs : List V} {bs : List Value} (C : CtxOk c cf k X sc)
    (F : FnG X.prog X.w X.K X.mg X.base k f fd ps (spC X.K cf i)) (I : Inv X pins σ H s) (bt : BindsTo s fd ⟨us, ks.zip ws⟩ (ps.zip bs)) (r : Vals vs bs) (hl : vs.length = ps.length) (h : spC X.K cf i vs H Q) :
    wpAny (model X.prog X.w) X.A (call (.ref f) us (ks.zip ws)) (EP X pins σ Q) X.xe s := by
  refine wpAny_call (codeAny_mono (F.run X.A X.stack s H ⟨us, ks.zip ws⟩ bs vs Q C.room C.guards I.env0 bt r hl h) fun r s' hq => ?_)
  cases r with
  | error e => exact False.elim hq
  | ok fl =>
    cases fl with
    | ret u => exact I.after hq
    | next => exact False.elim hq
    | brk => exact False.elim hq
    | cont => exact False.elim hq
/-- f(e, ..) -/
theorem snd_call (C : CtxOk c cf k X sc) {f : Str} {i : Nat} {ps : List Str} (hf : c.fid f = some (i, ps)) (hg : isG sc f = true) (hp : plainX f = true) (hn : es.length = ps.length) (h0 : es ≠ [])
    (h : F2 (fun e x => isStar e = false ∧ PE X e (TX X.K r.e x)) es xs) : PE X (.Call (.Name f p) es [] pos) (TX X.K (stepE cf r) (.call i [] xs)) := by
  obtain ⟨a, fd, hm, hk, F, hb, _⟩ := (C.fns f i ps hf).ex
  have hst := star_of2 h
  have hlen := h.len
  have ha := pa_of2 h
  cases es with
  | nil => exact absurd rfl h0
  | cons e es =>
    refine ⟨fun pins s σ H Q I ⟨H0, g0, τ, ga, S, d, S', R, ev, q⟩ => ?_⟩
    cases e1 : evEs r xs S with
    | none => simp [stepE, e1] at ev
    | some p1 =>
      obtain ⟨ds, S1⟩ := p1
      simp only [stepE, e1, permute] at ev
      cases e2 : cf i (retagL (fun _ => 0) ds) (if isGenL ds then S1.g else none) with
      | none => simp [e2] at ev
      | some p2 =>
        obtain ⟨d2, g2⟩ := p2
        simp only [e2] at ev
        have hd := Option.some.inj ev
        refine wpAny_Call_Name_kw (ld_glob I (C.gl hg) hm ?_ (plain1 hp))
        refine PySem.W.callWith_K (h₀ := X.base) I.ok.mod.kin hk (thn (ha.run pos pins s σ H (fun vs H1 => vs.length = ps.length ∧ spC X.K cf i vs H1 Q) I ⟨H0, g0, τ, ga, S, ds, S1, R, e1, fun τ1 H1 vs x1 R1 r1 => ⟨by rw [RepA.length r1, evEs_len e1, hlen, hn], spC_of R1 r1 e2 ?_⟩⟩) fun us s1 ⟨vs, H1, I1, rv, hl, q⟩ => ⟨I1.kIn, ?_⟩) (star_cons (hst e (by simp))) (star_plain fun y m => hst y (by simp [m]))
        · rw [hd]
          exact q.aft x1
        · exact run_own (us := us) (ws := []) (ks := []) C F I1 (hb s1 us (by rw [← rv.length]; exact hl)) rv hl q
/-- f(e, .., k = v, ..) -/
theorem snd_callK (C : CtxOk c cf k X sc) {f : Str} {i : Nat} {ps ks : List Str} {kws : List Keyword} {pm : List Nat} (hf : c.fid f = some (i, ps)) (hg : isG sc f = true) (hp : plainX f = true) (hks : kwNames kws = some ks) (hpm : pmC ps es.length ks = some pm)
    (hn : es.length + kws.length = ps.length) (h0 : pm ≠ []) (h : F2 (fun e x => isStar e = false ∧ PE X e (TX X.K r.e x)) (es ++ kws.map fun k => k.value) xs) :
    PE X (.Call (.Name f p) es kws pos) (TX X.K (stepE cf r) (.call i pm xs)) := by
  obtain ⟨a, fd, hm, hk, F, _, hb⟩ := (C.fns f i ps hf).ex
  obtain ⟨x1, x2, rfl, h1, h2⟩ := h.split
  have hst := star_of2 h1
  have ha := pa_of2 h1
  have hkw := pk_of2 h2
  have l1 := h1.len
  have l2 := h2.len
  rw [List.length_map] at l2
  obtain ⟨n1, n2, n3, n4⟩ := kw_names (env := X.env) (pos := pos) hks
  refine ⟨fun pins s σ H Q I ⟨H0, g0, τ, ga, S, d, S', R, ev, q⟩ => ?_⟩
  cases e1 : evEs r (x1 ++ x2) S with
  | none => simp [stepE, e1] at ev
  | some p1 =>
    obtain ⟨ds, S1⟩ := p1
    obtain ⟨d1, d2, S2, e3, e4, e5⟩ := evEs_app e1
    have hpm' : permute pm ds = pick ds pm := by
      cases pm with
      | nil => exact absurd rfl h0
      | cons _ _ => rfl
    simp only [stepE, e1, hpm'] at ev
    cases e6 : pick ds pm with
    | none => simp [e6] at ev
    | some es' =>
      simp only [e6] at ev
      cases e2 : cf i (retagL (fun _ => 0) es') (if isGenL es' then S1.g else none) with
      | none => simp [e2] at ev
      | some p2 =>
        obtain ⟨d2', g2⟩ := p2
        simp only [e2] at ev
        have hd := Option.some.inj ev
        have pre : TXs X.K r x1 σ H fun vs H1 => TXs X.K r x2 σ H1 fun zs H2 => vs.length = es.length ∧ zs.length = ks.length ∧ ∃ ws, pick (vs ++ zs) pm = some ws ∧ ws.length = ps.length ∧ spC X.K cf i ws H2 Q := by
          refine ⟨H0, g0, τ, ga, S, d1, S2, R, e3, fun τ1 H1 vs z1 R1 r1 => ⟨H0, g0, τ1, ga, S2, d2, S1, R1, e4, fun τ2 H2 zs z2 R2 r2 => ?_⟩⟩
          have ra : RepA X.K H2 (okf τ2 S1.fz) ga ds (vs ++ zs) := by rw [e5]; exact RepA.append (R1.keepA z2 r1) r2
          obtain ⟨ws, hw, rw'⟩ := pick_rel ra e6
          refine ⟨by rw [RepA.length r1, evEs_len e3, l1], by rw [RepA.length r2, evEs_len e4, l2, n4], ws, hw, by rw [pick_len hw, pmC_len hpm], spC_of R2 rw' e2 ?_⟩
          rw [hd]
          exact q.aft (z1.trans z2)
        have fin : ∀ (us ws : List Value) (s2 : Shared) (vs zs : List V) (H2 : Hp), Inv X pins σ H2 s2 → Vals vs us → Vals zs ws → (vs.length = es.length ∧ zs.length = ks.length ∧ ∃ ws, pick (vs ++ zs) pm = some ws ∧ ws.length = ps.length ∧ spC X.K cf i ws H2 Q) →
            wpAny (model X.prog X.w) X.A (call (.ref a) us (ks.zip ws)) (EP X pins σ Q) X.xe s2 := fun us ws s2 vs zs H2 I2 rv rz ⟨lv, lz, xs, hx, hl, sp⟩ => by
          obtain ⟨bs, hb2, rb⟩ := pick_vals (rv.append rz) hx
          exact run_own (us := us) (ws := ws) (ks := ks) C F I2 (hb es.length ks pm s2 us ws bs hpm (by rw [← n4]; exact hn) (by rw [← rv.length]; exact lv) (by rw [← rz.length]; exact lz) hb2) rb hl sp
        refine wpAny_Call_Name_kw (ld_glob I (C.gl hg) hm ?_ (plain1 hp))
        cases es with
        | nil =>
          refine PySem.W.callWith_KW0 (h₀ := X.base) I.ok.mod.kin hk n1 ?_ (by rw [n3]; rfl)
          cases h1
          obtain ⟨H0', g0', τ', ga', T, ds', T', R', ev', q'⟩ := pre
          cases ev'
          refine thn (hkw.run pos pins s σ H _ I (q' _ _ [] (Ex.refl _ _ _ _) R' rfl)) fun ws s2 ⟨zs, H2, I2, rz, q2⟩ => ⟨I2.kIn, ?_⟩
          rw [n2]
          exact fin [] ws s2 [] zs H2 I2 .nil rz q2
        | cons e es =>
          refine PySem.W.callWith_KW (h₀ := X.base) I.ok.mod.kin hk n1 (thn (ha.run pos pins s σ H _ I pre) fun us s1 ⟨vs, H1, I1, rv, q1⟩ => ?_) ?_ (star_cons (hst e (by simp)))
          · refine thn (hkw.run pos pins s1 σ H1 _ I1 q1) fun ws s2 ⟨zs, H2, I2, rz, q2⟩ => ⟨I2.kIn, ?_⟩
            rw [n2]
            exact fin us ws s2 vs zs H2 I2 rv rz q2
          · rw [star_plain hst, n3]; rfl
end

/-! ### isinstance -/
def tyS : Ty → String
  | .non => "NoneType"
  | .bool => "bool"
  | .int => "int"
  | .str => "str"
  | .list => "list"
  | .tuple => "tuple"
  | .dict => "dict"
theorem kit_all : ∀ a b : Ty, b ≠ .non → b ≠ .dict → kitB (tyS a) (tyS b) = some (subTy a b) := by
  intro a b h1 h2
  cases a <;> cases b <;> first | exact absurd rfl h1 | exact absurd rfl h2 | decide +kernel
theorem tyC_ok {x : Str} {t : Ty} (h : tyC x = some t) : t ≠ .non ∧ t ≠ .dict ∧ x = ((tyS t : String) : Str) ∧ bootBuiltins x = some (.type (tyS t)) := by
  unfold tyC at h
  split at h
  · rename_i z; cases h; rw [strIs_eq z]; exact ⟨by decide, by decide, rfl, PyProof.Rows.boot_int⟩
  · split at h
    · rename_i z; cases h; rw [strIs_eq z]; exact ⟨by decide, by decide, rfl, PyProof.Rows.boot_bool⟩
    · split at h
      · rename_i z; cases h; rw [strIs_eq z]; exact ⟨by decide, by decide, rfl, PyProof.Rows.boot_list⟩
      · split at h
        · rename_i z; cases h; rw [strIs_eq z]; exact ⟨by decide, by decide, rfl, PyProof.Rows.boot_tuple⟩
        · split at h
          · rename_i z; cases h; rw [strIs_eq z]; exact ⟨by decide, by decide, rfl, PyProof.Rows.boot_str⟩
          · cases h
theorem ty_of {K : PySem.W.Frag} {H : Hp} {ok : OkT} {ga : Option Addr} {d : D} {v : V} {t : Ty} (r : Rep K H ok ga d v) (h : tyD d = some t) : TyX K H v (.type (tyS t)) := by
  cases d with
  | non => cases h; rw [show v = _ from r]; exact .base .non
  | bl b => cases h; rw [show v = _ from r]; exact .base (.bl b)
  | int i => cases h; rw [show v = _ from r]; exact .base (.int i)
  | str x => cases h; rw [show v = _ from r]; exact .base (.str x)
  | rep x => cases h; rw [show v = _ from r]; exact .base (.str _)
  | «ints» t l => cases h; obtain ⟨a, rfl, _, q⟩ := r; exact .base (.lst q)
  | lst t xs => cases h; obtain ⟨a, vs, rfl, _, q, _⟩ := r; exact .base (.lst q)
  | tup xs =>
    cases h
    obtain ⟨a, vs, rfl, q, _⟩ := r
    rcases q with (q | ⟨o, q⟩) | ⟨o, its, n, q, qc, _⟩
    · exact .base (.tup q)
    · exact .fTuple q
    · exact .kTuple q qc
  | dct t kvs => cases h; obtain ⟨a, vs, rfl, _, q, _⟩ := r; exact .base (.dK q)
  | gd _ => cases h
  | scr l =>
    cases h
    obtain ⟨a, rfl, q⟩ := r
    rcases q with ⟨o, q⟩ | ⟨o, its, n, q, qc, _⟩
    · exact .base (.frz q)
    · exact .kList q qc
  | gen => cases h
  | bot => cases h
section
variable {c : Cfg} {cf : CallF} {k : Nat} {X : Cx} {sc : Scope} {r : Ev} {pos p p2 : Pos} {a : Expr} {x : CE}
theorem snd_isi (C : CtxOk c cf k X sc) {f ty : Str} {t : Ty} (hf : isB c sc f = true) (hi : strIs f "isinstance" = true) (hy : isB c sc ty = true) (hpy : plainX ty = true) (ht : tyC ty = some t) (hs : isStar a = false) (ha : PE X a (TX X.K r.e x)) :
    PE X (.Call (.Name f p) [a, .Name ty p2] [] pos) (TX X.K (stepE cf r) (.isi x t)) := by
  obtain ⟨n1, n2, rfl, hbt⟩ := tyC_ok ht
  rw [strIs_eq hi] at hf ⊢
  have h2 : PE X (.Name ((tyS t : String) : Str) p2) (tC (.ty (tyS t))) := pe_bltn (C.gl (b2 hy).1) (C.free _ (b2 hy).2) hbt rfl (plain3 hpy) (plain1 hpy)
  refine peW (pe_callB call_isi (C.gl (b2 hf).1) (C.free _ (b2 hf).2) PyProof.Rows.boot_isinstance (pa_cons ha (pa_cons h2 pa_nil) (star_cons hs)) (by decide) (by decide) (star_cons hs) rfl) fun σ H Q ⟨H0, g0, τ, ga, S, d, S', R, ev, q⟩ => ?_
  cases e1 : r.e x S with
  | none => simp [stepE, e1] at ev
  | some p1 =>
    obtain ⟨d1, S1⟩ := p1
    simp only [stepE, e1] at ev
    cases e2 : opIsi d1 t with
    | none => simp [e2] at ev
    | some b =>
      simp only [e2, Option.map_some] at ev
      cases ev
      refine ⟨H0, g0, τ, ga, S, d1, _, R, e1, fun τ1 H1 v z1 R1 r1 => ?_⟩
      unfold opIsi at e2
      cases e3 : tyD d1 with
      | none => rw [e3] at e2; cases e2
      | some t1 =>
        rw [e3] at e2; cases e2
        exact ⟨v, .ty (tyS t), _, _, _, rfl, .ty _, ty_of r1 e3, kit_ty (kit_all t1 t n1 n2), Want.now R1 (q.aft z1) rfl⟩
end

/-! ### dict displays -/
def keyV : DKey → V
  | .int i => .int i
  | .str x => .str x
  | .ints _ => .non
theorem key_pe {X : Cx} {o : Option Expr} {y : DKey} (h : dkeyC o = some y) : ∃ e k', o = some e ∧ PE X e (tC (keyV y)) ∧ keyOf y = some k' ∧ kV k' = keyV y := by
  unfold dkeyC at h
  split at h
  · cases h; exact ⟨_, _, rfl, pe_int, rfl, rfl⟩
  · cases h; exact ⟨_, _, rfl, pe_str, rfl, rfl⟩
  · cases h
theorem key_of {o : Option Expr} {y : DKey} (h : dkeyC o = some y) : ∃ k', keyOf y = some k' ∧ kV k' = keyV y := by
  unfold dkeyC at h
  split at h
  · cases h; exact ⟨_, rfl, rfl⟩
  · cases h; exact ⟨_, rfl, rfl⟩
  · cases h
section
variable {c : Cfg} {cf : CallF} {k : Nat} {X : Cx} {sc : Scope} {r : Ev} {pos : Pos}
def trsOf (K : PySem.W.Frag) (r : Ev) : List DKey → List CE → List (TE × TE)
  | y :: ys, x :: xs => (tC (keyV y), TX K r.e x) :: trsOf K r ys xs
  | _, _ => []
theorem pps_of : ∀ {ks : List (Option Expr)} {ys : List DKey} {vs : List Expr} {xs : List CE}, allM dkeyC ks = some ys → ks.length = vs.length → F2 (fun e x => isStar e = false ∧ PE X e (TX X.K r.e x)) vs xs →
    PPs X pos ks vs (trsOf X.K r ys xs) ∧ ks.all (·.isSome) = true ∧ ys.length = ks.length
  | [], ys, vs, xs, h, hl, f => by
    cases h
    cases f with
    | nil => exact ⟨pps_nil, rfl, rfl⟩
    | cons _ _ => cases hl
  | o :: ks, ys, vs, xs, h, hl, f => by
    unfold allM at h
    split at h
    · rename_i y ys' e1 e2
      cases h
      cases f with
      | nil => cases hl
      | cons p t =>
        obtain ⟨e, k', rfl, pe, _⟩ := key_pe (X := X) e1
        obtain ⟨h1, h2, h3⟩ := pps_of e2 (by simpa using hl) t
        exact ⟨pps_cons pe p.2 h1, by rw [List.all_cons, h2]; rfl, by simp [h3]⟩
    · cases h
/-- the keys of a new dict -/
def keysOf : List DKey → Option (List L2.Key)
  | [] => some []
  | y :: ys => match keyOf y, keysOf ys with
    | some k, some ks => some (k :: ks)
    | _, _ => none
theorem keysOf_some : ∀ {ys : List DKey} {ks : List (Option Expr)}, allM dkeyC ks = some ys → ∃ zs, keysOf ys = some zs ∧ zs.map kV = ys.map keyV
  | ys, [], h => by cases h; exact ⟨[], rfl, rfl⟩
  | ys, o :: ks, h => by
    unfold allM at h
    split at h
    · rename_i y ys' e1 e2
      cases h
      obtain ⟨k', h1, h2⟩ := key_of e1
      obtain ⟨zs, h3, h4⟩ := keysOf_some (ks := ks) e2
      exact ⟨k' :: zs, by unfold keysOf; rw [h1, h3], by simp [h2, h4]⟩
    · cases h
end
section
variable {K : PySem.W.Frag} {H0 : Hp} {g0 ga : Option Addr} {τ : Addr → Option Nat} {S S' : Stt} {σ : St} {H : Hp} {r : Ev}
theorem trs_rd : ∀ {ys : List DKey} {xs : List CE} {ds : List D} {τ : Addr → Option Nat} {S S' : Stt} {H : Hp} {Q : List (V × V) → Hp → Prop}, ys.length = xs.length → Rl K H0 g0 τ ga S σ H → evEs r xs S = some (ds, S') →
    (∀ τ' H' vs, Ex ga τ S H τ' S' H' → Rl K H0 g0 τ' ga S' σ H' → RepA K H' (okf τ' S'.fz) ga ds vs → Q ((ys.map keyV).zip vs) H') → tPairs (trsOf K r ys xs) σ H Q
  | [], [], ds, τ, S, S', H, Q, _, R, ev, q => by
    cases ev
    exact q τ H [] (Ex.refl _ _ _ _) R rfl
  | y :: ys, x :: xs, ds, τ, S, S', H, Q, hl, R, ev, q => by
    unfold evEs at ev
    split at ev
    · rename_i d S1 e1
      split at ev
      · rename_i ds2 S2 e2
        cases ev
        refine ⟨H0, g0, τ, ga, S, d, S1, R, e1, fun τ1 H1 v x1 R1 r1 => ?_⟩
        exact trs_rd (by simpa using hl) R1 e2 fun τ2 H2 vs x2 R2 r2 => q τ2 H2 (v :: vs) (x1.trans x2) R2 ⟨v, vs, rfl, R1.keep x2 r1, r2⟩
      · cases ev
    · cases ev
  | [], _ :: _, _, _, _, _, _, _, hl, _, _, _ => by cases hl
  | _ :: _, [], _, _, _, _, _, _, hl, _, _, _ => by cases hl
/-- new keys at the end -/
theorem putK_new {v : V} {k : L2.Key} : ∀ {kvs : List (L2.Key × V)}, k ∉ kvs.map (·.1) → putK kvs k v = kvs ++ [(k, v)] := by
  intro kvs h
  unfold putK
  have : (kvs.any fun kv => decide (kv.1 = k)) = false := by
    rw [List.any_eq_false]
    intro p hp e
    exact h (List.mem_map.mpr ⟨p, hp, by simpa using e⟩)
  rw [if_neg (by rw [this]; decide)]
theorem mergeK_new : ∀ {more kvs : List (L2.Key × V)}, ((kvs ++ more).map (·.1)).Nodup → mergeK kvs more = kvs ++ more
  | [], kvs, _ => by show kvs = _; simp
  | p :: more, kvs, h => by
    show mergeK (putK kvs p.1 p.2) more = _
    have hn : p.1 ∉ kvs.map (·.1) := by
      rw [List.map_append, List.nodup_append] at h
      intro m
      exact h.2.2 _ m _ (by simp) rfl
    rw [putK_new hn, mergeK_new (by simpa [List.append_assoc] using h)]
    simp [List.append_assoc]
theorem keyOf_inj {y z : DKey} {k : L2.Key} (h1 : keyOf y = some k) (h2 : keyOf z = some k) : y = z := by
  cases y <;> cases z <;> simp [keyOf] at h1 h2
  · rw [← h1] at h2; simpa using h2.symm
  · rw [← h1] at h2; simp at h2
  · rw [← h1] at h2; simp at h2
  · rw [← h1] at h2; simpa using h2.symm
theorem keysOf_mem {k : L2.Key} : ∀ {ys : List DKey} {zs : List L2.Key}, keysOf ys = some zs → k ∈ zs → ∃ y ∈ ys, keyOf y = some k
  | [], zs, h, m => by cases h; cases m
  | y :: ys, zs, h, m => by
    unfold keysOf at h
    split at h
    · rename_i k1 ks e1 e2
      cases h
      rcases List.mem_cons.mp m with q | m
      · exact ⟨y, by simp, by rw [q]; exact e1⟩
      · obtain ⟨y', h1, h2⟩ := keysOf_mem e2 m
        exact ⟨y', by simp [h1], h2⟩
    · cases h
theorem keysOf_nodup : ∀ {ys : List DKey} {zs : List L2.Key}, keysOf ys = some zs → ys.Nodup → zs.Nodup
  | [], zs, h, _ => by cases h; exact List.nodup_nil
  | y :: ys, zs, h, n => by
    unfold keysOf at h
    split at h
    · rename_i k1 ks e1 e2
      cases h
      obtain ⟨n1, n2⟩ := List.nodup_cons.mp n
      refine List.nodup_cons.mpr ⟨fun m => ?_, keysOf_nodup e2 n2⟩
      obtain ⟨y', h1, h2⟩ := keysOf_mem e2 m
      exact n1 (keyOf_inj e1 h2 ▸ h1)
    · cases h
theorem keysOf_len : ∀ {ys : List DKey} {zs : List L2.Key}, keysOf ys = some zs → zs.length = ys.length
  | [], zs, h => by cases h; rfl
  | y :: ys, zs, h => by
    unfold keysOf at h
    split at h
    · rename_i e1 e2; cases h; simp [keysOf_len e2]
    · cases h
theorem RepK.zip {ok : OkT} : ∀ {ys : List DKey} {zs : List L2.Key} {ds : List D} {vs : List V}, keysOf ys = some zs → RepL K H ok ga ds vs → RepK K H ok ga (ys.zip ds) (zs.zip vs)
  | [], zs, ds, vs, h, _ => by cases h; cases ds <;> rfl
  | y :: ys, zs, [], vs, h, r => by
    have r' : vs = [] := r
    rw [r', List.zip_nil_right, List.zip_nil_right]; rfl
  | y :: ys, zs, d :: ds, vs, h, r => by
    unfold keysOf at h
    split at h
    · rename_i k1 ks e1 e2
      cases h
      obtain ⟨v, r', rfl, h1, n, h2⟩ := r
      exact ⟨k1, v, ks.zip r', rfl, e1, h1, n, RepK.zip e2 h2⟩
    · cases h
theorem zip_keys : ∀ {zs : List L2.Key} {us : List V} {vs : List V}, zs.map kV = us → us.zip vs = (zs.zip vs).map fun kv => (kV kv.1, kv.2)
  | [], us, vs, h => by rw [← h]; rfl
  | z :: zs, us, vs, h => by
    rw [← h]
    cases vs with
    | nil => rfl
    | cons v vs => simp only [List.map_cons, List.zip_cons_cons]; rw [zip_keys (zs := zs) rfl]
end
section
variable {c : Cfg} {cf : CallF} {k : Nat} {X : Cx} {sc : Scope} {r : Ev} {pos : Pos} {xs : List CE}
theorem snd_dict {ks : List (Option Expr)} {ys : List DKey} {vs : List Expr} (h0 : ks ≠ []) (h15 : ks.length ≤ 15) (hk : allM dkeyC ks = some ys) (hl : ks.length = vs.length) (h : F2 (fun e x => isStar e = false ∧ PE X e (TX X.K r.e x)) vs xs) :
    PE X (.Dict ks vs pos) (TX X.K (stepE cf r) (.dict ys xs)) := by
  obtain ⟨pp, hall, hys⟩ := pps_of (pos := pos) hk hl h
  obtain ⟨zs, hz, hzv⟩ := keysOf_some hk
  refine peW (pe_disp pp hall hl h0 h15) fun σ H Q ⟨H0, g0, τ, ga, S, d, S', R, ev, q⟩ => ?_
  cases e1 : evEs r xs S with
  | none => simp [stepE, e1] at ev
  | some p1 =>
    obtain ⟨ds, S1⟩ := p1
    simp only [stepE, e1] at ev
    split at ev
    · rename_i hc
      obtain ⟨c1, c2⟩ := b2 hc
      obtain ⟨c3, c4⟩ := b2 c2
      obtain ⟨c5, c6⟩ := b2 c4
      obtain ⟨c7, c8⟩ := b2 c6
      obtain ⟨rfl, rfl⟩ := new_eq ev
      intro p hp
      obtain ⟨R0, x0⟩ := R.laid hp (.dK [])
      have l := Loose.fresh R hp (o' := .dK []) (.inr ⟨[], rfl⟩)
      refine trs_rd (by rw [h.len, hys, hl]) R0 e1 fun τ1 H1 ws x1 R1 r1 => ?_
      obtain ⟨l1, hp1⟩ := l.stay x1
      have rl := RepA.noGen r1 c1
      have nd : ((([] : List (L2.Key × V)) ++ zs.zip ws).map (·.1)).Nodup := by
        rw [List.nil_append]
        rw [List.map_fst_zip (by rw [RepL.length rl, evEs_len e1, h.len, ← hl, keysOf_len hz, hys]; exact Nat.le_refl _)]
        exact keysOf_nodup hz (of_decide_eq_true c8)
      refine ⟨by rw [hp1]; exact upd_same, zs.zip ws, zip_keys hzv, ?_, ?_⟩
      · rw [List.length_zip, keysOf_len hz, hys]
        omega
      · rw [mergeK_new nd, List.nil_append]
        refine q _ _ _ (Ex.fin (x0.trans x1) hp l1.tau) (R1.tagLoose l1) ⟨p, _, rfl, .inr ⟨Nat.ne_of_gt R1.pos, putT_same⟩, upd_same, ?_⟩
        refine RepK.zip hz ?_
        exact RepL.move (l1.tagLk (fz := S1.fz)) ds ws (fun _ _ => trivial) rl
    · cases ev
end
end Cor

/-! CorL: targets; iterators; list comprehensions. -/
namespace Cor
open PySem L2

/-! ### targets -/
structure TgCx (c : Cfg) (X : Cx) (sc : Scope) : Prop where
  N : X.N = c.N
  nd : X.N.Nodup
  calm : X.calm = true
  loc : ∀ x, sc.names.lookup x = some .local ∨ sc.names.lookup x = some .cell → Loc X.env.scope x ∧ (X.fn x = true ∨ X.env.scope.names.lookup x = some .local)
section
variable {K : PySem.W.Frag} {H0 : Hp} {g0 ga : Option Addr} {τ τ' : Addr → Option Nat} {S S' : Stt} {σ σ' : St} {H H' : Hp} {d : D} {v : V}
theorem Rl.setEnv (R : Rl K H0 g0 τ ga S σ H) {e : List (Option D)} (h1 : e.length = σ'.length) (h2 : ∀ (i : Nat) (d : D), e[i]? = some (some d) → ∃ v, σ'[i]? = some (some v) ∧ Rep K H (okf τ S.fz) ga d v) : Rl K H0 g0 τ ga { S with env := e } σ' H :=
  ⟨R.pos, R.clk, R.trk, R.old, R.g0n, R.hg, R.gga, R.gnew, R.gen, h1, h2⟩
theorem Rl.set (R : Rl K H0 g0 τ ga S σ H) {i : Nat} (r : Rep K H (okf τ S.fz) ga d v) : Rl K H0 g0 τ ga (asgV i d S) (σ.set i (some v)) H :=
  R.setEnv (by rw [List.length_set, List.length_set, R.len]) fun j e h => by
    by_cases q : i = j
    · subst q
      rw [List.getElem?_set] at h
      simp only [if_true] at h
      split at h
      · rename_i hlt
        cases h
        exact ⟨v, by rw [List.getElem?_set]; simp only [if_true]; rw [if_pos (by rw [← R.len]; exact hlt)], r⟩
      · cases h
    · rw [List.getElem?_set_ne q] at h
      obtain ⟨w, h1, h2⟩ := R.env j e h
      exact ⟨w, by rw [List.getElem?_set_ne q]; exact h1, h2⟩
theorem Ex.setEnv (x : Ex ga τ S H τ' S' H') (e : List (Option D)) : Ex ga τ { S with env := e } H τ' { S' with env := e } H' := ⟨x.sub, x.tau, x.fz, x.lk, x.hh, rfl, x.dom, x.new⟩
theorem wipe_set {i : Nat} {a : Option V} : ∀ {vs : List Nat} {σ : St}, i ∈ vs → wipe (σ.set i a) vs = wipe σ vs
  | j :: vs, σ, h => by
    unfold wipe
    by_cases q : i ∈ vs
    · rw [wipe_set q]
    · have e : i = j := (List.mem_cons.mp h).resolve_right q
      subst e
      have : ∀ {vs : List Nat} {σ : St}, i ∉ vs → wipe (σ.set i a) vs = (wipe σ vs).set i a := by
        intro vs
        induction vs with
        | nil => intro σ _; rfl
        | cons j vs ih =>
          intro σ h
          unfold wipe
          rw [ih (fun m => h (List.mem_cons_of_mem _ m)), List.set_comm _ _ (fun z => h (by rw [z]; exact List.mem_cons_self))]
      rw [this q, List.set_set]
end
def TXg (K : PySem.W.Frag) (tg : Tg) : TG := fun v σ H Q => ∃ (H0 : Hp) (g0 : Option Addr) (τ : Addr → Option Nat) (ga : Option Addr) (S : Stt) (d : D) (S' : Stt),
  Rl K H0 g0 τ ga S σ H ∧ Rep K H (okf τ S.fz) ga d v ∧ asgT tg d S = some S' ∧ ∀ σ', Rl K H0 g0 τ ga S' σ' H → (∀ vs, (∀ i ∈ tgSlots tg, i ∈ vs) → wipe σ' vs = wipe σ vs) → Q σ' H
def TXgs (K : PySem.W.Frag) (is : List Nat) : TGs := fun vs σ H Q => ∃ (H0 : Hp) (g0 : Option Addr) (τ : Addr → Option Nat) (ga : Option Addr) (S : Stt) (ds : List D) (S' : Stt),
  Rl K H0 g0 τ ga S σ H ∧ RepL K H (okf τ S.fz) ga ds vs ∧ asgVs is ds S = some S' ∧ ∀ σ', Rl K H0 g0 τ ga S' σ' H → (∀ vs, (∀ i ∈ is, i ∈ vs) → wipe σ' vs = wipe σ vs) → Q σ' H
theorem pgW {X : Cx} {e : Expr} {t t' : TG} (h : PG X e t) (w : ∀ v σ H Q, t' v σ H Q → t v σ H Q) : PG X e t' := ⟨fun pins s σ H v u Q I r q => h.run pins s σ H v u Q I r (w v σ H Q q)⟩
theorem pgsW {X : Cx} {e : List Expr} {t t' : TGs} (h : PGs X e t) (w : ∀ v σ H Q, t' v σ H Q → t v σ H Q) : PGs X e t' := ⟨fun pins s σ H v u Q I r q => h.run pins s σ H v u Q I r (w v σ H Q q)⟩
section
variable {c : Cfg} {X : Cx} {sc : Scope}
theorem slot_ok (T : TgCx c X sc) {x : Str} {i : Nat} (h : slotC c sc x = some i) : X.N[i]? = some x ∧ Loc X.env.scope x ∧ (X.fn x = true ∨ X.env.scope.names.lookup x = some .local) := by
  unfold slotC at h
  split at h
  · rename_i e
    exact ⟨by rw [T.N]; exact idxOf_ok h, T.loc x (.inl e)⟩
  · rename_i e
    exact ⟨by rw [T.N]; exact idxOf_ok h, T.loc x (.inr e)⟩
  · cases h
theorem snd_gName (T : TgCx c X sc) {x : Str} {p : Pos} {i : Nat} (h : slotC c sc x = some i) : PG X (.Name x p) (TXg X.K (.v i)) := by
  obtain ⟨h1, h2, h3⟩ := slot_ok T h
  refine pgW (pg_name T.nd h1 h2 h3) fun v σ H Q ⟨H0, g0, τ, ga, S, d, S', R, r, e, q⟩ => ?_
  cases e
  exact q _ (R.set r) fun vs m => wipe_set (m i (by simp [tgSlots]))
theorem tgNames_ok : ∀ {es : List Expr} {is : List Nat}, tgNames c sc es = some is → (assignEach es X.env).length = is.length ∧ (assignEach es X.env).findIdx? (·.1) = none
  | [], is, h => by cases h; exact ⟨rfl, rfl⟩
  | e :: r, is, h => by
    unfold tgNames at h
    split at h
    · rename_i i is' e1 e2
      cases h
      obtain ⟨h1, h2⟩ := tgNames_ok (es := r) e2
      unfold tgName at e1
      split at e1
      · exact ⟨by simp [assignEach, h1], by simp [assignEach, List.findIdx?_cons, h2]⟩
      · cases e1
    · cases h
theorem snd_gs (T : TgCx c X sc) : ∀ {es : List Expr} {is : List Nat}, tgNames c sc es = some is → PGs X es (TXgs X.K is)
  | [], is, h => by
    cases h
    refine pgsW pgs_nil fun v σ H Q ⟨H0, g0, τ, ga, S, ds, S', R, r, e, q⟩ => ?_
    cases ds with
    | nil => cases e; exact ⟨r, q _ R fun _ _ => rfl⟩
    | cons _ _ => cases e
  | e :: es, is, h => by
    unfold tgNames at h
    split at h
    · rename_i i is' e1 e2
      cases h
      unfold tgName at e1
      split at e1
      · refine pgsW (pgs_cons (snd_gName T e1) (snd_gs T e2)) fun v σ H Q ⟨H0, g0, τ, ga, S, ds, S', R, r, e, q⟩ => ?_
        cases ds with
        | nil => cases e
        | cons d ds =>
          obtain ⟨v1, vr, rfl, r1, n1, r2⟩ := r
          refine ⟨v1, vr, rfl, H0, g0, τ, ga, S, d, _, R, r1, rfl, fun σ1 R1 w1 => ⟨H0, g0, τ, ga, asgV i d S, ds, S', R1, r2, e, fun σ2 R2 w2 => q σ2 R2 fun vs m => ?_⟩⟩
          rw [w2 vs (fun j hj => m j (List.mem_cons_of_mem _ hj)), w1 vs (fun j hj => m j (by simp [tgSlots] at hj; simp [hj]))]
      · cases e1
    · cases h
theorem snd_tg (T : TgCx c X sc) {e : Expr} {tg : Tg} (h : tgC c sc e = some tg) : PG X e (TXg X.K tg) := by
  unfold tgC at h
  split at h
  · rename_i x p
    cases e1 : slotC c sc x with
    | none => rw [e1] at h; cases h
    | some i => rw [e1] at h; cases h; exact snd_gName T e1
  · rename_i es k p
    cases e1 : tgNames c sc es with
    | none => rw [e1] at h; cases h
    | some is =>
      rw [e1] at h; cases h
      obtain ⟨h1, h2⟩ := tgNames_ok (X := X) e1
      refine pgW (pg_tup (n := is.length) T.calm (snd_gs T e1) h1 h2) fun v σ H Q ⟨H0, g0, τ, ga, S, d, S', R, r, e, q⟩ => ?_
      cases d <;> simp only [asgT] at e <;> first | cases e | skip
      obtain ⟨a, vs, rfl, q1, r1⟩ := r
      have hl : ∀ {is : List Nat} {ds : List D} {S S' : Stt}, asgVs is ds S = some S' → ds.length = is.length := by
        intro is
        induction is with
        | nil => intro ds S S' h; cases ds with
          | nil => rfl
          | cons _ _ => cases h
        | cons i is ih => intro ds S S' h; cases ds with
          | nil => cases h
          | cons d ds => simp [ih h]
      exact ⟨a, vs, rfl, q1, by rw [RepL.length r1, hl e], H0, g0, τ, ga, S, _, S', R, r1, e, q⟩
  · cases h
end

/-! ### iterators -/
/-- at each turn what xs says -/
def WalkAt (K : PySem.W.Frag) (ga : Option Addr) (ok : OkT) (H : Hp) (J : It) (xs : List D) : Prop :=
  ∀ i, (i < xs.length → J.go i H) ∧ (xs.length ≤ i → J.stop i H) ∧ ∀ x H', i < xs.length → J.yld i H x H' → ∃ d, xs[i]? = some d ∧
    ((H' = H ∧ Rep K H ok ga d x) ∨ ∃ T vs ds, d = .tup ds ∧ x = .ref T ∧ H T = none ∧ H' = upd H T (.tup vs) ∧ RepL K H ok ga ds vs)
def Walk (K : PySem.W.Frag) (ls : List Nat) (ok : OkT) (H : Hp) (J : It) (xs : List D) : Prop := ∀ ga' ok' H', LkP (· ∈ ls) ok H ok' H' → WalkAt K ga' ok' H' J xs
def TXi (K : PySem.W.Frag) (r : Ev) (ci : CI) : TI := fun σ H Q => ∃ (H0 : Hp) (g0 : Option Addr) (τ : Addr → Option Nat) (ga : Option Addr) (S : Stt) (xs : List D) (ls : List Nat) (S' : Stt),
  Rl K H0 g0 τ ga S σ H ∧ evI r ci S = some (xs, ls, S') ∧ ∀ τ' H' J, Ex ga τ S H τ' S' H' → Rl K H0 g0 τ' ga S' σ H' → Walk K ls (okf τ' S'.fz) H' J xs → Q J H'
section
variable {K : PySem.W.Frag} {H H' : Hp} {ok ok' : OkT} {ga ga' : Option Addr}
theorem RepL.moveN (L : LkP T ok H ok' H') (ds : List D) (vs : List V) (m : ∀ t ∈ tagsL ds, T t) (h : RepL K H ok ga ds vs) : RepL K H' ok' ga' ds vs := RepL.noga ds vs (RepL.move L (ga' := ga) ds vs m h)
theorem walk_list {a : Addr} {t : Nat} {vs : List V} {xs : List D} {ls : List Nat} (o : ok t a) (h : H a = some (.lst vs)) (r : RepL K H ok ga xs vs) (m : ∀ u ∈ t :: tagsL xs, u ∈ ls) : Walk K ls ok H (Itl K a) xs := fun ga' ok' H' L i => by
  obtain ⟨h1, _⟩ := L.obj t a _ (m t (by simp)) o h
  have r1 : RepL K H' ok' ga' xs vs := RepL.moveN L xs vs (fun u hu => m u (by simp [hu])) r
  have hl := RepL.length r1
  have sq : SqL K H' a vs := SqL.of h1
  refine ⟨fun hi => ?_, fun hi => ⟨vs, sq, by omega⟩, fun x H2 hi y => ?_⟩
  · exact ⟨vs, _, sq, List.getElem?_eq_getElem (by omega)⟩
  · obtain ⟨rfl, y⟩ := y
    obtain ⟨v, h3, h4, _⟩ := RepL.get r1 (List.getElem?_eq_getElem hi)
    have := y vs sq
    rw [h3] at this; cases this
    exact ⟨_, List.getElem?_eq_getElem hi, .inl ⟨rfl, h4⟩⟩
theorem walk_tup {a : Addr} {vs : List V} {xs : List D} {ls : List Nat} (h : SqT K H a vs) (r : RepL K H ok ga xs vs) (m : ∀ u ∈ tagsL xs, u ∈ ls) : Walk K ls ok H (Itt K a) xs := fun ga' ok' H' L i => by
  have sq := sqT_lk L h
  have r1 : RepL K H' ok' ga' xs vs := RepL.moveN L xs vs m r
  have hl := RepL.length r1
  refine ⟨fun hi => ?_, fun hi => ⟨vs, sq, by omega⟩, fun x H2 hi y => ?_⟩
  · exact ⟨vs, _, sq, List.getElem?_eq_getElem (by omega)⟩
  · obtain ⟨rfl, y⟩ := y
    obtain ⟨v, h3, h4, _⟩ := RepL.get r1 (List.getElem?_eq_getElem hi)
    have := y vs sq
    rw [h3] at this; cases this
    exact ⟨_, List.getElem?_eq_getElem hi, .inl ⟨rfl, h4⟩⟩
theorem rangeL_len (c : Int) : ∀ (n : Nat) (lo : Int), (rangeL lo c n).length = n
  | 0, _ => rfl
  | n + 1, lo => by simp [rangeL, rangeL_len c n]
theorem rangeL_get (c : Int) : ∀ (n : Nat) (lo : Int) (i : Nat), i < n → (rangeL lo c n)[i]? = some (.int (lo + i * c))
  | 0, _, _, h => by omega
  | n + 1, lo, 0, _ => by simp [rangeL]
  | n + 1, lo, i + 1, h => by
    have := rangeL_get c n (lo + c) i (by omega)
    simp only [rangeL, List.getElem?_cons_succ, this]
    congr 2
    push_cast
    rw [Int.add_mul]; omega
theorem walk_r (lo : Int) (n : Nat) {ls : List Nat} : Walk K ls ok H (Itr lo n) (rangeL lo 1 n) := fun ga' ok' H' L i => by
  rw [rangeL_len]
  refine ⟨fun hi => hi, fun hi => hi, fun x H2 hi y => ?_⟩
  obtain ⟨rfl, rfl⟩ := y
  exact ⟨_, rangeL_get 1 n lo i hi, .inl ⟨rfl, by show V.int _ = V.int _; rw [Int.mul_one]⟩⟩
theorem walk_c (lo c : Int) (n : Nat) {ls : List Nat} : Walk K ls ok H (Itc lo c n) (rangeL lo c n) := fun ga' ok' H' L i => by
  rw [rangeL_len]
  refine ⟨fun hi => hi, fun hi => hi, fun x H2 hi y => ?_⟩
  obtain ⟨rfl, rfl⟩ := y
  exact ⟨_, rangeL_get c n lo i hi, .inl ⟨rfl, rfl⟩⟩
theorem enumL_len : ∀ (xs : List D) (i : Int), (enumL i xs).length = xs.length
  | [], _ => rfl
  | x :: xs, i => by simp [enumL, enumL_len xs]
theorem enumL_get : ∀ (xs : List D) (j : Int) (i : Nat) (d : D), xs[i]? = some d → (enumL j xs)[i]? = some (.tup [.int (j + i), d])
  | [], _, _, _, h => by cases h
  | x :: xs, j, 0, d, h => by cases h; simp [enumL]
  | x :: xs, j, i + 1, d, h => by
    have := enumL_get xs (j + 1) i d (by simpa using h)
    simp only [enumL, List.getElem?_cons_succ, this]
    congr 4
    push_cast; omega
theorem walk_e {a : Addr} {t : Nat} {vs : List V} {xs : List D} {ls : List Nat} (o : ok t a) (h : H a = some (.lst vs)) (r : RepL K H ok ga xs vs) (m : ∀ u ∈ t :: tagsL xs, u ∈ ls) : Walk K ls ok H (Ite K a) (enumL 0 xs) := fun ga' ok' H' L i => by
  obtain ⟨h1, _⟩ := L.obj t a _ (m t (by simp)) o h
  have r1 : RepL K H' ok' ga' xs vs := RepL.moveN L xs vs (fun u hu => m u (by simp [hu])) r
  have hl := RepL.length r1
  have sq : SqL K H' a vs := SqL.of h1
  rw [enumL_len]
  refine ⟨fun hi => ?_, fun hi => ⟨vs, sq, by omega⟩, fun x H2 hi y => ?_⟩
  · exact ⟨vs, _, sq, List.getElem?_eq_getElem (by omega)⟩
  · obtain ⟨T, z, rfl, hT, rfl, y⟩ := y
    obtain ⟨v, h3, h4, h5⟩ := RepL.get r1 (List.getElem?_eq_getElem hi)
    have := y vs sq
    rw [h3] at this; cases this
    refine ⟨_, enumL_get xs 0 i _ (List.getElem?_eq_getElem hi), .inr ⟨T, _, _, rfl, rfl, hT, rfl, _, _, rfl, ?_, rfl, _, _, rfl, h4, h5, rfl⟩⟩
    show V.int _ = V.int _
    rw [Int.zero_add]
theorem zipL_len : ∀ (xs ys : List D), (zipL xs ys).length = min xs.length ys.length
  | [], ys => by simp [zipL]
  | x :: xs, [] => by simp [zipL]
  | x :: xs, y :: ys => by simp [zipL, zipL_len xs ys]
theorem zipL_get : ∀ (xs ys : List D) (i : Nat) (d e : D), xs[i]? = some d → ys[i]? = some e → (zipL xs ys)[i]? = some (.tup [d, e])
  | [], _, _, _, _, h, _ => by cases h
  | _ :: _, [], _, _, _, _, h => by cases h
  | x :: xs, y :: ys, 0, d, e, h1, h2 => by cases h1; cases h2; simp [zipL]
  | x :: xs, y :: ys, i + 1, d, e, h1, h2 => by
    simp only [zipL, List.getElem?_cons_succ]
    exact zipL_get xs ys i d e (by simpa using h1) (by simpa using h2)
theorem walk_z {a b : Addr} {t u : Nat} {vs ws : List V} {xs ys : List D} {ls : List Nat} (o : ok t a) (h : H a = some (.lst vs)) (r : RepL K H ok ga xs vs) (m : ∀ z ∈ t :: tagsL xs, z ∈ ls)
    (o' : ok u b) (h' : H b = some (.lst ws)) (r' : RepL K H ok ga ys ws) (m' : ∀ z ∈ u :: tagsL ys, z ∈ ls) : Walk K ls ok H (Itz K a b) (zipL xs ys) := fun ga' ok' H' L i => by
  obtain ⟨h1, _⟩ := L.obj t a _ (m t (by simp)) o h
  obtain ⟨h2, _⟩ := L.obj u b _ (m' u (by simp)) o' h'
  have r1 : RepL K H' ok' ga' xs vs := RepL.moveN L xs vs (fun z hu => m z (by simp [hu])) r
  have r2 : RepL K H' ok' ga' ys ws := RepL.moveN L ys ws (fun z hu => m' z (by simp [hu])) r'
  have l1 := RepL.length r1
  have l2 := RepL.length r2
  have s1 : SqL K H' a vs := SqL.of h1
  have s2 : SqL K H' b ws := SqL.of h2
  rw [zipL_len]
  refine ⟨fun hi => ?_, fun hi => ⟨vs, ws, s1, s2, by omega⟩, fun x H2 hi y => ?_⟩
  · exact ⟨vs, ws, _, _, s1, s2, List.getElem?_eq_getElem (by omega), List.getElem?_eq_getElem (by omega)⟩
  · obtain ⟨T, z, z2, rfl, hT, rfl, y1, y2⟩ := y
    have g1 : xs[i]? = some (xs[i]'(by omega)) := List.getElem?_eq_getElem (by omega)
    have g2 : ys[i]? = some (ys[i]'(by omega)) := List.getElem?_eq_getElem (by omega)
    obtain ⟨v, h3, h4, h5⟩ := RepL.get r1 g1
    obtain ⟨v2, h6, h7, h8⟩ := RepL.get r2 g2
    have e1 := y1 vs s1
    have e2 := y2 ws s2
    rw [h3] at e1; cases e1
    rw [h6] at e2; cases e2
    exact ⟨_, zipL_get xs ys i _ _ g1 g2, .inr ⟨T, _, _, rfl, rfl, hT, rfl, _, _, rfl, h4, h5, _, _, rfl, h7, h8, rfl⟩⟩
end
def iSeq (K : PySem.W.Frag) (tl : TE) : TI := fun σ H R => tl σ H fun x H1 => ∃ a, x = .ref a ∧ (((∃ xs, SqL K H1 a xs) ∧ R (Itl K a) H1) ∨ ((∃ xs, SqT K H1 a xs) ∧ R (Itt K a) H1))
theorem pi_seq {X : Cx} {tg l : Expr} {tl : TE} (hl : PE X l tl) : PI X tg l (iSeq X.K tl) := by
  refine ⟨fun pins s σ H R I h => ?_⟩
  refine thn (hl.run pins s σ H _ I h) fun v s1 ⟨x, H1, I1, r1, q1⟩ => ?_
  obtain ⟨a, e, q⟩ := q1
  subst e
  cases r1
  rcases q with ⟨⟨xs, hq⟩, q⟩ | ⟨⟨xs, hq⟩, q⟩
  · obtain ⟨its, rv, p, hz⟩ := I1.list hq
    refine wpAny_pyIter_list p.isList ?_
    exact pi_one (tk := s1.toks) I1 _ (turn_list a _) ⟨_, Heap.get?_push_size _ rfl, rfl, rfl⟩ q
  · obtain ⟨its, rv, p, hz⟩ := I1.tuple hq
    refine wpAny_pyIter_tuple (show s1.heap.IsTuple a its.toArray from p) ?_
    exact pi_one (tk := s1.toks) I1 _ (turn_tuple a _) ⟨_, Heap.get?_push_size _ rfl, rfl, rfl⟩ q

theorem LkP.refl (T : Nat → Prop) (ok : OkT) (H : Hp) : LkP T ok H ok H := ⟨fun _ _ _ _ k e => ⟨e, k⟩, fun _ _ e => e, fun _ _ _ e => e⟩
theorem items_tags {d : D} {xs : List D} (h : itemsL d = some xs) : ∀ u ∈ tagOf d :: tagsL xs, u ∈ tags d := by
  cases d <;> simp only [itemsL] at h <;> first | cases h | skip
  · intro u hu
    rename_i t l
    have : ∀ l : List Int, tagsL (l.map D.int) = [] := fun l => by
      induction l with
      | nil => rfl
      | cons i l ih => simp [tagsL, tags, ih]
    rw [this] at hu
    simpa [tags, tagOf] using hu
  · intro u hu
    simpa [tags, tagOf] using hu
section
variable {c : Cfg} {cf : CallF} {k : Nat} {X : Cx} {sc : Scope} {r : Ev} {pos p : Pos} {tg e a b d' : Expr} {x y z : CE}
theorem snd_of (he : PE X e (TX X.K r.e x)) : PI X tg e (TXi X.K r (.of x)) := piW (pi_seq he) fun σ H Q ⟨H0, g0, τ, ga, S, xs, ls, S', R, ev, q⟩ => by
  cases e1 : r.e x S with
  | none => simp [evI, e1] at ev
  | some p1 =>
    obtain ⟨d, S1⟩ := p1
    refine ⟨H0, g0, τ, ga, S, d, S1, R, e1, fun τ1 H1 v x1 R1 r1 => ?_⟩
    by_cases ht : ∃ ys, d = .tup ys
    · obtain ⟨ys, rfl⟩ := ht
      simp only [evI, e1] at ev
      cases ev
      obtain ⟨a, vs, rfl, h1, h2⟩ := r1
      exact ⟨a, rfl, .inr ⟨⟨vs, h1⟩, q _ _ _ x1 R1 (walk_tup h1 h2 fun u hu => hu)⟩⟩
    · have ev' : (itemsL d).map (fun xs => (xs, tags d, S1)) = some (xs, ls, S') := by
        cases d <;> first | exact absurd ⟨_, rfl⟩ ht | simpa only [evI, e1] using ev
      cases e2 : itemsL d with
      | none => rw [e2] at ev'; cases ev'
      | some ys =>
        rw [e2] at ev'; cases ev'
        obtain ⟨a, vs, rfl, h1, h2, h3⟩ := Rep.items e2 r1
        exact ⟨a, rfl, .inl ⟨⟨vs, SqL.of h2⟩, q _ _ _ x1 R1 (walk_list h1 h2 h3 (items_tags e2))⟩⟩
theorem okRng_of {i : Int} (h : okRng i = true) : -(2 ^ 62) ≤ i ∧ i < 2 ^ 62 := by
  unfold okRng at h
  obtain ⟨h1, h2⟩ := b2 h
  have h1 := of_decide_eq_true h1
  have h2 := of_decide_eq_true h2
  have e40 : (2 : Int) ^ 40 = 1099511627776 := by decide
  have e62 : (2 : Int) ^ 62 = 4611686018427387904 := by decide
  rw [e40] at h1 h2
  rw [e62]
  omega
theorem snd_r1 (C : CtxOk c cf k X sc) {f : Str} (hb : isB c sc f = true) (hi : strIs f "range" = true) (hs : isStar a = false) (ha : PE X a (TX X.K r.e x)) : PI X tg (.Call (.Name f p) [a] [] pos) (TXi X.K r (.rng1 x)) := by
  rw [strIs_eq hi] at hb ⊢
  refine piW (pi_range1 (C.gl (b2 hb).1) (C.free _ (b2 hb).2) (snd_cons hs ha snd_nil) (star_cons hs)) fun σ H Q ⟨H0, g0, τ, ga, S, xs, ls, S', R, ev, q⟩ => ?_
  simp only [evI] at ev
  split at ev
  · rename_i j S1 e1
    split at ev
    · rename_i hj
      cases ev
      refine ⟨H0, g0, τ, ga, S, [.int j], S', R, by simp [evEs, e1], fun τ1 H1 vs x1 R1 r1 => ?_⟩
      obtain ⟨v, rfl, rv⟩ := repA1 r1
      exact ⟨j, by rw [show v = _ from rv], (okRng_of hj).1, (okRng_of hj).2, q _ _ _ x1 R1 (walk_r 0 _)⟩
    · cases ev
  · cases ev
theorem snd_r2 (C : CtxOk c cf k X sc) {f : Str} (hb : isB c sc f = true) (hi : strIs f "range" = true) (hs : isStar a = false) (hs2 : isStar b = false) (ha : PE X a (TX X.K r.e x)) (hb2 : PE X b (TX X.K r.e y)) : PI X tg (.Call (.Name f p) [a, b] [] pos) (TXi X.K r (.rng2 x y)) := by
  rw [strIs_eq hi] at hb ⊢
  refine piW (pi_range2 (C.gl (b2 hb).1) (C.free _ (b2 hb).2) (snd_cons hs ha (snd_cons hs2 hb2 snd_nil)) (by rw [star_cons hs, star_cons hs2]; rfl) (by rw [star_cons hs2]; rfl)) fun σ H Q ⟨H0, g0, τ, ga, S, xs, ls, S', R, ev, q⟩ => ?_
  simp only [evI] at ev
  split at ev
  · rename_i i S1 e1
    split at ev
    · rename_i j S2 e2
      split at ev
      · rename_i hj
        obtain ⟨h1, h2⟩ := b2 hj
        cases ev
        refine ⟨H0, g0, τ, ga, S, [.int i, .int j], S', R, by simp [evEs, e1, e2], fun τ1 H1 vs x1 R1 r1 => ?_⟩
        obtain ⟨v, w, rfl, rv, rw'⟩ := repA2 r1
        exact ⟨i, j, by rw [show v = _ from rv, show w = _ from rw'], ⟨(okRng_of h1).1, (okRng_of h1).2, (okRng_of h2).1, (okRng_of h2).2⟩, q _ _ _ x1 R1 (walk_r i _)⟩
      · cases ev
    · cases ev
  · cases ev
theorem repA3 {K : PySem.W.Frag} {H : Hp} {ga : Option Addr} {ok : OkT} {x y z : D} {vs : List V} (h : RepA K H ok ga [x, y, z] vs) : ∃ v w u, vs = [v, w, u] ∧ Rep K H ok ga x v ∧ Rep K H ok ga y w ∧ Rep K H ok ga z u := by
  obtain ⟨v, r, e, h1, h2⟩ := h
  obtain ⟨w, u, e2, h3, h4⟩ := repA2 h2
  exact ⟨v, w, u, by rw [e, e2], h1, h3, h4⟩
theorem snd_r3 (C : CtxOk c cf k X sc) {f : Str} (hb : isB c sc f = true) (hi : strIs f "range" = true) (hs : isStar a = false) (hs2 : isStar b = false) (hs3 : isStar d' = false) (ha : PE X a (TX X.K r.e x)) (hb2 : PE X b (TX X.K r.e y)) (hb3 : PE X d' (TX X.K r.e z)) :
    PI X tg (.Call (.Name f p) [a, b, d'] [] pos) (TXi X.K r (.rng3 x y z)) := by
  rw [strIs_eq hi] at hb ⊢
  refine piW (pi_range3 (C.gl (b2 hb).1) (C.free _ (b2 hb).2) (snd_cons hs ha (snd_cons hs2 hb2 (snd_cons hs3 hb3 snd_nil))) (star_cons hs) (by rw [star_cons hs2, star_cons hs3]; rfl)) fun σ H Q ⟨H0, g0, τ, ga, S, xs, ls, S', R, ev, q⟩ => ?_
  simp only [evI] at ev
  split at ev
  · rename_i i S1 e1
    split at ev
    · rename_i j S2 e2
      split at ev
      · rename_i l S3 e3
        split at ev
        · rename_i hj
          obtain ⟨h1, h2⟩ := b2 hj
          obtain ⟨h5, h3⟩ := b2 h2
          have h3 : l = -1 := by simpa using h3
          subst h3
          cases ev
          refine ⟨H0, g0, τ, ga, S, [.int i, .int j, .int (-1)], S', R, by simp [evEs, e1, e2, e3], fun τ1 H1 vs x1 R1 r1 => ?_⟩
          obtain ⟨v, w, u, rfl, rv, rw', ru⟩ := repA3 r1
          exact ⟨i, j, -1, _, by rw [show v = _ from rv, show w = _ from rw', show u = _ from ru], RgC.neg (okRng_of h1).1 (okRng_of h1).2 (okRng_of h5).1 (okRng_of h5).2, q _ _ _ x1 R1 (walk_c i _ _)⟩
        · cases ev
      · cases ev
    · cases ev
  · cases ev
theorem snd_enum (C : CtxOk c cf k X sc) {f : Str} {es : List Expr} {j : Nat} {pt : Pos} (hb : isB c sc f = true) (hi : strIs f "enumerate" = true) (hs : isStar a = false) (ha : PE X a (TX X.K r.e x)) : PI X (.Tuple es j pt) (.Call (.Name f p) [a] [] pos) (TXi X.K r (.enum x)) := by
  rw [strIs_eq hi] at hb ⊢
  refine piW (pi_enum (C.gl (b2 hb).1) (C.free _ (b2 hb).2) (snd_cons hs ha snd_nil) (star_cons hs)) fun σ H Q ⟨H0, g0, τ, ga, S, xs, ls, S', R, ev, q⟩ => ?_
  simp only [evI] at ev
  split at ev
  · rename_i d S1 e1
    cases e2 : itemsL d with
    | none => rw [e2] at ev; cases ev
    | some ys =>
      rw [e2] at ev; cases ev
      refine ⟨H0, g0, τ, ga, S, [d], S', R, by simp [evEs, e1], fun τ1 H1 vs x1 R1 r1 => ?_⟩
      obtain ⟨v, rfl, rv⟩ := repA1 r1
      obtain ⟨a, ws, rfl, h1, h2, h3⟩ := Rep.items e2 rv
      exact ⟨a, ws, rfl, SqL.of h2, q _ _ _ x1 R1 (walk_e h1 h2 h3 (items_tags e2))⟩
  · cases ev
theorem snd_zip (C : CtxOk c cf k X sc) {f : Str} {es : List Expr} {j : Nat} {pt : Pos} (hb : isB c sc f = true) (hi : strIs f "zip" = true) (hs : isStar a = false) (hs2 : isStar b = false) (ha : PE X a (TX X.K r.e x)) (hb2 : PE X b (TX X.K r.e y)) :
    PI X (.Tuple es j pt) (.Call (.Name f p) [a, b] [] pos) (TXi X.K r (.zip false x y)) := by
  rw [strIs_eq hi] at hb ⊢
  refine piW (pi_zip (C.gl (b2 hb).1) (C.free _ (b2 hb).2) (snd_cons hs ha (snd_cons hs2 hb2 snd_nil)) (star_cons hs) (by rw [star_cons hs2]; rfl)) fun σ H Q ⟨H0, g0, τ, ga, S, xs, ls, S', R, ev, q⟩ => ?_
  simp only [evI] at ev
  split at ev
  · rename_i d1 S1 e1
    split at ev
    · rename_i d2 S2 e2
      split at ev
      · rename_i ys zs i1 i2
        cases ev
        refine ⟨H0, g0, τ, ga, S, [d1, d2], S', R, by simp [evEs, e1, e2], fun τ1 H1 vs x1 R1 r1 => ?_⟩
        obtain ⟨v, w, rfl, rv, rw'⟩ := repA2 r1
        obtain ⟨a, us, rfl, h1, h2, h3⟩ := Rep.items i1 rv
        obtain ⟨b, ws, rfl, h4, h5, h6⟩ := Rep.items i2 rw'
        exact ⟨a, b, us, ws, rfl, SqL.of h2, SqL.of h5, q _ _ _ x1 R1 (walk_z h1 h2 h3 (fun z m => List.mem_append_left _ (items_tags i1 z m)) h4 h5 h6 (fun z m => List.mem_append_right _ (items_tags i2 z m)))⟩
      · cases ev
    · cases ev
  · cases ev
end
end Cor

/-! CorM: list comprehensions. -/
namespace Cor
open PySem L2

section
variable {K : PySem.W.Frag} {H0 : Hp} {g0 ga : Option Addr} {τ τ' : Addr → Option Nat} {S S' : Stt} {σ σ' : St} {H H' : Hp} {d : D} {v : V} {p : Addr}
theorem Ex.loose (x : Ex ga τ S H τ' S' H') (hp : H p = none) (o : HO) : Ex ga τ S H τ' S' (upd H' p o) :=
  ⟨fun a u e n => by rw [upd_ne (ne_of_none e hp)]; exact x.sub a u e n, x.tau, x.fz, x.lk, x.hh, x.env, fun a u e => let ⟨w, h⟩ := x.dom a u e; upd_dom a w h, x.new⟩
theorem Ex.lkp (x : Ex ga τ S H τ' S' H') (R : Rl K H0 g0 τ ga S σ H) (T : Nat → Prop) : LkP T (okf τ S.fz) H (okf τ' S'.fz) H' where
  obj := fun t a o _ k e => ⟨x.sub a o e (R.okg t a k), okf.mono x.tau x.fz k⟩
  tup := fun a vs e => x.sub a _ e fun z => by
    obtain ⟨l, q⟩ := R.genAt a z
    rw [e] at q; cases q
  frz := fun a o u e => x.sub a _ e fun z => by
    obtain ⟨l, q⟩ := R.genAt a z
    rw [e] at q; cases q
theorem upd_self {H : Hp} {p : Addr} {o : HO} (h : H p = some o) : upd H p o = H := by
  funext a
  by_cases e : a = p
  · rw [e, upd_same, h]
  · rw [upd_ne e]
theorem RepA.move {ok ok' : OkT} {T : Nat → Prop} (L : LkP T ok H ok' H') : ∀ {ds : List D} {vs : List V}, (∀ t ∈ tagsL ds, T t) → RepA K H ok ga ds vs → RepA K H' ok' ga ds vs
  | [], _, _, h => h
  | d :: ds, vs, m, h => by
    obtain ⟨v, r, e, h1, h2⟩ := h
    exact ⟨v, r, e, Rep.move L d v (fun u hu => m u (by simp [tagsL, hu])) (.inr rfl) h1, RepA.move L (fun u hu => m u (by simp [tagsL, hu])) h2⟩
theorem asgVs_env : ∀ {is : List Nat} {ds : List D} {S S' : Stt}, asgVs is ds S = some S' → ∃ e, S' = { S with env := e }
  | [], [], S, S', h => by cases h; exact ⟨S.env, rfl⟩
  | i :: is, d :: ds, S, S', h => by
    obtain ⟨e, q⟩ := asgVs_env (show asgVs is ds (asgV i d S) = some S' from h)
    exact ⟨e, q⟩
  | [], _ :: _, _, _, h => by cases h
  | _ :: _, [], _, _, h => by cases h
theorem asgT_env {tg : Tg} (h : asgT tg d S = some S') : ∃ e, S' = { S with env := e } := by
  cases tg with
  | v i => cases h; exact ⟨_, rfl⟩
  | tup is =>
    cases d <;> simp only [asgT] at h <;> first | cases h | exact asgVs_env h
theorem wipeV_length : ∀ (vs : List Nat) (e : List (Option D)), (wipeV vs e).length = e.length
  | [], e => rfl
  | v :: vs, e => by unfold wipeV; rw [List.length_set, wipeV_length vs e]
theorem wipe_both {i : Nat} {w : V} : ∀ {vs : List Nat} {e : List (Option D)}, (wipeV vs e)[i]? = some (some d) → σ[i]? = some (some w) → e[i]? = some (some d) ∧ (wipe σ vs)[i]? = some (some w)
  | [], e, h1, h2 => ⟨h1, h2⟩
  | j :: vs, e, h1, h2 => by
    unfold wipeV at h1
    by_cases q : j = i
    · subst q
      rw [List.getElem?_set] at h1
      simp only [if_true] at h1
      split at h1 <;> cases h1
    · rw [List.getElem?_set_ne q] at h1
      obtain ⟨h3, h4⟩ := wipe_both h1 h2
      exact ⟨h3, by unfold wipe; rw [List.getElem?_set_ne q]; exact h4⟩
theorem wipe_env {i : Nat} : ∀ {vs : List Nat} {e : List (Option D)}, (wipeV vs e)[i]? = some (some d) → e[i]? = some (some d)
  | [], e, h1 => h1
  | j :: vs, e, h1 => by
    unfold wipeV at h1
    by_cases q : j = i
    · subst q
      rw [List.getElem?_set] at h1
      simp only [if_true] at h1
      split at h1 <;> cases h1
    · rw [List.getElem?_set_ne q] at h1
      exact wipe_env h1
theorem wipe_out {i : Nat} : ∀ {vs : List Nat} {σ : St}, i ∉ vs → (wipe σ vs)[i]? = σ[i]?
  | [], _, _ => rfl
  | j :: vs, σ, h => by
    unfold wipe
    rw [List.getElem?_set_ne (fun z => h (by rw [z]; exact List.mem_cons_self)), wipe_out (fun m => h (List.mem_cons_of_mem _ m))]
theorem wipe_in {i : Nat} : ∀ {vs : List Nat} {σ : St}, i ∈ vs → i < σ.length → (wipe σ vs)[i]? = some none
  | j :: vs, σ, h, hl => by
    unfold wipe
    by_cases q : j = i
    · subst q
      rw [List.getElem?_set]
      simp only [if_true]
      rw [if_pos (by rw [wipe_length]; exact hl)]
    · rw [List.getElem?_set_ne q]
      exact wipe_in ((List.mem_cons.mp h).resolve_left (fun z => q z.symm)) hl
theorem wipe_idem (vs : List Nat) : wipe (wipe σ vs) vs = wipe σ vs := by
  apply List.ext_getElem?
  intro i
  by_cases h : i ∈ vs
  · by_cases hl : i < σ.length
    · rw [wipe_in h (by rw [wipe_length]; exact hl), wipe_in h hl]
    · rw [List.getElem?_eq_none (by rw [wipe_length, wipe_length]; omega), List.getElem?_eq_none (by rw [wipe_length]; omega)]
  · rw [wipe_out h]
/-- a block's own names are forgotten -/
theorem Rl.wiped (R : Rl K H0 g0 τ ga S σ H) (vs : List Nat) : Rl K H0 g0 τ ga { S with env := wipeV vs S.env } (wipe σ vs) H :=
  R.setEnv (by rw [wipeV_length, wipe_length, R.len]) fun i d e => by
    obtain ⟨v, h1, h2⟩ := R.env i d (wipe_env e)
    exact ⟨v, (wipe_both e h1).2, h2⟩
end

section
variable {c : Cfg} {cf : CallF} {k : Nat} {X : Cx} {sc scope : Scope} {r : Ev} {pos : Pos} {elt tge it : Expr} {ifs : List Expr} {x : CE} {tg : Tg} {ci : CI} {fi : Option CE} {own : List (Str × Nat)}
theorem isSet_pure {e : Expr} {env : Env} (h : isSet e = false) : ∀ x, foldedSetIterable e env x = pure x := by
  intro x
  cases e <;> first | rfl | cases h
theorem relab_eq (C : CtxOk c cf k X sc) (scope : Scope) : (relabel scope X.env) = relS scope sc := by
  unfold relabel relS
  rw [C.kind, C.skind]
  unfold Env.kindOf
  rw [C.names]
theorem CtxOk.blk (C : CtxOk c cf k X sc) (hk : scope.kind = .function) (s : Shared) (H : Hp) (cl : List (Str × Addr)) (D : Addr) (fp : List Addr) : CtxOk c cf k (X.blk s H scope (compEnvC scope cl D X.env) fp) (relS scope sc) where
  N := C.N
  nd := C.nd
  calm := C.calm
  names := by show (relabel scope X.env).names = _; rw [relab_eq C]
  kind := by show (relabel scope X.env).kind = _; exact hk
  room := C.room
  guards := C.guards
  skind := hk
  fns := fun x i ps h => by
    obtain ⟨f, fd, h1, h2, h3, h4, h5⟩ := (C.fns x i ps h).ex
    exact ⟨f, fd, h1, h2, h3, h4, h5⟩
  gls := C.gls
  free := C.free
theorem TgCx.blk (C : CtxOk c cf k X sc) (s : Shared) (H : Hp) (cl : List (Str × Addr)) (D : Addr) (fp : List Addr) : TgCx c (X.blk s H scope (compEnvC scope cl D X.env) fp) scope where
  N := C.N
  nd := C.nd
  calm := C.calm
  loc := fun x h => by
    have hn : ∀ k, k ≠ NameKind.free → scope.names.lookup x = some k → (relabel scope X.env).names.lookup x = some k := fun k hk h => by
      rw [relab_eq C]
      exact lookup_relS_keep hk h
    rcases h with h | h
    · exact ⟨.inl (hn _ (by decide) h), .inr (hn _ (by decide) h)⟩
    · refine ⟨.inr (hn _ (by decide) h), .inl ?_⟩
      show (scope.names.lookup x == some .cell) = true
      rw [h]; rfl
theorem blkOk (C : CtxOk c cf k X sc) (hb : blkC c.N sc scope own = true) : BlkOk X.N X.env.scope scope own := by
  refine blkOk_by ?_
  unfold blkC at hb ⊢
  rw [C.N, C.names]
  exact hb
theorem comp_rd {H0 : Hp} {g0 ga : Option Addr} {τ : Addr → Option Nat} {S S' : Stt} {d : D} {σ : St} {H : Hp} {Q : VK} (R : Rl X.K H0 g0 τ ga S σ H) (hsub : ∀ i ∈ tgSlots tg, i ∈ own.map (·.2))
    (ev : stepE cf r (.comp x tg ci fi (own.map (·.2))) S = some (d, S')) (q : Want X.K H0 g0 ga τ S H σ d S' Q) : tLc (TXi X.K r ci) (TXg X.K tg) (TXf X.K r fi) (TX X.K r.e x) (own.map (·.2)) σ H Q := by
  generalize own.map (·.2) = vs at *
  cases e1 : evI r ci S with
  | none => simp [stepE, e1] at ev
  | some p1 =>
    obtain ⟨xs, ls, S1⟩ := p1
    cases e2 : compL r x tg fi (wipeV vs S1.env) xs [] S1 with
    | none => simp [stepE, e1, e2] at ev
    | some p2 =>
      obtain ⟨ds, S2⟩ := p2
      simp only [stepE, e1, e2] at ev
      split at ev
      · rename_i hg
        obtain ⟨rfl, rfl⟩ := new_eq ev
        refine ⟨H0, g0, τ, ga, S, xs, ls, S1, R, e1, fun τ1 H1 J x1 R1 wk D hD => ?_⟩
        generalize he0 : wipeV vs S1.env = e0 at e2
        have R1' : Rl X.K H0 g0 τ1 ga { S1 with env := e0 } (wipe σ vs) H1 := he0 ▸ R1.wiped vs
        let W : Nat → Nat → Hp → Prop := fun i m H => m = xs.length - i ∧ i ≤ xs.length ∧ ∃ (τ : Addr → Option Nat) (S : Stt) (acc : List Cor.D) (ws : List V), Rl X.K H0 g0 τ ga { S with env := e0 } (wipe σ vs) H ∧
          Ex ga τ1 { S1 with env := e0 } H1 τ { S with env := e0 } H ∧ compL r x tg fi e0 (xs.drop i) acc S = some (ds, S2) ∧ H D = some (.lst ws) ∧ Loose H0 g0 ga τ H D ∧ RepA X.K H (okf τ S.fz) ga acc ws
        refine ⟨W, ⟨xs.length, rfl, Nat.zero_le _, τ1, S1, [], [], (R1'.laid hD _).1, (R1'.laid hD _).2, e2, upd_same, Loose.fresh R1 hD (.inl ⟨[], rfl⟩), rfl⟩, ?_⟩
        rintro i m H ⟨rfl, hi, τ3, S3, acc, ws, R3, x3, e3, hDH, l3, ra3⟩
        have wa := wk ga (okf τ3 S3.fz) H (x3.lkp R1' _) i
        by_cases hlt : i < xs.length
        · refine .inr ⟨wa.1 hlt, W (i + 1) (xs.length - (i + 1)), fun H' w => ⟨_, by omega, w⟩, fun y H' yl => ?_⟩
          obtain ⟨dx, hdx, hc⟩ := wa.2.2 y H' hlt yl
          have hdrop : xs.drop i = dx :: xs.drop (i + 1) := by
            rw [List.drop_eq_getElem_cons hlt]
            rw [List.getElem?_eq_getElem hlt] at hdx
            cases hdx; rfl
          -- the item stands
          obtain ⟨R4, x4, rx⟩ : Rl X.K H0 g0 τ3 ga { S3 with env := e0 } (wipe σ vs) H' ∧ Ex ga τ3 { S3 with env := e0 } H τ3 { S3 with env := e0 } H' ∧ Rep X.K H' (okf τ3 S3.fz) ga dx y := by
            rcases hc with ⟨rfl, h⟩ | ⟨T, us, dsT, rfl, rfl, hT, rfl, h⟩
            · exact ⟨R3, Ex.refl _ _ _ _, h⟩
            · obtain ⟨R4, x4⟩ := R3.laid hT (.tup us)
              exact ⟨R4, x4, T, us, rfl, SqT.of upd_same, R3.keepL x4 h⟩
          obtain ⟨l4, hD4⟩ := l3.stay x4
          have ra4 := R3.keepA x4 ra3
          rw [hdrop] at e3
          unfold compL at e3
          cases e5 : asgT tg dx { S3 with env := e0 } with
          | none => rw [e5] at e3; cases e3
          | some S5 =>
            simp only [e5] at e3
            obtain ⟨e', rfl⟩ := asgT_env e5
            refine ⟨H0, g0, τ3, ga, { S3 with env := e0 }, dx, _, R4, rx, e5, fun σ5 R5 hw => ⟨(hw vs hsub).trans (wipe_idem vs), ?_⟩⟩
            cases e6 : testO r fi { S3 with env := e' } with
            | none => simp only [e6] at e3; cases e3
            | some p6 =>
              obtain ⟨b, S6⟩ := p6
              simp only [e6] at e3
              refine ⟨H0, g0, τ3, ga, { S3 with env := e' }, b, S6, R5, e6, fun τ6 H6 x6 R6 => ?_⟩
              have x6' := x4.trans (x6.setEnv e0)
              cases b with
              | false =>
                obtain ⟨l6, hD6⟩ := l3.stay x6'
                refine ⟨rfl, by omega, τ6, S6, acc, ws, ?_, x3.trans x6', e3, by rw [hD6]; exact hDH, l6, R3.keepA x6' ra3⟩
                exact R6.setEnv (by rw [← R3.len]) fun j e he => let ⟨v, h1, h2⟩ := R3.env j e he; ⟨v, h1, Rl.keep (S' := { S6 with env := e0 }) R3 x6' h2⟩
              | true =>
                simp only at e3
                cases e7 : r.e x S6 with
                | none => simp only [e7] at e3; cases e3
                | some p7 =>
                  obtain ⟨d7, S7⟩ := p7
                  simp only [e7] at e3
                  split at e3
                  · rename_i hf
                    refine ⟨H0, g0, τ6, ga, S6, d7, S7, R6, e7, fun τ7 H7 v x7 R7 r7 => ?_⟩
                    have x7' := x6'.trans (x7.setEnv e0)
                    obtain ⟨l7, hD7⟩ := l3.stay x7'
                    have ra7 := R3.keepA x7' ra3
                    have hl := RepA.length ra7
                    refine ⟨ws, by rw [hD7]; exact hDH, by have := fits_le hf; omega, rfl, by omega, τ7, S7, acc ++ [d7], ws ++ [v], ?_, (x3.trans x7').loose hD _, e3, upd_same, ?_, ?_⟩
                    · exact (R7.loose l7).setEnv (by rw [← R3.len]) fun j e he => let ⟨v, h1, h2⟩ := R3.env j e he; ⟨v, h1, Rep.move (l7.lk (fz := S7.fz)) e v (fun _ _ => trivial) (.inr rfl) (Rl.keep (S' := { S7 with env := e0 }) R3 x7' h2)⟩
                    · exact ⟨l7.tau, .inl ⟨_, upd_same⟩, l7.nga, l7.ng0, l7.new⟩
                    · exact RepA.append (ds := acc) (es := [d7]) (vs := ws) (ws := [v]) (RepA.move (l7.lk (fz := S7.fz)) (fun _ _ => trivial) ra7) ⟨v, [], rfl, Rep.move (l7.lk (fz := S7.fz)) d7 v (fun _ _ => trivial) (.inr rfl) r7, rfl⟩
                  · cases e3
        · have hi' : i = xs.length := by omega
          refine .inl ⟨wa.2.1 (by omega), ?_⟩
          rw [hi', List.drop_length] at e3
          cases e3
          have hS1 : ({ S1 with env := S.env } : Stt) = S1 := by rw [← x1.env]
          have x5 := (x3.setEnv S.env)
          have x6 : Ex ga τ S _ τ3 { S2 with env := S.env } H := x1.trans (by
            have : Ex ga τ1 { S1 with env := S.env } H1 τ3 { S2 with env := S.env } H := x5
            rw [hS1] at this
            exact this)
          have x7 : Ex ga τ1 S1 H1 τ3 { S2 with env := S.env } H := by
            have : Ex ga τ1 { S1 with env := S.env } H1 τ3 { S2 with env := S.env } H := x5
            rw [hS1] at this
            exact this
          have x8 := x1.trans (Ex.fin (o' := .lst ws) x7 hD l3.tau)
          have R8 : Rl X.K H0 g0 τ3 ga { S2 with env := S.env } σ H := R3.setEnv (by rw [← R1.len, x1.env]) fun j e he => by
            rw [← x1.env] at he
            obtain ⟨v, h1, h2⟩ := R1.env j e he
            exact ⟨v, h1, Rl.keep (S' := { S2 with env := S.env }) R1 x7 h2⟩
          have R9 := R8.tagLoose (o' := .lst ws) l3
          rw [upd_self hDH] at x8 R9
          refine q _ _ _ x8 R9 (Rep.mkL (.inr ⟨Nat.ne_of_gt R8.pos, putT_same⟩) hDH ?_)
          have := RepL.move (ga' := ga) (l3.tagLk (fz := S2.fz) (t0 := S2.c) (o' := .lst ws)) _ ws (fun _ _ => trivial) (RepA.noGen ra3 hg)
          rw [upd_self hDH] at this
          exact this
      · cases ev
theorem snd_comp (C : CtxOk c cf k X sc) (hb : blkC c.N sc scope own = true) (hs : isSet it = false) (ht : tgC c scope tge = some tg) (hsub : ∀ i ∈ tgSlots tg, i ∈ own.map (·.2)) (hi : PI X tge it (TXi X.K r ci))
    (hf : ∀ X', X'.K = X.K → CtxOk c cf k X' (relS scope sc) → PTs X' ifs (TXf X'.K r fi)) (he : ∀ X', X'.K = X.K → CtxOk c cf k X' (relS scope sc) → PE X' elt (TX X'.K r.e x)) :
    PE X (.ListComp elt [⟨tge, it, ifs, 0⟩] scope pos) (TX X.K (stepE cf r) (.comp x tg ci fi (own.map (·.2)))) := by
  have bo := blkOk C hb
  refine peW (pe_lc C.calm C.nd hi bo (fun s H D cl fp => snd_tg (TgCx.blk C s H cl D fp) ht) (fun s H D cl fp => hf (X.blk s H scope (compEnvC scope cl D X.env) fp) rfl (C.blk bo.kind s H cl D fp)) (fun s H D cl fp => he (X.blk s H scope (compEnvC scope cl D X.env) fp) rfl (C.blk bo.kind s H cl D fp)) (isSet_pure hs)) fun σ H Q ⟨H0, g0, τ, ga, S, d, S', R, ev, q⟩ => comp_rd R hsub ev q
/-- name = [..] -/
theorem snd_setComp (C : CtxOk c cf k X sc) {i : Nat} {y : Str} {py p2 : Pos} (hy : X.N[i]? = some y) (hyl : sc.names.lookup y = some .local) (hsw : swapsWith (.ListComp elt [⟨tge, it, ifs, 0⟩] scope pos) (some (.Name y py)) p2.line X.env = pure true)
    (hb : blkC c.N sc scope own = true) (hs : isSet it = false) (ht : tgC c scope tge = some tg) (hsub : ∀ i ∈ tgSlots tg, i ∈ own.map (·.2)) (hi : PI X tge it (TXi X.K r ci))
    (hf : ∀ X', X'.K = X.K → CtxOk c cf k X' (relS scope sc) → PTs X' ifs (TXf X'.K r fi)) (he : ∀ X', X'.K = X.K → CtxOk c cf k X' (relS scope sc) → PE X' elt (TX X'.K r.e x)) :
    PS X (.Assign [.Name y py] (.ListComp elt [⟨tge, it, ifs, 0⟩] scope pos) p2) (tAsg (TX X.K (stepE cf r) (.comp x tg ci fi (own.map (·.2)))) (gName i)) := by
  have bo := blkOk C hb
  refine psW (ps_setLc C.calm C.nd hy (by rw [C.names]; exact hyl) hsw hi bo (fun s H D cl fp => snd_tg (TgCx.blk C s H cl D fp) ht) (fun s H D cl fp => hf (X.blk s H scope (compEnvC scope cl D X.env) fp) rfl (C.blk bo.kind s H cl D fp)) (fun s H D cl fp => he (X.blk s H scope (compEnvC scope cl D X.env) fp) rfl (C.blk bo.kind s H cl D fp)) (isSet_pure hs)) fun Dn σ H ⟨H0, g0, τ, ga, S, d, S', R, ev, q⟩ => comp_rd R hsub ev q
end
end Cor

/-! CorN: every expression that compiles. -/
namespace Cor
open PySem L2

structure Main (c : Cfg) (cf : CallF) (k m : Nat) : Prop where
  e : ∀ sc X e x n, CtxOk c cf k X sc → compE c m sc e = some x → PE X e (TX X.K (evN cf n).e x)
  t : ∀ sc X e x n, CtxOk c cf k X sc → compT c m sc e = some x → PT X e (TXt X.K (evN cf n).e x)
  w : ∀ sc X op a r p x n, CtxOk c cf k X sc → compT c m sc (.BoolOp op (a :: r) p) = some x → PW X (.BoolOp op (a :: r) p) (TXt X.K (evN cf n).e x)
  es : ∀ sc es xs, compEs c m sc es = some xs → F2 (fun e x => isStar e = false ∧ ∀ X n, CtxOk c cf k X sc → PE X e (TX X.K (evN cf n).e x)) es xs
  o : ∀ sc X e x n, CtxOk c cf k X sc → compO c m sc e = some x → PO X e (TXo X.K (evN cf n) x)
  f : ∀ sc X e x n, CtxOk c cf k X sc → compF c m sc e = some x → PTs X e (TXf X.K (evN cf n) x)
  i : ∀ sc X tg e x n, CtxOk c cf k X sc → compI c m sc e = some x → (needTup x = true → ∃ es j pt, tg = .Tuple es j pt) → PI X tg e (TXi X.K (evN cf n) x)

section
variable {c : Cfg} {cf : CallF} {k m : Nat} {X : Cx} {sc : Scope}
theorem pe_void {e : Expr} {x : CE} {K : PySem.W.Frag} : PE X e (TX K (evN cf 0).e x) := ⟨fun pins s σ H Q I ⟨H0, g0, τ, ga, S, d, S', R, ev, q⟩ => nomatch ev⟩
theorem pt_void {e : Expr} {x : CE} {K : PySem.W.Frag} : PT X e (TXt K (evN cf 0).e x) := ⟨fun pins s σ H Q I ⟨H0, g0, τ, ga, S, d, t, S', R, ev, q⟩ => nomatch ev⟩
theorem pw_void {e : Expr} {x : CE} {K : PySem.W.Frag} : PW X e (TXt K (evN cf 0).e x) := ⟨fun w pins s σ H Q I ⟨H0, g0, τ, ga, S, d, t, S', R, ev, q⟩ => nomatch ev⟩
theorem pt_of {e : Expr} {t : TT} (h : PW X e t) : PT X e t := ⟨fun pins s σ H Q I q => h.run _ pins s σ H Q I q⟩
abbrev EsOk (c : Cfg) (cf : CallF) (k : Nat) (sc : Scope) : List Expr → List CE → Prop := F2 (fun e x => isStar e = false ∧ ∀ X n, CtxOk c cf k X sc → PE X e (TX X.K (evN cf n).e x))
theorem EsOk.at {es : List Expr} {xs : List CE} (h : EsOk c cf k sc es xs) (C : CtxOk c cf k X sc) (n : Nat) : F2 (fun e x => isStar e = false ∧ PE X e (TX X.K (evN cf n).e x)) es xs := h.imp fun _ _ ⟨h1, h2⟩ => ⟨h1, h2 X n C⟩
theorem ownC_ix : ∀ {l : List (Str × NameKind)} {own : List (Str × Nat)}, ownC c l = some own → True := fun _ => trivial
theorem main_es (M : Main c cf k m) : ∀ sc es xs, compEs c (m + 1) sc es = some xs → EsOk c cf k sc es xs := by
  intro sc es xs h
  cases es with
  | nil => simp only [compEs] at h; cases h; exact .nil
  | cons e r =>
    simp only [compEs] at h
    split at h
    · cases h
    · rename_i hs
      split at h
      · rename_i x xs' e1 e2
        cases h
        exact .cons ⟨by simpa using hs, fun X n C => M.e _ _ _ _ n C e1⟩ (M.es _ _ _ e2)
      · cases h
theorem main_o (M : Main c cf k m) (sc X e x n) (C : CtxOk c cf k X sc) (h : compO c (m + 1) sc e = some x) : PO X e (TXo X.K (evN cf n) x) := by
  cases e with
  | none => simp only [compO] at h; cases h; exact snd_o0
  | some e' =>
    simp only [compO] at h
    cases e1 : compE c m sc e' with
    | none => rw [e1] at h; cases h
    | some y => rw [e1] at h; cases h; exact snd_o1 (M.e _ _ _ _ n C e1)
theorem main_f (M : Main c cf k m) (sc X e x n) (C : CtxOk c cf k X sc) (h : compF c (m + 1) sc e = some x) : PTs X e (TXf X.K (evN cf n) x) := by
  cases e with
  | nil => simp only [compF] at h; cases h; exact snd_f0
  | cons e' r =>
    cases r with
    | nil =>
      simp only [compF] at h
      cases e1 : compT c m sc e' with
      | none => rw [e1] at h; cases h
      | some y => rw [e1] at h; cases h; exact snd_f1 (M.t _ _ _ _ n C e1)
    | cons _ _ => simp only [compF] at h; cases h
theorem main_i (M : Main c cf k m) (sc X tg e x n) (C : CtxOk c cf k X sc) (h : compI c (m + 1) sc e = some x) (ht : needTup x = true → ∃ es j pt, tg = .Tuple es j pt) : PI X tg e (TXi X.K (evN cf n) x) := by
  have plain : ∀ {e : Expr} {x : CI}, (compE c m sc e).map CI.of = some x → PI X tg e (TXi X.K (evN cf n) x) := fun {e x} h => by
    cases e1 : compE c m sc e with
    | none => rw [e1] at h; cases h
    | some y => rw [e1] at h; cases h; exact snd_of (M.e _ _ _ _ n C e1)
  unfold compI at h
  split at h
  · rename_i f p args pos
    split at h
    · rename_i hb
      obtain ⟨hb, hp⟩ := b2 hb
      have hst : ∀ e x, compE c m sc e = some x → isStar e = false := fun e x h => by
        cases e <;> first | rfl | (cases m <;> simp [compE] at h)
      split at h
      · rename_i hi
        split at h
        · rename_i a
          cases e1 : compE c m sc a with
          | none => rw [e1] at h; cases h
          | some y => rw [e1] at h; cases h; exact snd_r1 C hb hi (hst _ _ e1) (M.e _ _ _ _ n C e1)
        · rename_i a b
          split at h
          · rename_i y z e1 e2
            cases h
            exact snd_r2 C hb hi (hst _ _ e1) (hst _ _ e2) (M.e _ _ _ _ n C e1) (M.e _ _ _ _ n C e2)
          · cases h
        · rename_i a b d
          split at h
          · rename_i y z u e1 e2 e3
            cases h
            exact snd_r3 C hb hi (hst _ _ e1) (hst _ _ e2) (hst _ _ e3) (M.e _ _ _ _ n C e1) (M.e _ _ _ _ n C e2) (M.e _ _ _ _ n C e3)
          · cases h
        · cases h
      · split at h
        · rename_i hi
          split at h
          · rename_i a
            cases e1 : compE c m sc a with
            | none => rw [e1] at h; cases h
            | some y =>
              rw [e1] at h; cases h
              obtain ⟨es, j, pt, rfl⟩ := ht rfl
              exact snd_enum C hb hi (hst _ _ e1) (M.e _ _ _ _ n C e1)
          · cases h
        · split at h
          · rename_i hi
            split at h
            · rename_i a b
              split at h
              · rename_i y z e1 e2
                cases h
                obtain ⟨es, j, pt, rfl⟩ := ht rfl
                exact snd_zip C hb hi (hst _ _ e1) (hst _ _ e2) (M.e _ _ _ _ n C e1) (M.e _ _ _ _ n C e2)
              · cases h
            · cases h
          · exact plain h
    · exact plain h
  · exact plain h
theorem tup_of {c : Cfg} {sc : Scope} {e : Expr} {tg : Tg} (h : tgC c sc e = some tg) (ht : isTup tg = true) : ∃ es j pt, e = .Tuple es j pt := by
  unfold tgC at h
  split at h
  · cases e1 : slotC c sc _ with
    | none => rw [e1] at h; cases h
    | some i => rw [e1] at h; cases h; cases ht
  · exact ⟨_, _, _, rfl⟩
  · cases h
/-- a comprehension's parts -/
theorem comp_inv {sc scope : Scope} {elt tge it : Expr} {ifs : List Expr} {pos : Pos} {x : CE} (h : compE c (m + 1) sc (.ListComp elt [⟨tge, it, ifs, 0⟩] scope pos) = some x) : ∃ own y tg ci fi, ownC c scope.names = some own ∧ blkC c.N sc scope own = true ∧ isSet it = false ∧
    compE c m (relS scope sc) elt = some y ∧ tgC c scope tge = some tg ∧ compI c m sc it = some ci ∧ compF c m (relS scope sc) ifs = some fi ∧ (needTup ci = true → ∃ es j pt, tge = .Tuple es j pt) ∧ (∀ i ∈ tgSlots tg, i ∈ own.map (·.2)) ∧ x = .comp y tg ci fi (own.map (·.2)) := by
  simp only [compE] at h
  split at h
  · rename_i own ho
    split at h
    · rename_i hb
      obtain ⟨hb, hs⟩ := b2 hb
      split at h
      · rename_i y tg ci fi e1 e2 e3 e4
        split at h
        · cases h
        · rename_i hn
          cases h
          have hn' : ((needTup ci && !isTup tg) || !((tgSlots tg).all fun i => (own.map (·.2)).contains i)) = false := by simpa using hn
          rw [Bool.or_eq_false_iff] at hn'
          obtain ⟨n1, n2⟩ := hn'
          refine ⟨own, y, tg, ci, fi, ho, hb, by simpa using hs, e1, e2, e3, e4, fun hq => ?_, fun i hi => ?_, rfl⟩
          · rw [hq, Bool.true_and] at n1
            exact tup_of e2 (by simpa using n1)
          · have n3 : ((tgSlots tg).all fun i => (own.map (·.2)).contains i) = true := by simpa using n2
            rw [List.all_eq_true] at n3
            simpa using n3 i hi
      · cases h
    · cases h
  · cases h
theorem main_e (M : Main c cf k m) (sc X e x n) (C : CtxOk c cf k X sc) (h : compE c (m + 1) sc e = some x) : PE X e (TX X.K (evN cf n).e x) := by
  cases n with
  | zero => exact pe_void
  | succ n =>
  show PE X e (TX X.K (stepE cf (evN cf n)) x)
  have sub := fun e x (h : compE c m sc e = some x) => M.e sc X e x n C h
  unfold compE at h
  split at h
  · exact snd_name C h
  · cases h; exact snd_non
  · cases h; exact snd_bl
  · cases h; exact snd_int
  · cases h; exact snd_str
  · split at h
    · rename_i e1 e2 e3; cases h; exact snd_bin e1 (sub _ _ e2) (sub _ _ e3)
    · cases h
  · rename_i a p
    cases e1 : compE c m sc a with
    | none => rw [e1] at h; cases h
    | some y => rw [e1] at h; cases h; exact snd_neg (sub _ _ e1)
  · rename_i a p
    cases e1 : compE c m sc a with
    | none => rw [e1] at h; cases h
    | some y => rw [e1] at h; cases h; exact snd_not (sub _ _ e1)
  · exact pe_one (M.e sc X _ x (n + 1) C h)
  · split at h
    · rename_i e1 e2; cases h; exact snd_and (sub _ _ e1) (sub _ _ e2)
    · cases h
  · split at h
    · rename_i e1 e2; cases h; exact snd_or (sub _ _ e1) (sub _ _ e2)
    · cases h
  · split at h
    · cases h
    · rename_i hm
      split at h
      · rename_i e1 e2; cases h; exact snd_cmp C (by simpa using hm) (sub _ _ e1) (sub _ _ e2)
      · cases h
  · split at h
    · cases h
    · rename_i hm
      split at h
      · rename_i e1 e2 e3; cases h; exact snd_chain C (by simpa using hm) (sub _ _ e1) (sub _ _ e2) (sub _ _ e3)
      · cases h
  · split at h
    · rename_i e1 e2 e3; cases h; exact snd_ite (M.t _ _ _ _ n C e1) (sub _ _ e2) (sub _ _ e3)
    · cases h
  · rename_i f p args pos
    split at h
    · rename_i hp
      split at h
      · rename_i i ps hf
        split at h
        · rename_i hg
          obtain ⟨hg, h2⟩ := b2 hg
          obtain ⟨hl, h0⟩ := b2 h2
          cases e1 : compEs c m sc args with
          | none => rw [e1] at h; cases h
          | some ys =>
            rw [e1] at h; cases h
            exact snd_call C hf hg hp (Nat.eq_of_beq_eq_true hl) (fun z => by rw [z] at h0; cases h0) (EsOk.at (M.es _ _ _ e1) C n)
        · cases h
      · rename_i hf
        split at h
        · rename_i hb
          have bi2 : ∀ {args : List Expr} {b : Bi} {ys : List CE}, biC f args.length = some b → compEs c m sc args = some ys → PE X (.Call (.Name f p) args [] pos) (TX X.K (stepE cf (evN cf n)) (.bi b ys)) := fun {args b ys} h1 h2 => by
            have es := EsOk.at (M.es _ _ _ h2) C n
            exact snd_bi C h1 hb hp (star_of2 es) (pa_of2 es)
          split at h
          · rename_i a ty p2
            split at h
            · rename_i hi
              split at h
              · rename_i hy
                obtain ⟨hy, hpy⟩ := b2 hy
                split at h
                · rename_i t y e1 e2
                  cases h
                  have hst : isStar a = false := by
                    cases a <;> first | rfl | (cases m <;> simp [compE] at e2)
                  exact snd_isi C hb hi hy hpy e1 hst (sub _ _ e2)
                · cases h
              · cases h
            · split at h
              · rename_i b ys e1 e2
                cases h
                exact bi2 (by simpa using e1) e2
              · cases h
          · split at h
            · rename_i b ys e1 e2
              cases h
              exact bi2 e1 e2
            · cases h
        · cases h
    · cases h
  · rename_i f p args kws pos hk
    split at h
    · rename_i hp
      split at h
      · rename_i i ps ks hf hks
        split at h
        · rename_i hg
          split at h
          · rename_i pm ys e1 e2
            split at h
            · rename_i hl
              cases h
              refine snd_callK C hf hg hp hks e1 (Nat.eq_of_beq_eq_true hl) (fun z => ?_) (EsOk.at (M.es _ _ _ e2) C n)
              have l1 := pmC_len e1
              rw [z] at l1
              have l2 := Nat.eq_of_beq_eq_true hl
              rw [← l1] at l2
              have : kws.length = 0 := by simp only [List.length_nil] at l2; omega
              exact hk (List.length_eq_zero_iff.mp this)
            · cases h
          · cases h
        · cases h
      · cases h
    · cases h
  · rename_i o po mm ap pos
    split at h
    · rename_i hm
      obtain ⟨hm, hl⟩ := b2 hm
      cases e1 : compE c m sc (.Name o po) with
      | none => rw [e1] at h; cases h
      | some y => rw [e1] at h; cases h; exact snd_bits hm hl (sub _ _ e1)
    · cases h
  · split at h
    · rename_i e1 e2 e3; cases h; exact snd_sl (sub _ _ e1) (M.o _ _ _ _ n C e2) (M.o _ _ _ _ n C e3)
    · cases h
  · rename_i a _ _ _ _ _
    cases e1 : compE c m sc a with
    | none => rw [e1] at h; cases h
    | some y => rw [e1] at h; cases h; exact snd_rev (sub _ _ e1)
  · split at h
    · cases h
    · rename_i hs
      split at h
      · rename_i e1 e2; cases h; exact snd_idx C (by simpa using hs) (sub _ _ e1) (sub _ _ e2)
      · cases h
  · rename_i es p
    cases e1 : compEs c m sc es with
    | none => rw [e1] at h; cases h
    | some y => rw [e1] at h; cases h; exact snd_lst (pa_of2 (EsOk.at (M.es _ _ _ e1) C n))
  · rename_i es _ p
    cases e1 : compEs c m sc es with
    | none => rw [e1] at h; cases h
    | some y => rw [e1] at h; cases h; exact snd_tup (pa_of2 (EsOk.at (M.es _ _ _ e1) C n))
  · rename_i ks vs p
    split at h
    · cases h
    · rename_i hk
      have hk' : (ks.isEmpty || !(Nat.ble ks.length 15)) = false := by simpa using hk
      rw [Bool.or_eq_false_iff] at hk'
      obtain ⟨k1, k2⟩ := hk'
      split at h
      · rename_i ys xs e1 e2
        split at h
        · rename_i hl
          cases h
          have es := EsOk.at (M.es _ _ _ e2) C n
          obtain ⟨_, _, hys⟩ : True ∧ True ∧ ys.length = ks.length := by
            have : ∀ {l : List (Option Expr)} {ys : List DKey}, allM dkeyC l = some ys → ys.length = l.length := by
              intro l
              induction l with
              | nil => intro ys h; cases h; rfl
              | cons o l ih =>
                intro ys h
                unfold allM at h
                split at h
                · rename_i e1 e2; cases h; simp [ih e2]
                · cases h
            exact ⟨trivial, trivial, this e1⟩
          refine snd_dict (fun z => by rw [z] at k1; cases k1) (Nat.le_of_ble_eq_true (by simpa using k2)) e1 ?_ es
          have := Nat.eq_of_beq_eq_true hl
          rw [es.len] at this
          omega
        · cases h
      · cases h
  · rename_i elt tge it ifs scope pos
    have h' : compE c (m + 1) sc (.ListComp elt [⟨tge, it, ifs, 0⟩] scope pos) = some x := by simp only [compE]; exact h
    obtain ⟨own, y, tg, ci, fi, ho, hb, hs, e1, e2, e3, e4, hn, hsub, rfl⟩ := comp_inv h'
    exact snd_comp C hb hs e2 hsub (M.i _ _ _ _ _ n C e3 hn) (fun X' hK C' => M.f _ _ _ _ n C' e4) (fun X' hK C' => M.e _ _ _ _ n C' e1)
  · cases h
end
end Cor

/-! CorO: tests; all depths. -/
namespace Cor
open PySem L2
section
variable {c : Cfg} {cf : CallF} {k m : Nat} {X : Cx} {sc : Scope}
theorem main_w (M : Main c cf k m) (sc X op a r p x n) (C : CtxOk c cf k X sc) (h : compT c (m + 1) sc (.BoolOp op (a :: r) p) = some x) : PW X (.BoolOp op (a :: r) p) (TXt X.K (evN cf n).e x) := by
  cases r with
  | nil =>
    simp only [compT] at h
    cases op
    · exact pw_and1 (M.t _ _ _ _ n C h)
    · exact pw_or1 (M.t _ _ _ _ n C h)
  | cons b r =>
    cases n with
    | zero => exact pw_void
    | succ n =>
      show PW X _ (TXt X.K (stepE cf (evN cf n)) x)
      cases op
      · simp only [compT] at h
        split at h
        · rename_i e1 e2; cases h; exact snd_andT (M.t _ _ _ _ n C e1) (M.w _ _ _ _ _ _ _ n C e2)
        · cases h
      · simp only [compT] at h
        split at h
        · rename_i e1 e2; cases h; exact snd_orT (M.t _ _ _ _ n C e1) (M.w _ _ _ _ _ _ _ n C e2)
        · cases h
theorem compT_truth {e : Expr} {x : CE} (hb : byTruth e = true) (h : compT c (m + 1) sc e = some x) : compE c m sc e = some x := by
  cases e with
  | UnaryOp op a p => cases op <;> first | (cases hb; done) | (simp only [compT] at h; exact h)
  | BoolOp _ _ _ => cases hb
  | IfExp _ _ _ _ => cases hb
  | Compare _ _ _ _ => cases hb
  | _ => simp only [compT] at h; exact h
theorem main_t (M : Main c cf k m) (L : ∀ j, j < m → Main c cf k j) (sc X e x n) (C : CtxOk c cf k X sc) (h : compT c (m + 1) sc e = some x) : PT X e (TXt X.K (evN cf n).e x) := by
  cases n with
  | zero => exact pt_void
  | succ n =>
    by_cases hb : byTruth e = true
    · exact snd_truth hb (M.e _ _ _ _ (n + 1) C (compT_truth hb h))
    · cases e with
      | UnaryOp op a p =>
        cases op with
        | Not =>
          simp only [compT] at h
          cases e1 : compT c m sc a with
          | none => rw [e1] at h; cases h
          | some y => rw [e1] at h; cases h; exact snd_notT (M.t _ _ _ _ n C e1)
        | _ => exact absurd rfl hb
      | BoolOp op es p =>
        cases es with
        | nil => cases m <;> simp [compT, compE] at h
        | cons a r => exact pt_of (main_w M _ _ _ _ _ _ _ (n + 1) C h)
      | IfExp _ _ _ _ => simp only [compT] at h; cases h
      | Compare a ops bs p =>
        have h' : compE c m sc (.Compare a ops bs p) = some x := by
          simp only [compT] at h; exact h
        cases m with
        | zero => simp only [compE] at h'; cases h'
        | succ m =>
          have M' := L m (Nat.lt_succ_self _)
          show PT X _ (TXt X.K (stepE cf (evN cf n)) x)
          match ops, bs, h' with
          | [op], [b], h' =>
            simp only [compE] at h'
            split at h'
            · cases h'
            · rename_i hm
              split at h'
              · rename_i e1 e2; cases h'; exact snd_cmpT C (by simpa using hm) (M'.e _ _ _ _ n C e1) (M'.e _ _ _ _ n C e2)
              · cases h'
          | [op, op'], [b, d], h' =>
            simp only [compE] at h'
            split at h'
            · cases h'
            · rename_i hm
              split at h'
              · rename_i e1 e2 e3; cases h'; exact snd_chainT C (by simpa using hm) (M'.e _ _ _ _ n C e1) (M'.e _ _ _ _ n C e2) (M'.e _ _ _ _ n C e3)
              · cases h'
          | [], _, h' => simp [compE] at h'
          | [_], [], h' => simp [compE] at h'
          | [_], _ :: _ :: _, h' => simp [compE] at h'
          | [_, _], [], h' => simp [compE] at h'
          | [_, _], [_], h' => simp [compE] at h'
          | [_, _], _ :: _ :: _ :: _, h' => simp [compE] at h'
          | _ :: _ :: _ :: _, _, h' => simp [compE] at h'
      | _ => exact absurd rfl hb
theorem main0 : Main c cf k 0 where
  e := fun sc X e x n C h => by simp [compE] at h
  t := fun sc X e x n C h => by simp [compT] at h
  w := fun sc X op a r p x n C h => by simp [compT] at h
  es := fun sc es xs h => by simp [compEs] at h
  o := fun sc X e x n C h => by simp [compO] at h
  f := fun sc X e x n C h => by simp [compF] at h
  i := fun sc X tg e x n C h => by simp [compI] at h
theorem mainAll (c : Cfg) (cf : CallF) (k : Nat) : ∀ m j, j ≤ m → Main c cf k j
  | 0, j, h => by
    have e : j = 0 := by omega
    subst e; exact main0
  | m + 1, j, h => by
    by_cases q : j ≤ m
    · exact mainAll c cf k m j q
    · have e : j = m + 1 := by omega
      subst e
      have M := mainAll c cf k m m (Nat.le_refl _)
      exact ⟨fun sc X e x n C h => main_e M sc X e x n C h, fun sc X e x n C h => main_t M (fun j hj => mainAll c cf k m j (by omega)) sc X e x n C h, fun sc X op a r p x n C h => main_w M sc X op a r p x n C h, main_es M, fun sc X e x n C h => main_o M sc X e x n C h,
        fun sc X e x n C h => main_f M sc X e x n C h, fun sc X tg e x n C h => main_i M sc X tg e x n C h⟩
theorem main (c : Cfg) (cf : CallF) (k m : Nat) : Main c cf k m := mainAll c cf k m m (Nat.le_refl _)
end
end Cor

/-! CorP: what a statement leaves; changes. -/
namespace Cor
open PySem L2

/-- what stays behind a statement -/
structure SEx (τ : Addr → Option Nat) (S : Stt) (H : Hp) (τ' : Addr → Option Nat) (S' : Stt) (H' : Hp) : Prop where
  lkp : LkP (· ∈ S.lk) (okf τ S.fz) H (okf τ' S'.fz) H'
  lk : S'.lk = S.lk
  hh : S'.h = S.h
  dom : ∀ a o, H a = some o → ∃ u, H' a = some u
  new : ∀ a t, τ' a = some t → τ a = some t ∨ H a = none
section
variable {K : PySem.W.Frag} {H0 : Hp} {g0 ga : Option Addr} {τ τ1 τ' : Addr → Option Nat} {S S1 S' : Stt} {σ σ' : St} {H H1 H' : Hp} {d : D} {v : V} {a : Addr} {t i : Nat} {o' : HO}
theorem LkP.trans {T : Nat → Prop} {ok ok1 ok' : OkT} (x : LkP T ok H ok1 H1) (y : LkP T ok1 H1 ok' H') : LkP T ok H ok' H' :=
  ⟨fun t a o h k e => let ⟨h1, h2⟩ := x.obj t a o h k e; y.obj t a o h h2 h1, fun a vs e => y.tup a vs (x.tup a vs e), fun a o u e => y.frz a o u (x.frz a o u e)⟩
theorem LkP.mono {T T' : Nat → Prop} {ok ok' : OkT} (x : LkP T ok H ok' H') (h : ∀ t, T' t → T t) : LkP T' ok H ok' H' := ⟨fun t a o m k e => x.obj t a o (h t m) k e, x.tup, x.frz⟩
theorem SEx.refl : SEx τ S H τ S H := ⟨LkP.refl _ _ _, rfl, rfl, fun _ o e => ⟨o, e⟩, fun _ _ e => .inl e⟩
theorem SEx.trans (x : SEx τ S H τ1 S1 H1) (y : SEx τ1 S1 H1 τ' S' H') : SEx τ S H τ' S' H' := ⟨x.lkp.trans (x.lk ▸ y.lkp), y.lk.trans x.lk, y.hh.trans x.hh, fun a o e => let ⟨u, e2⟩ := x.dom a o e; y.dom a u e2, fun a t e => by
    rcases y.new a t e with e | e
    · exact x.new a t e
    · right
      cases q : H a with
      | none => rfl
      | some o =>
        obtain ⟨u, z⟩ := x.dom a o q
        rw [e] at z; cases z⟩
theorem SEx.of (R : Rl K H0 g0 τ ga S σ H) (x : Ex ga τ S H τ' S' H') : SEx τ S H τ' S' H' := ⟨x.lkp R _, x.lk, x.hh, x.dom, x.new⟩
theorem SEx.env (x : SEx τ S H τ' S' H') (e : List (Option D)) : SEx τ S H τ' { S' with env := e } H' := ⟨x.lkp, x.lk, x.hh, x.dom, x.new⟩

theorem mayT_of (h : mayT t S = true) : t ≠ 0 ∧ t ∉ S.fz ∧ t ∉ S.lk := by
  unfold mayT at h
  obtain ⟨h1, h2⟩ := b2 h
  obtain ⟨h2, h3⟩ := b2 h2
  refine ⟨fun e => ?_, fun m => ?_, fun m => ?_⟩
  · rw [e] at h1; cases h1
  · rw [List.contains_iff_mem.mpr m] at h2; cases h2
  · rw [List.contains_iff_mem.mpr m] at h3; cases h3
theorem okf_ne (hm : t ≠ 0 ∧ t ∉ S.fz ∧ t ∉ S.lk) (ha : τ a = some t) {u : Nat} {b : Addr} (k : okf τ S.fz u b) (hu : u ≠ t) : b ≠ a := fun e => by
  rcases k with ⟨rfl, k | ⟨w, hw, k⟩⟩ | ⟨_, k⟩
  · rw [e, ha] at k; cases k; exact hm.1 rfl
  · rw [e, ha] at k; cases k; exact hm.2.1 hw
  · rw [e, ha] at k; cases k; exact hu rfl
/-- a list of ours is changed -/
theorem mut_lkp (hm : t ≠ 0 ∧ t ∉ S.fz ∧ t ∉ S.lk) (ha : τ a = some t) {vs : List V} (hl : H a = some (.lst vs)) : LkP (· ≠ t) (okf τ S.fz) H (okf τ S.fz) (upd H a o') where
  obj := fun u b o hu k e => ⟨by rw [upd_ne (okf_ne hm ha k hu)]; exact e, k⟩
  tup := fun b ws e => by
    rw [upd_ne (fun z => by rw [z, hl] at e; cases e)]; exact e
  frz := fun b o u e => by
    rw [upd_ne (fun z => by rw [z, hl] at e; cases e)]; exact e
theorem mut_sex (hm : t ≠ 0 ∧ t ∉ S.fz ∧ t ∉ S.lk) (ha : τ a = some t) {vs : List V} (hl : H a = some (.lst vs)) {e : List (Option D)} {g : Option (List Int)} : SEx τ S H τ { S with env := e, g := g } (upd H a o') :=
  ⟨(mut_lkp hm ha hl).mono fun u m z => hm.2.2 (z ▸ m), rfl, rfl, upd_dom, fun _ _ e => .inl e⟩
section
variable {ok ok' : OkT} (L : LkP (· ≠ t) ok H ok' H')
include L
mutual
theorem Rep.wipe : ∀ (d : D) (v : V), Rep K H ok ga d v → Rep K H' ok' ga (wipeT t d) v
  | .non, _, h => h
  | .bl _, _, h => h
  | .int _, _, h => h
  | .str _, _, h => h
  | .rep _, _, h => h
  | .ints u l, x, h => by
    unfold wipeT
    split
    · trivial
    · rename_i n
      obtain ⟨a, e, o, q⟩ := h
      obtain ⟨h1, h2⟩ := L.obj u a _ (fun z => n (by rw [z]; exact Nat.beq_refl t)) o q
      exact ⟨a, e, h2, h1⟩
  | .lst u xs, x, h => by
    unfold wipeT
    split
    · trivial
    · rename_i n
      obtain ⟨a, vs, e, o, q, r⟩ := h
      obtain ⟨h1, h2⟩ := L.obj u a _ (fun z => n (by rw [z]; exact Nat.beq_refl t)) o q
      exact ⟨a, vs, e, h2, h1, RepL.wipe xs vs r⟩
  | .tup xs, x, h => by
    obtain ⟨a, vs, e, q, r⟩ := h
    exact ⟨a, vs, e, sqT_lk L q, RepL.wipe xs vs r⟩
  | .dct u kvs, x, h => by
    unfold wipeT
    split
    · trivial
    · rename_i n
      obtain ⟨a, vs, e, o, q, r⟩ := h
      obtain ⟨h1, h2⟩ := L.obj u a _ (fun z => n (by rw [z]; exact Nat.beq_refl t)) o q
      exact ⟨a, vs, e, h2, h1, RepK.wipe kvs vs r⟩
  | .gd kvs, x, h => h
  | .scr l, x, h => by
    obtain ⟨a, e, q⟩ := h
    refine ⟨a, e, ?_⟩
    rcases q with ⟨o, q⟩ | q
    · exact .inl ⟨o, L.frz _ _ _ q⟩
    · exact .inr q
  | .gen, x, h => h
  | .bot, x, h => trivial
theorem RepL.wipe : ∀ (ds : List D) (vs : List V), RepL K H ok ga ds vs → RepL K H' ok' ga (wipeTL t ds) vs
  | [], _, h => h
  | d :: ds, vs, h => by
    obtain ⟨v, r, e, h1, n, h2⟩ := h
    refine ⟨v, r, e, Rep.wipe d v h1, ?_, RepL.wipe ds r h2⟩
    cases d <;> first | rfl | (unfold wipeT; split <;> rfl) | cases n
theorem RepK.wipe : ∀ (ds : List (DKey × D)) (vs : List (L2.Key × V)), RepK K H ok ga ds vs → RepK K H' ok' ga (wipeTK t ds) vs
  | [], _, h => h
  | (k, d) :: ds, vs, h => by
    obtain ⟨k', v, r, e, hk, h1, n, h2⟩ := h
    refine ⟨k', v, r, e, hk, Rep.wipe d v h1, ?_, RepK.wipe ds r h2⟩
    cases d <;> first | rfl | (unfold wipeT; split <;> rfl) | cases n
end
end
theorem wipeEnv_get (t : Nat) : ∀ (e : List (Option D)) (i : Nat), (wipeEnv t e)[i]? = (e[i]?).map (wipeO t)
  | [], i => by simp [wipeEnv]
  | x :: e, 0 => by simp [wipeEnv]
  | x :: e, i + 1 => by simp [wipeEnv, wipeEnv_get t e i]
theorem wipeEnv_len (t : Nat) : ∀ e : List (Option D), (wipeEnv t e).length = e.length
  | [] => rfl
  | x :: e => by simp [wipeEnv, wipeEnv_len t e]
theorem wipe_get (h : (wipeEnv t S.env)[i]? = some (some d)) : ∃ e, S.env[i]? = some (some e) ∧ d = wipeT t e := by
  rw [wipeEnv_get] at h
  cases e1 : S.env[i]? with
  | none => rw [e1] at h; cases h
  | some o =>
    rw [e1] at h
    cases o with
    | none => cases h
    | some e => cases h; exact ⟨e, rfl, rfl⟩
/-- the frame when a list of ours is changed: all that may see it is forgotten -/
theorem Rl.mut (R : Rl K H0 g0 τ ga S σ H) (hm : t ≠ 0 ∧ t ∉ S.fz ∧ t ∉ S.lk) (ha : τ a = some t) {vs : List V} (hl : H a = some (.lst vs)) {ws : List V} : Rl K H0 g0 τ ga { S with env := wipeEnv t S.env } σ (upd H a (.lst ws)) := by
  have L := mut_lkp (o' := .lst ws) hm ha hl
  refine ⟨R.pos, R.clk, fun b u e => ?_, fun b u e n => ?_, R.g0n, R.hg, R.gga, R.gnew, fun b e => ?_, by rw [wipeEnv_len, R.len], fun j d e => ?_⟩
  · obtain ⟨o, q⟩ := R.trk b u e
    by_cases z : b = a
    · rw [z]; exact ⟨_, upd_same⟩
    · exact ⟨o, by rw [upd_ne z]; exact q⟩
  · obtain ⟨h1, h2⟩ := R.old b u e n
    have z : b ≠ a := fun z => by
      rw [z, ha] at h2
      rcases h2 with h2 | h2
      · cases h2
      · cases h2; exact hm.1 rfl
    exact ⟨by rw [upd_ne z]; exact h1, h2⟩
  · obtain ⟨h1, l, h2, h3⟩ := R.gen b e
    have z : b ≠ a := fun z => by rw [z, ha] at h1; cases h1
    exact ⟨h1, l, h2, by rw [upd_ne z]; exact h3⟩
  · obtain ⟨e', h1, rfl⟩ := wipe_get e
    obtain ⟨v, h2, h3⟩ := R.env j e' h1
    exact ⟨v, h2, Rep.wipe L e' v h3⟩
theorem Rl.mutV (R : Rl K H0 g0 τ ga S σ H) (hm : t ≠ 0 ∧ t ∉ S.fz ∧ t ∉ S.lk) (ha : τ a = some t) {vs : List V} (hl : H a = some (.lst vs)) {ws : List V} (hs : σ[i]? = some (some (.ref a))) (r : Rep K (upd H a (.lst ws)) (okf τ S.fz) ga d (.ref a)) :
    Rl K H0 g0 τ ga (putV i t d S) σ (upd H a (.lst ws)) := by
  have R1 := R.mut hm ha hl (ws := ws)
  refine R1.setEnv (by rw [List.length_set]; exact R1.len) fun j e h => ?_
  by_cases z : i = j
  · subst z
    rw [List.getElem?_set] at h
    simp only [if_true] at h
    split at h
    · cases h; exact ⟨_, hs, r⟩
    · cases h
  · rw [List.getElem?_set_ne z] at h
    exact R1.env j e h
/-- a list's own tag -/
theorem okf_tag (k : okf τ S.fz t a) (h : t ≠ 0) : τ a = some t := by
  rcases k with ⟨z, _⟩ | ⟨_, k⟩
  · exact absurd z h
  · exact k
theorem tagsIn {d : D} (h : (tags d).contains t = false) : ∀ u ∈ tags d, u ≠ t := fun u m z => by
  rw [List.contains_iff_mem.mpr (z ▸ m)] at h; cases h
theorem wipeTL_map (l : List Int) : wipeTL t (l.map D.int) = l.map D.int := by
  induction l with
  | nil => rfl
  | cons i l ih => simp [wipeTL, wipeT, ih]
end
end Cor

/-! CorQ: statements. -/
namespace Cor
open PySem L2

def unT (τ : Addr → Option Nat) (a : Addr) : Addr → Option Nat := fun b => if b = a then none else τ b
theorem unT_same {τ : Addr → Option Nat} {a : Addr} : unT τ a a = none := if_pos rfl
theorem unT_ne {τ : Addr → Option Nat} {a b : Addr} (h : b ≠ a) : unT τ a b = τ b := if_neg h
structure StCx (c : Cfg) (cf : CallF) (k : Nat) (X : Cx) (sc : Scope) : Prop extends CtxOk c cf k X sc where
  tg : TgCx c X sc
  pass : PassesOwn (model X.prog X.w) X.A X.env X.xe
abbrev PostS (K : PySem.W.Frag) (H0 : Hp) (g0 : Option Addr) (τ : Addr → Option Nat) (S : Stt) (H : Hp) (fl : Fl) (S' : Stt) (Dn : Ends) : Prop := ∀ ga' τ' σ' H', SEx τ S H τ' S' H' → Rl K H0 g0 τ' ga' S' σ' H' → match fl with
  | .nx => Dn.nx σ' H'
  | .bk => Dn.bk σ' H'
  | .ct => Dn.ct σ' H'
  | .rt d => noGen d = true → ∀ v, Rep K H' (okf τ' S'.fz) ga' d v → Dn.rt v H'
def TXst (K : PySem.W.Frag) (f : Stt → Option (Fl × Stt)) : TS := fun Dn σ H => ∃ (H0 : Hp) (g0 : Option Addr) (τ : Addr → Option Nat) (ga : Option Addr) (S : Stt) (fl : Fl) (S' : Stt),
  Rl K H0 g0 τ ga S σ H ∧ f S = some (fl, S') ∧ PostS K H0 g0 τ S H fl S' Dn
section
variable {K : PySem.W.Frag} {H0 : Hp} {g0 ga : Option Addr} {τ τ1 : Addr → Option Nat} {S S1 S' : Stt} {σ σ' : St} {H H1 : Hp} {fl : Fl} {Dn : Ends}
theorem PostS.aft (x : SEx τ S H τ1 S1 H1) (q : PostS K H0 g0 τ S H fl S' Dn) : PostS K H0 g0 τ1 S1 H1 fl S' Dn := fun ga' τ' σ' H' y R => q ga' τ' σ' H' (x.trans y) R
theorem PostS.now (R : Rl K H0 g0 τ ga S σ H) (q : PostS K H0 g0 τ S H .nx S Dn) : Dn.nx σ H := q ga τ σ H SEx.refl R
end

section
variable {c : Cfg} {cf : CallF} {k : Nat} {X : Cx} {sc : Scope} {r : Ev} {pos p p2 : Pos} {e a : Expr} {x y z : CE} {i : Nat}
theorem st_nil : PSs X [] (TXst X.K (evSs r [])) := pssW pss_nil fun Dn σ H ⟨H0, g0, τ, ga, S, fl, S', R, ev, q⟩ => by
  cases ev; exact q.now R
theorem st_cons {s : Stmt} {rest : List Stmt} {x : CS} {xs : List CS} (h1 : PS X s (TXst X.K (r.s x))) (h2 : PSs X rest (TXst X.K (evSs r xs))) : PSs X (s :: rest) (TXst X.K (evSs r (x :: xs))) :=
  pssW (pss_cons h1 h2) fun Dn σ H ⟨H0, g0, τ, ga, S, fl, S', R, ev, q⟩ => by
    unfold evSs at ev
    split at ev
    · rename_i S1 e1
      exact ⟨H0, g0, τ, ga, S, .nx, S1, R, e1, fun ga' τ' σ' H' x R' => ⟨H0, g0, τ', ga', S1, fl, S', R', ev, q.aft x⟩⟩
    · rename_i f S1 hn e1
      cases ev
      refine ⟨H0, g0, τ, ga, S, fl, S', R, e1, fun ga' τ' σ' H' x R' => ?_⟩
      have := q ga' τ' σ' H' x R'
      cases fl with
      | nx => exact (hn rfl).elim
      | bk => exact this
      | ct => exact this
      | rt d => exact this
    · cases ev
theorem st_pass : PS X (.Pass pos) (TXst X.K (stepS r .pass)) := psW ps_pass fun Dn σ H ⟨H0, g0, τ, ga, S, fl, S', R, ev, q⟩ => by
  cases ev; exact q.now R
theorem st_doc {t : Str} {j : Nat} : PS X (.Expr (.Constant (.str t) j p) pos) (TXst X.K (stepS r .pass)) := psW ps_doc fun Dn σ H ⟨H0, g0, τ, ga, S, fl, S', R, ev, q⟩ => by
  cases ev; exact q.now R
theorem st_brk : PS X (.Break pos) (TXst X.K (stepS r .brk)) := psW ps_break fun Dn σ H ⟨H0, g0, τ, ga, S, fl, S', R, ev, q⟩ => by
  cases ev; exact q ga τ σ H SEx.refl R
theorem st_retN : PS X (.Return none pos) (TXst X.K (stepS r .retN)) := psW ps_retN fun Dn σ H ⟨H0, g0, τ, ga, S, fl, S', R, ev, q⟩ => by
  cases ev; exact q ga τ σ H SEx.refl R rfl _ rfl
theorem st_raise {o o2 : Option Expr} : PS X (.Raise o o2 pos) (TXst X.K (stepS r .raise)) := ⟨fun pins s σ H Dn I ⟨H0, g0, τ, ga, S, fl, S', R, ev, q⟩ => nomatch ev⟩
theorem st_ret (he : PE X e (TX X.K r.e x)) : PS X (.Return (some e) pos) (TXst X.K (stepS r (.ret x))) := psW (ps_ret he) fun Dn σ H ⟨H0, g0, τ, ga, S, fl, S', R, ev, q⟩ => by
  cases e1 : r.e x S with
  | none => simp [stepS, e1] at ev
  | some p1 =>
    obtain ⟨d, S1⟩ := p1
    simp only [stepS, e1] at ev
    split at ev
    · rename_i hn
      cases ev
      exact ⟨H0, g0, τ, ga, S, d, _, R, e1, fun τ1 H1 v x1 R1 r1 => q ga τ1 σ H1 (SEx.of R x1) R1 hn v r1⟩
    · cases ev
theorem st_expr (hs : swapsWith e none pos.line X.env = pure false) (he : PE X e (TX X.K r.e x)) : PS X (.Expr e pos) (TXst X.K (stepS r (.expr x))) := psW (ps_expr he hs) fun Dn σ H ⟨H0, g0, τ, ga, S, fl, S', R, ev, q⟩ => by
  cases e1 : r.e x S with
  | none => simp [stepS, e1] at ev
  | some p1 =>
    obtain ⟨d, S1⟩ := p1
    simp only [stepS, e1] at ev
    cases ev
    exact ⟨H0, g0, τ, ga, S, d, _, R, e1, fun τ1 H1 v x1 R1 r1 => q ga τ1 σ H1 (SEx.of R x1) R1⟩
theorem st_if {sa sb : List Stmt} {xa xb : List CS} (hc : PT X e (TXt X.K r.e x)) (ha : PSs X sa (TXst X.K (evSs r xa))) (hb : PSs X sb (TXst X.K (evSs r xb))) : PS X (.If e sa sb pos) (TXst X.K (stepS r (.if x xa xb))) :=
  psW (ps_if hc ha hb) fun Dn σ H ⟨H0, g0, τ, ga, S, fl, S', R, ev, q⟩ => by
    cases e1 : r.e x S with
    | none => simp [stepS, e1] at ev
    | some p1 =>
      obtain ⟨d, S1⟩ := p1
      simp only [stepS, e1] at ev
      cases e2 : truth d with
      | none => simp [e2] at ev
      | some b =>
        refine ⟨H0, g0, τ, ga, S, d, b, S1, R, e1, e2, fun τ1 H1 x1 R1 => ?_⟩
        rw [e2] at ev
        cases b with
        | true => exact ⟨H0, g0, τ1, ga, S1, fl, S', R1, ev, q.aft (SEx.of R x1)⟩
        | false => exact ⟨H0, g0, τ1, ga, S1, fl, S', R1, ev, q.aft (SEx.of R x1)⟩
theorem asg_rd {tg : Tg} {Dn : Ends} {σ : St} {H : Hp} (h : TXst X.K (stepS r (.asg tg x)) Dn σ H) : tAsg (TX X.K r.e x) (TXg X.K tg) Dn σ H := by
  obtain ⟨H0, g0, τ, ga, S, fl, S', R, ev, q⟩ := h
  cases e1 : r.e x S with
  | none => simp [stepS, e1] at ev
  | some p1 =>
    obtain ⟨d, S1⟩ := p1
    simp only [stepS, e1] at ev
    split at ev
    · rename_i hn
      cases e2 : asgT tg d S1 with
      | none => rw [e2] at ev; cases ev
      | some S2 =>
        rw [e2] at ev; cases ev
        refine ⟨H0, g0, τ, ga, S, d, S1, R, e1, fun τ1 H1 v x1 R1 r1 => ⟨H0, g0, τ1, ga, S1, d, _, R1, r1, e2, fun σ' R' _ => ?_⟩⟩
        obtain ⟨e', rfl⟩ := asgT_env e2
        exact q ga τ1 σ' H1 ((SEx.of R x1).env e') R'
    · cases ev
theorem st_asg {t : Expr} {tg : Tg} (he : PE X e (TX X.K r.e x)) (hg : PG X t (TXg X.K tg)) (hs : swapsWithSole [t] e pos.line X.env = pure false) (hw : swappedStores [t] e X.env = pure none) (h1 : (assignEach [t] X.env).map (·.2) = [assign t X.env]) :
    PS X (.Assign [t] e pos) (TXst X.K (stepS r (.asg tg x))) := psW (ps_asg he hg hs hw h1) fun Dn σ H h => asg_rd h
/-- name = [..] -/
theorem gName_rd {Dn : Ends} {σ : St} {H : Hp} (h : TXst X.K (stepS r (.asg (.v i) x)) Dn σ H) : tAsg (TX X.K r.e x) (gName i) Dn σ H := by
  obtain ⟨H0, g0, τ, ga, S, fl, S', R, ev, q⟩ := h
  cases e1 : r.e x S with
  | none => simp [stepS, e1] at ev
  | some p1 =>
    obtain ⟨d, S1⟩ := p1
    simp only [stepS, e1] at ev
    split at ev
    · rename_i hn
      cases ev
      exact ⟨H0, g0, τ, ga, S, d, S1, R, e1, fun τ1 H1 v x1 R1 r1 => q ga τ1 _ H1 ((SEx.of R x1).env _) (R1.set r1)⟩
    · cases ev
/-- stored from the right, plain local names -/
theorem par_rd {is : List Nat} {xs : List CE} {Dn : Ends} {σ : St} {H : Hp} (h : TXst X.K (stepS r (.par is xs)) Dn σ H) : ∃ n, n = is.length ∧ TXs X.K r xs σ H fun vs H1 => vs.length = n ∧ Dn.nx ((is.zip vs).foldl (fun σ iv => σ.set iv.1 (some iv.2)) σ) H1 := by
  obtain ⟨H0, g0, τ, ga, S, fl, S', R, ev, q⟩ := h
  refine ⟨_, rfl, ?_⟩
  cases e1 : evEs r xs S with
  | none => simp [stepS, e1] at ev
  | some p1 =>
    obtain ⟨ds, S1⟩ := p1
    simp only [stepS, e1] at ev
    split at ev
    · rename_i hn
      cases e2 : asgVs is ds S1 with
      | none => rw [e2] at ev; cases ev
      | some S2 =>
        rw [e2] at ev; cases ev
        refine ⟨H0, g0, τ, ga, S, ds, S1, R, e1, fun τ1 H1 vs x1 R1 r1 => ?_⟩
        have go : ∀ (is : List Nat) (ds : List D) (vs : List V) (S1 : Stt) (σ : St), Rl X.K H0 g0 τ1 ga S1 σ H1 → RepA X.K H1 (okf τ1 S1.fz) ga ds vs → asgVs is ds S1 = some S' →
            vs.length = is.length ∧ Rl X.K H0 g0 τ1 ga S' ((is.zip vs).foldl (fun σ iv => σ.set iv.1 (some iv.2)) σ) H1 := by
          intro is
          induction is with
          | nil =>
            intro ds vs S1 σ R1 r1 h
            cases ds with
            | nil => cases h; rw [show vs = [] from r1]; exact ⟨rfl, R1⟩
            | cons _ _ => cases h
          | cons i is ih =>
            intro ds vs S1 σ R1 r1 h
            cases ds with
            | nil => cases h
            | cons d ds =>
              obtain ⟨v, w, rfl, h1, h2⟩ := r1
              obtain ⟨h3, h4⟩ := ih ds w (asgV i d S1) (σ.set i (some v)) (R1.set h1) h2 h
              exact ⟨by simp [h3], h4⟩
        obtain ⟨e', he⟩ := asgVs_env e2
        obtain ⟨l1, R2⟩ := go is ds vs S1 σ R1 r1 e2
        refine ⟨l1, q ga τ1 _ H1 ?_ R2⟩
        rw [he]
        exact (SEx.of R x1).env e'
    · cases ev
/-- the law's generator is laid -/
theorem gen_rd {Dn : Ends} {σ : St} {H : Hp} (h : TXst X.K (stepS r (.gen i x)) Dn σ H) : tAsg (TX X.K r.e x) (gName i) Dn σ H := by
  obtain ⟨H0, g0, τ, ga, S, fl, S', R, ev, q⟩ := h
  cases e1 : r.e x S with
  | none => simp [stepS, e1] at ev
  | some p1 =>
    obtain ⟨d, S1⟩ := p1
    simp only [stepS, e1] at ev
    cases d <;> first | (cases ev; done) | skip
    rename_i t l
    simp only at ev
    split at ev
    · rename_i hc
      obtain ⟨c1, c2⟩ := b2 hc
      cases ev
      have hm := mayT_of c1
      refine ⟨H0, g0, τ, ga, S, _, S1, R, e1, fun τ1 H1 v x1 R1 r1 => ?_⟩
      obtain ⟨a, rfl, ok, hl⟩ := r1
      have ha := okf_tag ok hm.1
      have hg0 : g0 = none := R1.hg c2
      have L : LkP (· ≠ t) (okf τ1 S1.fz) H1 (okf (unT τ1 a) S1.fz) H1 := by
        refine ⟨fun u b o hu k e => ⟨e, ?_⟩, fun _ _ e => e, fun _ _ _ e => e⟩
        have n := okf_ne hm ha k hu
        have e2 : unT τ1 a b = τ1 b := unT_ne n
        rcases k with ⟨h1, k | ⟨w, hw, k⟩⟩ | ⟨h1, k⟩
        · exact .inl ⟨h1, .inl (by rw [e2]; exact k)⟩
        · exact .inl ⟨h1, .inr ⟨w, hw, by rw [e2]; exact k⟩⟩
        · exact .inr ⟨h1, by rw [e2]; exact k⟩
      refine q (some a) (unT τ1 a) (σ.set i (some (.ref a))) H1 ?_ ?_
      · refine (SEx.of R x1).trans ⟨L.mono fun u m z => hm.2.2 (z ▸ m), rfl, rfl, fun _ o e => ⟨o, e⟩, fun b u e => .inl ?_⟩
        by_cases z : b = a
        · rw [z, unT_same] at e; cases e
        · rw [unT_ne z] at e; exact e
      · refine ⟨R1.pos, fun b u e => ?_, fun b u e => ?_, fun b o e n => ?_, fun b e => ?_, fun _ => hg0, fun z => ?_, fun b o e1 e2 => ?_, fun b e => ?_, ?_, fun j d e => ?_⟩
        · by_cases z : b = a
          · rw [z, unT_same] at e; cases e
          · rw [unT_ne z] at e; exact R1.clk b u e
        · by_cases z : b = a
          · rw [z, unT_same] at e; cases e
          · rw [unT_ne z] at e; exact R1.trk b u e
        · obtain ⟨h1, h2⟩ := R1.old b o e n
          refine ⟨h1, ?_⟩
          by_cases z : b = a
          · rw [z]; exact .inl unT_same
          · rw [unT_ne z]; exact h2
        · rw [hg0] at e; cases e
        · have : S1.h = false := z
          rw [c2] at this; cases this
        · cases e1
          obtain ⟨_, h2⟩ := R1.old a o e2 (by rw [hg0]; exact fun w => nomatch w)
          rw [ha] at h2
          rcases h2 with h2 | h2
          · cases h2
          · cases h2; exact absurd rfl hm.1
        · cases e
          exact ⟨unT_same, l, rfl, hl⟩
        · show (((ungen (wipeEnv t S1.env)).set i (some .gen)).length) = _
          have : ∀ e : List (Option D), (ungen e).length = e.length := fun e => by
            induction e with
            | nil => rfl
            | cons x e ih =>
              cases x with
              | none => simp [ungen, ih]
              | some d => cases d <;> simp [ungen, ih]
          rw [List.length_set, List.length_set, this, wipeEnv_len, R1.len]
        · have ug : ∀ (e : List (Option D)) (j : Nat) (d : D), (ungen e)[j]? = some (some d) → d = .bot ∧ e[j]? = some (some .gen) ∨ (e[j]? = some (some d) ∧ noGen d = true) := by
            intro e
            induction e with
            | nil => intro j d h; simp [ungen] at h
            | cons x e ih =>
              intro j d h
              have hu : ungen (x :: e) = (match x with | some .gen => some D.bot | y => y) :: ungen e := by
                cases x with
                | none => rfl
                | some d => cases d <;> rfl
              rw [hu] at h
              cases j with
              | zero =>
                simp only [List.getElem?_cons_zero, Option.some.injEq] at h
                cases x with
                | none => cases h
                | some d' =>
                  cases d' <;> first | (cases h; exact .inl ⟨rfl, rfl⟩) | (cases h; exact .inr ⟨rfl, rfl⟩)
              | succ j => simpa using ih j d (by simpa using h)
          have e' : ((ungen (wipeEnv t S1.env)).set i (some D.gen))[j]? = some (some d) := e
          by_cases z : i = j
          · subst z
            rw [List.getElem?_set] at e'
            simp only [if_true] at e'
            split at e'
            · rename_i hlt
              cases e'
              refine ⟨.ref a, ?_, a, rfl, rfl⟩
              rw [List.getElem?_set]
              simp only [if_true]
              rw [if_pos]
              have : ∀ e : List (Option D), (ungen e).length = e.length := fun e => by
                induction e with
                | nil => rfl
                | cons x e ih =>
                  cases x with
                  | none => simp [ungen, ih]
                  | some d => cases d <;> simp [ungen, ih]
              rw [this, wipeEnv_len, R1.len] at hlt
              exact hlt
            · cases e'
          · rw [List.getElem?_set_ne z] at e'
            rcases ug _ _ _ e' with ⟨rfl, h⟩ | ⟨h, hn⟩
            · obtain ⟨d', h1, h2⟩ := wipe_get h
              obtain ⟨v, h3, _⟩ := R1.env j d' h1
              exact ⟨v, by rw [List.getElem?_set_ne z]; exact h3, trivial⟩
            · obtain ⟨d', h1, h2⟩ := wipe_get h
              obtain ⟨v, h3, h4⟩ := R1.env j d' h1
              refine ⟨v, by rw [List.getElem?_set_ne z]; exact h3, ?_⟩
              rw [h2] at hn ⊢
              exact Rep.noga _ v hn (Rep.wipe L d' v h4)
    · cases ev
end
end Cor

/-! CorR: changes in place; loops. -/
namespace Cor
open PySem L2

section
variable {K : PySem.W.Frag} {H0 : Hp} {g0 ga : Option Addr} {τ τ1 τ' : Addr → Option Nat} {S S1 S' : Stt} {σ σ' : St} {H H1 H' : Hp} {d : D} {v : V} {a : Addr} {t i : Nat}
theorem slot_env (h : slot i S = some d) : S.env[i]? = some (some d) := by
  unfold slot at h
  split at h
  · rename_i z; cases h; exact z
  · cases h
theorem Rl.setLk (R : Rl K H0 g0 τ ga S σ H) (l : List Nat) : Rl K H0 g0 τ ga { S with lk := l } σ H := ⟨R.pos, R.clk, R.trk, R.old, R.g0n, R.hg, R.gga, R.gnew, R.gen, R.len, R.env⟩
/-- the generator's list is changed -/
theorem Rl.genSet (R : Rl K H0 g0 τ ga S σ H) (hg : ga = some a) {l : List Int} : Rl K H0 g0 τ ga { S with g := some l } σ (upd H a (.lst (l.map V.int))) ∧ LkP (fun _ => True) (okf τ S.fz) H (okf τ S.fz) (upd H a (.lst (l.map V.int))) := by
  obtain ⟨ta, l0, hl0, hH⟩ := R.gen a hg
  have L : LkP (fun _ => True) (okf τ S.fz) H (okf τ S.fz) (upd H a (.lst (l.map V.int))) := by
    refine ⟨fun u b o _ k e => ⟨?_, k⟩, fun b vs e => ?_, fun b o u e => ?_⟩
    · rw [upd_ne (fun z => R.okg u b k (by rw [z]; exact hg))]; exact e
    · rw [upd_ne (fun z => by rw [z, hH] at e; cases e)]; exact e
    · rw [upd_ne (fun z => by rw [z, hH] at e; cases e)]; exact e
  refine ⟨⟨R.pos, R.clk, fun b u e => ?_, fun b u e n => ?_, R.g0n, R.hg, R.gga, R.gnew, fun b e => ?_, R.len, fun j d e => ?_⟩, L⟩
  · obtain ⟨o, q⟩ := R.trk b u e
    exact ⟨o, by rw [upd_ne (fun z => by rw [z, ta] at e; cases e)]; exact q⟩
  · obtain ⟨h1, h2⟩ := R.old b u e n
    exact ⟨by rw [upd_ne (fun z => n (R.gnew b u (by rw [z]; exact hg) e))]; exact h1, h2⟩
  · have z : b = a := by rw [hg] at e; exact (Option.some.inj e).symm
    rw [z]
    exact ⟨ta, l, rfl, upd_same⟩
  · obtain ⟨v, h1, h2⟩ := R.env j d e
    exact ⟨v, h1, Rep.move L d v (fun _ _ => trivial) (.inr rfl) h2⟩
end
theorem Rep.lstOf {K : PySem.W.Frag} {H : Hp} {ok : OkT} {ga : Option Addr} {d : D} {xs : List D} {v : V} (h : itemsL d = some xs) (r : Rep K H ok ga d v) : ∃ a vs, v = .ref a ∧ ok (tagOf d) a ∧ H a = some (.lst vs) ∧ RepL K H ok ga xs vs := Rep.items h r
section
variable {c : Cfg} {cf : CallF} {k : Nat} {X : Cx} {sc : Scope} {r : Ev} {pos p po ap cp : Pos} {e a : Expr} {x y z : CE} {i : Nat} {nm m : Str}
/-- what app does, for either kind of list -/
theorem app_core {H0 : Hp} {g0 ga : Option Addr} {τ : Addr → Option Nat} {S S1 : Stt} {σ : St} {H : Hp} {Dn : Ends} {d0 d dn : D} {xs : List D} (R : Rl X.K H0 g0 τ ga S σ H) (hs : slot i S = some d0) (hi : itemsL d0 = some xs) (e1 : r.e y S = some (d, S1))
    (hc : (mayT (tagOf d0) S1 && (fits (xs.length + 1) && (noGen d && !(tags d).contains (tagOf d0)))) = true) (hd : ∀ K H ok ga b ws v, ok (tagOf d0) b → H b = some (.lst (ws ++ [v])) → RepL K H ok ga (wipeTL (tagOf d0) xs) ws → Rep K H ok ga d v → Rep K H ok ga dn (.ref b))
    (q : PostS X.K H0 g0 τ S H .nx (putV i (tagOf d0) dn S1) Dn) : tDrop (tBM X.K "list" rAppend (tVar i) (TXs X.K r [y])) Dn σ H := by
  obtain ⟨c1, c2⟩ := b2 hc
  obtain ⟨c3, c4⟩ := b2 c2
  obtain ⟨c5, c6⟩ := b2 c4
  have hm := mayT_of c1
  obtain ⟨v, h1, h2⟩ := R.env i d0 (slot_env hs)
  obtain ⟨b, vs, rfl, h3, h4, h5⟩ := Rep.items hi h2
  refine ⟨.ref b, h1, .inl ⟨rfl, vs, SqL.of h4⟩, H0, g0, τ, ga, S, [d], S1, R, by simp [evEs, e1], fun τ1 H1 us x1 R1 r1 => ?_⟩
  obtain ⟨w, rfl, rw'⟩ := repA1 r1
  have k1 := R.keep x1 h2
  obtain ⟨b', vs', e, h6, h7, h8⟩ := Rep.items hi k1
  cases e
  have hH1 : H1 b = some (.lst vs) := x1.sub b _ h4 (R.okg _ b h3)
  rw [hH1] at h7; cases h7
  have ha := okf_tag h6 hm.1
  have L := mut_lkp (o' := .lst (vs ++ [w])) hm ha hH1
  refine ⟨b, vs, w, rfl, rfl, hH1, ?_, q ga τ1 σ _ ((SEx.of R x1).trans (mut_sex hm ha hH1)) (R1.mutV hm ha hH1 h1 ?_)⟩
  · have := fits_le c3
    have := RepL.length h8
    omega
  · refine hd _ _ _ _ b vs w (.inr ⟨hm.1, ha⟩) upd_same (RepL.wipe L xs vs h8) ?_
    exact Rep.move L d w (tagsIn (by simpa using c6)) (.inr rfl) rw'
theorem st_app (hm : strIs m "append" = true) (hl : Nat.beq ap.endLine cp.line = true) (hx : PE X (.Name nm po) (tVar i)) (hs : isStar a = false) (ha : PE X a (TX X.K r.e y)) : PS X (.Expr (.Call (.Attribute (.Name nm po) m ap) [a] [] cp) pos) (TXst X.K (stepS r (.app i y))) := by
  rw [strIs_eq hm]
  refine psW (ps_expr (pe_bm PySem.F.plainAttrs_list PySem.F.slot_list_append PySem.F.type_list_append mt_append hx (snd_cons hs ha snd_nil) rfl (by rw [star_cons hs]; rfl) (by rw [Nat.eq_of_beq_eq_true hl]; exact beq_self_eq_true _) (star_cons hs) rfl) rfl) fun Dn σ H ⟨H0, g0, τ, ga, S, fl, S', R, ev, q⟩ => ?_
  cases e0 : slot i S with
  | none => simp [stepS, e0] at ev
  | some d0 =>
    cases e1 : r.e y S with
    | none => cases d0 <;> simp [stepS, e0, e1] at ev
    | some p1 =>
      obtain ⟨d, S1⟩ := p1
      cases d0 <;> simp only [stepS, e0, e1] at ev <;> first | (cases ev; done) | skip
      · rename_i t l
        split at ev
        · rename_i hc
          cases ev
          refine app_core (d0 := .ints t l) (xs := l.map .int) R e0 rfl e1 (by rw [List.length_map]; exact hc) (fun K H ok ga b ws v h1 h2 h3 h4 => ?_) q
          rw [wipeTL_map] at h3
          cases d with
          | int z =>
            cases (show v = .int z from h4)
            have := RepL.ints_eq h3
            subst this
            exact ⟨b, rfl, h1, by rw [h2, List.map_append]; rfl⟩
          | non | bl _ | str _ | rep _ | «ints» _ _ | lst _ _ | tup _ | dct _ _ | gd _ | scr _ | bot =>
            exact ⟨b, _, rfl, h1, h2, RepL.append h3 (RepL.one h4 rfl)⟩
          | gen =>
            obtain ⟨_, c2⟩ := b2 hc
            obtain ⟨_, c3⟩ := b2 c2
            obtain ⟨c4, _⟩ := b2 c3
            cases c4
        · cases ev
      · rename_i t xs
        split at ev
        · rename_i hc
          cases ev
          refine app_core (d0 := .lst t xs) (xs := xs) R e0 rfl e1 hc (fun K H ok ga b ws v h1 h2 h3 h4 => ?_) q
          obtain ⟨_, c2⟩ := b2 hc
          obtain ⟨_, c3⟩ := b2 c2
          obtain ⟨c4, _⟩ := b2 c3
          exact ⟨b, _, rfl, h1, h2, RepL.append h3 (RepL.one h4 c4)⟩
        · cases ev
theorem pop_core {H0 : Hp} {g0 ga : Option Addr} {τ : Addr → Option Nat} {S : Stt} {σ : St} {H : Hp} {Dn : Ends} {d0 dn : D} {xs : List D} (R : Rl X.K H0 g0 τ ga S σ H) (hs : slot i S = some d0) (hi : itemsL d0 = some xs)
    (hc : mayT (tagOf d0) S = true) (hne : xs ≠ []) (hd : ∀ K H ok ga b ws, ok (tagOf d0) b → H b = some (.lst ws) → RepL K H ok ga (wipeTL (tagOf d0) xs.dropLast) ws → Rep K H ok ga dn (.ref b))
    (q : PostS X.K H0 g0 τ S H .nx (putV i (tagOf d0) dn S) Dn) : tDrop (tBM0 X.K "list" rPop (tVar i)) Dn σ H := by
  have hm := mayT_of hc
  obtain ⟨v, h1, h2⟩ := R.env i d0 (slot_env hs)
  obtain ⟨b, vs, rfl, h3, h4, h5⟩ := Rep.items hi h2
  have hlen := RepL.length h5
  have hpos : 0 < xs.length := by cases xs with
    | nil => exact absurd rfl hne
    | cons _ _ => simp
  have hlt : vs.length - 1 < vs.length := by omega
  have ha := okf_tag h3 hm.1
  have L := mut_lkp (o' := .lst vs.dropLast) hm ha h4
  refine ⟨.ref b, h1, .inl ⟨rfl, vs, SqL.of h4⟩, b, vs, _, rfl, rfl, h4, List.getElem?_eq_getElem hlt, q ga τ σ _ (mut_sex hm ha h4) (R.mutV hm ha h4 h1 ?_)⟩
  exact hd _ _ _ _ b _ (.inr ⟨hm.1, ha⟩) upd_same (RepL.wipe L _ _ (RepL.dropLast h5))
theorem st_pop (hm : strIs m "pop" = true) (hl : Nat.beq ap.endLine cp.line = true) (hx : PE X (.Name nm po) (tVar i)) : PS X (.Expr (.Call (.Attribute (.Name nm po) m ap) [] [] cp) pos) (TXst X.K (stepS r (.pop i))) := by
  rw [strIs_eq hm]
  refine psW (ps_expr (pe_bm0 PySem.F.plainAttrs_list PySem.F.slot_list_pop PySem.F.type_list_pop mt_pop hx rfl (by rw [Nat.eq_of_beq_eq_true hl]; exact beq_self_eq_true _)) rfl) fun Dn σ H ⟨H0, g0, τ, ga, S, fl, S', R, ev, q⟩ => ?_
  cases e0 : slot i S with
  | none => simp [stepS, e0] at ev
  | some d0 =>
    cases d0 <;> simp only [stepS, e0] at ev <;> first | (cases ev; done) | skip
    · rename_i t l
      split at ev
      · rename_i hc
        obtain ⟨c1, c2⟩ := b2 hc
        cases ev
        refine pop_core (d0 := .ints t l) (xs := l.map .int) R e0 rfl c1 (fun z => ?_) (fun K H ok ga b ws h1 h2 h3 => ?_) q
        · have : l = [] := by simpa using z
          rw [this] at c2; cases c2
        · rw [← List.map_dropLast, wipeTL_map] at h3
          have := RepL.ints_eq h3
          subst this
          exact ⟨b, rfl, h1, h2⟩
      · cases ev
    · rename_i t xs
      split at ev
      · rename_i hc
        obtain ⟨c1, c2⟩ := b2 hc
        cases ev
        refine pop_core (d0 := .lst t xs) (dn := .lst t (wipeTL t xs.dropLast)) (xs := xs) R e0 rfl c1 (fun z => ?_) (fun K H ok ga b ws h1 h2 h3 => ⟨b, _, rfl, h1, h2, h3⟩) q
        rw [z] at c2; cases c2
      · cases ev
theorem set_core {H0 : Hp} {g0 ga : Option Addr} {τ : Addr → Option Nat} {S S1 S2 : Stt} {σ : St} {H : Hp} {Dn : Ends} {d0 d dn : D} {xs : List D} {j : Int} {mm : Nat} (R : Rl X.K H0 g0 τ ga S σ H) (e1 : r.e x S = some (d, S1)) (hs : slot i S1 = some d0) (hi : itemsL d0 = some xs)
    (e2 : r.e y S1 = some (.int j, S2)) (hp : place xs.length j = some mm) (hc : (mayT (tagOf d0) S2 && (noGen d && !(tags d).contains (tagOf d0))) = true)
    (hd : ∀ K H ok ga b ws v, ok (tagOf d0) b → H b = some (.lst (ws.set mm v)) → RepL K H ok ga (wipeTL (tagOf d0) xs) ws → Rep K H ok ga d v → noGen d = true → Rep K H ok ga dn (.ref b))
    (q : PostS X.K H0 g0 τ S H .nx (putV i (tagOf d0) dn S2) Dn) : tAsg (TX X.K r.e x) (gSub (tVar i) (TX X.K r.e y) rSetL) Dn σ H := by
  obtain ⟨c1, c2⟩ := b2 hc
  obtain ⟨c5, c6⟩ := b2 c2
  have hm := mayT_of c1
  refine ⟨H0, g0, τ, ga, S, d, S1, R, e1, fun τ1 H1 w x1 R1 r1 => ?_⟩
  obtain ⟨v, h1, h2⟩ := R1.env i d0 (slot_env hs)
  obtain ⟨b, vs, rfl, h3, h4, h5⟩ := Rep.items hi h2
  refine ⟨.ref b, h1, H0, g0, τ1, ga, S1, _, S2, R1, e2, fun τ2 H2 u x2 R2 r2 => ?_⟩
  cases (show u = .int j from r2)
  have k1 := R1.keep x2 h2
  obtain ⟨b', vs', e, h6, h7, h8⟩ := Rep.items hi k1
  cases e
  have hH : H2 b = some (.lst vs) := x2.sub b _ h4 (R1.okg _ b h3)
  rw [hH] at h7; cases h7
  have ha := okf_tag h6 hm.1
  have L := mut_lkp (o' := .lst (vs.set mm w)) hm ha hH
  refine ⟨b, vs, j, mm, rfl, rfl, hH, by rw [RepL.length h8]; exact hp, q ga τ2 σ _ (((SEx.of R x1).trans (SEx.of R1 x2)).trans (mut_sex hm ha hH)) (R2.mutV hm ha hH h1 ?_)⟩
  refine hd _ _ _ _ b vs w (.inr ⟨hm.1, ha⟩) upd_same (RepL.wipe L xs vs h8) ?_ c5
  exact Rep.move L d w (tagsIn (by simpa using c6)) (.inr rfl) (R1.keep x2 r1)
theorem st_set (hx : PE X (.Name nm po) (tVar i)) {ke : Expr} (hsl : isSlice ke = false) (hk : PE X ke (TX X.K r.e y)) (he : PE X e (TX X.K r.e x)) : PS X (.Assign [.Subscript (.Name nm po) ke p] e pos) (TXst X.K (stepS r (.set i y x))) := by
  refine psW (ps_asg he (pg_sub hx hk set_list (by intro v; cases ke <;> first | rfl | cases hsl)) (by cases e <;> rfl) (by cases e <;> rfl) rfl) fun Dn σ H ⟨H0, g0, τ, ga, S, fl, S', R, ev, q⟩ => ?_
  cases e1 : r.e x S with
  | none => simp [stepS, e1] at ev
  | some p1 =>
    obtain ⟨d, S1⟩ := p1
    cases e0 : slot i S1 with
    | none => simp [stepS, e0, e1] at ev
    | some d0 =>
      cases d0 <;> simp only [stepS, e0, e1] at ev <;> first | (cases ev; done) | skip
      · rename_i t l
        split at ev
        · rename_i j S2 e2
          split at ev
          · rename_i mm hp
            split at ev
            · rename_i hc
              cases ev
              refine set_core (d0 := .ints t l) (xs := l.map .int) R e1 e0 rfl e2 (by rw [List.length_map]; exact hp) hc (fun K H ok ga b ws v h1 h2 h3 h4 hn => ?_) q
              rw [wipeTL_map] at h3
              cases d with
              | int z =>
                cases (show v = .int z from h4)
                have := RepL.ints_eq h3
                subst this
                exact ⟨b, rfl, h1, by rw [h2, List.map_set]⟩
              | non | bl _ | str _ | rep _ | «ints» _ _ | lst _ _ | tup _ | dct _ _ | gd _ | scr _ | bot =>
                exact ⟨b, _, rfl, h1, h2, RepL.set h4 rfl mm h3⟩
              | gen => cases hn
            · cases ev
          · cases ev
        · cases ev
      · rename_i t xs
        split at ev
        · rename_i j S2 e2
          split at ev
          · rename_i mm hp
            split at ev
            · rename_i hc
              cases ev
              exact set_core (d0 := .lst t xs) (dn := .lst t ((wipeTL t xs).set mm d)) (xs := xs) R e1 e0 rfl e2 hp hc (fun K H ok ga b ws v h1 h2 h3 h4 hn => ⟨b, _, rfl, h1, h2, RepL.set h4 hn mm h3⟩) q
            · cases ev
          · cases ev
        · cases ev
      · split at ev
        · rename_i j S2 z e2
          split at ev
          · rename_i l hg
            split at ev
            · rename_i mm hp
              cases ev
              refine ⟨H0, g0, τ, ga, S, _, S1, R, e1, fun τ1 H1 w x1 R1 r1 => ?_⟩
              cases (show w = .int z from r1)
              obtain ⟨v, h1, h2⟩ := R1.env i _ (slot_env e0)
              obtain ⟨b, rfl, hb⟩ := h2
              refine ⟨.ref b, h1, H0, g0, τ1, ga, S1, _, S2, R1, e2, fun τ2 H2 u x2 R2 r2 => ?_⟩
              cases (show u = .int j from r2)
              obtain ⟨_, l', h3, h4⟩ := R2.gen b hb
              rw [hg] at h3; cases h3
              obtain ⟨R3, L3⟩ := R2.genSet hb (l := l.set mm z)
              refine ⟨b, _, j, mm, rfl, rfl, h4, by rw [List.length_map]; exact hp, ?_⟩
              have : (l.map V.int).set mm (V.int z) = (l.set mm z).map V.int := by rw [List.map_set]
              rw [this]
              exact q ga τ2 σ _ (((SEx.of R x1).trans (SEx.of R1 x2)).trans ⟨L3.mono fun _ _ => trivial, rfl, rfl, upd_dom, fun _ _ e => .inl e⟩) R3
            · cases ev
          · cases ev
        · cases ev

/-! ### loops -/
theorem st_for (C : StCx c cf k X sc) {tge it : Expr} {tg : Tg} {ci : CI} {body : List Stmt} {xb : List CS} (hs : isSet it = false) (hi : PI X tge it (TXi X.K r ci)) (hg : PG X tge (TXg X.K tg)) (hb : PSs X body (TXst X.K (evSs r xb))) :
    PS X (.For tge it body [] pos) (TXst X.K (stepS r (.for tg ci xb))) := by
  refine psW (ps_for C.pass C.calm hi hg hb (isSet_pure hs)) fun Dn σ H ⟨H0, g0, τ, ga, S, fl, S', R, ev, q⟩ => ?_
  cases e1 : evI r ci S with
  | none => simp [stepS, e1] at ev
  | some p1 =>
    obtain ⟨xs, ls, S1⟩ := p1
    simp only [stepS, e1] at ev
    cases e2 : forL r tg xb xs { S1 with lk := ls ++ S1.lk } with
    | none => simp [e2] at ev
    | some p2 =>
      obtain ⟨f, S2⟩ := p2
      simp only [e2] at ev
      cases ev
      refine ⟨H0, g0, τ, ga, S, xs, ls, S1, R, e1, fun τ1 H1 J x1 R1 wk => ?_⟩
      have post : ∀ {τ' H'} {T : Stt}, SEx τ1 { S1 with lk := ls ++ S1.lk } H1 τ' T H' → SEx τ S H τ' { T with lk := S1.lk } H' := fun {τ' H' T} y =>
        (SEx.of R x1).trans ⟨y.lkp.mono fun t m => List.mem_append_right _ m, rfl, y.hh, y.dom, y.new⟩
      let W : Nat → Nat → St → Hp → Prop := fun i m σ H => m = xs.length - i ∧ i ≤ xs.length ∧ ∃ (ga : Option Addr) (τ : Addr → Option Nat) (T : Stt), Rl X.K H0 g0 τ ga T σ H ∧ SEx τ1 { S1 with lk := ls ++ S1.lk } H1 τ T H ∧ forL r tg xb (xs.drop i) T = some (fl, S2)
      refine ⟨W, ⟨xs.length, rfl, Nat.zero_le _, ga, τ1, _, R1.setLk _, SEx.refl, e2⟩, ?_⟩
      rintro i m σ H ⟨rfl, hi, ga3, τ3, T, R3, y3, e3⟩
      have wa := wk ga3 (okf τ3 T.fz) H (y3.lkp.mono fun t m => List.mem_append_left _ m) i
      by_cases hlt : i < xs.length
      · refine .inr ⟨wa.1 hlt, W (i + 1) (xs.length - (i + 1)), fun σ' H' w => ⟨_, by omega, w⟩, fun v H' yl => ?_⟩
        obtain ⟨dx, hdx, hc⟩ := wa.2.2 v H' hlt yl
        have hdrop : xs.drop i = dx :: xs.drop (i + 1) := by
          rw [List.drop_eq_getElem_cons hlt]
          rw [List.getElem?_eq_getElem hlt] at hdx
          cases hdx; rfl
        obtain ⟨R4, x4, rx⟩ : Rl X.K H0 g0 τ3 ga3 T σ H' ∧ Ex ga3 τ3 T H τ3 T H' ∧ Rep X.K H' (okf τ3 T.fz) ga3 dx v := by
          rcases hc with ⟨rfl, h⟩ | ⟨Ta, us, dsT, rfl, rfl, hT, rfl, h⟩
          · exact ⟨R3, Ex.refl _ _ _ _, h⟩
          · obtain ⟨R4, x4⟩ := R3.laid hT (.tup us)
            exact ⟨R4, x4, Ta, us, rfl, SqT.of upd_same, R3.keepL x4 h⟩
        have y4 := y3.trans (SEx.of R3 x4)
        rw [hdrop] at e3
        unfold forL at e3
        cases e5 : asgT tg dx T with
        | none => rw [e5] at e3; cases e3
        | some T5 =>
          simp only [e5] at e3
          refine ⟨H0, g0, τ3, ga3, T, dx, T5, R4, rx, e5, fun σ5 R5 _ => ?_⟩
          have y5 : SEx τ1 { S1 with lk := ls ++ S1.lk } H1 τ3 T5 H' := by
            obtain ⟨e', rfl⟩ := asgT_env e5
            exact y4.env e'
          cases e6 : evSs r xb T5 with
          | none => simp only [e6] at e3; cases e3
          | some p6 =>
            obtain ⟨f6, S6⟩ := p6
            refine ⟨H0, g0, τ3, ga3, T5, f6, S6, R5, e6, fun ga7 τ7 σ7 H7 y7 R7 => ?_⟩
            have y8 := y5.trans y7
            cases f6 with
            | nx => simp only [e6] at e3; exact ⟨rfl, by omega, ga7, τ7, S6, R7, y8, e3⟩
            | ct => simp only [e6] at e3; exact ⟨rfl, by omega, ga7, τ7, S6, R7, y8, e3⟩
            | bk =>
              simp only [e6] at e3
              cases e3
              exact q ga7 τ7 σ7 H7 (post y8) (R7.setLk _)
            | rt d =>
              simp only [e6] at e3
              cases e3
              exact q ga7 τ7 σ7 H7 (post y8) (R7.setLk _)
      · have hi' : i = xs.length := by omega
        refine .inl ⟨wa.2.1 (by omega), ?_⟩
        rw [hi', List.drop_length] at e3
        cases e3
        exact q ga3 τ3 σ H (post y3) (R3.setLk _)
theorem st_whl (C : StCx c cf k X sc) {t : Expr} {body : List Stmt} {xb : List CS} (ht : PT X t (TXt X.K r.e x)) (hb : PSs X body (TXst X.K (evSs r xb))) : PS X (.While t body [] pos) (TXst X.K (stepS r (.whl x xb))) := by
  refine psW (ps_while C.pass ht hb) fun Dn σ H ⟨H0, g0, τ, ga, S, fl, S', R, ev, q⟩ => ?_
  simp only [stepS] at ev
  refine ⟨fun m σ' H' => ∃ (ga' : Option Addr) (τ' : Addr → Option Nat) (T : Stt), Rl X.K H0 g0 τ' ga' T σ' H' ∧ SEx τ S H τ' T H' ∧ whL r x xb m T = some (fl, S'), ⟨most, ga, τ, S, R, SEx.refl, ev⟩, ?_⟩
  rintro m σ3 H3 ⟨ga3, τ3, T, R3, y3, e3⟩
  cases m with
  | zero => cases e3
  | succ m =>
    unfold whL at e3
    cases e1 : r.e x T with
    | none => rw [e1] at e3; cases e3
    | some p1 =>
      obtain ⟨d, T1⟩ := p1
      simp only [e1] at e3
      cases e2 : truth d with
      | none => simp only [e2] at e3; cases e3
      | some b =>
        simp only [e2] at e3
        refine ⟨H0, g0, τ3, ga3, T, d, b, T1, R3, e1, e2, fun τ4 H4 x4 R4 => ?_⟩
        have y4 := y3.trans (SEx.of R3 x4)
        cases b with
        | false =>
          simp only at e3
          cases e3
          exact q ga3 τ4 σ3 H4 y4 R4
        | true =>
          simp only at e3
          refine ⟨fun σ' H' => ∃ (ga' : Option Addr) (τ' : Addr → Option Nat) (T : Stt), Rl X.K H0 g0 τ' ga' T σ' H' ∧ SEx τ S H τ' T H' ∧ whL r x xb m T = some (fl, S'), fun σ' H' w => ⟨m, Nat.lt_succ_self _, w⟩, ?_⟩
          cases e6 : evSs r xb T1 with
          | none => simp only [e6] at e3; cases e3
          | some p6 =>
            obtain ⟨f6, S6⟩ := p6
            refine ⟨H0, g0, τ4, ga3, T1, f6, S6, R4, e6, fun ga7 τ7 σ7 H7 y7 R7 => ?_⟩
            have y8 := y4.trans y7
            cases f6 with
            | nx => simp only [e6] at e3; exact ⟨ga7, τ7, S6, R7, y8, e3⟩
            | ct => simp only [e6] at e3; exact ⟨ga7, τ7, S6, R7, y8, e3⟩
            | bk =>
              simp only [e6] at e3
              cases e3
              exact q ga7 τ7 σ7 H7 y8 R7
            | rt d =>
              simp only [e6] at e3
              cases e3
              exact q ga7 τ7 σ7 H7 y8 R7
end
end Cor

/-! CorS: every statement that compiles. -/
namespace Cor
open PySem L2

section
variable {c : Cfg} {cf : CallF} {k m : Nat} {X : Cx} {sc : Scope}
theorem StCx.blockKind (C : StCx c cf k X sc) : X.env.blockKind = .function := by
  unfold Env.blockKind; rw [C.kind]; rfl
theorem StCx.kindOf (C : StCx c cf k X sc) (x : Str) : X.env.kindOf x = sc.names.lookup x := by
  unfold Env.kindOf; rw [C.names]
abbrev namesF (sc : Scope) (ts : List Expr) : List Str := ts.filterMap fun
    | .Name id pos => if sc.names.lookup id == some .local && pos.line == (ts.head?.map (·.pos.line)).getD 0 then some id else none
    | _ => none
theorem swap_eq (C : StCx c cf k X sc) {ts vs : List Expr} {kt k2 : Nat} {pt p2 : Pos} {o : Option (List Str)} (h : swapR sc ts vs = some o) : swappedStores [.Tuple ts kt pt] (.Tuple vs k2 p2) X.env = pure o := by
  unfold swappedStores
  have hk : Env.kindOf X.env = fun x => sc.names.lookup x := funext C.kindOf
  rw [hk, C.blockKind]
  have h' : (if (!(ts.length == 2 || ts.length == 3) || vs.length != ts.length) = true then some none
    else if vs.any isStar = true then some none
    else if ((namesF sc ts).length != ts.length || (namesF sc ts).eraseDups.length != (namesF sc ts).length) = true then some none
    else if vs.all (foldedForSure 8) = true then some none
    else if vs.all (constantsAlone 8) = true then none
    else some (some (namesF sc ts))) = some o := h
  show (if (!(ts.length == 2 || ts.length == 3) || vs.length != ts.length || false) = true then pure none
    else if vs.any isStar = true then pure none
    else if ((namesF sc ts).length != ts.length || (namesF sc ts).eraseDups.length != (namesF sc ts).length) = true then pure none
    else if vs.all (foldedForSure 8) = true then pure none
    else if vs.all (constantsAlone 8) = true then _
    else pure (some (namesF sc ts))) = pure o
  rw [Bool.or_false]
  split at h'
  · rename_i h1; cases h'; rw [if_pos h1]
  · rename_i h1
    rw [if_neg h1]
    split at h'
    · rename_i h2; cases h'; rw [if_pos h2]
    · rename_i h2
      rw [if_neg h2]
      split at h'
      · rename_i h3; cases h'; rw [if_pos h3]
      · rename_i h3
        rw [if_neg h3]
        split at h'
        · rename_i h4; cases h'; rw [if_pos h4]
        · rename_i h4
          rw [if_neg h4]
          split at h'
          · cases h'
          · rename_i h5
            rw [if_neg h5]
            cases h'; rfl
/-- what is stored from the right -/
theorem swap_inv {ts vs : List Expr} {names : List Str} (h : swapR sc ts vs = some (some names)) : (ts.length = 2 ∨ ts.length = 3) ∧ vs.length = ts.length ∧ names = namesF sc ts ∧ (namesF sc ts).length = ts.length ∧ (namesF sc ts).eraseDups.length = (namesF sc ts).length ∧ vs.any isStar = false := by
  have h' : (if (!(ts.length == 2 || ts.length == 3) || vs.length != ts.length) = true then some none
    else if vs.any isStar = true then some none
    else if ((namesF sc ts).length != ts.length || (namesF sc ts).eraseDups.length != (namesF sc ts).length) = true then some none
    else if vs.all (foldedForSure 8) = true then some none
    else if vs.all (constantsAlone 8) = true then none
    else some (some (namesF sc ts))) = some (some names) := h
  split at h'
  · cases h'
  · rename_i h1
    split at h'
    · cases h'
    · rename_i h2
      split at h'
      · cases h'
      · rename_i h3
        split at h'
        · cases h'
        · split at h'
          · cases h'
          · cases h'
            have h1' := Bool.eq_false_iff.mpr h1
            have h3' := Bool.eq_false_iff.mpr h3
            rw [Bool.or_eq_false_iff] at h1' h3'
            refine ⟨by have q := h1'.1; simp at q; omega, by simpa using h1'.2, rfl, by simpa using h3'.1, by simpa using h3'.2, by simpa using h2⟩
theorem dups2 {x y : Str} (h : ([x, y] : List Str).eraseDups.length = ([x, y] : List Str).length) : x ≠ y := fun e => by
  subst e
  simp [List.eraseDups_cons] at h
theorem dups3 {x y z : Str} (h : ([x, y, z] : List Str).eraseDups.length = ([x, y, z] : List Str).length) : x ≠ y ∧ x ≠ z ∧ y ≠ z := by
  refine ⟨fun e => ?_, fun e => ?_, fun e => ?_⟩
  · subst e
    simp [List.eraseDups_cons] at h
    by_cases q : z = x <;> simp [q, List.eraseDups_cons] at h
  · subst e
    simp [List.eraseDups_cons] at h
    by_cases q : y = x <;> simp [q, List.eraseDups_cons] at h
  · subst e
    simp [List.eraseDups_cons] at h
    by_cases q : y = x <;> simp [q, List.eraseDups_cons] at h
theorem tg_name {e : Expr} {i : Nat} (h : tgName c sc e = some i) : ∃ x p, e = .Name x p ∧ slotC c sc x = some i := by
  unfold tgName at h
  split at h
  · exact ⟨_, _, rfl, h⟩
  · cases h
theorem names_all {ts : List Expr} (h : (namesF sc ts).length = ts.length) : ∀ x p, Expr.Name x p ∈ ts → sc.names.lookup x = some .local := by
  have key : ∀ (F : Expr → Option Str) (l : List Expr), (l.filterMap F).length = l.length → ∀ e ∈ l, ∃ y, F e = some y := by
    intro F l
    induction l with
    | nil => intro _ e m; cases m
    | cons a l ih =>
      intro h e m
      cases q : F a with
      | none =>
        rw [List.filterMap_cons_none q] at h
        have := List.length_filterMap_le F l
        simp at h; omega
      | some y =>
        rw [List.filterMap_cons_some q] at h
        rcases List.mem_cons.mp m with z | z
        · exact ⟨y, by rw [z]; exact q⟩
        · exact ih (by simpa using h) e z
  intro x p m
  obtain ⟨y, hy⟩ := key _ ts h _ m
  simp only at hy
  split at hy
  · rename_i hc
    have := (b2 hc).1
    simpa using this
  · cases hy
theorem slot_N (T : TgCx c X sc) {x : Str} {i : Nat} (h : slotC c sc x = some i) : X.N[i]? = some x := (slot_ok T h).1
theorem N_ne {x y : Str} {i j : Nat} (h1 : X.N[i]? = some x) (h2 : X.N[j]? = some y) (n : x ≠ y) : i ≠ j := fun e => by
  subst e; rw [h1] at h2; cases h2; exact n rfl
theorem pe_slot (T : TgCx c X sc) {x : Str} {p : Pos} {i : Nat} (h : slotC c sc x = some i) (hp : plainX x = true) : PE X (.Name x p) (tVar i) := by
  obtain ⟨h1, h2, _⟩ := slot_ok T h
  exact pe_var h1 (h2.elim .inl fun z => .inr (.inl z)) (plain1 hp) (plain2 hp)
theorem st_par (C : StCx c cf k X sc) {r : Ev} {ts vs : List Expr} {kt k2 : Nat} {pt p2 pos : Pos} {names : List Str} {is : List Nat} {xs : List CE} (hw : swapR sc ts vs = some (some names)) (ht : tgNames c sc ts = some is) (ha : PA X vs (TXs X.K r xs)) :
    PS X (.Assign [.Tuple ts kt pt] (.Tuple vs k2 p2) pos) (TXst X.K (stepS r (.par is xs))) := by
  obtain ⟨h1, h2, rfl, h4, h5, _⟩ := swap_inv hw
  have hloc := names_all h4
  have sw := swap_eq C (kt := kt) (k2 := k2) (pt := pt) (p2 := p2) hw
  rcases h1 with h1 | h1
  · match ts, vs, h1, h2 with
    | [t1, t2], [v1, v2], _, _ =>
      unfold tgNames at ht
      split at ht
      · rename_i i is' e1 e2
        cases ht
        unfold tgNames at e2
        split at e2
        · rename_i j is2 e3 e4
          cases e2
          cases e4
          obtain ⟨x, px, rfl, hx⟩ := tg_name e1
          obtain ⟨y, py, rfl, hy⟩ := tg_name e3
          have lx := hloc x px (by simp)
          have ly := hloc y py (by simp)
          have hn : namesF sc [.Name x px, .Name y py] = [x, y] := by
            have q1 : ∀ F : Expr → Option Str, (∀ p, ∀ z, F (.Name z p) = some z ∨ F (.Name z p) = none) → ([.Name x px, .Name y py].filterMap F).length = 2 → [Expr.Name x px, .Name y py].filterMap F = [x, y] := by
              intro F hF hl
              rcases hF px x with a1 | a1 <;> rcases hF py y with a2 | a2 <;> simp [List.filterMap, a1, a2] at hl ⊢
            exact q1 _ (fun p z => by simp only; split <;> simp) h4
          rw [hn] at h5 sw
          have hne := dups2 h5
          have nx := slot_N C.tg hx
          have ny := slot_N C.tg hy
          refine psW (ps_par C.calm C.nd nx ny (N_ne nx ny hne) (by rw [C.names]; exact lx) (by rw [C.names]; exact ly) ha sw) fun Dn σ H h => ?_
          obtain ⟨n, hn, H0, g0, τ, ga, S, ds, S', R, ev, q⟩ := par_rd h
          refine ⟨H0, g0, τ, ga, S, ds, S', R, ev, fun τ1 H1 us x1 R1 r1 => ?_⟩
          obtain ⟨hl, hq⟩ := q τ1 H1 us x1 R1 r1
          rw [hn] at hl
          match us, hl with
          | [u1, u2], _ => exact ⟨u1, u2, rfl, hq⟩
        · cases e2
      · cases ht
  · match ts, vs, h1, h2 with
    | [t1, t2, t3], [v1, v2, v3], _, _ =>
      unfold tgNames at ht
      split at ht
      · rename_i i is' e1 e2
        cases ht
        unfold tgNames at e2
        split at e2
        · rename_i j is2 e3 e4
          cases e2
          unfold tgNames at e4
          split at e4
          · rename_i l is3 e5 e6
            cases e4
            cases e6
            obtain ⟨x, px, rfl, hx⟩ := tg_name e1
            obtain ⟨y, py, rfl, hy⟩ := tg_name e3
            obtain ⟨z, pz, rfl, hz⟩ := tg_name e5
            have lx := hloc x px (by simp)
            have ly := hloc y py (by simp)
            have lz := hloc z pz (by simp)
            have hn : namesF sc [.Name x px, .Name y py, .Name z pz] = [x, y, z] := by
              have q1 : ∀ F : Expr → Option Str, (∀ p, ∀ z, F (.Name z p) = some z ∨ F (.Name z p) = none) → ([.Name x px, .Name y py, .Name z pz].filterMap F).length = 3 → [Expr.Name x px, .Name y py, .Name z pz].filterMap F = [x, y, z] := by
                intro F hF hl
                rcases hF px x with a1 | a1 <;> rcases hF py y with a2 | a2 <;> rcases hF pz z with a3 | a3 <;> simp [List.filterMap, a1, a2, a3] at hl ⊢
              exact q1 _ (fun p z => by simp only; split <;> simp) h4
            rw [hn] at h5 sw
            obtain ⟨n1, n2, n3⟩ := dups3 h5
            have nx := slot_N C.tg hx
            have ny := slot_N C.tg hy
            have nz := slot_N C.tg hz
            refine psW (ps_par3 C.calm C.nd nx ny nz (N_ne nx ny n1) (N_ne nx nz n2) (N_ne ny nz n3) (by rw [C.names]; exact lx) (by rw [C.names]; exact ly) (by rw [C.names]; exact lz) ha sw) fun Dn σ H h => ?_
            obtain ⟨n, hn, H0, g0, τ, ga, S, ds, S', R, ev, q⟩ := par_rd h
            refine ⟨H0, g0, τ, ga, S, ds, S', R, ev, fun τ1 H1 us x1 R1 r1 => ?_⟩
            obtain ⟨hl, hq⟩ := q τ1 H1 us x1 R1 r1
            rw [hn] at hl
            match us, hl with
            | [u1, u2, u3], _ => exact ⟨u1, u2, u3, rfl, hq⟩
          · cases e4
        · cases e2
      · cases ht
/-- name = e -/
theorem st_name (C : StCx c cf k X sc) {x : Str} {px p : Pos} {i : Nat} {e : Expr} {v : CE} (n : Nat) (hx : slotC c sc x = some i) (he : compE c m sc e = some v) (hl : isComp e = true → sc.names.lookup x = some .local) : PS X (.Assign [.Name x px] e p) (tAsg (TX X.K (evN cf n).e v) (gName i)) := by
  obtain ⟨h1, h2, h3⟩ := slot_ok C.tg hx
  have M := main c cf k m
  have plain : swapsWith e (some (.Name x px)) p.line X.env = pure false → PS X (.Assign [.Name x px] e p) (tAsg (TX X.K (evN cf n).e v) (gName i)) := fun hs => ps_set C.nd h1 h2 (M.e _ _ _ _ n C.toCtxOk he) hs h3
  cases hc : isComp e with
  | false => exact plain (by cases e <;> first | rfl | cases hc)
  | true =>
    have hloc := hl hc
    cases m with
    | zero => simp [compE] at he
    | succ m =>
      cases e <;> first | (cases hc; done) | skip
      · rename_i elt gs scope pos
        match gs, he with
        | [⟨tge, it, ifs, 0⟩], he =>
          have hsw : swapsWith (.ListComp elt [⟨tge, it, ifs, 0⟩] scope pos) (some (.Name x px)) p.line X.env = pure (X.env.blockKind == .function && X.env.kindOf x == some .local && px.line == pos.line && !(scope.names.any fun (n, k) => n == x && (k == .local || k == .cell))) := rfl
          cases hb : (X.env.blockKind == .function && X.env.kindOf x == some .local && px.line == pos.line && !(scope.names.any fun (n, k) => n == x && (k == .local || k == .cell))) with
          | false => rw [hb] at hsw; exact plain hsw
          | true =>
            rw [hb] at hsw
            cases n with
            | zero => exact ⟨fun pins s σ H Dn I ⟨H0, g0, τ, ga, S, d, S', R, ev, q⟩ => nomatch ev⟩
            | succ n =>
              obtain ⟨own, y, tg, ci, fi, ho, hb, hs, e1, e2, e3, e4, hn, hsub, rfl⟩ := comp_inv he
              have M := main c cf k m
              exact snd_setComp C.toCtxOk h1 hloc hsw hb hs e2 hsub (M.i _ _ _ _ _ n C.toCtxOk e3 hn) (fun X' hK C' => M.f _ _ _ _ n C' e4) (fun X' hK C' => M.e _ _ _ _ n C' e1)
      all_goals simp [compE] at he
end
end Cor

/-! CorT: every suite that compiles. -/
namespace Cor
open PySem L2

structure MainS (c : Cfg) (cf : CallF) (k m : Nat) : Prop where
  s : ∀ sc X st x n, StCx c cf k X sc → compS c m sc st = some x → PS X st (TXst X.K ((evN cf n).s x))
  ss : ∀ sc X st xs n, StCx c cf k X sc → compSs c m sc st = some xs → PSs X st (TXst X.K (evSs (evN cf n) xs))
section
variable {c : Cfg} {cf : CallF} {k m : Nat} {X : Cx} {sc : Scope}
theorem ps_void {st : Stmt} {x : CS} {K : PySem.W.Frag} : PS X st (TXst K ((evN cf 0).s x)) := ⟨fun pins s σ H Dn I ⟨H0, g0, τ, ga, S, fl, S', R, ev, q⟩ => nomatch ev⟩
theorem main_ss (M : MainS c cf k m) (sc X st xs n) (C : StCx c cf k X sc) (h : compSs c (m + 1) sc st = some xs) : PSs X st (TXst X.K (evSs (evN cf n) xs)) := by
  cases st with
  | nil => simp only [compSs] at h; cases h; exact st_nil
  | cons s r =>
    simp only [compSs] at h
    split at h
    · rename_i e1 e2; cases h; exact st_cons (M.s _ _ _ _ n C e1) (M.ss _ _ _ _ n C e2)
    · cases h
theorem main_s (M : MainS c cf k m) (sc X st x n) (C : StCx c cf k X sc) (h : compS c (m + 1) sc st = some x) : PS X st (TXst X.K ((evN cf n).s x)) := by
  cases n with
  | zero => exact ps_void
  | succ n =>
  show PS X st (TXst X.K (stepS (evN cf n) x))
  have ME := main c cf k m
  have sub := fun e x (h : compE c m sc e = some x) => ME.e sc X e x n C.toCtxOk h
  unfold compS at h
  split at h
  · cases h; exact st_retN
  · rename_i e p
    cases e1 : compE c m sc e with
    | none => rw [e1] at h; cases h
    | some y => rw [e1] at h; cases h; exact st_ret (sub _ _ e1)
  · rename_i x' px e p
    split at h
    · rename_i i v e1 e2
      have key : ∀ b : Bool, (if (isComp e && !b) = true then none else if (x' == genName) = true then some (CS.gen i v) else some (CS.asg (.v i) v)) = some x → (isComp e = true → b = true) ∧ (if (x' == genName) = true then some (CS.gen i v) else some (CS.asg (.v i) v)) = some x := fun b h => by
        by_cases hc : (isComp e && !b) = true
        · rw [if_pos hc] at h; cases h
        · rw [if_neg hc] at h
          refine ⟨fun z => ?_, h⟩
          rw [z] at hc
          cases b with
          | true => rfl
          | false => exact absurd rfl hc
      obtain ⟨hl, h⟩ := key _ h
      have hl' : isComp e = true → sc.names.lookup x' = some .local := fun hc => by
        have := hl hc
        split at this
        · assumption
        · cases this
      by_cases hg : (x' == genName) = true
      · rw [if_pos hg] at h
        cases h; exact psW (st_name C n e1 e2 hl') fun Dn σ H q => gen_rd q
      · rw [if_neg hg] at h
        cases h; exact psW (st_name C n e1 e2 hl') fun Dn σ H q => gName_rd q
    · cases h
  · rename_i ts kt pt vs k2 p2 p
    split at h
    · rename_i is es e1 e2 e3
      cases h
      have F := EsOk.at (ME.es _ _ _ e3) C.toCtxOk
      cases n with
      | zero => exact ⟨fun pins s σ H Dn I ⟨H0, g0, τ, ga, S, fl, S', R, ev, q⟩ => by simp [stepS, evN] at ev⟩
      | succ n =>
        exact st_asg (r := evN cf (n + 1)) (snd_tup (pa_of2 (F n))) (snd_tg C.tg (by show (tgNames c sc ts).map Tg.tup = _; rw [e2]; rfl)) rfl (swap_eq C e1) rfl
    · rename_i names is es e1 e2 e3
      cases h
      exact st_par C e1 e2 (pa_of2 (EsOk.at (ME.es _ _ _ e3) C.toCtxOk n))
    · cases h
  · rename_i ts kt pt e p hne
    split at h
    · cases h
    · rename_i hc
      split at h
      · rename_i is v e1 e2
        cases h
        refine st_asg (sub _ _ e2) (snd_tg C.tg (by show (tgNames c sc ts).map Tg.tup = _; rw [e1]; rfl)) ?_ ?_ rfl
        · cases e <;> rfl
        · cases e <;> first | rfl | exact absurd rfl (hne _ _ _)
      · cases h
  · rename_i x' px ke p e p'
    split at h
    · cases h
    · rename_i hc
      have hc' : (isComp e || isSlice ke) = false := by simpa using hc
      rw [Bool.or_eq_false_iff] at hc'
      split at h
      · rename_i i y v e1 e2 e3
        split at h
        · rename_i hp
          cases h
          exact st_set (pe_slot C.tg e1 hp) hc'.2 (sub _ _ e2) (sub _ _ e3)
        · cases h
      · cases h
  · rename_i x' px mm ap a cp p
    split at h
    · rename_i hc
      obtain ⟨h1, h2⟩ := b2 hc
      obtain ⟨h2, h3⟩ := b2 h2
      obtain ⟨h3, h4⟩ := b2 h3
      split at h
      · rename_i i y e1 e2
        cases h
        exact st_app h1 h3 (pe_slot C.tg e1 h2) (by simpa using h4) (sub _ _ e2)
      · cases h
    · cases h
  · rename_i x' px mm ap cp p
    split at h
    · rename_i hc
      obtain ⟨h1, h2⟩ := b2 hc
      obtain ⟨h2, h3⟩ := b2 h2
      cases e1 : slotC c sc x' with
      | none => rw [e1] at h; cases h
      | some i => rw [e1] at h; cases h; exact st_pop h1 h3 (pe_slot C.tg e1 h2)
    · cases h
  · cases h; exact st_doc
  · rename_i f pf args kws cp p
    cases e1 : compE c m sc (.Call (.Name f pf) args kws cp) with
    | none => rw [e1] at h; cases h
    | some y => rw [e1] at h; cases h; exact st_expr rfl (sub _ _ e1)
  · rename_i tge it body p
    split at h
    · cases h
    · rename_i hs
      split at h
      · rename_i tg ci xb e1 e2 e3
        split at h
        · cases h
        · rename_i hn
          cases h
          exact st_for C (by simpa using hs) (ME.i _ _ _ _ _ n C.toCtxOk e2 fun hq => tup_of e1 (by rw [hq] at hn; simpa using hn)) (snd_tg C.tg e1) (M.ss _ _ _ _ n C e3)
      · cases h
  · split at h
    · rename_i e1 e2; cases h; exact st_whl C (ME.t _ _ _ _ n C.toCtxOk e1) (M.ss _ _ _ _ n C e2)
    · cases h
  · split at h
    · rename_i e1 e2 e3; cases h; exact st_if (ME.t _ _ _ _ n C.toCtxOk e1) (M.ss _ _ _ _ n C e2) (M.ss _ _ _ _ n C e3)
    · cases h
  · cases h; exact st_raise
  · cases h; exact st_brk
  · cases h; exact st_pass
  · cases h
theorem mainS (c : Cfg) (cf : CallF) (k : Nat) : ∀ m, MainS c cf k m
  | 0 => ⟨fun sc X st x n C h => by simp [compS] at h, fun sc X st x n C h => by simp [compSs] at h⟩
  | m + 1 => ⟨fun sc X st x n C h => main_s (mainS c cf k m) sc X st x n C h, fun sc X st x n C h => main_ss (mainS c cf k m) sc X st x n C h⟩
end
end Cor

/-! CorU: how a plain def binds. -/
namespace Cor
open PySem L2

theorem forIn_step {σ α : Type} (f : α → σ → Sem (ForInStep σ)) (step : σ → α → σ) (G : σ → List α → Prop) (hf : ∀ x l s, G s (x :: l) → f x s = pure (.yield (step s x)) ∧ G (step s x) l) :
    ∀ (l : List α) (s : σ), G s l → forIn l s f = pure (l.foldl step s)
  | [], s, _ => by rw [List.forIn_nil]; rfl
  | x :: l, s, g => by
    obtain ⟨h1, h2⟩ := hf x l s g
    rw [List.forIn_cons, h1]
    exact forIn_step f step G hf l _ h2
/-- the parameters are plain names -/
def plainArgs (a : Arguments) : Bool := a.posonlyargs.isEmpty && (a.kwonlyargs.isEmpty && (a.vararg.isNone && (a.kwarg.isNone && decide ((argNames a.args).Nodup))))
theorem argNames_eq : ∀ l : List Arg, l.map (·.arg) = argNames l
  | [] => rfl
  | a :: l => by simp [argNames, argNames_eq l]
theorem lookup_zip_lt : ∀ {ps : List Str} {us : List Value} {j : Nat} {x : Str}, ps.Nodup → ps[j]? = some x → j < us.length → (ps.zip us).lookup x = us[j]?
  | [], _, _, _, _, h, _ => by cases h
  | p :: ps, [], _, _, _, _, h => by cases h
  | p :: ps, u :: us, 0, x, n, h, hl => by cases h; simp [List.lookup_cons]
  | p :: ps, u :: us, j + 1, x, n, h, hl => by
    obtain ⟨n1, n2⟩ := List.nodup_cons.mp n
    have hx : ps[j]? = some x := by simpa using h
    have : (x == p) = false := by
      rw [beq_eq_false_iff_ne]
      intro e
      exact n1 (e ▸ List.mem_of_getElem? hx)
    simp only [List.zip_cons_cons, List.lookup_cons, this, List.getElem?_cons_succ]
    exact lookup_zip_lt n2 hx (by simpa using hl)
theorem lookup_zip_none : ∀ {ps : List Str} {us : List Value} {x : Str}, x ∉ ps.take us.length → (ps.zip us).lookup x = none
  | [], _, _, _ => by simp
  | p :: ps, [], _, _ => by simp
  | p :: ps, u :: us, x, h => by
    have h' : x ≠ p ∧ x ∉ ps.take us.length := by simpa using h
    have : (x == p) = false := beq_eq_false_iff_ne.mpr h'.1
    simp only [List.zip_cons_cons, List.lookup_cons, this]
    exact lookup_zip_none h'.2
theorem lookup_idx : ∀ {ks : List Str} {ws : List Value} {x : Str} {i : Nat}, idxOf x ks = some i → ws.length = ks.length → (ks.zip ws).lookup x = ws[i]?
  | [], _, _, _, h, _ => by cases h
  | k :: ks, [], _, _, _, h => by cases h
  | k :: ks, w :: ws, x, i, h, hl => by
    unfold idxOf at h
    split at h
    · rename_i e; cases h; simp [List.lookup_cons, e]
    · rename_i e
      cases q : idxOf x ks with
      | none => rw [q] at h; cases h
      | some j =>
        rw [q] at h; cases h
        simp only [List.zip_cons_cons, List.lookup_cons, Bool.eq_false_iff.mpr e, List.getElem?_cons_succ]
        exact lookup_idx q (by simpa using hl)
theorem lookup_app {l m : List (Str × Value)} {x : Str} : (l ++ m).lookup x = (l.lookup x).or (m.lookup x) := by
  induction l with
  | nil => simp
  | cons p l ih =>
    obtain ⟨k, v⟩ := p
    simp only [List.cons_append, List.lookup_cons]
    cases x == k <;> simp [ih]
theorem nodup_split {ps : List Str} (n : ps.Nodup) (k : Nat) {x : Str} (h : x ∈ ps.drop k) : x ∉ ps.take k := fun m => by
  have : (ps.take k ++ ps.drop k).Nodup := by rw [List.take_append_drop]; exact n
  rw [List.nodup_append] at this
  exact this.2.2 _ m _ h rfl
theorem filterMap_zip : ∀ {ps : List Str} {zs : List Value} {F : Str → Option Value}, zs.length = ps.length → (∀ (j : Nat) (x : Str), ps[j]? = some x → F x = zs[j]?) → ps.filterMap (fun n => (F n).map (n, ·)) = ps.zip zs
  | [], [], F, _, _ => rfl
  | [], _ :: _, F, h, _ => by cases h
  | _ :: _, [], F, h, _ => by cases h
  | p :: ps, z :: zs, F, h, hf => by
    have h0 := hf 0 p rfl
    simp only [List.getElem?_cons_zero] at h0
    rw [List.filterMap_cons_some (b := (p, z)) (by rw [h0]; rfl), filterMap_zip (by simpa using h) fun j x hx => by simpa using hf (j + 1) x (by simpa using hx)]
    rfl
section
variable {x qual : Str} {params : Arguments} {body : List Stmt} {scope : Scope} {kV doc pm cdv ct : Value} {an : Option Addr}
theorem bind_gen (hp : plainArgs params = true) {ps ks : List Str} {us ws zs : List Value} (e : argNames params.args = ps) (l1 : us.length + ks.length = ps.length) (l2 : ws.length = ks.length) (lz : zs.length = ps.length) (nk : ks.Nodup) (hk : ∀ k ∈ ks, k ∈ ps.drop us.length)
    (h1 : ∀ j, j < us.length → zs[j]? = us[j]?) (h2 : ∀ (j : Nat) (x : Str), us.length ≤ j → ps[j]? = some x → ∃ i, idxOf x ks = some i ∧ zs[j]? = ws[i]?) :
    bindArgs (PySem.W.fnOf x qual params body scope .none kV doc pm an cdv ct) ⟨us, ks.zip ws⟩ = pure (ps.zip zs) := by
  unfold plainArgs at hp
  obtain ⟨p1, hp⟩ := b2 hp
  obtain ⟨p2, hp⟩ := b2 hp
  obtain ⟨p3, hp⟩ := b2 hp
  obtain ⟨p4, hp⟩ := b2 hp
  have nd := of_decide_eq_true hp
  rw [e] at nd
  obtain ⟨po, ar, va, ko, kwd, kwa, df⟩ := params
  simp only at p1 p2 p3 p4 e
  cases po with
  | cons _ _ => cases p1
  | nil =>
  cases ko with
  | cons _ _ => cases p2
  | nil =>
  cases va with
  | some _ => cases p3
  | none =>
  cases kwa with
  | some _ => cases p4
  | none =>
  have hpos : ar.map (·.arg) = ps := (argNames_eq ar).trans e
  simp only [bindArgs, PySem.W.fnOf, List.map_nil, List.nil_append, hpos]
  have hst : ∀ (l : List (Str × Value)) (s : List (Str × Value) × List (Str × Value)), l.foldl (fun s x => (s.1 ++ [(x.1, x.2)], s.2)) s = (s.1 ++ l, s.2) := by
    intro l
    induction l with
    | nil => intro s; simp
    | cons a l ih => intro s; rw [List.foldl_cons, ih]; simp
  rw [forIn_step _ (fun s x => (s.1 ++ [(x.1, x.2)], s.2)) (fun s l => (∀ kv ∈ l, ps.contains kv.1 = true ∧ s.1.lookup kv.1 = none) ∧ (l.map (·.1)).Nodup) ?_ _ _ ?_, hst]
  rotate_left
  · intro kv l s g
    obtain ⟨g1, g2⟩ := g
    obtain ⟨g3, g4⟩ := g1 kv (by simp)
    rw [List.map_cons, List.nodup_cons] at g2
    refine ⟨?_, fun kv' hm => ?_, g2.2⟩
    · simp only [g3, g4, Bool.true_or, if_true, Option.isSome_none, Bool.false_eq_true, if_false]
    · obtain ⟨g5, g6⟩ := g1 kv' (by simp [hm])
      refine ⟨g5, ?_⟩
      have : (kv'.1 == kv.1) = false := beq_eq_false_iff_ne.mpr fun z => g2.1 (z ▸ List.mem_map.mpr ⟨kv', hm, rfl⟩)
      rw [lookup_app, g6, List.lookup_cons, this]; rfl
  · refine ⟨fun kv hm => ?_, ?_⟩
    · have hm2 := (List.of_mem_zip hm).1
      have hd := hk _ hm2
      refine ⟨List.contains_iff_mem.mpr (List.mem_of_mem_drop hd), lookup_zip_none (nodup_split nd _ hd)⟩
    · rw [List.map_fst_zip (by omega)]; exact nk
  have hsl : ∀ (j : Nat) (x : Str), ps[j]? = some x → (ps.zip us ++ ks.zip ws).lookup x = zs[j]? := by
    intro j x hx
    rw [lookup_app]
    by_cases hj : j < us.length
    · rw [lookup_zip_lt nd hx hj, h1 j hj, List.getElem?_eq_getElem hj]; rfl
    · have hd : x ∈ ps.drop us.length := by
        have : (ps.drop us.length)[j - us.length]? = some x := by
          rw [List.getElem?_drop, Nat.add_sub_cancel' (by omega)]; exact hx
        exact List.mem_of_getElem? this
      obtain ⟨i, h3, h4⟩ := h2 j x (by omega) hx
      rw [lookup_zip_none (nodup_split nd _ hd), lookup_idx h3 l2, h4]; rfl
  have hs : seqItems? Value.none = pure none := rfl
  have hle : decide (us.length > ps.length) = false := decide_eq_false (by omega)
  have hmiss : ∀ n, (List.filter (fun n => (List.lookup n (ps.zip us ++ ks.zip ws)).isNone) (ps.take n)) = [] := fun n => by
    rw [List.filter_eq_nil_iff]
    intro x hx hc
    obtain ⟨j, hj⟩ := List.getElem?_of_mem (List.mem_of_mem_take hx)
    rw [hsl j x hj] at hc
    have : j < zs.length := by
      rw [lz]
      by_cases q : j < ps.length
      · exact q
      · rw [List.getElem?_eq_none (by omega)] at hj; cases hj
    rw [List.getElem?_eq_getElem this] at hc
    cases hc
  simp only [pure_bind, hs, hle, Bool.false_and, Bool.false_eq_true, if_false, hmiss, List.isEmpty_nil, Bool.not_true, Option.getD_none, List.toList_toArray, List.drop_nil, List.zip_nil_right, List.forIn_nil, List.append_nil]
  rw [filterMap_zip lz hsl]
theorem mapM_get {α β : Type} {f : α → Option β} : ∀ {l : List α} {m : List β} {j : Nat} {a : α}, l.mapM f = some m → l[j]? = some a → ∃ b, f a = some b ∧ m[j]? = some b
  | [], m, j, a, _, h => by cases h
  | x :: l, m, j, a, e, h => by
    rw [List.mapM_cons] at e
    cases e1 : f x with
    | none => rw [e1] at e; cases e
    | some y =>
      cases e2 : l.mapM f with
      | none => rw [e1, e2] at e; cases e
      | some r =>
        rw [e1, e2] at e; cases e
        cases j with
        | zero => cases h; exact ⟨y, e1, rfl⟩
        | succ j =>
          have h' : l[j]? = some a := by simpa using h
          obtain ⟨b, h1, h2⟩ := mapM_get e2 h'
          exact ⟨b, h1, by simpa using h2⟩
theorem pick_get {α : Type} {l : List α} : ∀ {pm : List Nat} {zs : List α} {j i : Nat}, pick l pm = some zs → pm[j]? = some i → zs[j]? = l[i]?
  | [], zs, j, i, _, h => by cases h
  | p :: pm, zs, j, i, e, h => by
    unfold pick at e
    split at e
    · rename_i d r e1 e2
      cases e
      cases j with
      | zero => cases h; rw [e1]; rfl
      | succ j => simpa using pick_get e2 (by simpa using h)
    · cases e
theorem bind_pos (hp : plainArgs params = true) {ps : List Str} {us : List Value} (e : argNames params.args = ps) (l1 : us.length = ps.length) : bindArgs (PySem.W.fnOf x qual params body scope .none kV doc pm an cdv ct) ⟨us, []⟩ = pure (ps.zip us) :=
  bind_gen (ks := []) (ws := []) hp e (by simpa using l1) rfl l1 List.nodup_nil (fun _ m => nomatch m) (fun _ _ => rfl) fun j y h1 h2 => by
    rw [List.getElem?_eq_none (by omega)] at h2; cases h2
theorem bind_kw (hp : plainArgs params = true) {ps ks : List Str} {n : Nat} {pl : List Nat} {us ws zs : List Value} (e : argNames params.args = ps) (hpm : pmC ps n ks = some pl) (hn : n + ks.length = ps.length) (l1 : us.length = n) (l2 : ws.length = ks.length) (hz : pick (us ++ ws) pl = some zs) :
    bindArgs (PySem.W.fnOf x qual params body scope .none kV doc pm an cdv ct) ⟨us, ks.zip ws⟩ = pure (ps.zip zs) := by
  have hlen := pmC_len hpm
  unfold pmC at hpm
  split at hpm
  · cases hpm
  · rename_i hc
    have hc' : (decide ks.Nodup && ks.all fun k => (ps.drop n).contains k) = true := by simpa using hc
    obtain ⟨c1, c2⟩ := b2 hc'
    rw [List.all_eq_true] at c2
    have rg : ∀ j, j < ps.length → (List.range ps.length)[j]? = some j := fun j h => by rw [List.getElem?_range h]
    refine bind_gen hp e (by rw [l1]; exact hn) l2 (by rw [pick_len hz, hlen]) (of_decide_eq_true c1) (fun k m => by rw [l1]; exact List.contains_iff_mem.mp (c2 k m)) (fun j hj => ?_) fun j y hj hy => ?_
    · obtain ⟨b, h1, h2⟩ := mapM_get hpm (rg j (by omega))
      rw [if_pos (by omega)] at h1
      cases h1
      rw [pick_get hz h2, List.getElem?_append_left hj]
    · have hjl : j < ps.length := by
        by_cases q : j < ps.length
        · exact q
        · rw [List.getElem?_eq_none (by omega)] at hy; cases hy
      obtain ⟨b, h1, h2⟩ := mapM_get hpm (rg j hjl)
      rw [if_neg (by omega), hy] at h1
      cases q : idxOf y ks with
      | none => simp only [q] at h1; cases h1
      | some i =>
        simp only [q] at h1
        cases h1
        refine ⟨i, rfl, ?_⟩
        have h3 := pick_get hz h2
        rw [h3]
        show (us ++ ws)[i + n]? = ws[i]?
        rw [List.getElem?_append_right (by omega), l1, Nat.add_sub_cancel]
end
end Cor

/-! CorV: the text's defs keep the evaluator's promises. -/
namespace Cor
open PySem L2

section
open Classical
noncomputable def tau0 (H : Hp) (ga : Option Addr) (B : Addr → Prop) : Addr → Option Nat := fun a => if B a ∧ ga ≠ some a ∧ ∃ o, H a = some o then some 0 else none
theorem tau0_some {H : Hp} {ga : Option Addr} {B : Addr → Prop} {a : Addr} {t : Nat} (h : tau0 H ga B a = some t) : t = 0 ∧ B a ∧ ga ≠ some a ∧ ∃ o, H a = some o := by
  unfold tau0 at h
  split at h
  · rename_i z; cases h; exact ⟨rfl, z⟩
  · cases h
theorem tau0_in {H : Hp} {ga : Option Addr} {B : Addr → Prop} {a : Addr} (h : B a ∧ ga ≠ some a ∧ ∃ o, H a = some o) : tau0 H ga B a = some 0 := if_pos h
end
section
variable {K : PySem.W.Frag} {H : Hp} {ga : Option Addr} {B : Addr → Prop} {ds : List D} {vs : List V} {g : Option (List Int)}
theorem start_rl {N : List Str} {n : Nat} (r : RepA K H (okA H ga B) ga ds vs) (gi : GenIs H ga g) (hn : n = N.length) : Rl K H ga (tau0 H ga B) ga ⟨ds.map some ++ List.replicate (n - ds.length) none, 1, [], [], g, !g.isSome⟩ (L2.start N vs) H := by
  have hl := RepA.length r
  refine ⟨Nat.one_pos, fun a t e => ?_, fun a t e => (tau0_some e).2.2.2, fun a o e n => ⟨e, ?_⟩, fun a e => ?_, fun z => ?_, fun _ => rfl, fun a o e _ => e, fun a e => ⟨?_, ?_⟩, ?_, fun i d e => ?_⟩
  · rw [(tau0_some e).1]; exact Nat.one_pos
  · cases q : tau0 H ga B a with
    | none => exact .inl rfl
    | some t => rw [(tau0_some q).1]; exact .inr rfl
  · cases q : tau0 H ga B a with
    | none => rfl
    | some t => exact absurd e (tau0_some q).2.2.1
  · have z' : (!g.isSome) = true := z
    cases g with
    | none =>
      cases ga with
      | none => rfl
      | some _ => exact gi.elim
    | some _ => cases z'
  · cases q : tau0 H ga B a with
    | none => rfl
    | some t => exact absurd e (tau0_some q).2.2.1
  · cases g with
    | none => rw [e] at gi; exact gi.elim
    | some l => rw [e] at gi; exact ⟨l, rfl, gi⟩
  · show (ds.map some ++ List.replicate (n - ds.length) none).length = (L2.start N vs).length
    unfold L2.start
    rw [List.length_append, List.length_append, List.length_map, List.length_map, List.length_replicate, List.length_replicate, hl, hn]
  · have e' : (ds.map some ++ List.replicate (n - ds.length) none)[i]? = some (some d) := e
    have hi : i < ds.length := by
      by_cases q : i < ds.length
      · exact q
      · rw [List.getElem?_append_right (by simpa using q), List.getElem?_replicate] at e'
        split at e' <;> cases e'
    rw [List.getElem?_append_left (by simpa using hi), List.getElem?_map] at e'
    have e2 : ds[i]? = some d := by
      cases q : ds[i]? with
      | none => rw [q] at e'; cases e'
      | some x => rw [q] at e'; cases e'; rfl
    obtain ⟨v, h1, h2⟩ := RepA.get r e2
    refine ⟨v, ?_, ?_⟩
    · unfold L2.start
      rw [List.getElem?_append_left (by simp; omega), List.getElem?_map, h1]; rfl
    · exact Rep.move (T := fun _ => True) ⟨fun t a o _ k e => ⟨e, .inl ⟨k.1, .inl (tau0_in k.2)⟩⟩, fun _ _ e => e, fun _ _ _ e => e⟩ d v (fun _ _ => trivial) (.inr rfl) h2
/-- what a def hands back, as its caller sees it -/
theorem end_rd {S S' : Stt} {σ' : St} {H' : Hp} {τ' : Addr → Option Nat} {ga' : Option Addr} {d : D} {v : V} (gi : GenIs H ga g) (x : SEx (tau0 H ga B) S H τ' S' H') (hS : S.h = !g.isSome) (R : Rl K H ga τ' ga' S' σ' H') (ng : noGen d = true) (r : Rep K H' (okf τ' S'.fz) ga' d v) :
    ∃ cls : Addr → Prop, Sub ga H H' ∧ GenIs H' ga (keepG g S'.g) ∧ noGen (told S'.fz d) = true ∧ Rep K H' (okR H H' ga B cls) none (told S'.fz d) v := by
  refine ⟨fun a => ∃ t, τ' a = some t ∧ t ≠ 0 ∧ t ∉ S'.fz, fun a o e n => (R.old a o e n).1, ?_, ?_, ?_⟩
  · cases g with
    | none =>
      cases ga with
      | none => exact trivial
      | some _ => exact gi.elim
    | some l =>
      cases ga with
      | none => exact gi.elim
      | some a =>
        have h1 : S'.h = false := by rw [x.hh, hS]; rfl
        obtain ⟨_, l', h2, h3⟩ := R.gen a (R.gga h1)
        show GenIs H' (some a) S'.g
        rw [h2]
        exact h3
  · unfold told; rw [noGen_retag]; exact ng
  · refine Rep.noga (ga := ga') _ v (by unfold told; rw [noGen_retag]; exact ng) ?_
    refine Rep.retag (ok := okf τ' S'.fz) _ d v (fun t a _ k => ?_) r
    obtain ⟨u, hu⟩ := okf.some k
    have hg : ga ≠ some a := fun z => by rw [R.g0n a z] at hu; cases hu
    -- an old one bears 0, and it was given
    have old : ∀ o, H a = some o → u = 0 ∧ B a := fun o e => by
      obtain ⟨_, h2⟩ := R.old a o e hg
      rw [hu] at h2
      have hu0 : u = 0 := by
        rcases h2 with h2 | h2
        · cases h2
        · cases h2; rfl
      subst hu0
      rcases x.new a 0 hu with h3 | h3
      · exact ⟨rfl, (tau0_some h3).2.1⟩
      · rw [h3] at e; cases e
    refine ⟨hg, R.trk a u hu, ?_⟩
    have zero : (u = 0 ∨ u ∈ S'.fz) → (B a ∨ (H a = none ∧ ¬ ∃ t, τ' a = some t ∧ t ≠ 0 ∧ t ∉ S'.fz)) := fun hz => by
      cases q : H a with
      | some o => exact .inl (old o q).2
      | none =>
        refine .inr ⟨rfl, fun ⟨t, h1, h2, h3⟩ => ?_⟩
        rw [hu] at h1; cases h1
        rcases hz with hz | hz
        · exact h2 hz
        · exact h3 hz
    rcases k with ⟨rfl, k | ⟨w, hw, k⟩⟩ | ⟨hn, k⟩
    · rw [hu] at k; cases k
      rw [if_pos (by simp)]
      exact .inl ⟨rfl, zero (.inl rfl)⟩
    · rw [hu] at k; cases k
      rw [if_pos (by simp)]
      exact .inl ⟨rfl, zero (.inr hw)⟩
    · rw [hu] at k; cases k
      by_cases hf : t ∈ S'.fz
      · rw [if_pos (by simp [hf])]
        exact .inl ⟨rfl, zero (.inr hf)⟩
      · rw [if_neg (by simp [hn, hf])]
        refine .inr ⟨Nat.one_ne_zero, ?_, t, hu, hn, hf⟩
        cases q : H a with
        | none => rfl
        | some o => exact absurd (old o q).1 hn
end

section
variable {P : Program} {w : World} {K : PySem.W.Frag} {mg : Str → Option Value} {base : Heap} {x qual : Str} {params : Arguments} {body : List Stmt} {scope : Scope} {f : Addr} {fd : FuncData} {ps : List Str}
/-- what the module holds -/
structure ModIn (P : Program) (w : World) (K : PySem.W.Frag) (mg : Str → Option Value) (base : Heap) (fid : Str → Option (Nat × List Str)) (gl : Str → Option CE) (free : Str → Bool) (cf : CallF) (k : Nat) : Prop where
  fns : ∀ x i ps, fid x = some (i, ps) → ∃ (f : Addr) (fd : FuncData), mg x = some (.ref f) ∧ PySem.W.keepIn K (.ref f) = true ∧ FnG P w K mg base k f fd ps (spC K cf i) ∧
    (∀ (s : Shared) (us : List Value), us.length = ps.length → BindsTo s fd ⟨us, []⟩ (ps.zip us)) ∧
    (∀ (n : Nat) (ks : List Str) (pm : List Nat) (s : Shared) (us ws zs : List Value), pmC ps n ks = some pm → n + ks.length = ps.length → us.length = n → ws.length = ks.length → pick (us ++ ws) pm = some zs → BindsTo s fd ⟨us, ks.zip ws⟩ (ps.zip zs))
  gls : ∀ x y, gl x = some y → ∃ (u : Value) (v : V), mg x = some u ∧ RelV v u ∧ match y with
    | .int i => v = .int i
    | .gdict _ kvs => ∃ a, v = .ref a ∧ GDict K a kvs
    | .gtup _ l => ∃ a, v = .ref a ∧ ∀ H, SqT K H a (l.map V.int)
    | _ => False
  free : ∀ x, free x = true → mg x = none
theorem fnG_zero (f : Addr) (fd : FuncData) (ps : List Str) (tb : Nat → Option CFun) (i : Nat) : FnG P w K mg base 0 f fd ps (spC K (evC tb 0) i) :=
  ⟨fun A outer s H args us vs Q hr hg he hb hv hl ⟨B, ds, ga, g, d, g', h1, h2, h3, h4⟩ => nomatch h3⟩
theorem fnG_succ {N : List Str} {fid : Str → Option (Nat × List Str)} {gl : Str → Option CE} {free : Str → Bool} {tb : Nat → Option CFun} {n m i : Nat} {fn : CFun} (F : FunD K x qual params body scope [] [] f fd) (S : FnScope N ps scope) (htb : tb i = some fn)
    (hc : compSs ⟨N, fid, gl, free⟩ m scope body = some fn.body) (hnp : fn.np = ps.length) (hn : fn.n = N.length) (M : ModIn P w K mg base fid gl free (evC tb n) n) : FnG P w K mg base (n + 1) f fd ps (spC K (evC tb (n + 1)) i) := by
  obtain ⟨oc, od, dV, kV, doc, pm, an, cdv, ct, osl, rfl, lk, hcd, _, _⟩ := F.ex
  refine ⟨fun A outer s H args us vs Q hr hgu e0 hb r hl hsp => ?_⟩
  have KX : K.In s.heap := e0.mod.kin.keeps fun b o e => (e0.bs b o e).1
  have lim : s.heap.NoLimit := e0.mod.nolimit.keeps fun b o e => (e0.bs b o e).1
  have hkind : ∀ y ∈ ps.zip us, scope.names.lookup y.1 = some .local ∨ (scope.names.lookup y.1 = some .cell ∧ ((cellsFrom (s.heap.objs.size + 1) scope.names []).lookup y.1).isSome = true) := fun ⟨n, v⟩ hy => by
    rcases S.par n (List.of_mem_zip hy).1 with q | q
    · exact .inl q
    · exact .inr ⟨q, PySem.W.cellsFrom_some _ _ _ (.inl q)⟩
  refine codeAny_call_function hr.depth (KX _ _ lk) rfl S.co S.gen rfl (PySem.W.codeRec_of KX hcd) (hb _ _ _ _ ?_)
  refine wpAny_newFunctionEnv_cells S.kind hkind fun env he s1 x => ?_
  subst he
  refine ⟨lim.keeps x.toInCall.keep, codeAny_func ?_⟩
  have C : StCx ⟨N, fid, gl, free⟩ (evC tb n) n (cxOf CX0 P w K mg base N qual scope f cdv A outer s H E0) scope :=
    { N := rfl, nd := S.nd, calm := rfl, names := rfl, kind := S.kind, room := hr.deeper _, guards := hgu, skind := S.kind, fns := fun x i ps h => ⟨M.fns x i ps h⟩, gls := M.gls, free := M.free,
      tg := ⟨rfl, S.nd, rfl, fun x h => ⟨h, .inl rfl⟩⟩, pass := passes_of rfl }
  obtain ⟨B, ds, ga, g, d, g', ra, gi, ev, q⟩ := hsp
  have hds := RepA.length ra
  have I : Inv (cxOf CX0 P w K mg base N qual scope f cdv A outer s H E0) [] (L2.start N vs) H s1 := inv_start S hr.hd e0 hl r x
  have ht := (mainS ⟨N, fid, gl, free⟩ (evC tb n) n m).ss scope _ body fn.body 48 C hc
  have ev' : run (evC tb n) fn ds g = some (d, g') := by
    have : (match tb i with | some fn => run (evC tb n) fn ds g | none => none) = some (d, g') := ev
    rw [htb] at this; exact this
  unfold run at ev'
  split at ev'
  · rename_i hlen
    have hlen := Nat.eq_of_beq_eq_true hlen
    have R0 := start_rl (N := N) ra gi hn
    rw [hlen] at R0
    cases e1 : evSs (evN (evC tb n) 48) fn.body ⟨ds.map some ++ List.replicate (fn.n - fn.np) none, 1, [], [], g, !g.isSome⟩ with
    | none => rw [e1] at ev'; cases ev'
    | some p1 =>
      obtain ⟨fl, S'⟩ := p1
      have hq : TXst K (evSs (evN (evC tb n) 48) fn.body) { nx := fun _ H' => Q .non H', rt := Q } (L2.start N vs) H := by
        refine ⟨H, ga, tau0 H ga B, ga, _, fl, S', R0, e1, fun ga' τ' σ' H' y R => ?_⟩
        rw [e1] at ev'
        cases fl with
        | nx =>
          cases ev'
          obtain ⟨cls, h1, h2, h3, h4⟩ := end_rd (d := .non) (v := .non) gi y rfl R rfl rfl
          exact q H' .non cls h1 h2 h3 h4
        | rt d1 =>
          cases ev'
          intro ng v rv
          obtain ⟨cls, h1, h2, h3, h4⟩ := end_rd gi y rfl R ng rv
          exact q H' v cls h1 h2 h3 h4
        | bk => cases ev'
        | ct => cases ev'
      refine wpAny_mono (ht.run [] s1 (L2.start N vs) H _ I hq) (fun fl s' hs => ?_) fun e s' hs => hs
      have fin : ∀ {σ' : St} {H' : Hp} {v : V} {u : Value}, Inv (cxOf CX0 P w K mg base N qual scope f cdv A outer s H E0) [] σ' H' s' → RelV v u → Q v H' → L2.CE outer P w H s Q u s' :=
        fun {σ' H' v u} J rv q => ⟨v, H', J.os, J.bare, J.base, J.hok, rv, q⟩
      cases fl with
      | ret u =>
        obtain ⟨v, σ', H', J, rv, q⟩ := hs
        exact fin J rv q
      | next =>
        obtain ⟨σ', H', J, q⟩ := hs
        exact fin (v := V.non) (u := Value.none) J rfl q
      | brk =>
        obtain ⟨_, _, _, q⟩ := hs
        exact False.elim q
      | cont =>
        obtain ⟨_, _, _, q⟩ := hs
        exact False.elim q
  · cases ev'
/-- a def of the text that compiles -/
structure DefIs (K : PySem.W.Frag) (mg : Str → Option Value) (fid : Str → Option (Nat × List Str)) (gl : Str → Option CE) (free : Str → Bool) (tb : Nat → Option CFun) (x : Str) (i : Nat) (ps : List Str) : Prop where
  ex : ∃ (f : Addr) (fd : FuncData) (qual : Str) (params : Arguments) (body : List Stmt) (scope : Scope) (N : List Str) (fn : CFun) (m : Nat), mg x = some (.ref f) ∧ FunD K x qual params body scope [] [] f fd ∧ FnScope N ps scope ∧ plainArgs params = true ∧ argNames params.args = ps ∧
    tb i = some fn ∧ compSs ⟨N, fid, gl, free⟩ m scope body = some fn.body ∧ fn.np = ps.length ∧ fn.n = N.length
theorem binds_of (F : FunD K x qual params body scope [] [] f fd) (hp : plainArgs params = true) (hps : argNames params.args = ps) : (∀ (s : Shared) (us : List Value), us.length = ps.length → BindsTo s fd ⟨us, []⟩ (ps.zip us)) ∧
    (∀ (n : Nat) (ks : List Str) (pm : List Nat) (s : Shared) (us ws zs : List Value), pmC ps n ks = some pm → n + ks.length = ps.length → us.length = n → ws.length = ks.length → pick (us ++ ws) pm = some zs → BindsTo s fd ⟨us, ks.zip ws⟩ (ps.zip zs)) := by
  obtain ⟨oc, od, dV, kV, doc, pm, an, cdv, ct, osl, rfl, lk, hcd, hD, _⟩ := F.ex
  have hdv : dV = .none := by
    rcases hD with ⟨_, z⟩ | ⟨z, _⟩
    · exact z
    · exact absurd rfl z
  subst hdv
  exact ⟨fun s us hl => .of_eq (bind_pos hp hps hl), fun n ks pm s us ws zs h2 h3 h4 h5 h6 => .of_eq (bind_kw hp hps h2 h3 h4 h5 h6)⟩
theorem modIn {fid : Str → Option (Nat × List Str)} {gl : Str → Option CE} {free : Str → Bool} {tb : Nat → Option CFun} (Ds : ∀ x i ps, fid x = some (i, ps) → DefIs K mg fid gl free tb x i ps)
    (gls : ∀ x y, gl x = some y → ∃ (u : Value) (v : V), mg x = some u ∧ RelV v u ∧ match y with
      | .int i => v = .int i
      | .gdict _ kvs => ∃ a, v = .ref a ∧ GDict K a kvs
      | .gtup _ l => ∃ a, v = .ref a ∧ ∀ H, SqT K H a (l.map V.int)
      | _ => False) (hfree : ∀ x, free x = true → mg x = none) : ∀ n, ModIn P w K mg base fid gl free (evC tb n) n := by
  intro n
  induction n with
  | zero =>
    refine ⟨fun x i ps h => ?_, gls, hfree⟩
    obtain ⟨f, fd, qual, params, body, scope, N, fn, m, h1, F, S, hp, hps, _⟩ := (Ds x i ps h).ex
    obtain ⟨bp, bk⟩ := binds_of F hp hps
    exact ⟨f, fd, h1, F.kp, fnG_zero _ _ _ _ _, bp, bk⟩
  | succ n ih =>
    refine ⟨fun x i ps h => ?_, gls, hfree⟩
    obtain ⟨f, fd, qual, params, body, scope, N, fn, m, h1, F, S, hp, hps, t1, t2, t3, t4⟩ := (Ds x i ps h).ex
    obtain ⟨bp, bk⟩ := binds_of F hp hps
    exact ⟨f, fd, h1, F.kp, fnG_succ (P := P) (w := w) (mg := mg) (base := base) F S t1 t2 t3 t4 ih, bp, bk⟩
end
end Cor

/-! CorX: from the module behind its top to the law's call. -/
namespace Cor
open PySem L2

/-! ### what the module holds -/
def entB : List DictEntry → List (Int × Int) → Bool
  | [], [] => true
  | e :: es, kv :: kvs => (match e.key with
      | .int i _ => decide (i = kv.1)
      | _ => false) && ((match e.val with
      | .int j _ => decide (j = kv.2)
      | _ => false) && (decide (e.hash = hashInt kv.1) && entB es kvs))
  | _, _ => false
theorem entB_ok {P : Program} {w : World} : ∀ {es : List DictEntry} {kvs : List (Int × Int)}, entB es kvs = true → ∃ vs : List (L2.Key × Value), KV (kvs.map fun kv => ((Sum.inl kv.1 : L2.Key), V.int kv.2)) vs ∧ PySem.Pairs (mixKind P w) es vs ∧
    (∀ e ∈ es, ∃ k, (mixKind P w).is k e.key = true ∧ e.hash = (mixKind P w).hash k) ∧ vs.map (·.1) = kvs.map fun kv => (Sum.inl kv.1 : L2.Key)
  | [], [], _ => ⟨[], .nil, .nil, fun _ m => (by cases m), rfl⟩
  | [], _ :: _, h => nomatch h
  | _ :: _, [], h => nomatch h
  | e :: es, kv :: kvs, h => by
    obtain ⟨h1, h2⟩ := b2 h
    obtain ⟨h2, h3⟩ := b2 h2
    obtain ⟨h3, h4⟩ := b2 h3
    obtain ⟨vs, r1, r2, r3, r4⟩ := entB_ok (P := P) (w := w) h4
    obtain ⟨i, t, ek, rfl⟩ : ∃ i t, e.key = .int i t ∧ i = kv.1 := by
      cases q : e.key with
      | int i t => rw [q] at h1; exact ⟨i, t, rfl, of_decide_eq_true h1⟩
      | _ => rw [q] at h1; cases h1
    obtain ⟨j, u, ev, hj⟩ : ∃ j u, e.val = .int j u ∧ j = kv.2 := by
      cases q : e.val with
      | int i t => rw [q] at h2; exact ⟨i, t, rfl, of_decide_eq_true h2⟩
      | _ => rw [q] at h2; cases h2
    have hk : (mixKind P w).is (.inl kv.1) e.key = true := by rw [ek]; exact mixKind_int P w _ t
    have hh : e.hash = (mixKind P w).hash (.inl kv.1) := of_decide_eq_true h3
    refine ⟨(.inl kv.1, e.val) :: vs, .cons ⟨rfl, ?_⟩ r1, .cons hk rfl r2, fun e' m => ?_, by rw [List.map_cons, List.map_cons, r4]⟩
    · show RelV (V.int kv.2) e.val
      rw [ev, hj]; exact ⟨u, rfl⟩
    · rcases List.mem_cons.mp m with z | m
      · rw [z]; exact ⟨_, hk, hh⟩
      · exact r3 e' m
def gdB (K : PySem.W.Frag) (a : Addr) (kvs : List (Int × Int)) : Bool := match K.lookup a with
  | some ⟨.type c, none, .dict es _, sl⟩ => decide (c = "dict") && (sl.isEmpty && (!(a == sysModules) && (decide ((kvs.map (·.1)).Nodup) && entB es.toList kvs)))
  | _ => false
theorem gdB_ok {K : PySem.W.Frag} {a : Addr} {kvs : List (Int × Int)} (h : gdB K a kvs = true) : GDict K a kvs := by
  unfold gdB at h
  split at h
  · rename_i c es n sl q
    obtain ⟨h1, h2⟩ := b2 h
    obtain ⟨h2, h3⟩ := b2 h2
    obtain ⟨h3, h4⟩ := b2 h3
    obtain ⟨h4, h5⟩ := b2 h4
    refine ⟨by simpa using h3, fun P w hp X => ?_⟩
    obtain ⟨vs, r1, r2, r3, r4⟩ := entB_ok (P := P) (w := w) h5
    have hc : c = "dict" := of_decide_eq_true h1
    have hsl : sl = #[] := by simpa using h2
    refine ⟨vs, r1, _, es, n, X a _ q, ⟨by rw [hc], rfl, hsl⟩, rfl, fun e m => r3 e (by simpa using m), r2, ?_⟩
    rw [r4]
    have nd := of_decide_eq_true h4
    have := List.Pairwise.map (R := fun a b => a ≠ b) (S := fun a b => a ≠ b) (fun i : Int => (Sum.inl i : L2.Key)) (fun a b hab z => hab (Sum.inl.inj z)) nd
    rw [List.map_map] at this
    exact this
  · cases h

/-! ### a look at the module, with more of one's own -/
section
open He
def hookC (n : Nat) (fa : List He.Fa) (fn : List He.DefD) (ex : PySem.W.Frag → Bool) : PySem.W.Hook where
  α := Bool × He.AlD
  obs := fun s => (ex (He.frG s.heap.get? (He.asD s.heap.get? n)), He.obsD fa fn (He.frG s.heap.get? (He.asD s.heap.get? n)))
  val := fun _ => (true, He.valD fn)
  says := fun _ h => ∃ K : PySem.W.Frag, K.In h ∧ (ex K = true ∧ He.SaysD fa fn K)
  of := fun _ _ e => ⟨_, He.frG_in, (Prod.mk.inj e).1, (Prod.mk.inj e).2⟩
  keeps := fun _ _ _ ⟨K, hK, c⟩ k => ⟨K, PySem.W.Frag.In.keeps hK k, c⟩
def obsC (n : Nat) (fa : List He.Fa) (fn : List He.DefD) (ex : PySem.W.Frag → Bool) (s : PySem.W.SharedT) : Bool × He.AlD :=
  (fun K => (ex K, He.obsD fa fn K)) (He.frG (HandSHeadRun.getT s) (He.asD (HandSHeadRun.getT s) n))
theorem obsC_eq (n : Nat) (fa : List He.Fa) (fn : List He.DefD) (ex : PySem.W.Frag → Bool) (s : PySem.W.SharedT) : obsC n fa fn ex s = (hookC n fa fn ex).obs s.abs := by
  have e : HandSHeadRun.getT s = s.abs.heap.get? := funext (HandSHeadRun.getT_eq s)
  unfold obsC
  rw [e]; rfl
end

/-! ### the defs of the text -/
def fidOf : List TDef → Nat → Str → Option (Nat × List Str)
  | [], _, _ => none
  | d :: r, i, x => if x == d.name then some (i, argNames d.args.args) else fidOf r (i + 1) x
theorem fidOf_ok {x : Str} {i : Nat} {ps : List Str} : ∀ {l : List TDef} {j : Nat}, fidOf l j x = some (i, ps) → ∃ k d, i = j + k ∧ l[k]? = some d ∧ d.name = x ∧ ps = argNames d.args.args
  | [], j, h => nomatch h
  | d :: r, j, h => by
    unfold fidOf at h
    split at h
    · rename_i e
      cases h
      exact ⟨0, d, rfl, rfl, (eq_of_beq e).symm, rfl⟩
    · obtain ⟨k, d', h1, h2, h3, h4⟩ := fidOf_ok h
      exact ⟨k + 1, d', by omega, by simpa using h2, h3, h4⟩
def toDef (d : TDef) : He.DefD := ⟨(d.name, none), d.name, d.name, d.args, d.body, d.scope, [], []⟩
/-- the scope of a def is as fn_of asks -/
def scopeB (d : TDef) : Bool := (match d.scope.kind with
    | .function => true
    | _ => false) && (!d.scope.isCoroutine && (!d.scope.isGenerator && (decide ((slotsOf (argNames d.args.args) d.scope d.body).Nodup) && (decide ((slotsOf (argNames d.args.args) d.scope d.body).take (argNames d.args.args).length = argNames d.args.args) &&
    (((argNames d.args.args).all fun x => match d.scope.names.lookup x with
      | some .local => true
      | some .cell => true
      | _ => false) && ((d.scope.names.all fun y => match y.2 with
      | .free => false
      | _ => true) && plainArgs d.args))))))
theorem scopeB_ok {d : TDef} (h : scopeB d = true) : FnScope (slotsOf (argNames d.args.args) d.scope d.body) (argNames d.args.args) d.scope ∧ plainArgs d.args = true := by
  obtain ⟨h1, h⟩ := b2 h
  obtain ⟨h2, h⟩ := b2 h
  obtain ⟨h3, h⟩ := b2 h
  obtain ⟨h4, h⟩ := b2 h
  obtain ⟨h5, h⟩ := b2 h
  obtain ⟨h6, h⟩ := b2 h
  obtain ⟨h7, h8⟩ := b2 h
  refine ⟨⟨?_, by simpa using h2, by simpa using h3, of_decide_eq_true h4, of_decide_eq_true h5, fun x m => ?_, fun y m z => ?_⟩, h8⟩
  · split at h1
    · assumption
    · cases h1
  · have := List.all_eq_true.mp h6 x m
    split at this
    · rename_i e; exact .inl e
    · rename_i e; exact .inr e
    · cases this
  · have := List.all_eq_true.mp h7 y m
    rw [z] at this
    cases this
theorem argNames_len : ∀ l : List Arg, (argNames l).length = l.length
  | [] => rfl
  | a :: l => by simp [argNames, argNames_len l]
theorem defIs {K : PySem.W.Frag} {h : Heap} {mg : Str → Option Value} {ds : List TDef} {F : List CFun} {gl : Str → Option CE} {free : Str → Bool} (X : K.In h) (G : h.Ns mainGlobals mg)
    (hF : ds.map (fun d => compD (fidOf ds 0) gl free d) = F.map some) (hs : ds.all scopeB = true) (hglo : ∀ d ∈ ds, (He.Fa.glo d.name).ok K = true) (hdef : ∀ (i : Nat) (d : TDef), ds[i]? = some d → ∃ fd, FunD K d.name d.name d.args d.body d.scope [] [] (He.ga K d.name) fd) :
    ∀ x i ps, fidOf ds 0 x = some (i, ps) → DefIs K mg (fidOf ds 0) gl free (fun i => F[i]?) x i ps := by
  intro x i ps hx
  obtain ⟨k, d, hi, hd, rfl, rfl⟩ := fidOf_ok hx
  have hi' : i = k := by omega
  subst hi'
  obtain ⟨fd, FD⟩ := hdef i d hd
  obtain ⟨S, hp⟩ := scopeB_ok (List.all_eq_true.mp hs d (List.mem_of_getElem? hd))
  have e : (ds.map (fun d => compD (fidOf ds 0) gl free d))[i]? = (F.map some)[i]? := by rw [hF]
  rw [List.getElem?_map, List.getElem?_map, hd] at e
  cases e2 : F[i]? with
  | none => rw [e2] at e; cases e
  | some fn =>
    rw [e2] at e
    have e3 : compD (fidOf ds 0) gl free d = some fn := by simpa using e
    unfold compD at e3
    cases e4 : compSs ⟨slotsOf (argNames d.args.args) d.scope d.body, fidOf ds 0, gl, free⟩ 400 d.scope d.body with
    | none => rw [e4] at e3; cases e3
    | some b =>
      rw [e4] at e3
      cases e3
      exact ⟨_, fd, d.name, d.args, d.body, d.scope, _, _, 400, He.glo_ok X G (hglo d (List.mem_of_getElem? hd)), FD, S, hp, rfl, e2, e4, (argNames_len _).symm, rfl⟩

/-! ### the law's call -/
section
variable {P : Program} {w : World} {K : PySem.W.Frag} {mg mb : Str → Option Value} {k i : Nat} {fa a : Addr} {fd : FuncData} {x : Str} {s : Shared} {vs : List Value} {ns : List Int} {cf : CallF}
/-- the heap that a call from the top sees: the script alone may be told -/
def onlyAt (a : Addr) (u : Option HO) : Hp := fun b => if b = a then u else none
theorem onlyAt_same {a : Addr} {u : Option HO} : onlyAt a u a = u := if_pos rfl
theorem onlyAt_ne {a b : Addr} {u : Option HO} (h : b ≠ a) : onlyAt a u b = none := if_neg h
theorem onlyAt_some {a b : Addr} {u : Option HO} {o : HO} (h : onlyAt a u b = some o) : b = a ∧ u = some o := by
  by_cases q : b = a
  · rw [q, onlyAt_same] at h; exact ⟨q, h⟩
  · rw [onlyAt_ne q] at h; cases h
abbrev Fine (s s' : Shared) (r : Result) : Prop := r = .ok (.ret (.bool true)) ∧ OldK s.heap s'.heap ∧ s'.os = s.os ∧ PyProof.Rows.AllBare s'.gens
theorem law_core (KX : K.In s.heap) (hns : s.heap.Ns mainGlobals mg) (hb : s.heap.Ns builtinsNs mb) (hbb : ∀ y : Str, y ≠ "__name__" → mb y = bootBuiltins y) (hlim : s.heap.NoLimit) (hg : s.gens = #[]) (ha : s.heap.get? a = some { cls := .type "list", data := .seq vs.toArray })
    (hr : Room k callerA) (F : ∀ base : Heap, K.In base → base.Ns mainGlobals mg → FnG P w K mg base k fa fd [x] (spC K cf i)) (hbind : ∀ (s : Shared) (us : List Value), us.length = [x].length → BindsTo s fd ⟨us, []⟩ ([x].zip us)) (hev : cf i [.scr ns] none = some (.bl true, none))
    (u : Option HO) (hu : u = none ∨ ∃ o xs, u = some (.frz o (.lst xs))) (hS : SqF K (onlyAt a u) a (ns.map V.int)) (hok : HOk P w (onlyAt a u) s.heap) (hK : u ≠ none → K.lookup a = none) :
    codeAny (model P w) callerA (.call (.ref fa) ⟨[.ref a], []⟩) (fun r s' => Fine s s' r) s := by
  have low : ∀ {b : Addr} {o : Obj}, s.heap.get? b = some o → onlyAt a u b = none → (hidT s.heap (onlyAt a u)).get? b = some o := fun e n => hidT_get e n
  have noDict : ∀ {b : Addr} {o : Obj} {es : Array DictEntry} {m : Nat}, s.heap.get? b = some o → o.data = .dict es m → onlyAt a u b = none := fun {b o es m} e d => by
    by_cases q : b = a
    · rw [q, ha] at e
      cases e
      have d' : Data.seq vs.toArray _ = Data.dict es m := d
      cases d'
    · exact onlyAt_ne q
  have nsT : ∀ {b : Addr} {m : Str → Option Value}, s.heap.Ns b m → (hidT s.heap (onlyAt a u)).Ns b m := fun {b m} ⟨o, es, z, e, d, r⟩ => ⟨o, es, z, low e (noDict e d), d, r⟩
  have kT : K.In (hidT s.heap (onlyAt a u)) := fun b o e => low (KX b o e) (by
    by_cases q : b = a
    · cases hu' : u with
      | none => rw [q, onlyAt_same]
      | some z =>
        have := hK (by rw [hu']; exact fun y => nomatch y)
        rw [q, this] at e; cases e
    · exact onlyAt_ne q)
  have md : Mod K mg (hidT s.heap (onlyAt a u)) := ⟨kT, nsT hns, ⟨mb, nsT hb, hbb⟩, hlim.elim fun m z => ⟨m, nsT z.1, z.2⟩⟩
  have e0 : Env0 P w K mg (hidT s.heap (onlyAt a u)) callerA [] s (onlyAt a u) :=
    { frames := rfl, mod := md, bs := fun b o e => of_hidT e, bsz := Nat.le_of_eq (hidT_size _ _), funs := trivial, frf := fun b m => (by cases m), hok := hok, bare := PyProof.Rows.AllBare.of_eq hg }
  have sp : spC K cf i [.ref a] (onlyAt a u) (fun v _ => v = .bl true) :=
    ⟨fun _ => False, [.scr ns], none, none, _, _, ⟨.ref a, [], rfl, ⟨a, rfl, hS⟩, rfl⟩, trivial, hev, fun H' v cls _ _ _ q => q⟩
  refine codeAny_mono ((F _ kT (nsT hns)).run callerA [] s (onlyAt a u) ⟨[.ref a], []⟩ [.ref a] [.ref a] _ hr rfl e0 (hbind s [.ref a] rfl) (.cons rfl .nil) rfl sp) fun r s' h => ?_
  cases r with
  | error e => exact h.elim
  | ok fl =>
    cases fl with
    | ret z =>
      obtain ⟨v, H', os, bare, un, ok2, rv, q⟩ := h
      cases (show v = .bl true from q)
      cases (show z = Value.bool true from rv)
      refine ⟨rfl, OldK.of_keep fun b o e => ?_, os, bare⟩
      cases q : onlyAt a u b with
      | none => exact un.keep b o e q (fun m => (by cases m)) (fun m => (by cases m))
      | some y =>
        obtain ⟨_, hy⟩ := onlyAt_some q
        rcases hu with z | ⟨ob, xs, z⟩
        · rw [hy] at z; cases z
        · rw [hy] at z
          cases z
          obtain ⟨g1, _⟩ := hok b _ q
          obtain ⟨g2, _⟩ := ok2 b _ (un.frzs b ob _ q)
          rw [e] at g1; cases g1
          exact g2
    | next => exact h.elim
    | brk => exact h.elim
    | cont => exact h.elim
theorem law_all (KX : K.In s.heap) (hns : s.heap.Ns mainGlobals mg) (hb : s.heap.Ns builtinsNs mb) (hbb : ∀ y : Str, y ≠ "__name__" → mb y = bootBuiltins y) (hlim : s.heap.NoLimit) (hg : s.gens = #[]) (ha : s.heap.get? a = some { cls := .type "list", data := .seq vs.toArray })
    (hi : PyProof.Rows.IntsAre vs ns) (hl : ns.length ≤ sizeLine) (hr : Room k callerA) (F : ∀ base : Heap, K.In base → base.Ns mainGlobals mg → FnG P w K mg base k fa fd [x] (spC K cf i)) (hbind : ∀ (s : Shared) (us : List Value), us.length = [x].length → BindsTo s fd ⟨us, []⟩ ([x].zip us))
    (hev : cf i [.scr ns] none = some (.bl true, none)) : codeAny (model P w) callerA (.call (.ref fa) ⟨[.ref a], []⟩) (fun r s' => Fine s s' r) s := by
  have rv := vals_ints hi
  have hlen := hi.length
  cases hk : K.lookup a with
  | some o =>
    have e := KX a o hk
    rw [ha] at e
    cases e
    refine law_core KX hns hb hbb hlim hg ha hr F hbind hev none (.inl rfl) (.inr ⟨_, vs.toArray, _, hk, rfl, rfl, rfl, ?_, by simpa using rv⟩) (fun b o e => ?_) fun z => absurd rfl z
    · rw [List.size_toArray, hlen]; exact hl
    · have := (onlyAt_some e).2
      cases this
  | none =>
    refine law_core KX hns hb hbb hlim hg ha hr F hbind hev (some (.frz { cls := .type "list", data := .seq vs.toArray } (.lst (ns.map V.int)))) (.inr ⟨_, _, rfl⟩) (.inl ⟨_, onlyAt_same⟩) (fun b o e => ?_) fun _ => hk
    obtain ⟨rfl, z⟩ := onlyAt_some e
    cases z
    exact ⟨ha, by rw [List.length_map]; exact hl, vs, _, rv, ha⟩
end
theorem walk_cor {l : PySem.W.OpenLaw} {n k i : Nat} {q : Program} {loose : List Str} {XP : (Str → Option Value) → Heap → Prop} {YP : World → Heap → Prop} {d : DefRec} {cf : CallF} {x : Str}
    (hn : l.most = some n) (hn2 : n ≤ sizeLine) (hdf : d.params.defaults = []) (hr : Room k callerA) (hev : ∀ ns : List Int, cf i [.scr ns] none = some (.bl true, none))
    (F : ∀ (w : World) (mg : Str → Option Value) (fa : Addr) (h : Heap), YP w h → h.Ns mainGlobals mg → mg d.name = some (.ref fa) → ∃ (K : PySem.W.Frag) (fd : FuncData), K.In h ∧ (∀ (s : Shared) (us : List Value), us.length = [x].length → BindsTo s fd ⟨us, []⟩ ([x].zip us)) ∧
      ∀ base : Heap, K.In base → base.Ns mainGlobals mg → FnG l.prog w K mg base k fa fd [x] (spC K cf i)) :
    PySem.W.WalkO q loose XP YP l.row.toRowW d [] (fun f vs => PySem.call f vs) := by
  refine Att.attach_call hn hdf fun w s₀ s₁ mg mb fa o pm cd doc a vs ns G Y ho hd hcd hmg hobj hints hlen hg => ?_
  obtain ⟨K, fd, KX, hb, hF⟩ := F w mg fa _ Y G.T.g hmg
  exact law_all KX G.T.g G.T.b G.T.builtins G.T.nolimit hg hobj hints (Nat.le_trans hlen hn2) hr hF hb (hev ns)
end Cor

/-! The prelude that every law's text brings: what it draws. -/
namespace Cor
open PySem L2

def fHash : CFun := ⟨2, 3,
  [.asg (.v 2) (.bin .mod (.bi .int [.bin .add (.bin .add (.bin .add (.bin .mul (.var 0) (.int 1140671)) (.bin .mul (.bin .mul (.int 27644437) (.var 1)) (.var 1))) (.bin .mul (.int 131) (.var 1))) (.int 19)]) (.int 2147483629)),
    .asg (.v 2) (.bin .mod (.bi .int [.bin .add (.bin .add (.bin .mul (.var 2) (.var 2)) (.bin .mul (.int 62089) (.var 1))) (.int 32416187)]) (.int 2147483587)),
    .ret (.bin .mod (.bi .int [.bin .mul (.var 2) (.int 48271)]) (.int 2147483647))]⟩
def fRandom (h : Nat) : CFun := ⟨2, 4,
  [.if (.cmp .gt (.idx (.var 0) (.int 0)) (.int 0))
      [.asg (.v 2) (.bin .mod (.bi .int [.idx (.var 0) (.int 0)]) (.var 1)), .set 0 (.int 0) (.bin .fdiv (.idx (.var 0) (.int 0)) (.var 1)), .ret (.var 2)] [],
    .asg (.v 2) (.int 0),
    .for (.v 3) (.rng1 (.bin .add (.int 1) (.bin .fdiv (.bi .bits [.var 1]) (.int 30))))
      [.set 0 (.int 2) (.bin .add (.idx (.var 0) (.int 2)) (.int 1)),
        .asg (.v 2) (.bin .add (.bin .mul (.var 2) (.int 2147483587)) (.call h [] [.idx (.var 0) (.int 1), .idx (.var 0) (.int 2)]))],
    .ret (.bin .mod (.bi .int [.var 2]) (.var 1))]⟩
theorem small_mod (x m : Int) (h : 0 < m) (h2 : m < 2 ^ 64) : isSmall (x % m) = true := by
  unfold isSmall
  have h1 := Int.emod_nonneg x (Int.ne_of_gt h)
  have h3 := Int.emod_lt_of_pos x h
  rw [Bool.and_eq_true]
  constructor <;> apply decide_eq_true <;> omega
theorem mul_r {i j : Int} {S : Stt} (h : isSmall j = true) : opBin .mul (.int i) (.int j) S = some (.int (i * j), S) := by
  simp [opBin, h]
theorem mul_l {i j : Int} {S : Stt} (h : isSmall i = true) : opBin .mul (.int i) (.int j) S = some (.int (i * j), S) := by
  simp [opBin, h]
theorem mod_c {i j : Int} {S : Stt} (h : 0 < j) : opBin .mod (.int i) (.int j) S = some (.int (i % j), S) := by
  simp [opBin, h]
theorem a30 : (decide (0 < (30 : Int)) && decide (Nat.log2 (30 : Int).natAbs < 9000)) = true := by decide +kernel
theorem fdiv30 (x : Int) (S : Stt) : opBin .fdiv (.int x) (.int 30) S = some (.int (x / 30), S) := by
  show (if (decide (0 < (30 : Int)) && decide (Nat.log2 (30 : Int).natAbs < 9000)) = true then some (D.int (x / 30), S) else none) = _
  rw [if_pos a30]
theorem mul0 (S : Stt) : opBin .mul (.int 0) (.int 2147483587) S = some (.int 0, S) := by
  have := mul_r (i := 0) (j := 2147483587) (S := S) (by decide)
  rw [Int.zero_mul] at this
  exact this
theorem run_hash (cf : CallF) (b i : Int) (hi : isSmall i = true) : ∃ v, run cf fHash [.int b, .int i] none = some (.int v, none) := by
  have m1 : ∀ S, opBin .mul (.int b) (.int 1140671) S = some (.int (b * 1140671), S) := fun S => mul_r (by decide)
  have m2 : ∀ S, opBin .mul (.int 27644437) (.int i) S = some (.int (27644437 * i), S) := fun S => mul_r hi
  have m3 : ∀ x S, opBin .mul (.int x) (.int i) S = some (.int (x * i), S) := fun x S => mul_r hi
  have m5 : ∀ x S, opBin .mod (.int x) (.int 2147483629) S = some (.int (x % 2147483629), S) := fun x S => mod_c (by decide)
  have m6 : ∀ x S, opBin .mod (.int x) (.int 2147483587) S = some (.int (x % 2147483587), S) := fun x S => mod_c (by decide)
  have m7 : ∀ x S, opBin .mod (.int x) (.int 2147483647) S = some (.int (x % 2147483647), S) := fun x S => mod_c (by decide)
  have m8 : ∀ x S, opBin .mul (.int (x % 2147483629)) (.int (x % 2147483629)) S = some (.int (x % 2147483629 * (x % 2147483629)), S) := fun x S => mul_r (small_mod _ _ (by decide) (by decide))
  have m9 : ∀ x S, opBin .mul (.int x) (.int 48271) S = some (.int (x * 48271), S) := fun x S => mul_r (by decide)
  have ma : ∀ x y S, opBin .add (.int x) (.int y) S = some (.int (x + y), S) := fun _ _ _ => rfl
  simp [run, fHash, evSs, evN, step, stepS, stepE, evEs, m1, m2, m3, m5, m6, m7, m8, m9, ma, opBi, asgT, asgV, slot, told, retag, keepG, noGen]
theorem for_ok {r : Ev} {tg : Tg} {it : CI} {body : List CS} {S S1 S2 T U : Stt} {xs : List D} {ls : List Nat} {f : Fl} (h : evI r it S = some (xs, ls, S1)) (hT : T = { S1 with lk := ls ++ S1.lk }) (h2 : forL r tg body xs T = some (f, S2)) (hU : U = { S2 with lk := S1.lk }) :
    stepS r (.for tg it body) S = some (f, U) := by
  subst hT hU
  simp only [stepS, h, h2]
theorem ev_s (cf : CallF) (n : Nat) (x : CS) (S : Stt) : (evN cf (n + 1)).s x S = stepS (evN cf n) x S := rfl
theorem ss_nx {r : Ev} {x : CS} {xs : List CS} {S S1 : Stt} (h : r.s x S = some (.nx, S1)) : evSs r (x :: xs) S = evSs r xs S1 := by
  simp only [evSs, h]
theorem ss_rt {r : Ev} {x : CS} {xs : List CS} {S S1 : Stt} {d : D} (h : r.s x S = some (.rt d, S1)) : evSs r (x :: xs) S = some (.rt d, S1) := by
  simp only [evSs, h]
theorem run_rt {cf : CallF} {fn : CFun} {ds : List D} {g : Option (List Int)} {d : D} {S : Stt} (hl : Nat.beq ds.length fn.np = true) (h : evSs (evN cf 48) fn.body ⟨ds.map some ++ List.replicate (fn.n - fn.np) none, 1, [], [], g, !g.isSome⟩ = some (.rt d, S)) :
    run cf fn ds g = some (told S.fz d, keepG g S.g) := by
  simp only [run, hl, h, if_true]
theorem rng_ok {cf : CallF} {k : Int} (hb : (Builtin.Int.intBits k : Int) / 30 = 0) {n : Nat} {S : Stt} (h1 : slot 1 S = some (.int k)) :
    evI (evN cf (n + 8)) (.rng1 (.bin .add (.int 1) (.bin .fdiv (.bi .bits [.var 1]) (.int 30)))) S = some ([.int 0], [], S) := by
  have m3 : ∀ x S, opBin .fdiv (.int x) (.int 30) S = some (.int (x / 30), S) := fdiv30
  have ma : ∀ x y S, opBin .add (.int x) (.int y) S = some (.int (x + y), S) := fun _ _ _ => rfl
  have o1 : okRng 1 = true := by decide
  simp [evI, evN, step, stepE, evEs, h1, opBi, m3, ma, hb, o1, rangeL]
theorem run_random (cf : CallF) (h : Nat) (hcf : ∀ b i, isSmall i = true → ∃ v, cf h [.int b, .int i] none = some (.int v, none)) (a b c k : Int) (hk : 0 < k) (hk2 : Nat.log2 k.natAbs < 9000) (hb : (Builtin.Int.intBits k : Int) / 30 = 0) (hc : isSmall (c + 1) = true) :
    ∃ v a' c', 0 ≤ v ∧ v < k ∧ (c' = c ∨ c' = c + 1) ∧ run cf (fRandom h) [.gen, .int k] (some [a, b, c]) = some (.int v, some [a', b, c']) := by
  have p0 : place 3 0 = some 0 := by decide
  have p1 : place 3 1 = some 1 := by decide
  have p2 : place 3 2 = some 2 := by decide
  have m1 : ∀ x S, opBin .mod (.int x) (.int k) S = some (.int (x % k), S) := fun x S => mod_c hk
  have m2 : ∀ x S, opBin .fdiv (.int x) (.int k) S = some (.int (x / k), S) := fun x S => by simp [opBin, hk, hk2]
  have m4 : ∀ S, opBin .mul (.int 0) (.int 2147483587) S = some (.int 0, S) := mul0
  have ma : ∀ x y S, opBin .add (.int x) (.int y) S = some (.int (x + y), S) := fun _ _ _ => rfl
  obtain ⟨v, hv⟩ := hcf b (c + 1) hc
  by_cases ha : 0 < a
  · refine ⟨a % k, a / k, c, Int.emod_nonneg _ (Int.ne_of_gt hk), Int.emod_lt_of_pos _ hk, .inl rfl, ?_⟩
    simp [run, fRandom, evSs, evN, step, stepS, stepE, evEs, m1, m2, opCmp, opIdx, opBi, asgT, asgV, slot, told, retag, keepG, noGen, p0, ha, truth]
  · refine ⟨v % k, a, c + 1, Int.emod_nonneg _ (Int.ne_of_gt hk), Int.emod_lt_of_pos _ hk, .inr rfl, ?_⟩
    have s1 : (evN cf 48).s (.if (.cmp .gt (.idx (.var 0) (.int 0)) (.int 0)) [.asg (.v 2) (.bin .mod (.bi .int [.idx (.var 0) (.int 0)]) (.var 1)), .set 0 (.int 0) (.bin .fdiv (.idx (.var 0) (.int 0)) (.var 1)), .ret (.var 2)] []) ⟨[some .gen, some (.int k), none, none], 1, [], [], some [a, b, c], false⟩ =
        some (.nx, ⟨[some .gen, some (.int k), none, none], 1, [], [], some [a, b, c], false⟩) := by
      simp [evSs, evN, step, stepS, stepE, opCmp, opIdx, slot, p0, ha, truth]
    have s2 : (evN cf 48).s (.asg (.v 2) (.int 0)) ⟨[some .gen, some (.int k), none, none], 1, [], [], some [a, b, c], false⟩ = some (.nx, ⟨[some .gen, some (.int k), some (.int 0), none], 1, [], [], some [a, b, c], false⟩) := by
      simp [evN, step, stepS, stepE, asgT, asgV, noGen]
    have s3 : forL (evN cf 47) (.v 3) [.set 0 (.int 2) (.bin .add (.idx (.var 0) (.int 2)) (.int 1)), .asg (.v 2) (.bin .add (.bin .mul (.var 2) (.int 2147483587)) (.call h [] [.idx (.var 0) (.int 1), .idx (.var 0) (.int 2)]))] [.int 0]
        ⟨[some .gen, some (.int k), some (.int 0), none], 1, [], [], some [a, b, c], false⟩ = some (.nx, ⟨[some .gen, some (.int k), some (.int v), some (.int 0)], 2, [], [], some [a, b, c + 1], false⟩) := by
      simp [forL, evSs, evN, step, stepS, stepE, evEs, m4, ma, hv, opIdx, asgT, asgV, slot, retag, retagL, isGenL, permute, back, tags, noGen, p1, p2]
    have s4 : (evN cf 48).s (.ret (.bin .mod (.bi .int [.var 2]) (.var 1))) ⟨[some .gen, some (.int k), some (.int v), some (.int 0)], 2, [], [], some [a, b, c + 1], false⟩ = some (.rt (.int (v % k)), ⟨[some .gen, some (.int k), some (.int v), some (.int 0)], 2, [], [], some [a, b, c + 1], false⟩) := by
      simp [evN, step, stepS, stepE, evEs, m1, opBi, slot, noGen]
    refine run_rt (d := .int (v % k)) (S := ⟨[some .gen, some (.int k), some (.int v), some (.int 0)], 2, [], [], some [a, b, c + 1], false⟩) rfl ?_
    have s5 := for_ok (tg := .v 3) (rng_ok (cf := cf) (n := 39) hb (S := ⟨[some .gen, some (.int k), some (.int 0), none], 1, [], [], some [a, b, c], false⟩) rfl) rfl s3 rfl
    have s6 : (evN cf 48).s _ _ = _ := (ev_s cf 47 _ _).trans s5
    exact (ss_nx s1).trans ((ss_nx s2).trans ((ss_nx s6).trans (ss_rt s4)))
def fCell : CFun := ⟨2, 2,
  [.if (.cmp .lt (.var 1) (.bi .len [.var 0])) [.ret (.idx (.var 0) (.var 1))] [],
    .ret (.bin .mod (.bi .sum [.sl (.var 0) none (some (.int 1))]) (.int 1000003))]⟩
def fGen (h : Nat) : CFun := ⟨2, 3,
  [.asg (.v 2) (.call h [] [.var 0, .var 1]),
    .ret (.lst [.bin .mod (.bi .int [.bi .max2 [.bin .sub (.var 2) (.bin .pow (.int 10) (.int 18)), .int 0]]) (.bin .pow (.bin .pow (.int 10) (.int 60)) (.int 10)), .bin .mod (.bi .int [.var 2]) (.int 2147483647), .bin .mul (.int 1000) (.var 1)])]⟩
def fPrime (h : Nat) : CFun := ⟨1, 1, [.ret (.idx (.lst [.int 3, .int 5, .int 7]) (.call h [] [.var 0, .int 3]))]⟩
theorem run_cell (cf : CallF) (l : List Int) (i : Int) (hi : 0 ≤ i) : ∃ s, run cf fCell [.scr l, .int i] none = some (.int s, none) := by
  have m1 : ∀ x S, opBin .mod (.int x) (.int 1000003) S = some (.int (x % 1000003), S) := fun x S => mod_c (by decide)
  by_cases h : i < l.length
  · have hp : place l.length i = some i.toNat := by unfold place; rw [if_pos hi, if_pos h]
    have hg : l[i.toNat]? = some (l[i.toNat]'(by omega)) := List.getElem?_eq_getElem _
    simp [run, fCell, evSs, evN, step, stepS, stepE, evEs, opCmp, opIdx, opBi, slot, told, retag, keepG, noGen, truth, h, hp, hg]
  · simp [run, fCell, evSs, evN, step, stepS, stepE, evEs, evO, opCmp, opIdx, opBi, opSl, new, slot, told, retag, keepG, noGen, truth, h, m1]
theorem pow_r {i j : Int} {S : Stt} (h : (decide (0 ≤ j) && decide (j ≤ 1000) && decide (Nat.log2 i.natAbs < 1000)) = true) : opBin .pow (.int i) (.int j) S = some (.int (i ^ j.toNat), S) := by
  show (if (decide (0 ≤ j) && decide (j ≤ 1000) && decide (Nat.log2 i.natAbs < 1000)) = true then some (D.int (i ^ j.toNat), S) else none) = _
  rw [if_pos h]
theorem pow_two : ∃ O P Q : Int, 0 < Q ∧ (∀ S, opBin .pow (.int 10) (.int 18) S = some (.int O, S)) ∧ (∀ S, opBin .pow (.int 10) (.int 60) S = some (.int P, S)) ∧ ∀ S, opBin .pow (.int P) (.int 10) S = some (.int Q, S) := by
  have c0 : (decide (0 ≤ (18 : Int)) && decide ((18 : Int) ≤ 1000) && decide (Nat.log2 (10 : Int).natAbs < 1000)) = true := by decide +kernel
  have c1 : (decide (0 ≤ (60 : Int)) && decide ((60 : Int) ≤ 1000) && decide (Nat.log2 (10 : Int).natAbs < 1000)) = true := by decide +kernel
  have c2 : (decide (0 ≤ (10 : Int)) && decide ((10 : Int) ≤ 1000) && decide (Nat.log2 ((10 : Int) ^ (60 : Int).toNat).natAbs < 1000)) = true := by decide +kernel
  refine ⟨(10 : Int) ^ (18 : Int).toNat, (10 : Int) ^ (60 : Int).toNat, ((10 : Int) ^ (60 : Int).toNat) ^ (10 : Int).toNat, Int.pow_pos (Int.pow_pos (by decide)), fun S => ?_, fun S => ?_, fun S => ?_⟩
  · exact pow_r c0
  · exact pow_r c1
  · exact pow_r c2
theorem run_gen (cf : CallF) (h : Nat) (l : List Int) (i : Int) (hi : isSmall i = true) (hcf : ∃ s, cf h [.scr l, .int i] none = some (.int s, none)) : ∃ a b, run cf (fGen h) [.scr l, .int i] none = some (.ints 1 [a, b, 1000 * i], none) := by
  obtain ⟨s, hs⟩ := hcf
  obtain ⟨O, P, Q, hQ, h0, h1, h2⟩ := pow_two
  have m1 : ∀ x S, opBin .mod (.int x) (.int 2147483647) S = some (.int (x % 2147483647), S) := fun x S => mod_c (by decide)
  have m2 : ∀ x S, opBin .mod (.int x) (.int Q) S = some (.int (x % Q), S) := fun x S => mod_c hQ
  have m3 : ∀ S, opBin .mul (.int 1000) (.int i) S = some (.int (1000 * i), S) := fun S => mul_r hi
  have ms : ∀ x y S, opBin .sub (.int x) (.int y) S = some (.int (x - y), S) := fun _ _ _ => rfl
  have f3 : fits 3 = true := by decide
  simp [run, fGen, evSs, evN, step, stepS, stepE, evEs, hs, h0, h1, h2, m1, m2, m3, ms, opBi, new, asgT, asgV, slot, told, retag, retagL, isGenL, permute, back, tags, keepG, noGen, f3, mkL, intsOf]
theorem run_prime (cf : CallF) (h : Nat) (g g' : List Int) (r : Int) (h0 : 0 ≤ r) (h3 : r < 3) (hcf : cf h [.gen, .int 3] (some g) = some (.int r, some g')) : ∃ p, (p = 3 ∨ p = 5 ∨ p = 7) ∧ run cf (fPrime h) [.gen] (some g) = some (.int p, some g') := by
  have f3 : fits 3 = true := by decide
  have hr : r = 0 ∨ r = 1 ∨ r = 2 := by omega
  have p0 : place 3 0 = some 0 := by decide
  have p1 : place 3 1 = some 1 := by decide
  have p2 : place 3 2 = some 2 := by decide
  rcases hr with rfl | rfl | rfl
  · refine ⟨3, .inl rfl, ?_⟩
    simp [run, fPrime, evSs, evN, step, stepS, stepE, evEs, hcf, opIdx, new, slot, told, retag, retagL, isGenL, permute, back, tags, keepG, noGen, f3, mkL, intsOf, p0]
  · refine ⟨5, .inr (.inl rfl), ?_⟩
    simp [run, fPrime, evSs, evN, step, stepS, stepE, evEs, hcf, opIdx, new, slot, told, retag, retagL, isGenL, permute, back, tags, keepG, noGen, f3, mkL, intsOf, p1]
  · refine ⟨7, .inr (.inr rfl), ?_⟩
    simp [run, fPrime, evSs, evN, step, stepS, stepE, evEs, hcf, opIdx, new, slot, told, retag, retagL, isGenL, permute, back, tags, keepG, noGen, f3, mkL, intsOf, p2]
end Cor

/-! Polynomials as lists of numbers: what the defs do, in plain functions. -/
namespace Cor
open PySem L2

/-- without the noughts at the end -/
def dropZ : List Int → List Int
  | [] => []
  | x :: xs => match dropZ xs with
    | [] => if x == 0 then [] else [x]
    | y :: ys => x :: y :: ys
def trimP (p : Int) (l : List Int) : List Int := dropZ (l.map (· % p))
theorem dropZ_zero : ∀ l : List Int, dropZ (l ++ [0]) = dropZ l
  | [] => rfl
  | x :: l => by
    show (match dropZ (l ++ [0]) with
      | [] => if x == 0 then [] else [x]
      | y :: ys => x :: y :: ys) = _
    rw [dropZ_zero l]; rfl
theorem dropZ_last : ∀ (l : List Int) (z : Int), z ≠ 0 → dropZ (l ++ [z]) = l ++ [z]
  | [], z, h => by
    show (if z == 0 then [] else [z]) = [z]
    rw [if_neg (by simpa using h)]
  | x :: l, z, h => by
    show (match dropZ (l ++ [z]) with
      | [] => if x == 0 then [] else [x]
      | y :: ys => x :: y :: ys) = _
    rw [dropZ_last l z h]
    cases l <;> rfl
theorem place_nat {n k : Nat} (h : k < n) : place n (k : Int) = some k := by
  unfold place
  rw [if_pos (Int.natCast_nonneg _), if_pos (by exact_mod_cast h), Int.toNat_natCast]
theorem place_last {n : Nat} (h : 0 < n) : place n (-1) = some (n - 1) := by
  unfold place
  rw [if_neg (by decide), if_pos (by omega)]
  congr 1; omega

/-! ### general steps -/
theorem wh_stop {r : Ev} {c : CE} {b : List CS} {m : Nat} {S S1 : Stt} {d : D} (h : r.e c S = some (d, S1)) (ht : truth d = some false) : whL r c b (m + 1) S = some (.nx, S1) := by
  simp only [whL, h, ht]
theorem wh_go {r : Ev} {c : CE} {b : List CS} {m : Nat} {S S1 S2 : Stt} {d : D} (h : r.e c S = some (d, S1)) (ht : truth d = some true) (hb : evSs r b S1 = some (.nx, S2)) : whL r c b (m + 1) S = whL r c b m S2 := by
  simp only [whL, h, ht, hb]
/-- a comprehension that changes nothing -/
theorem compL_map {r : Ev} {elt : CE} {tg : Tg} {e0 : List (Option D)} {f : D → D} : ∀ {xs acc : List D} {S : Stt}, (∀ x ∈ xs, ∀ S : Stt, ∃ e', asgT tg x { S with env := e0 } = some { S with env := e' } ∧ r.e elt { S with env := e' } = some (f x, { S with env := e' })) →
    acc.length + xs.length ≤ 16777216 → ∃ e', compL r elt tg none e0 xs acc S = some (acc ++ xs.map f, { S with env := e' })
  | [], acc, S, _, _ => ⟨S.env, by simp [compL]⟩
  | x :: xs, acc, S, h, hl => by
    obtain ⟨e1, h1, h2⟩ := h x (by simp) S
    have hf : fits (acc.length + 1) = true := by
      unfold fits
      simp only [List.length_cons] at hl
      exact Nat.ble_eq_true_of_le (by omega)
    obtain ⟨e2, h3⟩ := compL_map (acc := acc ++ [f x]) (S := { S with env := e1 }) (xs := xs) (fun y m => h y (List.mem_cons_of_mem _ m)) (by simp at hl ⊢; omega)
    refine ⟨e2, ?_⟩
    unfold compL
    rw [h1]
    simp only [testO, h2, hf, if_true]
    rw [h3]
    simp
/-- the loop that drops noughts from the list in slot i -/
def condZ (i : Nat) : CE := .and (.cmp .ne (.var i) (.lst [])) (.cmp .eq (.idx (.var i) (.neg (.int 1))) (.int 0))
theorem condZ_nil (cf : CallF) (n i t : Nat) (S : Stt) (h : slot i S = some (.ints t [])) : (evN cf (n + 5)).e (condZ i) S = some (.bl false, { S with c := S.c + 1 }) := by
  have f0 : fits 0 = true := by decide
  have hc : ∀ t', opCmp .ne (.ints t []) (.ints t' []) = some false := fun _ => rfl
  simp [condZ, evN, step, stepE, evEs, h, new, mkL, intsOf, f0, hc, truth]
theorem condZ_snoc (cf : CallF) (n i t : Nat) (S : Stt) (l : List Int) (z : Int) (h : slot i S = some (.ints t (l ++ [z]))) : (evN cf (n + 5)).e (condZ i) S = some (.bl (z == 0), { S with c := S.c + 1 }) := by
  have f0 : fits 0 = true := by decide
  have hc : ∀ t', opCmp .ne (.ints t (l ++ [z])) (.ints t' []) = some true := fun _ => by
    show some (!((l ++ [z]) == [])) = _
    cases l <;> rfl
  have hs : slot i { S with c := S.c + 1 } = some (.ints t (l ++ [z])) := h
  have hp : place (l ++ [z]).length (-1) = some l.length := by
    rw [place_last (by simp)]; simp
  have hg : (l ++ [z])[l.length]? = some z := by simp
  have he : opCmp .eq (.int z) (.int 0) = some (z == 0) := rfl
  have hi : ∀ S', opIdx S' (.ints t (l ++ [z])) (.int (-1)) = some (.int z) := fun S' => by
    show (place (l ++ [z]).length (-1)).bind (fun j => ((l ++ [z])[j]?).map D.int) = _
    rw [hp]
    show ((l ++ [z])[l.length]?).map D.int = _
    rw [hg]; rfl
  simp [condZ, evN, step, stepE, evEs, h, hs, new, mkL, intsOf, f0, hc, truth, hi, he]
mutual
theorem wipeT_id (t : Nat) : ∀ d : D, t ∉ tags d → wipeT t d = d
  | .ints u l, h => by
    unfold wipeT
    rw [if_neg]
    intro e
    exact h (by rw [Nat.eq_of_beq_eq_true e]; simp [tags])
  | .lst u xs, h => by
    unfold wipeT
    rw [if_neg, wipeTL_id t xs (fun m => h (by simp [tags, m]))]
    intro e
    exact h (by rw [Nat.eq_of_beq_eq_true e]; simp [tags])
  | .tup xs, h => by
    unfold wipeT
    rw [wipeTL_id t xs (fun m => h (by simpa [tags] using m))]
  | .dct u kvs, h => by
    unfold wipeT
    rw [if_neg, wipeTK_id t kvs (fun m => h (by simp [tags, m]))]
    intro e
    exact h (by rw [Nat.eq_of_beq_eq_true e]; simp [tags])
  | .non, _ | .bl _, _ | .int _, _ | .str _, _ | .rep _, _ | .gd _, _ | .scr _, _ | .gen, _ | .bot, _ => by unfold wipeT; rfl
theorem wipeTL_id (t : Nat) : ∀ l : List D, t ∉ tagsL l → wipeTL t l = l
  | [], _ => by unfold wipeTL; rfl
  | x :: xs, h => by
    unfold wipeTL
    rw [wipeT_id t x (fun m => h (by simp [tagsL, m])), wipeTL_id t xs (fun m => h (by simp [tagsL, m]))]
theorem wipeTK_id (t : Nat) : ∀ l : List (DKey × D), t ∉ tagsK l → wipeTK t l = l
  | [], _ => by unfold wipeTK; rfl
  | (k, x) :: xs, h => by
    unfold wipeTK
    rw [wipeT_id t x (fun m => h (by simp [tagsK, m])), wipeTK_id t xs (fun m => h (by simp [tagsK, m]))]
end
/-- what a change at tag t leaves -/
structure Keeps (t i : Nat) (e e' : List (Option D)) : Prop where
  len : e'.length = e.length
  other : ∀ j d, j ≠ i → e[j]? = some (some d) → t ∉ tags d → e'[j]? = some (some d)
theorem Keeps.refl (t i : Nat) (e : List (Option D)) : Keeps t i e e := ⟨rfl, fun _ _ _ h _ => h⟩
theorem Keeps.trans {t i : Nat} {e e1 e2 : List (Option D)} (a : Keeps t i e e1) (b : Keeps t i e1 e2) : Keeps t i e e2 := ⟨b.len.trans a.len, fun j d n h m => b.other j d n (a.other j d n h m) m⟩
theorem Keeps.put {t i : Nat} {S : Stt} {d : D} : Keeps t i S.env (putV i t d S).env := by
  refine ⟨by show ((wipeEnv t S.env).set i (some d)).length = _; rw [List.length_set, wipeEnv_len], fun j x n h m => ?_⟩
  show ((wipeEnv t S.env).set i (some d))[j]? = _
  rw [List.getElem?_set_ne (Ne.symm n), wipeEnv_get, h]
  show some (some (wipeT t x)) = _
  rw [wipeT_id t x m]
theorem slot_of {i : Nat} {S : Stt} {d : D} (h : S.env[i]? = some (some d)) : slot i S = some d := by unfold slot; rw [h]
theorem put_same {i t : Nat} {d : D} {S : Stt} (h : i < S.env.length) : (putV i t d S).env[i]? = some (some d) := by
  show ((wipeEnv t S.env).set i (some d))[i]? = _
  rw [List.getElem?_set]
  simp only [if_true]
  rw [if_pos (by rw [wipeEnv_len]; exact h)]
theorem trim_loop (cf : CallF) (n i t : Nat) : ∀ (k : Nat) (l : List Int) (S : Stt) (m : Nat), l.length = k → S.env[i]? = some (some (.ints t l)) → mayT t S = true → k < m →
    ∃ e c', whL (evN cf (n + 6)) (condZ i) [.pop i] m S = some (.nx, { S with env := e, c := c' }) ∧ S.c ≤ c' ∧ e[i]? = some (some (.ints t (dropZ l))) ∧ Keeps t i S.env e := by
  intro k
  induction k with
  | zero =>
    intro l S m hl hs hm hk
    have : l = [] := List.length_eq_zero_iff.mp hl
    subst this
    obtain ⟨m, rfl⟩ : ∃ m', m = m' + 1 := ⟨m - 1, by omega⟩
    exact ⟨S.env, S.c + 1, wh_stop (condZ_nil cf (n + 1) i t S (slot_of hs)) rfl, Nat.le_succ _, hs, Keeps.refl _ _ _⟩
  | succ k ih =>
    intro l S m hl hs hm hk
    obtain ⟨m, rfl⟩ : ∃ m', m = m' + 1 := ⟨m - 1, by omega⟩
    obtain ⟨l0, z, rfl⟩ : ∃ l0 z, l = l0 ++ [z] := by
      have hne : l ≠ [] := fun e => by rw [e] at hl; cases hl
      exact ⟨l.dropLast, l.getLast hne, (List.dropLast_concat_getLast hne).symm⟩
    have hc := condZ_snoc cf (n + 1) i t S l0 z (slot_of hs)
    by_cases hz : z = 0
    · subst hz
      have hi : i < S.env.length := by
        by_cases q : i < S.env.length
        · exact q
        · rw [List.getElem?_eq_none (by omega)] at hs; cases hs
      have hs1 : slot i { S with c := S.c + 1 } = some (.ints t (l0 ++ [0])) := slot_of (S := { S with c := S.c + 1 }) hs
      have hm1 : mayT t { S with c := S.c + 1 } = true := hm
      have hb : evSs (evN cf (n + 6)) [.pop i] { S with c := S.c + 1 } = some (.nx, putV i t (.ints t l0) { S with c := S.c + 1 }) := by
        have he : (l0 ++ [(0 : Int)]).isEmpty = false := by cases l0 <;> rfl
        have hd : (l0 ++ [(0 : Int)]).dropLast = l0 := by simp
        simp [evSs, evN, step, stepS, hs1, hm1, he, hd]
      have hlen : l0.length = k := by simpa using hl
      obtain ⟨e, c', h1, h2, h3, h4⟩ := ih l0 (putV i t (.ints t l0) { S with c := S.c + 1 }) m hlen (put_same hi) hm (by omega)
      refine ⟨e, c', ?_, Nat.le_trans (Nat.le_succ _) h2, ?_, Keeps.trans (Keeps.put (S := { S with c := S.c + 1 })) h4⟩
      · rw [wh_go hc (by rfl) hb]
        exact h1
      · rw [dropZ_zero]; exact h3
    · refine ⟨S.env, S.c + 1, wh_stop hc (by show some (z == 0) = _; rw [beq_eq_false_iff_ne.mpr hz]), Nat.le_succ _, ?_, Keeps.refl _ _ _⟩
      rw [dropZ_last _ _ hz]; exact hs
end Cor

/-! What the defs `trimmed` and `multiplied` tell. -/
namespace Cor
open PySem L2

/-! ### an evaluator that looks some calls up -/
abbrev Over := Nat → Nat → List D → Option (List Int) → Option (D × Option (List Int))
def evV (tb : Nat → Option CFun) (ov : Over) : Nat → CallF
  | 0 => fun _ _ _ => none
  | n + 1 => fun f ds g => match ov n f ds g with
    | some r => some r
    | none => (match tb f with
      | some fn => run (evV tb ov n) fn ds g
      | none => none)
theorem evV_eq {tb : Nat → Option CFun} {ov : Over} (h : ∀ n f ds g r, ov n f ds g = some r → evC tb (n + 1) f ds g = some r) : ∀ n, evV tb ov n = evC tb n
  | 0 => rfl
  | n + 1 => by
    funext f ds g
    have h1 := h n f ds g
    unfold evV
    cases ho : ov n f ds g with
    | some r => exact (h1 r ho).symm
    | none => rw [evV_eq h n]; rfl

theorem ev_e (cf : CallF) (n : Nat) (x : CE) (S : Stt) : (evN cf (n + 1)).e x S = stepE cf (evN cf n) x S := rfl
/-! ### trimmed -/
def fTrim : CFun := ⟨2, 5,
        [CS.asg (Tg.v 2) ((CE.bin BOp.mod (CE.bi Bi.int [CE.var 4]) (CE.var 0)).comp (Tg.v 4) (CI.of (CE.var 1)) none [3, 4]),
          CS.whl (condZ 2) [CS.pop 2],
          CS.ret (CE.var 2)]⟩
theorem intsOf_map : ∀ l : List Int, intsOf (l.map D.int) = some l
  | [] => rfl
  | x :: l => by
    show (intsOf (l.map D.int)).map (x :: ·) = _
    rw [intsOf_map l]; rfl
theorem mkL_map (t : Nat) (l : List Int) : mkL t (l.map D.int) = .ints t l := by unfold mkL; rw [intsOf_map]
theorem noGen_map : ∀ l : List Int, (l.map D.int).all noGen = true
  | [] => rfl
  | x :: l => by
    show (noGen (.int x) && (l.map D.int).all noGen) = true
    rw [noGen_map l]; rfl
theorem most_big : 999999 < most := by decide
theorem run_trim (cf : CallF) (p : Int) (l : List Int) (hp : 0 < p) (hl : l.length < 999999) : run cf fTrim [.int p, .ints 0 l] none = some (.ints 1 (trimP p l), none) := by
  let S0 : Stt := ⟨[some (.int p), some (.ints 0 l), none, none, none], 1, [], [], none, true⟩
  have hcomp : ∃ e', compL (evN cf 46) (CE.bin BOp.mod (CE.bi Bi.int [CE.var 4]) (CE.var 0)) (Tg.v 4) none (wipeV [3, 4] S0.env) (l.map D.int) [] S0 = some ([] ++ (l.map D.int).map (fun d => match d with
      | .int x => .int (x % p)
      | d => d), { S0 with env := e' }) := by
    refine compL_map ?_ (by simp; omega)
    intro x hx S
    obtain ⟨y, _, rfl⟩ := List.mem_map.mp hx
    refine ⟨_, rfl, ?_⟩
    simp [S0, wipeV, evN, step, stepE, evEs, opBi, opBin, slot, hp]
  obtain ⟨e', hcomp⟩ := hcomp
  have hmap : ([] : List D) ++ (l.map D.int).map (fun d => match d with
      | .int x => .int (x % p)
      | d => d) = (l.map (· % p)).map D.int := by
    simp [List.map_map, Function.comp_def]
  rw [hmap] at hcomp
  have hs1 : (evN cf 48).s (CS.asg (Tg.v 2) ((CE.bin BOp.mod (CE.bi Bi.int [CE.var 4]) (CE.var 0)).comp (Tg.v 4) (CI.of (CE.var 1)) none [3, 4])) S0 = some (.nx, ⟨[some (.int p), some (.ints 0 l), some (.ints 1 (l.map (· % p))), none, none], 2, [], [], none, true⟩) := by
    have h2 : (evN cf 47).e ((CE.bin BOp.mod (CE.bi Bi.int [CE.var 4]) (CE.var 0)).comp (Tg.v 4) (CI.of (CE.var 1)) none [3, 4]) S0 = some (.ints 1 (l.map (· % p)), { S0 with c := 2 }) := by
      have h3 : evI (evN cf 46) (CI.of (CE.var 1)) S0 = some (l.map D.int, [0], S0) := rfl
      refine (ev_e cf 46 _ _).trans ?_
      simp only [stepE, h3, hcomp, noGen_map, if_true, new, mkL_map]
      rfl
    refine (ev_s cf 47 _ _).trans ?_
    simp only [stepS, h2]
    rfl
  obtain ⟨e, c', h1, _, h3, _⟩ := trim_loop cf 41 2 1 _ (l.map (· % p)) ⟨[some (.int p), some (.ints 0 l), some (.ints 1 (l.map (· % p))), none, none], 2, [], [], none, true⟩ most rfl rfl rfl (by rw [List.length_map]; exact Nat.lt_trans hl most_big)
  have hs2 : (evN cf 48).s (CS.whl (condZ 2) [CS.pop 2]) ⟨[some (.int p), some (.ints 0 l), some (.ints 1 (l.map (· % p))), none, none], 2, [], [], none, true⟩ = some (.nx, ⟨e, c', [], [], none, true⟩) := by
    refine (ev_s cf 47 _ _).trans ?_
    simp only [stepS]
    exact h1
  have hs3 : (evN cf 48).s (CS.ret (CE.var 2)) ⟨e, c', [], [], none, true⟩ = some (.rt (.ints 1 (dropZ (l.map (· % p)))), ⟨e, c', [], [], none, true⟩) := by
    have : slot 2 ⟨e, c', [], [], none, true⟩ = some (.ints 1 (dropZ (l.map (· % p)))) := slot_of (S := ⟨e, c', [], [], none, true⟩) h3
    simp [evN, step, stepS, stepE, this, noGen]
  have hb : evSs (evN cf 48) fTrim.body S0 = some (.rt (.ints 1 (trimP p l)), ⟨e, c', [], [], none, true⟩) := by
    unfold fTrim
    simp only [evSs, hs1, hs2, hs3]
    rfl
  unfold run
  have hS : (⟨[D.int p, D.ints 0 l].map some ++ List.replicate (fTrim.n - fTrim.np) none, 1, [], [], none, !(none : Option (List Int)).isSome⟩ : Stt) = S0 := rfl
  rw [hS, hb]
  rfl

/-! ### multiplied -/
/-- c + x b -/
def addSc (x : Int) : List Int → List Int → List Int
  | [], _ => []
  | c :: cs, [] => c :: cs
  | c :: cs, y :: ys => (c + x * y) :: addSc x cs ys
def mulAcc (b : List Int) : List Int → List Int → List Int
  | [], acc => acc
  | x :: xs, acc => match addSc x acc b with
    | [] => []
    | d :: ds => d :: mulAcc b xs ds
def zer (n : Nat) : List Int := List.replicate n 0
def mulP (p : Int) (a b : List Int) : List Int := trimP p (mulAcc b a (zer (a.length + b.length)))
theorem addSc_len (x : Int) : ∀ l ys : List Int, (addSc x l ys).length = l.length
  | [], _ => rfl
  | _ :: _, [] => rfl
  | c :: cs, y :: ys => by simp [addSc, addSc_len x cs ys]
/-- the same place by place -/
def addFrom (x : Int) : Nat → List Int → List Int → List Int
  | _, [], l => l
  | k, y :: ys, l => addFrom x (k + 1) ys (l.set k ((l[k]?).getD 0 + x * y))
theorem addFrom_cons (x c : Int) : ∀ (k : Nat) (ys l : List Int), addFrom x (k + 1) ys (c :: l) = c :: addFrom x k ys l
  | k, [], l => rfl
  | k, y :: ys, l => by
    show addFrom x (k + 2) ys ((c :: l).set (k + 1) (((c :: l)[k + 1]?).getD 0 + x * y)) = _
    rw [List.set_cons_succ, List.getElem?_cons_succ, addFrom_cons x c (k + 1) ys]
    rfl
theorem addFrom_zero (x : Int) : ∀ (ys l : List Int), ys.length ≤ l.length → addFrom x 0 ys l = addSc x l ys
  | [], [], _ => rfl
  | [], _ :: _, _ => rfl
  | y :: ys, [], h => by simp at h
  | y :: ys, c :: l, h => by
    show addFrom x 1 ys ((c :: l).set 0 (((c :: l)[0]?).getD 0 + x * y)) = _
    rw [List.set_cons_zero, addFrom_cons, addFrom_zero x ys l (by simpa using h)]
    rfl
theorem addFrom_len (x : Int) : ∀ (k : Nat) (ys l : List Int), (addFrom x k ys l).length = l.length
  | k, [], l => rfl
  | k, y :: ys, l => by
    show (addFrom x (k + 1) ys _).length = _
    rw [addFrom_len]; simp
def mulFrom (b : List Int) : Nat → List Int → List Int → List Int
  | _, [], l => l
  | k, x :: xs, l => mulFrom b (k + 1) xs (addFrom x k b l)
theorem mulFrom_cons (b : List Int) (c : Int) : ∀ (k : Nat) (xs l : List Int), mulFrom b (k + 1) xs (c :: l) = c :: mulFrom b k xs l
  | k, [], l => rfl
  | k, x :: xs, l => by
    show mulFrom b (k + 2) xs (addFrom x (k + 1) b (c :: l)) = _
    rw [addFrom_cons, mulFrom_cons b c (k + 1) xs]
    rfl
theorem mulFrom_zero (b : List Int) : ∀ (xs l : List Int), xs.length + b.length ≤ l.length → mulFrom b 0 xs l = mulAcc b xs l
  | [], l, _ => rfl
  | x :: xs, l, h => by
    show mulFrom b 1 xs (addFrom x 0 b l) = _
    simp only [List.length_cons] at h
    rw [addFrom_zero x b l (by omega)]
    unfold mulAcc
    have hl := addSc_len x l b
    cases hd : addSc x l b with
    | nil => rw [hd] at hl; simp at hl; omega
    | cons d ds =>
      rw [hd] at hl
      simp only [List.length_cons] at hl
      rw [mulFrom_cons, mulFrom_zero b xs ds (by omega)]
def setM : CS := CS.set 3 (CE.bin BOp.add (CE.var 4) (CE.var 6)) (CE.bin BOp.add ((CE.var 3).idx (CE.bin BOp.add (CE.var 4) (CE.var 6))) (CE.bin BOp.mul (CE.var 5) (CE.var 7)))
def fMul : CFun := ⟨3, 8,
        [CS.asg (Tg.v 3) (CE.bin BOp.mul (CE.lst [CE.int (Int.ofNat 0)]) (CE.bin BOp.add (CE.bi Bi.len [CE.var 1]) (CE.bi Bi.len [CE.var 2]))),
          CS.for (Tg.tup [4, 5]) (CI.enum (CE.var 1)) [CS.for (Tg.tup [6, 7]) (CI.enum (CE.var 2)) [setM]],
          CS.ret (CE.call 4 [] [CE.var 0, CE.var 3])]⟩
/-- within the loops -/
abbrev stM (p : Int) (a b l : List Int) (lk : List Nat) (x4 x5 x6 x7 : Option D) : Stt := ⟨[some (.int p), some (.ints 0 a), some (.ints 0 b), some (.ints 2 l), x4, x5, x6, x7], 3, [], lk, none, true⟩
theorem setM_go (cf : CallF) (n : Nat) (p : Int) (a b l : List Int) (lk : List Nat) (i j : Nat) (x y : Int) (hlk : lk.contains 2 = false) (hx : isSmall x = true) (h : i + j < l.length) :
    evSs (evN cf (n + 5)) [setM] (stM p a b l lk (some (.int i)) (some (.int x)) (some (.int j)) (some (.int y))) = some (.nx, stM p a b (l.set (i + j) ((l[i + j]?).getD 0 + x * y)) lk (some (.int i)) (some (.int x)) (some (.int j)) (some (.int y))) := by
  have hp : place l.length ((i : Int) + (j : Int)) = some (i + j) := by
    have := place_nat h
    rw [Int.natCast_add] at this
    exact this
  have hg : l[i + j]? = some l[i + j] := List.getElem?_eq_getElem h
  have hm : mayT 2 (stM p a b l lk (some (.int i)) (some (.int x)) (some (.int j)) (some (.int y))) = true := by
    show (!(Nat.beq 2 0) && (!([].contains 2) && !(lk.contains 2))) = true
    rw [hlk]; rfl
  simp [setM, evSs, evN, step, stepS, stepE, slot, opBin, opIdx, hp, hg, hx, hm, noGen, tags, putV, wipeEnv, wipeO, wipeT]
theorem enumL_cons (k : Int) (x : D) (xs : List D) : enumL k (x :: xs) = .tup [.int k, x] :: enumL (k + 1) xs := rfl
theorem for_step {r : Ev} {tg : Tg} {body : List CS} {x : D} {xs : List D} {S S1 S2 : Stt} (h1 : asgT tg x S = some S1) (h2 : evSs r body S1 = some (.nx, S2)) : forL r tg body (x :: xs) S = forL r tg body xs S2 := by
  simp only [forL, h1, h2]
theorem mul_in (cf : CallF) (n : Nat) (p : Int) (a b : List Int) (lk : List Nat) (i : Nat) (x : Int) (hlk : lk.contains 2 = false) (hx : isSmall x = true) : ∀ (ys : List Int) (j : Nat) (l : List Int) (x6 x7 : Option D), i + j + ys.length ≤ l.length →
    ∃ y6 y7, forL (evN cf (n + 5)) (.tup [6, 7]) [setM] (enumL (j : Int) (ys.map .int)) (stM p a b l lk (some (.int i)) (some (.int x)) x6 x7) = some (.nx, stM p a b (addFrom x (i + j) ys l) lk (some (.int i)) (some (.int x)) y6 y7)
  | [], j, l, x6, x7, _ => ⟨x6, x7, rfl⟩
  | y :: ys, j, l, x6, x7, h => by
    simp only [List.length_cons] at h
    obtain ⟨y6, y7, h1⟩ := mul_in cf n p a b lk i x hlk hx ys (j + 1) (l.set (i + j) ((l[i + j]?).getD 0 + x * y)) (some (.int j)) (some (.int y)) (by rw [List.length_set]; omega)
    refine ⟨y6, y7, ?_⟩
    rw [List.map_cons, enumL_cons, for_step (S1 := stM p a b l lk (some (.int i)) (some (.int x)) (some (.int j)) (some (.int y))) rfl (setM_go cf n p a b l lk i j x y hlk hx (by omega))]
    rw [Int.natCast_add] at h1
    exact h1
theorem mul_row (cf : CallF) (n : Nat) (p : Int) (a b l : List Int) (i : Nat) (x : Int) (x6 x7 : Option D) (hx : isSmall x = true) (h : i + b.length ≤ l.length) :
    ∃ y6 y7, evSs (evN cf (n + 6)) [CS.for (Tg.tup [6, 7]) (CI.enum (CE.var 2)) [setM]] (stM p a b l [0] (some (.int i)) (some (.int x)) x6 x7) = some (.nx, stM p a b (addFrom x i b l) [0] (some (.int i)) (some (.int x)) y6 y7) := by
  obtain ⟨y6, y7, h1⟩ := mul_in cf n p a b [0, 0] i x rfl hx b 0 l x6 x7 (by omega)
  refine ⟨y6, y7, ?_⟩
  have h2 : evI (evN cf (n + 5)) (CI.enum (CE.var 2)) (stM p a b l [0] (some (.int i)) (some (.int x)) x6 x7) = some (enumL (0 : Nat) (b.map .int), [0], stM p a b l [0] (some (.int i)) (some (.int x)) x6 x7) := rfl
  have h3 : (evN cf (n + 6)).s (CS.for (Tg.tup [6, 7]) (CI.enum (CE.var 2)) [setM]) (stM p a b l [0] (some (.int i)) (some (.int x)) x6 x7) = some (.nx, stM p a b (addFrom x i b l) [0] (some (.int i)) (some (.int x)) y6 y7) := by
    exact (ev_s cf (n + 5) _ _).trans (for_ok h2 rfl h1 rfl)
  simp only [evSs, h3]
theorem mul_out (cf : CallF) (n : Nat) (p : Int) (a b : List Int) : ∀ (xs : List Int) (i : Nat) (l : List Int) (x4 x5 x6 x7 : Option D), xs.all isSmall = true → i + xs.length + b.length ≤ l.length →
    ∃ y4 y5 y6 y7, forL (evN cf (n + 6)) (.tup [4, 5]) [CS.for (Tg.tup [6, 7]) (CI.enum (CE.var 2)) [setM]] (enumL (i : Int) (xs.map .int)) (stM p a b l [0] x4 x5 x6 x7) = some (.nx, stM p a b (mulFrom b i xs l) [0] y4 y5 y6 y7)
  | [], i, l, x4, x5, x6, x7, _, _ => ⟨x4, x5, x6, x7, rfl⟩
  | x :: xs, i, l, x4, x5, x6, x7, ha, h => by
    simp only [List.length_cons] at h
    obtain ⟨hx, hxs⟩ : isSmall x = true ∧ xs.all isSmall = true := by simpa [List.all_cons] using ha
    obtain ⟨y6, y7, h1⟩ := mul_row cf n p a b l i x x6 x7 hx (by omega)
    obtain ⟨z4, z5, z6, z7, h2⟩ := mul_out cf n p a b xs (i + 1) (addFrom x i b l) (some (.int i)) (some (.int x)) y6 y7 hxs (by rw [addFrom_len]; omega)
    refine ⟨z4, z5, z6, z7, ?_⟩
    rw [List.map_cons, enumL_cons, for_step (S1 := stM p a b l [0] (some (.int i)) (some (.int x)) x6 x7) rfl h1]
    rw [Int.natCast_add] at h2
    exact h2
theorem rep_flat (n : Nat) : (List.replicate n [(0 : Int)]).flatten = zer n := by
  induction n with
  | zero => rfl
  | succ n ih =>
    show [(0 : Int)] ++ (List.replicate n [(0 : Int)]).flatten = _
    rw [ih]; rfl
theorem mulAcc_len (b a : List Int) (n : Nat) (h : a.length + b.length ≤ n) : (mulAcc b a (zer n)).length = n := by
  rw [← mulFrom_zero b a _ (by unfold zer; rw [List.length_replicate]; exact h)]
  have : ∀ (xs l : List Int) (k : Nat), (mulFrom b k xs l).length = l.length := by
    intro xs
    induction xs with
    | nil => intro l k; rfl
    | cons x xs ih => intro l k; show (mulFrom b (k + 1) xs _).length = _; rw [ih, addFrom_len]
  rw [this]; unfold zer; rw [List.length_replicate]
abbrev stC (p : Int) (a b : List Int) (c : Nat) : Stt := ⟨[some (.int p), some (.ints 0 a), some (.ints 0 b), none, none, none, none, none], c, [], [], none, true⟩
abbrev st0 (p : Int) (a b : List Int) : Stt := stC p a b 1
theorem fits_small {a b : List Int} (hl : a.length + b.length < 999999) : (decide (-(2 ^ 63) ≤ ((a.length : Int) + (b.length : Int))) && decide (((a.length : Int) + (b.length : Int)) < 2 ^ 63) && fits ([(0 : Int)].length * ((a.length : Int) + (b.length : Int)).toNat)) = true := by
  have e : ((a.length : Int) + (b.length : Int)).toNat = a.length + b.length := by omega
  have h3 : [(0 : Int)].length = 1 := rfl
  rw [e, h3, decide_eq_true (by omega), decide_eq_true (by omega)]
  unfold fits
  exact Nat.ble_eq_true_of_le (by omega)
theorem opMul_ints (t : Nat) (l : List Int) (k : Int) (S : Stt) : opBin .mul (.ints t l) (.int k) S = if decide (-(2 ^ 63) ≤ k) && decide (k < 2 ^ 63) && fits (l.length * k.toNat) then new (fun t => .ints t (List.replicate k.toNat l).flatten) S else none := rfl
theorem new_ints (S : Stt) (l : List Int) : new (fun t => .ints t l) S = some (.ints S.c l, { S with c := S.c + 1 }) := rfl
theorem mul_rep {a b : List Int} (t : Nat) (S : Stt) (hl : a.length + b.length < 999999) : opBin .mul (.ints t [0]) (.int ((a.length : Int) + (b.length : Int))) S = some (.ints S.c (zer (a.length + b.length)), { S with c := S.c + 1 }) := by
  have e : ((a.length : Int) + (b.length : Int)).toNat = a.length + b.length := by omega
  refine (opMul_ints t [0] _ S).trans ((if_pos (fits_small hl)).trans ?_)
  rw [e, rep_flat]
  exact new_ints S _
theorem bin_e {cf : CallF} {r : Ev} {op : BOp} {x y : CE} {S S1 S2 : Stt} {d e : D} (h1 : r.e x S = some (d, S1)) (h2 : r.e y S1 = some (e, S2)) : stepE cf r (.bin op x y) S = opBin op d e S2 := by
  simp only [stepE, h1, h2]
theorem asg_s {r : Ev} {tg : Tg} {x : CE} {S S1 S2 : Stt} {d : D} (h1 : r.e x S = some (d, S1)) (hn : noGen d = true) (h2 : asgT tg d S1 = some S2) : stepS r (.asg tg x) S = some (.nx, S2) := by
  simp only [stepS, h1, hn, if_true, h2, Option.map_some]
theorem mul_s1 (cf : CallF) (p : Int) (a b : List Int) (hl : a.length + b.length < 999999) : (evN cf 48).s (CS.asg (Tg.v 3) (CE.bin BOp.mul (CE.lst [CE.int (Int.ofNat 0)]) (CE.bin BOp.add (CE.bi Bi.len [CE.var 1]) (CE.bi Bi.len [CE.var 2])))) (st0 p a b) = some (.nx, stM p a b (zer (a.length + b.length)) [] none none none none) := by
  have e1 : (evN cf 46).e (CE.lst [CE.int (Int.ofNat 0)]) (stC p a b 1) = some (.ints 1 [0], stC p a b 2) := rfl
  have e2 : (evN cf 46).e (CE.bin BOp.add (CE.bi Bi.len [CE.var 1]) (CE.bi Bi.len [CE.var 2])) (stC p a b 2) = some (.int ((a.length : Int) + (b.length : Int)), stC p a b 2) := rfl
  have h2 : (evN cf 47).e (CE.bin BOp.mul (CE.lst [CE.int (Int.ofNat 0)]) (CE.bin BOp.add (CE.bi Bi.len [CE.var 1]) (CE.bi Bi.len [CE.var 2]))) (stC p a b 1) = some (.ints 2 (zer (a.length + b.length)), stC p a b 3) :=
    (ev_e cf 46 _ _).trans ((bin_e e1 e2).trans (mul_rep 1 (stC p a b 2) hl))
  exact (ev_s cf 47 _ _).trans (asg_s h2 rfl rfl)
theorem mul_s2 (cf : CallF) (p : Int) (a b : List Int) (ha : a.all isSmall = true) : ∃ y4 y5 y6 y7, (evN cf 48).s (CS.for (Tg.tup [4, 5]) (CI.enum (CE.var 1)) [CS.for (Tg.tup [6, 7]) (CI.enum (CE.var 2)) [setM]]) (stM p a b (zer (a.length + b.length)) [] none none none none) = some (.nx, stM p a b (mulAcc b a (zer (a.length + b.length))) [] y4 y5 y6 y7) := by
  obtain ⟨y4, y5, y6, y7, h1⟩ := mul_out cf 41 p a b a 0 (zer (a.length + b.length)) none none none none ha (by unfold zer; rw [List.length_replicate]; omega)
  refine ⟨y4, y5, y6, y7, ?_⟩
  have h2 : evI (evN cf 47) (CI.enum (CE.var 1)) (stM p a b (zer (a.length + b.length)) [] none none none none) = some (enumL (0 : Nat) (a.map .int), [0], stM p a b (zer (a.length + b.length)) [] none none none none) := rfl
  rw [mulFrom_zero b a _ (by unfold zer; rw [List.length_replicate]; omega)] at h1
  exact (ev_s cf 47 _ _).trans (for_ok h2 rfl h1 rfl)
theorem mul_s3 (cf : CallF) (p : Int) (a b l r : List Int) (y4 y5 y6 y7 : Option D) (h2 : cf 4 [.int p, .ints 0 l] none = some (.ints 1 r, none)) :
    (evN cf 48).s (CS.ret (CE.call 4 [] [CE.var 0, CE.var 3])) (stM p a b l [] y4 y5 y6 y7) = some (.rt (.ints 3 r), { stM p a b l [] y4 y5 y6 y7 with c := 4 }) := by
  have h3 : (evN cf 47).e (CE.call 4 [] [CE.var 0, CE.var 3]) (stM p a b l [] y4 y5 y6 y7) = some (.ints 3 r, { stM p a b l [] y4 y5 y6 y7 with c := 4 }) := by
    simp [evN, step, stepE, evEs, slot, permute, retagL, retag, isGenL, h2, back, tags]
  refine (ev_s cf 47 _ _).trans ?_
  simp only [stepS, h3]
  rfl
theorem run_mul (cf : CallF) (p : Int) (a b : List Int) (ha : a.all isSmall = true) (hl : a.length + b.length < 999999)
    (ht : ∀ l : List Int, l.length < 999999 → cf 4 [.int p, .ints 0 l] none = some (.ints 1 (trimP p l), none)) : run cf fMul [.int p, .ints 0 a, .ints 0 b] none = some (.ints 1 (mulP p a b), none) := by
  have hs1 := mul_s1 cf p a b hl
  obtain ⟨y4, y5, y6, y7, hs2⟩ := mul_s2 cf p a b ha
  have hs3 := mul_s3 cf p a b _ _ y4 y5 y6 y7 (ht (mulAcc b a (zer (a.length + b.length))) (by rw [mulAcc_len b a _ (Nat.le_refl _)]; exact hl))
  have hn : Nat.beq [D.int p, D.ints 0 a, D.ints 0 b].length fMul.np = true := rfl
  have hb : evSs (evN cf 48) fMul.body (st0 p a b) = _ := (ss_nx hs1).trans ((ss_nx hs2).trans (ss_rt hs3))
  have hr := run_rt (cf := cf) (fn := fMul) (ds := [D.int p, D.ints 0 a, D.ints 0 b]) (g := none) hn hb
  exact hr
end Cor

/-! The law's defs in the core. -/
namespace Cor
open PySem L2
abbrev P10 : Program := PySem.Challenge.pw_modulusfields_k10_whole_products_of_all
def ds10 : List TDef := tdefs P10.main.body
def isBuiltin (x : Str) : Bool := ["len", "int", "list", "tuple", "sum", "repr", "sorted", "max", "min", "range", "enumerate", "zip", "isinstance", "bool"].any fun n => x == Str.ofString n
def gl10 (x : Str) : Option CE :=
  if x == Str.ofString "PRIMES" then some (.gtup 0 [3, 5, 7]) else if x == Str.ofString "MOST_PRODUCTS" then some (.gdict 1 [(3, 3), (5, 2), (7, 2)]) else none
def F10 : List CFun := 
[{ np := 1, n := 1, body := [CS.ret (((CE.var 0).isi Ty.int).and ((CE.var 0).isi Ty.bool).not)] },
  { np := 3, n := 3,
      body :=
        [CS.ret
            ((CE.call 0 [] [CE.var 0]).and
              ((CE.cmp COp.ge (CE.var 0) (CE.var 1)).and
                ((CE.cmp COp.is (CE.var 2) CE.non).or (CE.cmp COp.le (CE.var 0) (CE.var 2)))))] },
  { np := 3, n := 3, body := [CS.if (CE.call 1 [] [CE.var 0, CE.var 1, CE.var 2]).not [CS.raise] []] },
  { np := 1, n := 1,
      body :=
        [CS.if
            ((CE.call 0 [] [CE.var 0]).not.or
              (CE.cmp COp.nmem (CE.var 0) (CE.gtup 0 [Int.ofNat 3, Int.ofNat 5, Int.ofNat 7])))
            [CS.raise] []] },
  { np := 2, n := 5,
      body :=
        [CS.asg (Tg.v 2)
            ((CE.bin BOp.mod (CE.bi Bi.int [CE.var 4]) (CE.var 0)).comp (Tg.v 4) (CI.of (CE.var 1)) none [3, 4]),
          CS.whl
            ((CE.cmp COp.ne (CE.var 2) (CE.lst [])).and
              (CE.cmp COp.eq ((CE.var 2).idx (CE.int (Int.ofNat 1)).neg) (CE.int (Int.ofNat 0))))
            [CS.pop 2],
          CS.ret (CE.var 2)] },
  { np := 3, n := 8,
      body :=
        [CS.asg (Tg.v 3) (CE.bi Bi.max2 [CE.bi Bi.len [CE.var 1], CE.bi Bi.len [CE.var 2]]),
          CS.asg (Tg.tup [4, 5])
            (CE.tup
              [CE.bin BOp.add (CE.var 1)
                  (CE.bin BOp.mul (CE.lst [CE.int (Int.ofNat 0)])
                    (CE.bin BOp.sub (CE.var 3) (CE.bi Bi.len [CE.var 1]))),
                CE.bin BOp.add (CE.var 2)
                  (CE.bin BOp.mul (CE.lst [CE.int (Int.ofNat 0)])
                    (CE.bin BOp.sub (CE.var 3) (CE.bi Bi.len [CE.var 2])))]),
          CS.ret
            (CE.call 4 []
              [CE.var 0,
                (CE.bin BOp.add ((CE.var 4).idx (CE.var 7)) ((CE.var 5).idx (CE.var 7))).comp (Tg.v 7)
                  (CI.rng1 (CE.var 3)) none [6, 7]])] },
  { np := 2, n := 4,
      body :=
        [CS.ret
            (CE.call 4 []
              [CE.var 0,
                (CE.bin BOp.sub (CE.int (Int.ofNat 0)) (CE.var 3)).comp (Tg.v 3) (CI.of (CE.var 1)) none [2, 3]])] },
  { np := 3, n := 3, body := [CS.ret (CE.call 5 [] [CE.var 0, CE.var 1, CE.call 6 [] [CE.var 0, CE.var 2]])] },
  { np := 3, n := 8,
      body :=
        [CS.asg (Tg.v 3)
            (CE.bin BOp.mul (CE.lst [CE.int (Int.ofNat 0)])
              (CE.bin BOp.add (CE.bi Bi.len [CE.var 1]) (CE.bi Bi.len [CE.var 2]))),
          CS.for (Tg.tup [4, 5]) (CI.enum (CE.var 1))
            [CS.for (Tg.tup [6, 7]) (CI.enum (CE.var 2))
                [CS.set 3 (CE.bin BOp.add (CE.var 4) (CE.var 6))
                    (CE.bin BOp.add ((CE.var 3).idx (CE.bin BOp.add (CE.var 4) (CE.var 6)))
                      (CE.bin BOp.mul (CE.var 5) (CE.var 7)))]],
          CS.ret (CE.call 4 [] [CE.var 0, CE.var 3])] },
  { np := 3, n := 8,
      body :=
        [CS.asg (Tg.v 3) (CE.bi Bi.list [CE.var 1]),
          CS.for (Tg.v 4) (CI.rng1 (CE.var 2))
            [CS.asg (Tg.v 5)
                (CE.bin BOp.mul (CE.lst [CE.int (Int.ofNat 0)]) (CE.bin BOp.mul (CE.bi Bi.len [CE.var 3]) (CE.var 0))),
              CS.for (Tg.tup [6, 7]) (CI.enum (CE.var 3)) [CS.set 5 (CE.bin BOp.mul (CE.var 6) (CE.var 0)) (CE.var 7)],
              CS.whl
                ((CE.cmp COp.ne (CE.var 5) (CE.lst [])).and
                  (CE.cmp COp.eq ((CE.var 5).idx (CE.int (Int.ofNat 1)).neg) (CE.int (Int.ofNat 0))))
                [CS.pop 5],
              CS.asg (Tg.v 3) (CE.var 5)],
          CS.ret (CE.var 3)] },
  { np := 2, n := 2,
      body :=
        [CS.expr (CE.call 3 [] [CE.var 0]),
          CS.expr
            (CE.call 2 []
              [CE.var 1, CE.int (Int.ofNat 0),
                (CE.gdict 1 [(Int.ofNat 3, Int.ofNat 3), (Int.ofNat 5, Int.ofNat 2), (Int.ofNat 7, Int.ofNat 2)]).idx
                  (CE.var 0)])] },
  { np := 2, n := 2,
      body := [CS.ret (CE.call 9 [] [CE.var 0, CE.lst [CE.int (Int.ofNat 0), CE.int (Int.ofNat 1)], CE.var 1])] },
  { np := 2, n := 4,
      body :=
        [CS.asg (Tg.v 2) (CE.lst [CE.int (Int.ofNat 1)]),
          CS.for (Tg.v 3) (CI.rng1 (CE.var 1))
            [CS.asg (Tg.v 2)
                (CE.call 8 []
                  [CE.var 0, CE.var 2,
                    CE.call 7 [] [CE.var 0, CE.call 11 [] [CE.var 0, CE.var 1], CE.call 11 [] [CE.var 0, CE.var 3]]])],
          CS.ret (CE.var 2)] },
  { np := 2, n := 2,
      body := [CS.expr (CE.call 10 [] [CE.var 0, CE.var 1]), CS.ret (CE.call 12 [] [CE.var 0, CE.var 1])] },
  { np := 2, n := 4,
      body :=
        [CS.expr (CE.call 10 [] [CE.var 0, CE.var 1]), CS.asg (Tg.v 2) (CE.lst [CE.int (Int.ofNat 1)]),
          CS.for (Tg.v 3) (CI.rng2 (CE.int (Int.ofNat 1)) (CE.bin BOp.add (CE.var 1) (CE.int (Int.ofNat 1))))
            [CS.asg (Tg.v 2)
                (CE.call 8 []
                  [CE.var 0, CE.var 2,
                    CE.call 7 []
                      [CE.var 0, CE.call 11 [] [CE.var 0, CE.var 3],
                        CE.lst [CE.int (Int.ofNat 0), CE.int (Int.ofNat 1)]]])],
          CS.ret (CE.var 2)] },
  { np := 2, n := 3,
      body :=
        [CS.asg (Tg.v 2)
            (CE.bin BOp.mod
              (CE.bi Bi.int
                [CE.bin BOp.add
                    (CE.bin BOp.add
                      (CE.bin BOp.add (CE.bin BOp.mul (CE.var 0) (CE.int (Int.ofNat 1140671)))
                        (CE.bin BOp.mul (CE.bin BOp.mul (CE.int (Int.ofNat 27644437)) (CE.var 1)) (CE.var 1)))
                      (CE.bin BOp.mul (CE.int (Int.ofNat 131)) (CE.var 1)))
                    (CE.int (Int.ofNat 19))])
              (CE.int (Int.ofNat 2147483629))),
          CS.asg (Tg.v 2)
            (CE.bin BOp.mod
              (CE.bi Bi.int
                [CE.bin BOp.add
                    (CE.bin BOp.add (CE.bin BOp.mul (CE.var 2) (CE.var 2))
                      (CE.bin BOp.mul (CE.int (Int.ofNat 62089)) (CE.var 1)))
                    (CE.int (Int.ofNat 32416187))])
              (CE.int (Int.ofNat 2147483587))),
          CS.ret
            (CE.bin BOp.mod (CE.bi Bi.int [CE.bin BOp.mul (CE.var 2) (CE.int (Int.ofNat 48271))])
              (CE.int (Int.ofNat 2147483647)))] },
  { np := 2, n := 4,
      body :=
        [CS.if (CE.cmp COp.gt ((CE.var 0).idx (CE.int (Int.ofNat 0))) (CE.int (Int.ofNat 0)))
            [CS.asg (Tg.v 2) (CE.bin BOp.mod (CE.bi Bi.int [(CE.var 0).idx (CE.int (Int.ofNat 0))]) (CE.var 1)),
              CS.set 0 (CE.int (Int.ofNat 0)) (CE.bin BOp.fdiv ((CE.var 0).idx (CE.int (Int.ofNat 0))) (CE.var 1)),
              CS.ret (CE.var 2)]
            [],
          CS.asg (Tg.v 2) (CE.int (Int.ofNat 0)),
          CS.for (Tg.v 3)
            (CI.rng1
              (CE.bin BOp.add (CE.int (Int.ofNat 1))
                (CE.bin BOp.fdiv (CE.bi Bi.bits [CE.var 1]) (CE.int (Int.ofNat 30)))))
            [CS.set 0 (CE.int (Int.ofNat 2))
                (CE.bin BOp.add ((CE.var 0).idx (CE.int (Int.ofNat 2))) (CE.int (Int.ofNat 1))),
              CS.asg (Tg.v 2)
                (CE.bin BOp.add (CE.bin BOp.mul (CE.var 2) (CE.int (Int.ofNat 2147483587)))
                  (CE.call 15 [] [(CE.var 0).idx (CE.int (Int.ofNat 1)), (CE.var 0).idx (CE.int (Int.ofNat 2))]))],
          CS.ret (CE.bin BOp.mod (CE.bi Bi.int [CE.var 2]) (CE.var 1))] },
  { np := 2, n := 2,
      body :=
        [CS.if (CE.cmp COp.lt (CE.var 1) (CE.bi Bi.len [CE.var 0])) [CS.ret ((CE.var 0).idx (CE.var 1))] [],
          CS.ret
            (CE.bin BOp.mod (CE.bi Bi.sum [(CE.var 0).sl none (some (CE.int (Int.ofNat 1)))])
              (CE.int (Int.ofNat 1000003)))] },
  { np := 2, n := 3,
      body :=
        [CS.asg (Tg.v 2) (CE.call 17 [] [CE.var 0, CE.var 1]),
          CS.ret
            (CE.lst
              [CE.bin BOp.mod
                  (CE.bi Bi.int
                    [CE.bi Bi.max2
                        [CE.bin BOp.sub (CE.var 2) (CE.bin BOp.pow (CE.int (Int.ofNat 10)) (CE.int (Int.ofNat 18))),
                          CE.int (Int.ofNat 0)]])
                  (CE.bin BOp.pow (CE.bin BOp.pow (CE.int (Int.ofNat 10)) (CE.int (Int.ofNat 60)))
                    (CE.int (Int.ofNat 10))),
                CE.bin BOp.mod (CE.bi Bi.int [CE.var 2]) (CE.int (Int.ofNat 2147483647)),
                CE.bin BOp.mul (CE.int (Int.ofNat 1000)) (CE.var 1)])] },
  { np := 1, n := 1,
      body :=
        [CS.ret
            ((CE.lst [CE.int (Int.ofNat 3), CE.int (Int.ofNat 5), CE.int (Int.ofNat 7)]).idx
              (CE.call 16 [] [CE.var 0, CE.int (Int.ofNat 3)]))] },
  { np := 2, n := 5,
      body :=
        [CS.asg (Tg.v 2)
            ((CE.bin BOp.mod (CE.bi Bi.int [CE.var 4]) (CE.var 0)).comp (Tg.v 4) (CI.of (CE.var 1)) none [3, 4]),
          CS.whl
            ((CE.cmp COp.ne (CE.var 2) (CE.lst [])).and
              (CE.cmp COp.eq ((CE.var 2).idx (CE.int (Int.ofNat 1)).neg) (CE.int (Int.ofNat 0))))
            [CS.pop 2],
          CS.ret (CE.var 2)] },
  { np := 4, n := 9,
      body :=
        [CS.asg (Tg.v 4) (CE.bi Bi.max2 [CE.bi Bi.len [CE.var 1], CE.bi Bi.len [CE.var 2]]),
          CS.asg (Tg.tup [5, 6])
            (CE.tup
              [CE.bin BOp.add (CE.var 1)
                  (CE.bin BOp.mul (CE.lst [CE.int (Int.ofNat 0)])
                    (CE.bin BOp.sub (CE.var 4) (CE.bi Bi.len [CE.var 1]))),
                CE.bin BOp.add (CE.var 2)
                  (CE.bin BOp.mul (CE.lst [CE.int (Int.ofNat 0)])
                    (CE.bin BOp.sub (CE.var 4) (CE.bi Bi.len [CE.var 2])))]),
          CS.ret
            (CE.call 20 []
              [CE.var 0,
                (CE.bin BOp.add ((CE.var 5).idx (CE.var 8))
                      (CE.bin BOp.mul (CE.var 3) ((CE.var 6).idx (CE.var 8)))).comp
                  (Tg.v 8) (CI.rng1 (CE.var 4)) none [7, 8]])] },
  { np := 3, n := 10,
      body :=
        [CS.par [3, 4]
            [CE.bin BOp.mul (CE.lst [CE.int (Int.ofNat 0)])
                (CE.bin BOp.add (CE.bi Bi.len [CE.var 1]) (CE.bi Bi.len [CE.var 2])),
              CE.bi Bi.len [CE.var 2]],
          CS.for (Tg.tup [5, 6]) (CI.enum (CE.var 1))
            [CS.if (CE.cmp COp.ne (CE.var 6) (CE.int (Int.ofNat 0)))
                [CS.asg (Tg.v 3)
                    (CE.bin BOp.add
                      (CE.bin BOp.add ((CE.var 3).sl none (some (CE.var 5)))
                        ((CE.bin BOp.add (CE.var 8) (CE.bin BOp.mul (CE.var 6) (CE.var 9))).comp (Tg.tup [8, 9])
                          (CI.zip false ((CE.var 3).sl (some (CE.var 5)) none) (CE.var 2)) none [7, 8, 9]))
                      ((CE.var 3).sl (some (CE.bin BOp.add (CE.var 5) (CE.var 4))) none))]
                []],
          CS.ret (CE.call 20 [] [CE.var 0, CE.var 3])] },
  { np := 2, n := 4,
      body :=
        [CS.ret
            (((CE.var 3).comp (Tg.v 3) (CI.rng1 (CE.var 0))
                  (some
                    (CE.cmp COp.eq (CE.bin BOp.mod (CE.bi Bi.int [CE.bin BOp.mul (CE.var 3) (CE.var 1)]) (CE.var 0))
                      (CE.int (Int.ofNat 1))))
                  [2, 3]).idx
              (CE.int (Int.ofNat 0)))] },
  { np := 3, n := 12,
      body :=
        [CS.par [3, 4, 5]
            [CE.bi Bi.list [CE.var 1], CE.bi Bi.len [CE.var 2],
              CE.call 23 [] [CE.var 0, (CE.var 2).idx (CE.int (Int.ofNat 1)).neg]],
          CS.asg (Tg.v 6)
            (CE.bin BOp.mul (CE.lst [CE.int (Int.ofNat 0)])
              (CE.bi Bi.max2
                [CE.bin BOp.add (CE.bin BOp.sub (CE.bi Bi.len [CE.var 1]) (CE.var 4)) (CE.int (Int.ofNat 1)),
                  CE.int (Int.ofNat 0)])),
          CS.for (Tg.v 7)
            (CI.rng3 (CE.bin BOp.sub (CE.bi Bi.len [CE.var 1]) (CE.var 4)) (CE.int (Int.ofNat 1)).neg
              (CE.int (Int.ofNat 1)).neg)
            [CS.asg (Tg.v 8)
                (CE.bin BOp.mod
                  (CE.bi Bi.int
                    [CE.bin BOp.mul
                        ((CE.var 3).idx (CE.bin BOp.sub (CE.bin BOp.add (CE.var 7) (CE.var 4)) (CE.int (Int.ofNat 1))))
                        (CE.var 5)])
                  (CE.var 0)),
              CS.if (CE.cmp COp.ne (CE.var 8) (CE.int (Int.ofNat 0)))
                [CS.set 6 (CE.var 7) (CE.var 8),
                  CS.asg (Tg.v 3)
                    (CE.bin BOp.add
                      (CE.bin BOp.add ((CE.var 3).sl none (some (CE.var 7)))
                        ((CE.bin BOp.mod
                              (CE.bi Bi.int [CE.bin BOp.sub (CE.var 10) (CE.bin BOp.mul (CE.var 8) (CE.var 11))])
                              (CE.var 0)).comp
                          (Tg.tup [10, 11]) (CI.zip false ((CE.var 3).sl (some (CE.var 7)) none) (CE.var 2)) none
                          [9, 10, 11]))
                      ((CE.var 3).sl (some (CE.bin BOp.add (CE.var 7) (CE.var 4))) none))]
                []],
          CS.ret (CE.tup [CE.call 20 [] [CE.var 0, CE.var 6], CE.call 20 [] [CE.var 0, CE.var 3]])] },
  { np := 3, n := 3, body := [CS.ret ((CE.call 24 [] [CE.var 0, CE.var 1, CE.var 2]).idx (CE.int (Int.ofNat 1)))] },
  { np := 2, n := 8,
      body :=
        [CS.asg (Tg.v 2) (CE.lst [CE.lst []]),
          CS.for (Tg.v 3) (CI.rng1 (CE.var 1))
            [CS.asg (Tg.v 4) (CE.lst []),
              CS.for (Tg.v 5) (CI.of (CE.var 2))
                [CS.asg (Tg.v 4)
                    (CE.bin BOp.add (CE.var 4)
                      ((CE.bin BOp.add (CE.var 5) (CE.lst [CE.var 7])).comp (Tg.v 7) (CI.rng1 (CE.var 0)) none
                        [6, 7]))],
              CS.asg (Tg.v 2) (CE.var 4)],
          CS.ret
            ((CE.bin BOp.add (CE.var 5) (CE.lst [CE.int (Int.ofNat 1)])).comp (Tg.v 5) (CI.of (CE.var 2)) none
              [6, 5])] },
  { np := 3, n := 8,
      body :=
        [CS.asg (Tg.tup [3, 4]) (CE.tup [CE.bi Bi.list [CE.var 1], CE.bi Bi.list [CE.var 2]]),
          CS.for (Tg.v 5)
            (CI.rng1
              (CE.bin BOp.add (CE.bin BOp.add (CE.bi Bi.len [CE.var 1]) (CE.bi Bi.len [CE.var 2]))
                (CE.int (Int.ofNat 1))))
            [CS.if (CE.cmp COp.eq (CE.var 4) (CE.lst []))
                [CS.ret
                    ((CE.cmp COp.ne (CE.var 3) (CE.lst [])).ite
                      ((CE.bin BOp.mod
                            (CE.bi Bi.int
                              [CE.bin BOp.mul (CE.var 7)
                                  (CE.call 23 [] [CE.var 0, (CE.var 3).idx (CE.int (Int.ofNat 1)).neg])])
                            (CE.var 0)).comp
                        (Tg.v 7) (CI.of (CE.var 3)) none [6, 7])
                      (CE.lst []))]
                [],
              CS.asg (Tg.tup [3, 4]) (CE.tup [CE.var 4, CE.call 25 [] [CE.var 0, CE.var 3, CE.var 4]])],
          CS.ret (CE.var 3)] },
  { np := 3, n := 7,
      body :=
        [CS.asg (Tg.v 3) (CE.bi Bi.list [CE.var 1]),
          CS.for (Tg.v 4) (CI.rng1 (CE.var 2))
            [CS.asg (Tg.v 5) (CE.lst []),
              CS.for (Tg.v 6) (CI.of (CE.var 3))
                [CS.asg (Tg.v 5)
                    (CE.bin BOp.add (CE.bin BOp.add (CE.var 5) (CE.lst [CE.var 6]))
                      (CE.bin BOp.mul (CE.lst [CE.int (Int.ofNat 0)])
                        (CE.bin BOp.sub (CE.var 0) (CE.int (Int.ofNat 1)))))],
              CS.asg (Tg.v 3) (CE.call 20 [] [CE.var 0, CE.var 5])],
          CS.ret (CE.var 3)] },
  { np := 2, n := 4,
      body :=
        [CS.asg (Tg.v 2) (CE.int (Int.ofNat 1)),
          CS.for (Tg.v 3) (CI.rng1 (CE.var 1)) [CS.asg (Tg.v 2) (CE.bi Bi.int [CE.bin BOp.mul (CE.var 2) (CE.var 0)])],
          CS.ret (CE.var 2)] },
  { np := 3, n := 3,
      body :=
        [CS.ret
            (CE.call 21 []
              [CE.var 0, CE.call 28 [] [CE.var 0, CE.lst [CE.int (Int.ofNat 0), CE.int (Int.ofNat 1)], CE.var 1],
                CE.call 28 [] [CE.var 0, CE.lst [CE.int (Int.ofNat 0), CE.int (Int.ofNat 1)], CE.var 2],
                (CE.int (Int.ofNat 1)).neg])] },
  { np := 2, n := 4,
      body :=
        [CS.asg (Tg.v 2) (CE.lst [CE.int (Int.ofNat 1)]),
          CS.for (Tg.v 3) (CI.rng1 (CE.var 1))
            [CS.asg (Tg.v 2) (CE.call 22 [] [CE.var 0, CE.var 2, CE.call 30 [] [CE.var 0, CE.var 1, CE.var 3]])],
          CS.ret (CE.var 2)] },
  { np := 2, n := 4,
      body :=
        [CS.asg (Tg.v 2) (CE.lst [CE.int (Int.ofNat 1)]),
          CS.for (Tg.v 3) (CI.rng2 (CE.int (Int.ofNat 1)) (CE.bin BOp.add (CE.var 1) (CE.int (Int.ofNat 1))))
            [CS.asg (Tg.v 2)
                (CE.call 22 [] [CE.var 0, CE.var 2, CE.call 30 [] [CE.var 0, CE.var 3, CE.int (Int.ofNat 0)]])],
          CS.ret (CE.var 2)] },
  { np := 2, n := 5,
      body :=
        [CS.par [2, 3] [CE.lst [CE.int (Int.ofNat 1)], CE.lst [CE.int (Int.ofNat 1)]],
          CS.for (Tg.v 4) (CI.of (CE.call 26 [] [CE.var 0, CE.var 1]))
            [CS.asg (Tg.v 2) (CE.call 22 [] [CE.var 0, CE.var 2, CE.var 4]),
              CS.asg (Tg.v 3)
                (CE.call 22 []
                  [CE.var 0, CE.var 3,
                    (CE.call 24 [] [CE.var 0, CE.var 4, CE.call 27 [] [CE.var 0, CE.var 3, CE.var 4]]).idx
                      (CE.int (Int.ofNat 0))])],
          CS.ret
            ((CE.cmp COp.eq (CE.call 13 [] [CE.var 0, CE.var 1]) (CE.var 2)).and
              (CE.cmp COp.eq (CE.call 14 [] [CE.var 0, CE.var 1]) (CE.var 3)))] },
  { np := 1, n := 7,
      body :=
        [CS.gen 1 (CE.call 18 [] [CE.var 0, CE.int (Int.ofNat 0)]), CS.asg (Tg.v 2) (CE.call 19 [] [CE.var 1]),
          CS.asg (Tg.v 3)
            ((CE.dict [DKey.int (Int.ofNat 3), DKey.int (Int.ofNat 5), DKey.int (Int.ofNat 7)]
                  [CE.int (Int.ofNat 3), CE.int (Int.ofNat 2), CE.int (Int.ofNat 2)]).idx
              (CE.var 2)),
          CS.for (Tg.v 4) (CI.rng1 (CE.bin BOp.add (CE.var 3) (CE.int (Int.ofNat 1))))
            [CS.par [5, 6] [CE.call 13 [] [CE.var 2, CE.var 4], CE.call 14 [1, 0] [CE.var 4, CE.var 2]],
              CS.if
                ((CE.cmp COp.ne (CE.bi Bi.repr [CE.var 5]) (CE.bi Bi.repr [CE.call 31 [] [CE.var 2, CE.var 4]])).or
                  ((CE.cmp COp.ne (CE.bi Bi.repr [CE.var 6]) (CE.bi Bi.repr [CE.call 32 [] [CE.var 2, CE.var 4]])).or
                    (CE.cmp COp.ne (CE.var 5) (CE.call 13 [1, 0] [CE.var 4, CE.var 2]))))
                [CS.ret (CE.bl false)] [],
              CS.if
                ((CE.cmp COp.ne (CE.bin BOp.sub (CE.bi Bi.len [CE.var 5]) (CE.int (Int.ofNat 1)))
                      (CE.bin BOp.mul (CE.var 4) (CE.call 29 [] [CE.var 2, CE.var 4]))).or
                  (CE.cmp COp.ne (CE.call 25 [] [CE.var 2, CE.var 5, CE.var 6]) (CE.lst [])))
                [CS.ret (CE.bl false)] [],
              CS.if
                ((CE.cmp COp.gt (CE.var 4) (CE.int (Int.ofNat 0))).and
                  (CE.cmp COp.ne
                    (CE.call 25 []
                      [CE.var 2, CE.var 6, CE.call 14 [] [CE.var 2, CE.bin BOp.sub (CE.var 4) (CE.int (Int.ofNat 1))]])
                    (CE.lst [])))
                [CS.ret (CE.bl false)] [],
              CS.if
                ((CE.cmp COp.lt (CE.var 4) (CE.var 3)).and
                  ((CE.cmp COp.ne (CE.var 5) (CE.lst [])).and
                    (CE.cmp COp.ne
                      (CE.call 25 []
                        [CE.var 2, CE.call 13 [] [CE.var 2, CE.bin BOp.add (CE.var 4) (CE.int (Int.ofNat 1))],
                          CE.var 5])
                      (CE.lst []))))
                [CS.ret (CE.bl false)] [],
              CS.app 5 (CE.int (Int.ofNat 1)), CS.app 6 (CE.int (Int.ofNat 1)),
              CS.if
                ((CE.cmp COp.ne (CE.call 13 [] [CE.var 2, CE.var 4]) (CE.call 31 [] [CE.var 2, CE.var 4])).or
                  (CE.cmp COp.ne (CE.call 14 [] [CE.var 2, CE.var 4]) (CE.call 32 [] [CE.var 2, CE.var 4])))
                [CS.ret (CE.bl false)] []],
          CS.if
            (CE.call 33 []
                [CE.var 2,
                  CE.call 16 []
                    [CE.var 1,
                      CE.bin BOp.add (CE.int (Int.ofNat 2))
                        (CE.bi Bi.int [CE.cmp COp.eq (CE.var 2) (CE.int (Int.ofNat 3))])]]).not
            [CS.ret (CE.bl false)] [],
          CS.ret
            ((CE.cmp COp.eq (CE.call 13 [] [CE.int (Int.ofNat 3), CE.int (Int.ofNat 1)])
                  (CE.lst [CE.int (Int.ofNat 0), CE.int (Int.ofNat 2), CE.int (Int.ofNat 0), CE.int (Int.ofNat 1)])).and
              ((CE.cmp COp.eq (CE.call 14 [] [CE.int (Int.ofNat 3), CE.int (Int.ofNat 1)])
                    (CE.lst
                      [CE.int (Int.ofNat 0), CE.int (Int.ofNat 2), CE.int (Int.ofNat 0), CE.int (Int.ofNat 1)])).and
                ((CE.cmp COp.eq (CE.call 13 [] [CE.int (Int.ofNat 7), CE.int (Int.ofNat 0)])
                      (CE.lst [CE.int (Int.ofNat 1)])).and
                  (CE.cmp COp.eq (CE.call 14 [] [CE.int (Int.ofNat 5), CE.int (Int.ofNat 0)])
                    (CE.lst [CE.int (Int.ofNat 1)])))))] }]
def tb10 (i : Nat) : Option CFun := F10[i]?
theorem F10_ok : ds10.map (fun d => compD (fidOf ds10 0) gl10 isBuiltin d) = F10.map some := by rfl
end Cor

set_option maxHeartbeats 0
/-! The law's own suite, draw by draw. -/
namespace Cor
open PySem L2
abbrev cf10 : CallF := evC tb10 13
theorem b8 : tb10 8 = some fMul := rfl
theorem b4 : tb10 4 = some fTrim := rfl
theorem evC_of {tb : Nat → Option CFun} {f : Nat} {fn : CFun} (h : tb f = some fn) (n : Nat) (ds : List D) (g : Option (List Int)) : evC tb (n + 1) f ds g = run (evC tb n) fn ds g := by
  simp only [evC, h]
theorem mulC {tb : Nat → Option CFun} (h4 : tb 4 = some fTrim) (h8 : tb 8 = some fMul) (n : Nat) (p : Int) (a b : List Int) (hc : (decide (0 < p) && (a.all isSmall && Nat.blt (a.length + b.length) 999999)) = true) : evC tb (n + 2) 8 [.int p, .ints 0 a, .ints 0 b] none = some (.ints 1 (mulP p a b), none) := by
  obtain ⟨c1, c2⟩ := b2 hc
  obtain ⟨c3, c4⟩ := b2 c2
  have hl : a.length + b.length < 999999 := Nat.le_of_ble_eq_true c4
  rw [evC_of h8]
  refine run_mul _ p a b c3 hl fun l h => ?_
  rw [evC_of h4]
  exact run_trim _ p l (of_decide_eq_true c1) h
/-- products are looked up -/
def ov10 : Over := fun n f ds g => match n, f, ds, g with
  | _ + 1, 8, [.int p, .ints 0 a, .ints 0 b], none => if decide (0 < p) && (a.all isSmall && Nat.blt (a.length + b.length) 999999) then some (.ints 1 (mulP p a b), none) else none
  | _, _, _, _ => none
theorem ov10_ok (n f : Nat) (ds : List D) (g : Option (List Int)) (r : D × Option (List Int)) (h : ov10 n f ds g = some r) : evC tb10 (n + 1) f ds g = some r := by
  unfold ov10 at h
  split at h
  · rename_i n p a b
    split at h
    · rename_i hc
      cases h
      exact mulC b4 b8 n p a b hc
    · cases h
  · cases h
def cfT : CallF := evV tb10 ov10 13
theorem cfT_eq : cfT = cf10 := evV_eq ov10_ok 13
def body34 : List CS := match F10[34]? with
  | some f => f.body
  | none => []
def loop10 : List CS := (body34.drop 2).take 2
def seen (o : Option (Fl × Stt)) : Option (List Int) × (Option D × Option D) := match o with
  | some (.nx, S) => (S.g, slot 1 S, slot 2 S)
  | _ => (none, none, none)
abbrev st10 (l g : List Int) (p : Int) : Stt := ⟨[some (.scr l), some .gen, some (.int p), none, none, none, none], 3, [], [], some g, true⟩
theorem loop3 (l g : List Int) : seen (evSs (evN cfT 48) loop10 (st10 l g 3)) = (some g, some .gen, some (.int 3)) := by kernel_rfl
theorem loop5 (l g : List Int) : seen (evSs (evN cfT 48) loop10 (st10 l g 5)) = (some g, some .gen, some (.int 5)) := by kernel_rfl
theorem loop7 (l g : List Int) : seen (evSs (evN cfT 48) loop10 (st10 l g 7)) = (some g, some .gen, some (.int 7)) := by kernel_rfl
end Cor

set_option maxHeartbeats 0
/-! The law tells True at every script. -/
namespace Cor
open PySem L2
theorem evC_at {tb : Nat → Option CFun} {fn : CFun} {i n : Nat} (h : tb i = some fn) (ds : List D) (g : Option (List Int)) : evC tb (n + 1) i ds g = run (evC tb n) fn ds g := by
  simp only [evC, h]
theorem ss_app {r : Ev} : ∀ {xs ys : List CS} {S S1 : Stt}, evSs r xs S = some (.nx, S1) → evSs r (xs ++ ys) S = evSs r ys S1
  | [], ys, S, S1, h => by cases h; rfl
  | x :: xs, ys, S, S1, h => by
    unfold evSs at h
    split at h
    · rename_i S2 e
      rw [List.cons_append, ss_nx e]
      exact ss_app h
    · rename_i f S2 hn e
      cases h
      exact absurd rfl hn
    · cases h
theorem small_of_lt {i : Int} (h1 : 0 ≤ i) (h2 : i < 1000) : isSmall i = true := by
  unfold isSmall
  rw [Bool.and_eq_true]
  constructor <;> apply decide_eq_true <;> omega
theorem rand10 (n : Nat) (a b c k : Int) (hk : k = 2 ∨ k = 3) (hc0 : 0 ≤ c) (hc : c < 100) : ∃ v a' c', 0 ≤ v ∧ v < k ∧ (c' = c ∨ c' = c + 1) ∧ evC tb10 (n + 2) 16 [.gen, .int k] (some [a, b, c]) = some (.int v, some [a', b, c']) := by
  have h0 : ∀ b i, isSmall i = true → ∃ v, evC tb10 (n + 1) 15 [.int b, .int i] none = some (.int v, none) := fun b i hi => by
    obtain ⟨v, hv⟩ := run_hash (evC tb10 n) b i hi
    exact ⟨v, (evC_at (fn := fHash) rfl _ _).trans hv⟩
  have := run_random (evC tb10 (n + 1)) 15 h0 a b c k (by omega) (by rcases hk with rfl | rfl <;> decide +kernel) (by rcases hk with rfl | rfl <;> decide +kernel) (small_of_lt (by omega) (by omega))
  obtain ⟨v, a', c', h1, h2, h3, h4⟩ := this
  exact ⟨v, a', c', h1, h2, h3, (evC_at (fn := fRandom 15) rfl _ _).trans h4⟩
theorem gen10 (l : List Int) : ∃ a b, cf10 18 [.scr l, .int 0] none = some (.ints 1 [a, b, 0], none) := by
  obtain ⟨s, hs⟩ := run_cell (evC tb10 11) l 0 (by decide)
  obtain ⟨a, b, h⟩ := run_gen (evC tb10 12) 17 l 0 (by decide) ⟨s, (evC_at (fn := fCell) rfl _ _).trans hs⟩
  exact ⟨a, b, (evC_at (fn := fGen 17) rfl _ _).trans h⟩
theorem prime10 (a b : Int) : ∃ p a' c', (p = 3 ∨ p = 5 ∨ p = 7) ∧ (c' = 0 ∨ c' = 1) ∧ cf10 19 [.gen] (some [a, b, 0]) = some (.int p, some [a', b, c']) := by
  obtain ⟨v, a', c', h1, h2, h3, h4⟩ := rand10 10 a b 0 3 (.inr rfl) (by decide) (by decide)
  obtain ⟨p, hp, h⟩ := run_prime (evC tb10 12) 16 [a, b, 0] [a', b, c'] v h1 h2 h4
  exact ⟨p, a', c', hp, by omega, (evC_at (fn := fPrime 16) rfl _ _).trans h⟩
def isT : Option (D × Option (List Int)) → Bool
  | some (.bl true, none) => true
  | _ => false
theorem isT_ok {o : Option (D × Option (List Int))} (h : isT o = true) : o = some (.bl true, none) := by
  unfold isT at h
  split at h
  · rfl
  · cases h
theorem listed (p r : Int) (h : (p = 3 ∧ 0 ≤ r ∧ r < 3) ∨ ((p = 5 ∨ p = 7) ∧ 0 ≤ r ∧ r < 2)) : cf10 33 [.int p, .int r] none = some (.bl true, none) := by
  apply isT_ok
  have hr : (p = 3 ∧ r = 0) ∨ (p = 3 ∧ r = 1) ∨ (p = 3 ∧ r = 2) ∨ (p = 5 ∧ r = 0) ∨ (p = 5 ∧ r = 1) ∨ (p = 7 ∧ r = 0) ∨ (p = 7 ∧ r = 1) := by omega
  rcases hr with ⟨rfl, rfl⟩ | ⟨rfl, rfl⟩ | ⟨rfl, rfl⟩ | ⟨rfl, rfl⟩ | ⟨rfl, rfl⟩ | ⟨rfl, rfl⟩ | ⟨rfl, rfl⟩ <;> kernel_rfl
def sFin : CS := match body34.getLast? with
  | some s => s
  | none => .pass
def toldT : Option (Fl × Stt) → Bool
  | some (.rt (.bl true), _) => true
  | _ => false
theorem fin10 (S : Stt) : toldT ((evN cf10 48).s sFin S) = true := by kernel_rfl
theorem toldT_ok {o : Option (Fl × Stt)} (h : toldT o = true) : ∃ S, o = some (.rt (.bl true), S) := by
  unfold toldT at h
  split at h
  · exact ⟨_, rfl⟩
  · cases h
def sIf10 : CS := .if (.not (.call 33 [] [.var 2, .call 16 [] [.var 1, .bin .add (.int 2) (.bi .int [.cmp .eq (.var 2) (.int 3)])]])) [.ret (.bl false)] []
theorem body_eq : body34 = .gen 1 (.call 18 [] [.var 0, .int 0]) :: .asg (.v 2) (.call 19 [] [.var 1]) :: (loop10 ++ [sIf10, sFin]) := by rfl
theorem if10 (S : Stt) (p k r : Int) (t : Bool) (g g2 : List Int) (me : opCmp .eq (.int p) (.int 3) = some t) (hk : k = (if t then 3 else 2)) (h1 : slot 1 S = some .gen) (h2 : slot 2 S = some (.int p)) (hg : S.g = some g) (h16 : cf10 16 [.gen, .int k] (some g) = some (.int r, some g2)) (h33 : cf10 33 [.int p, .int r] none = some (.bl true, none)) :
    ∃ S', (evN cf10 48).s sIf10 S = some (.nx, S') := by
  have ma : ∀ x y S, opBin .add (.int x) (.int y) S = some (.int (x + y), S) := fun _ _ _ => rfl
  generalize hcf : cf10 = cf at *
  cases t with
  | true =>
    have h16' : cf 16 [.gen, .int 3] (some g) = some (.int r, some g2) := by rw [hk] at h16; exact h16
    simp [sIf10, evN, step, stepS, stepE, evEs, evSs, h1, h2, ma, me, hg, opBi, retag, retagL, isGenL, permute, back, tags, truth, h16', h33]
  | false =>
    have h16' : cf 16 [.gen, .int 2] (some g) = some (.int r, some g2) := by rw [hk] at h16; exact h16
    simp [sIf10, evN, step, stepS, stepE, evEs, evSs, h1, h2, ma, me, hg, opBi, retag, retagL, isGenL, permute, back, tags, truth, h16', h33]
theorem law10 (l : List Int) : evC tb10 14 34 [.scr l] none = some (.bl true, none) := by
  obtain ⟨a, b, hgen⟩ := gen10 l
  obtain ⟨p, a', c', hp, hc', hprime⟩ := prime10 a b
  have s1 : (evN cf10 48).s (.gen 1 (.call 18 [] [.var 0, .int 0])) ⟨[some (.scr l), none, none, none, none, none, none], 1, [], [], none, true⟩ = some (.nx, ⟨[some (.scr l), some .gen, none, none, none, none, none], 2, [], [], some [a, b, 0], true⟩) := by
    generalize hcf : cf10 = cf at *
    simp [evN, step, stepS, stepE, evEs, slot, retag, retagL, isGenL, permute, back, tags, hgen, mayT, wipeEnv, wipeO, wipeT, ungen]
  have s2 : (evN cf10 48).s (.asg (.v 2) (.call 19 [] [.var 1])) ⟨[some (.scr l), some .gen, none, none, none, none, none], 2, [], [], some [a, b, 0], true⟩ = some (.nx, st10 l [a', b, c'] p) := by
    generalize hcf : cf10 = cf at *
    simp [evN, step, stepS, stepE, evEs, slot, retag, retagL, isGenL, permute, back, tags, hprime, asgT, asgV, noGen]
  have sl : seen (evSs (evN cf10 48) loop10 (st10 l [a', b, c'] p)) = (some [a', b, c'], some .gen, some (.int p)) := by
    rw [← cfT_eq]
    rcases hp with rfl | rfl | rfl
    · exact loop3 l _
    · exact loop5 l _
    · exact loop7 l _
  obtain ⟨S4, e4, hg4, h14, h24⟩ : ∃ S4, evSs (evN cf10 48) loop10 (st10 l [a', b, c'] p) = some (.nx, S4) ∧ S4.g = some [a', b, c'] ∧ slot 1 S4 = some .gen ∧ slot 2 S4 = some (.int p) := by
    generalize evSs (evN cf10 48) loop10 (st10 l [a', b, c'] p) = o at sl ⊢
    unfold seen at sl
    split at sl
    · rename_i S4
      rw [Prod.mk.injEq, Prod.mk.injEq] at sl
      exact ⟨S4, rfl, sl.1, sl.2.1, sl.2.2⟩
    · rw [Prod.mk.injEq] at sl
      cases sl.1
  obtain ⟨S5, e5⟩ : ∃ S5, (evN cf10 48).s sIf10 S4 = some (.nx, S5) := by
    rcases hp with rfl | rfl | rfl
    · obtain ⟨v, a2, c2, h1, h2, _, h16⟩ := rand10 11 a' b c' 3 (.inr rfl) (by omega) (by omega)
      exact if10 S4 3 3 v true _ _ rfl rfl h14 h24 hg4 h16 (listed 3 v (.inl ⟨rfl, h1, h2⟩))
    · obtain ⟨v, a2, c2, h1, h2, _, h16⟩ := rand10 11 a' b c' 2 (.inl rfl) (by omega) (by omega)
      exact if10 S4 5 2 v false _ _ rfl rfl h14 h24 hg4 h16 (listed 5 v (.inr ⟨.inl rfl, h1, h2⟩))
    · obtain ⟨v, a2, c2, h1, h2, _, h16⟩ := rand10 11 a' b c' 2 (.inl rfl) (by omega) (by omega)
      exact if10 S4 7 2 v false _ _ rfl rfl h14 h24 hg4 h16 (listed 7 v (.inr ⟨.inr rfl, h1, h2⟩))
  obtain ⟨S6, e6⟩ := toldT_ok (fin10 S5)
  rw [evC_at (fn := ⟨1, 7, body34⟩) rfl]
  refine run_rt (d := .bl true) (S := S6) rfl ?_
  show evSs (evN cf10 48) body34 ⟨[some (.scr l), none, none, none, none, none, none], 1, [], [], none, true⟩ = _
  rw [body_eq]
  exact (ss_nx s1).trans ((ss_nx s2).trans ((ss_app e4).trans ((ss_nx e5).trans (ss_rt e6))))
end Cor

set_option maxHeartbeats 0
/-! The head, the law. -/
namespace Cor
open PySem L2
abbrev R10 : PySem.W.OpenRow := PySem.W.OpenLaw.row PySem.Challenge.rw_modulusfields_k10_whole_products_of_all
def fns10 : List He.DefD := ds10.map toDef
def free10 : List Str := ["len", "int", "list", "tuple", "sum", "repr", "sorted", "max", "min", "range", "enumerate", "zip", "isinstance", "bool"]
def fa10 : List He.Fa := (ds10.map fun d => He.Fa.glo d.name) ++ (free10.map fun x => He.Fa.free x) ++ [He.Fa.glo (Str.ofString "PRIMES"), He.Fa.glo (Str.ofString "MOST_PRODUCTS")]
def ex10 (K : PySem.W.Frag) : Bool := He.tupB K (Str.ofString "PRIMES") [.int 3, .int 5, .int 7] && gdB K (He.ga K (Str.ofString "MOST_PRODUCTS")) [(3, 3), (5, 2), (7, 2)]
abbrev hk10 : PySem.W.Hook := hookC 4 fa10 fns10 ex10
def loose10 : List Str := (P10.main.scope.names.map (·.1)).filter fun x => !(x == Str.ofString "law")
theorem run10 (w : World) : HandSHeadRun.RunEq R10 (PySem.W.view R10.prog [44]) hk10 (obsC 4 fa10 fns10 ex10) 3000 loose10 w := PySem.W.byRow2 "special-get-raises" (P := fun w => HandSHeadRun.RunEq R10 (PySem.W.view R10.prog [44]) hk10 (obsC 4 fa10 fns10 ex10) 3000 loose10 w) (fun w os => by kernel_rfl) (fun w os => by kernel_rfl) w
theorem scopes10 : ds10.all scopeB = true := by kernel_rfl
theorem len10 : fns10.length = ds10.length := by rfl
theorem facts10 {P : Program} {w : World} {K : PySem.W.Frag} {h : Heap} {mg : Str → Option Value} {f : Addr} (X : K.In h) (G : h.Ns mainGlobals mg) (hfa : mg (Str.ofString "law") = some (.ref f)) (hex : ex10 K = true) (c : He.SaysD fa10 fns10 K) :
    ∃ fd : FuncData, (∀ (s : Shared) (us : List Value), us.length = [Str.ofString "_law_script"].length → BindsTo s fd ⟨us, []⟩ ([Str.ofString "_law_script"].zip us)) ∧
      ∀ base : Heap, K.In base → base.Ns mainGlobals mg → FnG P w K mg base 14 f fd [Str.ofString "_law_script"] (spC K (evC tb10 14) 34) := by
  have fact : ∀ x ∈ fa10, x.ok K = true := fun x m => by
    obtain ⟨i, hi⟩ := List.getElem?_of_mem m
    exact c.fact i hi
  have hglo : ∀ d ∈ ds10, (He.Fa.glo d.name).ok K = true := fun d m => fact _ (by
    unfold fa10
    exact List.mem_append_left _ (List.mem_append_left _ (List.mem_map.mpr ⟨d, m, rfl⟩)))
  have hdef : ∀ (i : Nat) (d : TDef), ds10[i]? = some d → ∃ fd, FunD K d.name d.name d.args d.body d.scope [] [] (He.ga K d.name) fd := fun i d hd => by
    have : fns10[i]? = some (toDef d) := by unfold fns10; rw [List.getElem?_map, hd]; rfl
    exact c.def_ i this
  have D := defIs X G F10_ok scopes10 hglo hdef
  obtain ⟨e1, e2⟩ := b2 hex
  have hP : mg (Str.ofString "PRIMES") = some (.ref (He.ga K (Str.ofString "PRIMES"))) := He.glo_ok X G (fact _ (by unfold fa10; simp))
  have hM : mg (Str.ofString "MOST_PRODUCTS") = some (.ref (He.ga K (Str.ofString "MOST_PRODUCTS"))) := He.glo_ok X G (fact _ (by unfold fa10; simp))
  have gls : ∀ x y, gl10 x = some y → ∃ (u : Value) (v : V), mg x = some u ∧ RelV v u ∧ match y with
      | .int i => v = .int i
      | .gdict _ kvs => ∃ a, v = .ref a ∧ GDict K a kvs
      | .gtup _ l => ∃ a, v = .ref a ∧ ∀ H, SqT K H a (l.map V.int)
      | _ => False := fun x y hy => by
    unfold gl10 at hy
    split at hy
    · rename_i z
      cases hy
      rw [eq_of_beq z]
      exact ⟨_, .ref _, hP, rfl, _, rfl, fun H => He.tupB_ok e1 H⟩
    · split at hy
      · rename_i z
        cases hy
        rw [eq_of_beq z]
        exact ⟨_, .ref _, hM, rfl, _, rfl, gdB_ok e2⟩
      · cases hy
  have hfree : ∀ x, isBuiltin x = true → mg x = none := fun x hx => by
    obtain ⟨n, hn, e⟩ := List.any_eq_true.mp hx
    rw [eq_of_beq e]
    refine He.free_ok X G (fact _ ?_)
    unfold fa10
    refine List.mem_append_left _ (List.mem_append_right _ (List.mem_map.mpr ⟨Str.ofString n, ?_, rfl⟩))
    have : free10 = ["len", "int", "list", "tuple", "sum", "repr", "sorted", "max", "min", "range", "enumerate", "zip", "isinstance", "bool"].map Str.ofString := rfl
    rw [this]
    exact List.mem_map.mpr ⟨n, hn, rfl⟩
  have hid : fidOf ds10 0 (Str.ofString "law") = some (34, [Str.ofString "_law_script"]) := by kernel_rfl
  obtain ⟨f1, fd1, qual, params, body, scope, N, fn, m, q1, FD, S, hp, hps, t1, t2, t3, t4⟩ := (D _ _ _ hid).ex
  have ef : f1 = f := by
    rw [q1] at hfa
    cases hfa; rfl
  subst ef
  exact ⟨fd1, (binds_of FD hp hps).1, fun base _ _ => fnG_succ (P := P) (w := w) (mg := mg) (base := base) FD S t1 t2 t3 t4 (modIn (tb := tb10) D gls hfree 13)⟩
end Cor
open PySem PySem.W PySem.Calls PyProof.Rows
theorem PySem.Challenge.cw_modulusfields_k10_whole_products_of_all_holds : PySem.Challenge.rw_modulusfields_k10_whole_products_of_all.Holds := by
  w_on; o_law
  refine HandSHeadRun.head_any (r := Cor.R10) (q := view Cor.R10.prog [44]) (H := Cor.hk10) (ob := Cor.obsC 4 Cor.fa10 Cor.fns10 Cor.ex10) (M := 3000) (loose := Cor.loose10) (d := HandSHeadRun.topDef Cor.R10.prog 44) (kwd := [])
    (Cor.obsC_eq 4 Cor.fa10 Cor.fns10 Cor.ex10) (by kernel_rfl) (fun s => by kernel_rfl) Cor.run10 (by kernel_rfl) (by kernel_rfl) (by kernel_rfl) (by rfl) (by first | assumption | decide +kernel) (by decide +kernel) ⟨rfl, rfl, rfl, rfl, rfl, by decide +kernel⟩ ?hw ?hc
  case hw => w_witness2
  case hc =>
    refine Cor.walk_cor (l := PySem.Challenge.rw_modulusfields_k10_whole_products_of_all) (n := 63) (k := 14) (i := 34) (cf := Cor.evC Cor.tb10 14) (x := Str.ofString "_law_script") rfl (by decide) (by kernel_rfl) ⟨rfl, by decide, by decide⟩ (fun ns => Cor.law10 ns) ?F
    intro w mg fa h Y G hmg0
    obtain ⟨K, KX, hex, c⟩ := Y
    have hmg : mg (Str.ofString "law") = some (.ref fa) := by
      have e : (HandSHeadRun.topDef Cor.R10.prog 44).name = Str.ofString "law" := by kernel_rfl
      rw [← e]
      exact hmg0
    obtain ⟨fd, hb, hF⟩ := Cor.facts10 (P := PySem.Challenge.rw_modulusfields_k10_whole_products_of_all.prog) (w := w) KX G hmg hex c
    exact ⟨K, fd, KX, hb, hF⟩

