import PyProof.Rows.All
import Wide.All
import OpenK.AllK
import Wide.FinOn
import HandS.ForMost
import HandS.Exc
import HandS.ExcOwn
import HandS.Flow
import HandS.Wide
import HandS.WideBits
import HandS.IsInst
import HandS.SortInts
import HandS.Deep
import HandS.Style
import HandS.TupAny
import HandS.Walk
import HandS.DictComp
import HandS.Zip
import HandS.Conv
import HandS.TryOnly
import HandS.Small
import HandS.Lambda
import HandS.Nested
import HandS.EndTab
import HandS.EndOwn
import KE.DatumIndex
import KE.KNestM
import PySem.Challenge.RW_whichwidths_k85_whole_signed_division
set_option maxHeartbeats 200000
set_option Elab.async false
set_option linter.all false
set_option maxRecDepth 100000
/-! Pv: a pure evaluator for the part of Python that the laws and the program are written in. Values are trees; a list or dict that a single local name holds may be changed. -/
namespace Pv
open PySem

abbrev D := PyData

inductive Bop where
  | add | sub | mul | fdiv | mod | pow | shl | shr | band | bor | bxor
  deriving DecidableEq
inductive Cop where
  | eq | ne | lt | le | gt | ge | is | nis | isin | nin
  deriving DecidableEq
inductive Bi where
  | len | abs | min | max | sum | all | any | tuple | list | int | sorted | repr
  deriving DecidableEq
inductive Ty where
  | int | bool | str | list | tuple | dict | err (i : Nat)
  deriving DecidableEq
inductive Tg where
  | nm (i : Nat) | tup (l : List Nat)
  deriving DecidableEq

/-- the fields of the draws -/
inductive Dk where
  | rest | turn | cells
  deriving DecidableEq
mutual
inductive Ex where
  | v (i : Nat) | c (d : D) | g (i : Nat) | fn (i : Nat)
  | bin (o : Bop) (a b : Ex) | neg (a : Ex) | no (a : Ex)
  | cmp (o : Cop) (a b : Ex) | chain (o p : Cop) (a b c : Ex)
  | and (a b : Ex) | or (a b : Ex) | ite (t a b : Ex)
  | call (f : Nat) (l : List Ex) | kcall (f : Nat) (l k : List Ex) (pm : List Nat)
  | bi (o : Bi) (l : List Ex) | isi (a : Ex) (l : List Ty)
  | ix (a b : Ex) | sl (a lo hi : Ex) | rev (a : Ex)
  | tup (l : List Ex) | lst (l : List Ex) | dct (k l : List Ex)
  | lc (e : Ex) (t : Tg) (it : It) (ifs : List Ex) (own : List Nat)
  | pop (i : Nat)
  | dk (i : Nat) (k : Dk) | dle (i : Nat) | dpop (i : Nat) | dmk (l : Nat) (e : Ex)
  /-- a call of what a name holds; a call of a def, the last argument a lambda: its text's place, the slots it captures -/
  | callv (i : Nat) (l : List Ex) | lcall (f : Nat) (l : List Ex) (m : Nat) (caps : List Nat)
/-- what a loop walks -/
inductive It where
  | seq (a : Ex) | rng1 (a : Ex) | rng2 (a b : Ex) | enum (a : Ex) | zip (a b : Ex)
end

inductive Sm where
  | asg (t : Tg) (e : Ex) | par (l : List Nat) (k : List Ex)
  | setix (i : Nat) (k e : Ex) | app (i : Nat) (e : Ex) | dset (i : Nat) (k : Dk) (e : Ex)
  | expr (e : Ex)
  | ifs (t : Ex) (a b : List Sm) | loop (t : Ex) (b : List Sm) | each (t : Tg) (it : It) (b : List Sm)
  | ret (e : Ex) | raise (c : Nat) (msg : Str)

/-- the state of the draws -/
structure Dr where
  large : List Int
  rest : Int
  cells : List Int
  turn : Int

/-- clo: a lambda, its text's place and what it captured -/
inductive SV where
  | d (x : D) | drw | fn (f : Nat) | clo (m : Nat) (cs : List D)

inductive Slot where
  | un | va (x : SV) | ow (x : D)

structure S where
  env : List Slot
  dr : Option Dr

/-- an error of an own class, by its place in the table of errors -/
structure Xc where
  cls : Nat

inductive Out (A : Type) where
  | ok (a : A) (s : S) | exc (x : Xc) (s : S) | bad

inductive Ro where
  | ok (a : SV) (fr : Bool) (dr : Option Dr) | exc (x : Xc) (dr : Option Dr) | bad

inductive Fl where
  | nx | rt (a : SV) (fr : Bool)

def Out.bind {A B : Type} (o : Out A) (f : A → S → Out B) : Out B := match o with
  | .ok a s => f a s
  | .exc x s => .exc x s
  | .bad => .bad

abbrev CallF := Nat → List SV → Option Dr → Ro

/-! ### values -/
def mulOk (i j : Int) : Bool := decide (i.natAbs < 2 ^ 64) || decide (j.natAbs < 2 ^ 64) || decide (i.natAbs.log2 + j.natAbs.log2 < 1000000)
def divOk (j : Int) : Bool := decide (j ≠ 0) && (decide (j.natAbs < 1073741824) || (decide (0 < j) && decide (j.natAbs.log2 < 9000)))
def expOk (i j : Int) : Bool := decide (0 ≤ j) && decide (j ≤ 1000000) && decide (i.natAbs < 2 ^ 64)
def shlOk (i j : Int) : Bool := decide (0 ≤ j) && decide ((Builtin.Int.intBits i : Int) + j ≤ 2 ^ 27)

/-- the value, and whether it is a new list -/
def binop : Bop → D → D → Option (D × Bool)
  | .add, .int i, .int j => some (.int (i + j), false)
  | .add, .str x, .str y => if x.length + y.length ≤ sizeLine then some (.str (x ++ y), false) else none
  | .add, .list x, .list y => if x.length + y.length ≤ sizeLine then some (.list (x ++ y), true) else none
  | .add, .tuple x, .tuple y => if x.length + y.length ≤ sizeLine then some (.tuple (x ++ y), false) else none
  | .sub, .int i, .int j => some (.int (i - j), false)
  | .mul, .int i, .int j => if mulOk i j then some (.int (i * j), false) else none
  | .mul, .list x, .int k => if decide (-(2 ^ 63) ≤ k) && decide (k < 2 ^ 63) && decide (x.length * k.toNat ≤ sizeLine) then some (.list (List.replicate k.toNat x).flatten, true) else none
  | .fdiv, .int i, .int j => if divOk j then some (.int (i.fdiv j), false) else none
  | .mod, .int i, .int j => if j ≠ 0 then some (.int (i.fmod j), false) else none
  | .pow, .int i, .int j => if expOk i j then some (.int (i ^ j.toNat), false) else none
  | .shl, .int i, .int j => if shlOk i j then some (.int (i * 2 ^ j.toNat), false) else none
  | .shr, .int i, .int j => if 0 ≤ j then some (.int (i / 2 ^ j.toNat), false) else none
  | .band, .int i, .int j => some (.int (Builtin.bitAnd i j), false)
  | .bor, .int i, .int j => some (.int (Builtin.bitOr i j), false)
  | .bxor, .int i, .int j => some (.int (Builtin.bitXor i j), false)
  | _, _, _ => none

def deq : D → D → Option Bool
  | .int i, .int j => some (i == j)
  | .str x, .str y => some (decide (x = y))
  | a, b => if SeqAt.shaped a && SeqAt.shaped b then some (PyData.eqv a b) else none

def seqOf : D → Option (List D)
  | .list l => some l
  | .tuple l => some l
  | _ => none

def cmpop : Cop → D → D → Option Bool
  | .eq, a, b => deq a b
  | .ne, a, b => (deq a b).map (!·)
  | .lt, .int i, .int j => some (decide (i < j))
  | .le, .int i, .int j => some (decide (i ≤ j))
  | .gt, .int i, .int j => some (decide (j < i))
  | .ge, .int i, .int j => some (decide (j ≤ i))
  | .is, a, .none => some (match a with | .none => true | _ => false)
  | .is, .bool a, .bool b => some (decide (a = b))
  | .nis, a, .none => some (match a with | .none => false | _ => true)
  | .nis, .bool a, .bool b => some (!decide (a = b))
  | .isin, a, b => (seqOf b).bind fun l => if SeqAt.shaped a && SeqAt.shaped b then some (l.any fun z => PyData.eqv z a) else none
  | .nin, a, b => (seqOf b).bind fun l => if SeqAt.shaped a && SeqAt.shaped b then some (!l.any fun z => PyData.eqv z a) else none
  | _, _, _ => none

def truthy : D → Option Bool
  | .none => some false
  | .bool b => some b
  | .int i => some (i != 0)
  | .list l => some (!l.isEmpty)
  | .tuple l => some (!l.isEmpty)
  | _ => none

def asInt : D → Option Int
  | .int i => some i
  | _ => none
def asInts : List D → Option (List Int)
  | [] => some []
  | .int i :: r => (asInts r).map (i :: ·)
  | _ => none
def asBools : List D → Option (List Bool)
  | [] => some []
  | .bool b :: r => (asBools r).map (b :: ·)
  | _ => none

def maxI : List Int → Int
  | [] => 0
  | [a] => a
  | a :: r => max a (maxI r)
def minI : List Int → Int
  | [] => 0
  | [a] => a
  | a :: r => min a (minI r)

def insI (a : Int) : List Int → List Int
  | [] => [a]
  | b :: r => if a ≤ b then a :: b :: r else b :: insI a r
def sortI : List Int → List Int
  | [] => []
  | a :: r => insI a (sortI r)

def builtin : Bi → List D → Option (D × Bool)
  | .len, [.list l] => some (.int l.length, false)
  | .len, [.tuple l] => some (.int l.length, false)
  | .abs, [.int i] => some (.int (if i < 0 then -i else i), false)
  | .min, [.int i, .int j] => some (.int (if j < i then j else i), false)
  | .max, [.int i, .int j] => some (.int (if j > i then j else i), false)
  | .min, [.list l] => (asInts l).bind fun ns => if ns = [] then none else some (.int (minI ns), false)
  | .max, [.list l] => (asInts l).bind fun ns => if ns = [] then none else some (.int (maxI ns), false)
  | .sum, [.list l] => (asInts l).map fun ns => (.int ns.sum, false)
  | .all, [.list l] => (asBools l).map fun bs => (.bool (bs.all id), false)
  | .any, [.list l] => (asBools l).map fun bs => (.bool (bs.any id), false)
  | .tuple, [.list l] => some (.tuple l, false)
  | .tuple, [.tuple l] => some (.tuple l, false)
  | .list, [.list l] => some (.list l, true)
  | .list, [.tuple l] => some (.list l, true)
  | .int, [.int i] => some (.int i, false)
  | .int, [.bool b] => some (.int (if b then 1 else 0), false)
  | .sorted, [.list l] => (asInts l).map fun ns => (.list ((sortI ns).map .int), true)
  | .repr, [d] => if d.showable && !d.hasDict && decide (d.depth ≤ 60) && decide (d.shown.length + 64 ≤ sizeLine) then some (.str d.shown, false) else none
  | _, _ => none

/-- isinstance of data -/
def isTy : D → Ty → Bool
  | .int _, .int => true
  | .bool _, .int => true
  | .bool _, .bool => true
  | .str _, .str => true
  | .list _, .list => true
  | .tuple _, .tuple => true
  | .dict _, .dict => true
  | _, _ => false

def item : D → D → Option D
  | .list l, .int i => atI l i
  | .tuple l, .int i => atI l i
  | _, _ => none
where
  atI (l : List D) (i : Int) : Option D := L2.atI l i

/-- a bound: left out (the text is the constant none), or an int -/
def Ex.gap : Ex → Bool
  | .c .none => true
  | _ => false
def bound (gap : Bool) : D → Option (Option Int)
  | .int i => if gap then none else some (some i)
  | _ => if gap then some none else none
def cutD (l : List D) (lo hi : Option Int) : List D := (l.drop (HT.sIx l.length 0 lo)).take (HT.sIx l.length l.length hi - HT.sIx l.length 0 lo)
def slice (a : D) (x y : Option Int) : Option (D × Bool) := match a with
  | .list l => some (.list (cutD l x y), true)
  | .tuple l => some (.tuple (cutD l x y), false)
  | _ => none

def tupD (l : List D) : Option (D × Bool) := if l.length ≤ sizeLine then some (.tuple l, false) else none
def lstD (l : List D) : Option (D × Bool) := if l.length ≤ sizeLine then some (.list l, true) else none

/-! ### the draws -/
def Dr.get (st : Dr) : Dk → D
  | .rest => .int st.rest
  | .turn => .int st.turn
  | .cells => .list (st.cells.map .int)
def Dr.set (st : Dr) (k : Dk) (n : Int) : Option Dr := match k with
  | .rest => some { st with rest := n }
  | .turn => some { st with turn := n }
  | .cells => none

/-! ### slots -/
def S.at (s : S) (i : Nat) : Slot := s.env.getD i .un
def S.put (s : S) (i : Nat) (x : Slot) : S := { s with env := s.env.set i x }
/-- the name's value; what it owned is shared from now on -/
def load (i : Nat) (s : S) : Out (SV × Bool) := match s.at i with
  | .un => .bad
  | .va (.d x) => .ok (.d x, false) s
  | .va .drw => .ok (.drw, false) s
  | .va (.fn f) => .ok (.fn f, false) s
  | .va (.clo _ _) => .bad
  | .ow d => .ok (.d d, false) (s.put i (.va (.d d)))
/-- the name's value to be looked at -/
def look (i : Nat) (s : S) : Option SV := match s.at i with
  | .un => none
  | .va (.d x) => some (.d x)
  | .va .drw => some .drw
  | .va (.fn f) => some (.fn f)
  | .va (.clo _ _) => none
  | .ow d => some (.d d)
def mine (x : SV) (fr : Bool) : Slot := match fr, x with
  | true, .d d => .ow d
  | _, x => .va x
def store (t : Tg) (x : SV) (fr : Bool) (s : S) : Option S := match t with
  | .nm i => some (s.put i (mine x fr))
  | .tup l => match x with
    | .d (.tuple ds) => if l.length = ds.length then some ((l.zip ds).foldl (fun s p => s.put p.1 (.va (.d p.2))) s) else none
    | _ => none

def ofO {A : Type} (o : Option A) (s : S) : Out A := match o with
  | some a => .ok a s
  | none => .bad
def dOf : SV → Option D
  | .d x => some x
  | _ => none
def dsOf : List SV → Option (List D)
  | [] => some []
  | .d x :: r => (dsOf r).map (x :: ·)
  | _ => none

/-- what a lambda captures: data that is shared -/
def capsOf : List Nat → S → Option (List D)
  | [], _ => some []
  | i :: r, s => match s.at i with
    | .va (.d x) => (capsOf r s).map (x :: ·)
    | _ => none
/-- a lambda does not leave the call that it was made for -/
def Ro.keep : Ro → Ro
  | .ok (.clo _ _) _ _ => .bad
  | r => r
/-- the arguments of a call with keywords in the parameters' order -/
def layK (pm : List Nat) (vs : List SV) : Option (List SV) := match pm with
  | [] => some []
  | i :: r => (vs[i]?).bind fun x => (layK r vs).map (x :: ·)

/-! ### comprehensions, loops: over the items, by what a turn does -/
def lcL (turn : D → S → Out (Option D)) : List D → List D → S → Out (List D)
  | [], acc, s => .ok acc s
  | x :: r, acc, s => (turn x s).bind fun o s' => match o with
    | none => lcL turn r acc s'
    | some y => if acc.length < sizeLine then lcL turn r (acc ++ [y]) s' else .bad
def forL (turn : D → S → Out Fl) : List D → S → Out Fl
  | [], s => .ok .nx s
  | x :: r, s => (turn x s).bind fun f s' => match f with
    | .nx => forL turn r s'
    | .rt a fr => .ok (.rt a fr) s'
def whL (test : S → Out Bool) (body : S → Out Fl) : Nat → S → Out Fl
  | 0, _ => .bad
  | n + 1, s => (test s).bind fun b s' => if b then (body s').bind fun f s'' => match f with
    | .nx => whL test body n s''
    | .rt a fr => .ok (.rt a fr) s'' else .ok .nx s'

def turns : Nat := 10 ^ 18

def rngI (lo hi : Int) : List D := (List.range (hi - lo).toNat).map fun (k : Nat) => PyData.int (lo + (k : Int))
def rngOk (i : Int) : Bool := decide (-(2 ^ 62) ≤ i) && decide (i < 2 ^ 62)
def enumD (k : Nat) : List D → List D
  | [] => []
  | x :: r => .tuple [.int k, x] :: enumD (k + 1) r
def zipD : List D → List D → List D
  | x :: r, y :: q => .tuple [x, y] :: zipD r q
  | _, _ => []

/-- own slots of a comprehension: forgotten ahead of it -/
def hideS (own : List Nat) (s : S) : S := own.foldl (fun s i => s.put i .un) s
def ownFree (own : List Nat) (s : S) : Bool := own.all fun i => match s.at i with | .ow _ => false | _ => true
def backS (own : List Nat) (s0 s : S) : S := own.foldl (fun s i => s.put i (s0.at i)) s

abbrev R := SV × Bool
/-- an operand: its text and what it does -/
abbrev Pr := Ex × (S → Out R)

/-- operands: a name is looked at behind the others -/
def ops : List Pr → S → Out (List SV)
  | [], s => .ok [] s
  | p :: r, s => match p.1 with
    | .v i => match look i s with
      | none => .bad
      | some _ => (ops r s).bind fun xs s' => match look i s' with
        | some x => .ok (x :: xs) s'
        | none => .bad
    | _ => (p.2 s).bind fun x s' => (ops r s').bind fun xs s'' => .ok (x.1 :: xs) s''
def evs : List Pr → S → Out (List SV)
  | [], s => .ok [] s
  | p :: r, s => (p.2 s).bind fun x s' => (evs r s').bind fun xs s'' => .ok (x.1 :: xs) s''
/-- .. with what is new -/
def evF : List Pr → S → Out (List R)
  | [], s => .ok [] s
  | p :: r, s => (p.2 s).bind fun x s' => (evF r s').bind fun xs s'' => .ok (x :: xs) s''
def op1 {A : Type} (p : Pr) (s : S) (f : D → S → Out A) : Out A := (ops [p] s).bind fun l s => match l with
  | [.d x] => f x s
  | _ => .bad
def op2 {A : Type} (p q : Pr) (s : S) (f : D → D → S → Out A) : Out A := (ops [p, q] s).bind fun l s => match l with
  | [.d x, .d y] => f x y s
  | _ => .bad
/-- an operand that is looked at later -/
def opA {A : Type} (p : Pr) (s : S) (f : (S → Option SV) → S → Out A) : Out A := match p.1 with
  | .v i => match look i s with
    | none => .bad
    | some _ => f (look i) s
  | _ => (p.2 s).bind fun x s => f (fun _ => some x.1) s
def sliceO (q : SV) (lo hi : Option Int) (s : S) : Out R := match q with
  | .d x => ofO ((slice x lo hi).map fun r => (.d r.1, r.2)) s
  | _ => .bad
/-- by a value's truth -/
def truD {A : Type} (x : R) (s : S) (f : D → Bool → S → Out A) : Out A := match x.1 with
  | .d d => (ofO (truthy d) s).bind fun b s => f d b s
  | _ => .bad
/-- a test -/
def tst (p : Pr) (s : S) : Out Bool := op1 p s fun x s => ofO (truthy x) s
def tsts : List Pr → S → Out Bool
  | [], s => .ok true s
  | p :: r, s => (tst p s).bind fun b s => if b then tsts r s else .ok false s
/-- what a loop walks -/
def seqO (x : SV) (s : S) : Out (List D) := match x with
  | .d (.list l) => .ok l s
  | .d (.tuple l) => .ok l s
  | _ => .bad
def ofRo (r : Ro) (s : S) : Out R := match r with
  | .ok a fr dr => .ok (a, fr) { s with dr := dr }
  | .exc x dr => .exc x { s with dr := dr }
  | .bad => .bad
/-- errors do not leave a comprehension -/
def Out.calm {A : Type} (o : Out A) : Out A := match o with
  | .ok a s => .ok a s
  | _ => .bad
def lcTurn (t : Tg) (own : List Nat) (ifs : List Pr) (p : Pr) (x : D) (s : S) : Out (Option D) := match store t (.d x) false s with
  | none => .bad
  | some s1 => (tsts ifs s1).bind fun b s2 => if b then (p.2 s2).bind fun r s3 => match r.1 with
      | .d y => .ok (some y) (hideS own s3)
      | _ => .bad
    else .ok none (hideS own s2)

/-- the draws behind a name -/
def drO {A : Type} (i : Nat) (s : S) (f : Dr → S → Out A) : Out A := match look i s, s.dr with
  | some .drw, some st => f st s
  | _, _ => .bad
def mkO (l : Nat) (x : SV) (s : S) : Out R := match s.at l, x, s.dr with
  | .ow (.list lg), .d (.list cs), none => match asInts lg, asInts cs with
    | some ls, some ns => .ok (.drw, false) { env := (s.put l .un).env, dr := some ⟨ls, 0, ns, 0⟩ }
    | _, _ => .bad
  | _, _, _ => .bad
mutual
def ev (G : List D) (F : CallF) : Ex → S → Out R
  | .v i, s => load i s
  | .c d, s => .ok (.d d, false) s
  | .g i, s => ofO ((G[i]?).map fun d => (.d d, false)) s
  | .fn i, s => .ok (.fn i, false) s
  | .bin o a b, s => op2 (a, ev G F a) (b, ev G F b) s fun x y s => ofO ((binop o x y).map fun r => (.d r.1, r.2)) s
  | .neg a, s => op1 (a, ev G F a) s fun x s => match x with
    | .int i => .ok (.d (.int (-i)), false) s
    | _ => .bad
  | .no a, s => (tst (a, ev G F a) s).bind fun b s => .ok (.d (.bool (!b)), false) s
  | .cmp o a b, s => op2 (a, ev G F a) (b, ev G F b) s fun x y s => ofO ((cmpop o x y).map fun r => (.d (.bool r), false)) s
  | .chain o p a b c, s => op2 (a, ev G F a) (b, ev G F b) s fun x y s => match y with
    | .int j => (ofO (cmpop o x (.int j)) s).bind fun k s =>
      if k then op1 (c, ev G F c) s fun z s => ofO ((cmpop p (.int j) z).map fun r => (.d (.bool r), false)) s
      else .ok (.d (.bool false), false) s
    | _ => .bad
  | .and a b, s => (ev G F a s).bind fun x s => truD x s fun d k s => if k then ev G F b s else .ok (.d d, false) s
  | .or a b, s => (ev G F a s).bind fun x s => truD x s fun d k s => if k then .ok (.d d, false) s else ev G F b s
  | .ite t a b, s => (tst (t, ev G F t) s).bind fun k s => if k then ev G F a s else ev G F b s
  | .call f l, s => (evs (evEach G F l) s).bind fun vs s => ofRo (F f vs s.dr) s
  | .kcall f l k pm, s => (evs (evEach G F l) s).bind fun vs s => (evs (evEach G F k) s).bind fun ws s => (ofO (layK pm (vs ++ ws)) s).bind fun us s => ofRo (F f us s.dr) s
  | .bi o l, s => (ops (evEach G F l) s).bind fun vs s => ofO ((dsOf vs).bind fun ds => (builtin o ds).map fun r => (.d r.1, r.2)) s
  | .isi a l, s => op1 (a, ev G F a) s fun x s => .ok (.d (.bool (l.any fun t => isTy x t)), false) s
  | .ix a b, s => op2 (a, ev G F a) (b, ev G F b) s fun x y s => ofO ((item x y).map fun r => (.d r, false)) s
  | .sl a lo hi, s => opA (a, ev G F a) s fun get s => op1 (lo, ev G F lo) s fun y s => (ofO (bound lo.gap y) s).bind fun l s => op1 (hi, ev G F hi) s fun z s => (ofO (bound hi.gap z) s).bind fun h s =>
      (ofO (get s) s).bind fun x s => sliceO x l h s
  | .rev a, s => op1 (a, ev G F a) s fun x s => match x with
    | .list x => .ok (.d (.list x.reverse), true) s
    | _ => .bad
  | .tup l, s => (evs (evEach G F l) s).bind fun vs s => ofO ((dsOf vs).bind fun ds => (tupD ds).map fun r => (.d r.1, r.2)) s
  | .lst l, s => (evs (evEach G F l) s).bind fun vs s => ofO ((dsOf vs).bind fun ds => (lstD ds).map fun r => (.d r.1, r.2)) s
  | .dct _ _, _ => .bad
  | .lc e t it ifs own, s => (evIt G F it s).bind fun xs s => if ownFree own s then
      (lcL (fun x s => (lcTurn t own (evEach G F ifs) (e, ev G F e) x s).calm) xs [] (hideS own s)).bind fun ys s' => .ok (.d (.list ys), true) (backS own s s')
      else .bad
  | .pop i, s => match s.at i with
    | .ow (.list l) => match l.getLast? with
      | some x => .ok (.d x, false) (s.put i (.ow (.list l.dropLast)))
      | none => .bad
    | _ => .bad
  | .dk i k, s => drO i s fun st s => .ok (.d (st.get k), false) s
  | .dle i, s => drO i s fun st s => .ok (.d (.bool (!st.large.isEmpty)), false) s
  | .dpop i, s => drO i s fun st s => match st.large with
    | x :: r => .ok (.d (.int x), false) { s with dr := some { st with large := r } }
    | [] => .bad
  | .dmk l e, s => match s.at l with
    | .ow (.list _) => (ev G F e s).bind fun x s => mkO l x.1 s
    | _ => .bad
  | .callv i l, s => match s.at i with
    | .va (.fn f) => (evs (evEach G F l) s).bind fun vs s => ofRo (F f vs s.dr) s
    | .va (.clo m cs) => (evs (evEach G F l) s).bind fun vs s => ofRo (F m (vs ++ cs.map .d) s.dr) s
    | _ => .bad
  | .lcall f l m caps, s => (evs (evEach G F l) s).bind fun vs s => (ofO (capsOf caps s) s).bind fun cs s => ofRo (F f (vs ++ [.clo m cs]) s.dr).keep s
def evIt (G : List D) (F : CallF) : It → S → Out (List D)
  | .seq a, s => (ev G F a s).bind fun x s => seqO x.1 s
  | .rng1 a, s => op1 (a, ev G F a) s fun x s => match x with
    | .int j => if rngOk j then .ok (rngI 0 j) s else .bad
    | _ => .bad
  | .rng2 a b, s => op2 (a, ev G F a) (b, ev G F b) s fun x y s => match x, y with
    | .int i, .int j => if rngOk i && rngOk j then .ok (rngI i j) s else .bad
    | _, _ => .bad
  | .enum a, s => (ev G F a s).bind fun x s => match x.1 with
    | .d (.list l) => .ok (enumD 0 l) s
    | _ => .bad
  | .zip a b, s => (evs [(a, ev G F a), (b, ev G F b)] s).bind fun x s => match x with
    | [.d (.list l), .d (.list q)] => .ok (zipD l q) s
    | _ => .bad
def evEach (G : List D) (F : CallF) : List Ex → List Pr
  | [] => []
  | e :: r => (e, ev G F e) :: evEach G F r
end

/-! ### statements -/
def setO (i : Nat) (x y : SV) (s : S) : Out Fl := match s.at i, x, y with
  | .ow (.list l), .d x, .d (.int j) => match L2.ixN l.length j with
    | some n => .ok .nx (s.put i (.ow (.list (l.set n x))))
    | none => .bad
  | _, _, _ => .bad
def appO (i : Nat) (x : SV) (s : S) : Out Fl := match s.at i, x with
  | .ow (.list l), .d x => if l.length < sizeLine then .ok .nx (s.put i (.ow (.list (l ++ [x])))) else .bad
  | _, _ => .bad
mutual
def evS (G : List D) (F : CallF) : Sm → S → Out Fl
  | .asg t e, s => (ev G F e s).bind fun x s => match store t x.1 x.2 s with
    | some s' => .ok .nx s'
    | none => .bad
  | .par l k, s => (evF (evEach G F k) s).bind fun vs s => if vs.length = l.length then .ok .nx ((l.zip vs).foldl (fun s p => s.put p.1 (mine p.2.1 p.2.2)) s) else .bad
  | .setix i k e, s => (ev G F e s).bind fun x s => match look i s with
    | none => .bad
    | some _ => (ev G F k s).bind fun y s => setO i x.1 y.1 s
  | .app i e, s => match s.at i with
    | .ow (.list _) => (ev G F e s).bind fun x s => appO i x.1 s
    | _ => .bad
  | .dset i k e, s => (ev G F e s).bind fun x s => drO i s fun st s => match x.1 with
    | .d (.int n) => match st.set k n with
      | some st => .ok .nx { s with dr := some st }
      | none => .bad
    | _ => .bad
  | .expr e, s => (ev G F e s).bind fun _ s => .ok .nx s
  | .ifs t a b, s => (tst (t, ev G F t) s).bind fun k s => if k then evB G F a s else evB G F b s
  | .loop t b, s => whL (tst (t, ev G F t)) (evB G F b) turns s
  | .each t it b, s => (evIt G F it s).bind fun xs s => forL (fun x s => match store t (.d x) false s with
    | some s' => evB G F b s'
    | none => .bad) xs s
  | .ret e, s => match e with
    | .v i => match s.at i with
      | .un => .bad
      | .va (.d x) => .ok (.rt (.d x) false) s
      | .va .drw => .ok (.rt .drw false) s
      | .va (.fn f) => .ok (.rt (.fn f) false) s
      | .va (.clo _ _) => .bad
      | .ow d => .ok (.rt (.d d) true) (s.put i .un)
    | _ => (ev G F e s).bind fun x s => .ok (.rt x.1 x.2) s
  | .raise c _, s => .exc ⟨c⟩ s
def evB (G : List D) (F : CallF) : List Sm → S → Out Fl
  | [], s => .ok .nx s
  | x :: r, s => (evS G F x s).bind fun f s' => match f with
    | .nx => evB G F r s'
    | .rt a fr => .ok (.rt a fr) s'
end

/-! ### defs -/
inductive Df where
  /-- a def: how many parameters, how many names, its body -/
  | fn (np nn : Nat) (b : List Sm)

def retOf (o : Out Fl) : Ro := match o with
  | .ok .nx s => .ok (.d .none) false s.dr
  | .ok (.rt a fr) s => .ok a fr s.dr
  | .exc x s => .exc x s.dr
  | .bad => .bad

/-- a def called, so many calls deep at most -/
def run (G : List D) (T : List Df) : Nat → CallF
  | 0, _, _, _ => .bad
  | k + 1, f, vs, dr => match T[f]? with
    | some (.fn np nn b) => if vs.length = np then retOf (evB G (run G T k) b ⟨vs.map .va ++ List.replicate (nn - np) .un, dr⟩) else .bad
    | none => .bad
end Pv
/-! Pv: reasoning about the evaluator: what a run comes to. -/
namespace Pv
open PySem

/-- the run ends well, with Q -/
inductive Ow {A : Type} : Out A → (A → S → Prop) → Prop
  | mk {a : A} {s : S} {Q : A → S → Prop} (h : Q a s) : Ow (.ok a s) Q
inductive Rw : Ro → (SV → Bool → Option Dr → Prop) → Prop
  | mk {a : SV} {fr : Bool} {dr : Option Dr} {Q : SV → Bool → Option Dr → Prop} (h : Q a fr dr) : Rw (.ok a fr dr) Q
section
variable {A B : Type} {Q : A → S → Prop} {s : S}
theorem bind_ok (a : A) (s : S) (f : A → S → Out B) : (Out.ok a s).bind f = f a s := rfl
theorem bind_bad (f : A → S → Out B) : (Out.bad : Out A).bind f = .bad := rfl
theorem bind_exc (x : Xc) (s : S) (f : A → S → Out B) : (Out.exc x s : Out A).bind f = .exc x s := rfl
theorem ofO_some (a : A) (s : S) : ofO (some a) s = .ok a s := rfl
theorem ofO_none (s : S) : ofO (none : Option A) s = .bad := rfl
theorem ow_ok {a : A} : Ow (.ok a s) Q ↔ Q a s := ⟨fun h => by cases h; assumption, .mk⟩
theorem ow_bad : ¬ Ow (.bad : Out A) Q := fun h => by cases h
theorem ow_exc {x : Xc} : ¬ Ow (.exc x s : Out A) Q := fun h => by cases h
theorem ow_eq {o : Out A} (h : Ow o Q) : ∃ a s, o = .ok a s ∧ Q a s := by
  cases h with
  | mk h => exact ⟨_, _, rfl, h⟩
theorem rw_eq {r : Ro} {Q : SV → Bool → Option Dr → Prop} (h : Rw r Q) : ∃ a fr dr, r = .ok a fr dr ∧ Q a fr dr := by
  cases h with
  | mk h => exact ⟨_, _, _, rfl, h⟩
theorem ow_bind {o : Out B} {f : B → S → Out A} : Ow (o.bind f) Q ↔ Ow o fun b s' => Ow (f b s') Q := by
  constructor
  · intro h
    cases o with
    | ok b s => exact .mk h
    | exc x s => exact absurd h ow_exc
    | bad => exact absurd h ow_bad
  · intro h
    cases h with
    | mk h => exact h
theorem ow_mono {o : Out A} {Q' : A → S → Prop} (h : Ow o Q) (hq : ∀ a s, Q a s → Q' a s) : Ow o Q' := by
  cases h with
  | mk h => exact .mk (hq _ _ h)
theorem ow_call {r : Ro} {s : S} {f : R → S → Out A} {Q0 : SV → Bool → Option Dr → Prop} (h : Rw r Q0) (hq : ∀ a fr dr, Q0 a fr dr → Ow (f (a, fr) ⟨s.env, dr⟩) Q) : Ow ((ofRo r s).bind f) Q := by
  obtain ⟨a, fr, dr, rfl, q⟩ := rw_eq h
  exact hq a fr dr q
theorem ofRo_ok (a : SV) (fr : Bool) (dr : Option Dr) (s : S) : ofRo (.ok a fr dr) s = .ok (a, fr) ⟨s.env, dr⟩ := rfl
theorem ow_call0 {r : Ro} {s : S} {Q : R → S → Prop} {Q0 : SV → Bool → Option Dr → Prop} (h : Rw r Q0) (hq : ∀ a fr dr, Q0 a fr dr → Q (a, fr) ⟨s.env, dr⟩) : Ow (ofRo r s) Q := by
  obtain ⟨a, fr, dr, rfl, q⟩ := rw_eq h
  exact .mk (hq a fr dr q)
theorem rw_mono {r : Ro} {Q Q' : SV → Bool → Option Dr → Prop} (h : Rw r Q) (hq : ∀ a fr dr, Q a fr dr → Q' a fr dr) : Rw r Q' := by
  cases h with
  | mk h => exact .mk (hq _ _ _ h)
theorem rw_ret {o : Out Fl} {Q : SV → Bool → Option Dr → Prop} (h : Ow o fun f s => match f with | .nx => Q (.d .none) false s.dr | .rt a fr => Q a fr s.dr) : Rw (retOf o) Q := by
  obtain ⟨f, s, rfl, q⟩ := ow_eq h
  cases f <;> exact .mk q
theorem ev_v (G : List D) (F : CallF) (i : Nat) (s : S) : ev G F (.v i) s = (load i s) := rfl
theorem ev_c (G : List D) (F : CallF) (d : D) (s : S) : ev G F (.c d) s = (.ok (.d d, false) s) := rfl
theorem ev_g (G : List D) (F : CallF) (i : Nat) (s : S) : ev G F (.g i) s = (ofO ((G[i]?).map fun d => (.d d, false)) s) := rfl
theorem ev_fn (G : List D) (F : CallF) (i : Nat) (s : S) : ev G F (.fn i) s = (.ok (.fn i, false) s) := rfl
theorem ev_bin (G : List D) (F : CallF) (o : Bop) (a : Ex) (b : Ex) (s : S) : ev G F (.bin o a b) s = (op2 (a, ev G F a) (b, ev G F b) s fun x y s => ofO ((binop o x y).map fun r => (.d r.1, r.2)) s) := rfl
theorem ev_neg (G : List D) (F : CallF) (a : Ex) (s : S) : ev G F (.neg a) s = (op1 (a, ev G F a) s fun x s => match x with
    | .int i => .ok (.d (.int (-i)), false) s
    | _ => .bad) := rfl
theorem ev_no (G : List D) (F : CallF) (a : Ex) (s : S) : ev G F (.no a) s = ((tst (a, ev G F a) s).bind fun b s => .ok (.d (.bool (!b)), false) s) := rfl
theorem ev_cmp (G : List D) (F : CallF) (o : Cop) (a : Ex) (b : Ex) (s : S) : ev G F (.cmp o a b) s = (op2 (a, ev G F a) (b, ev G F b) s fun x y s => ofO ((cmpop o x y).map fun r => (.d (.bool r), false)) s) := rfl
theorem ev_chain (G : List D) (F : CallF) (o : Cop) (p : Cop) (a : Ex) (b : Ex) (c : Ex) (s : S) : ev G F (.chain o p a b c) s = (op2 (a, ev G F a) (b, ev G F b) s fun x y s => match y with
    | .int j => (ofO (cmpop o x (.int j)) s).bind fun k s =>
      if k then op1 (c, ev G F c) s fun z s => ofO ((cmpop p (.int j) z).map fun r => (.d (.bool r), false)) s
      else .ok (.d (.bool false), false) s
    | _ => .bad) := rfl
theorem ev_and (G : List D) (F : CallF) (a : Ex) (b : Ex) (s : S) : ev G F (.and a b) s = ((ev G F a s).bind fun x s => truD x s fun d k s => if k then ev G F b s else .ok (.d d, false) s) := rfl
theorem ev_or (G : List D) (F : CallF) (a : Ex) (b : Ex) (s : S) : ev G F (.or a b) s = ((ev G F a s).bind fun x s => truD x s fun d k s => if k then .ok (.d d, false) s else ev G F b s) := rfl
theorem ev_ite (G : List D) (F : CallF) (t : Ex) (a : Ex) (b : Ex) (s : S) : ev G F (.ite t a b) s = ((tst (t, ev G F t) s).bind fun k s => if k then ev G F a s else ev G F b s) := rfl
theorem ev_call (G : List D) (F : CallF) (f : Nat) (l : List Ex) (s : S) : ev G F (.call f l) s = ((evs (evEach G F l) s).bind fun vs s => ofRo (F f vs s.dr) s) := rfl
theorem ev_kcall (G : List D) (F : CallF) (f : Nat) (l : List Ex) (k : List Ex) (pm : List Nat) (s : S) : ev G F (.kcall f l k pm) s = ((evs (evEach G F l) s).bind fun vs s => (evs (evEach G F k) s).bind fun ws s => (ofO (layK pm (vs ++ ws)) s).bind fun us s => ofRo (F f us s.dr) s) := rfl
theorem ev_bi (G : List D) (F : CallF) (o : Bi) (l : List Ex) (s : S) : ev G F (.bi o l) s = ((ops (evEach G F l) s).bind fun vs s => ofO ((dsOf vs).bind fun ds => (builtin o ds).map fun r => (.d r.1, r.2)) s) := rfl
theorem ev_isi (G : List D) (F : CallF) (a : Ex) (l : List Ty) (s : S) : ev G F (.isi a l) s = (op1 (a, ev G F a) s fun x s => .ok (.d (.bool (l.any fun t => isTy x t)), false) s) := rfl
theorem ev_ix (G : List D) (F : CallF) (a : Ex) (b : Ex) (s : S) : ev G F (.ix a b) s = (op2 (a, ev G F a) (b, ev G F b) s fun x y s => ofO ((item x y).map fun r => (.d r, false)) s) := rfl
theorem ev_sl (G : List D) (F : CallF) (a : Ex) (lo : Ex) (hi : Ex) (s : S) : ev G F (.sl a lo hi) s = (opA (a, ev G F a) s fun get s => op1 (lo, ev G F lo) s fun y s => (ofO (bound lo.gap y) s).bind fun l s => op1 (hi, ev G F hi) s fun z s => (ofO (bound hi.gap z) s).bind fun h s =>
      (ofO (get s) s).bind fun x s => sliceO x l h s) := rfl
theorem ev_rev (G : List D) (F : CallF) (a : Ex) (s : S) : ev G F (.rev a) s = (op1 (a, ev G F a) s fun x s => match x with
    | .list x => .ok (.d (.list x.reverse), true) s
    | _ => .bad) := rfl
theorem ev_tup (G : List D) (F : CallF) (l : List Ex) (s : S) : ev G F (.tup l) s = ((evs (evEach G F l) s).bind fun vs s => ofO ((dsOf vs).bind fun ds => (tupD ds).map fun r => (.d r.1, r.2)) s) := rfl
theorem ev_lst (G : List D) (F : CallF) (l : List Ex) (s : S) : ev G F (.lst l) s = ((evs (evEach G F l) s).bind fun vs s => ofO ((dsOf vs).bind fun ds => (lstD ds).map fun r => (.d r.1, r.2)) s) := rfl
theorem ev_pop (G : List D) (F : CallF) (i : Nat) (s : S) : ev G F (.pop i) s = (match s.at i with
    | .ow (.list l) => match l.getLast? with
      | some x => .ok (.d x, false) (s.put i (.ow (.list l.dropLast)))
      | none => .bad
    | _ => .bad) := rfl
theorem ev_dk (G : List D) (F : CallF) (i : Nat) (k : Dk) (s : S) : ev G F (.dk i k) s = (drO i s fun st s => .ok (.d (st.get k), false) s) := rfl
theorem ev_dle (G : List D) (F : CallF) (i : Nat) (s : S) : ev G F (.dle i) s = (drO i s fun st s => .ok (.d (.bool (!st.large.isEmpty)), false) s) := rfl
theorem ev_dpop (G : List D) (F : CallF) (i : Nat) (s : S) : ev G F (.dpop i) s = (drO i s fun st s => match st.large with
    | x :: r => .ok (.d (.int x), false) { s with dr := some { st with large := r } }
    | [] => .bad) := rfl
theorem ev_dmk (G : List D) (F : CallF) (l : Nat) (e : Ex) (s : S) : ev G F (.dmk l e) s = (match s.at l with
    | .ow (.list _) => (ev G F e s).bind fun x s => mkO l x.1 s
    | _ => .bad) := rfl
theorem ev_callv (G : List D) (F : CallF) (i : Nat) (l : List Ex) (s : S) : ev G F (.callv i l) s = (match s.at i with
    | .va (.fn f) => (evs (evEach G F l) s).bind fun vs s => ofRo (F f vs s.dr) s
    | .va (.clo m cs) => (evs (evEach G F l) s).bind fun vs s => ofRo (F m (vs ++ cs.map .d) s.dr) s
    | _ => .bad) := rfl
theorem ev_lcall (G : List D) (F : CallF) (f : Nat) (l : List Ex) (m : Nat) (caps : List Nat) (s : S) : ev G F (.lcall f l m caps) s = ((evs (evEach G F l) s).bind fun vs s => (ofO (capsOf caps s) s).bind fun cs s => ofRo (F f (vs ++ [.clo m cs]) s.dr).keep s) := rfl
theorem keep_d (d : D) (fr : Bool) (dr : Option Dr) : (Ro.ok (.d d) fr dr).keep = .ok (.d d) fr dr := rfl
/-! ### loops -/
theorem for_rule {turn : D → S → Out Fl} {Q : Fl → S → Prop} (Inv : List D → S → Prop) (hs : ∀ x r s, Inv (x :: r) s → Ow (turn x s) fun f s' => match f with | .nx => Inv r s' | .rt a fr => Q (.rt a fr) s') (h0 : ∀ s, Inv [] s → Q .nx s) :
    ∀ (l : List D) (s : S), Inv l s → Ow (forL turn l s) Q
  | [], s, h => .mk (h0 s h)
  | x :: r, s, h => by
    show Ow ((turn x s).bind fun f s' => match f with | .nx => forL turn r s' | .rt a fr => .ok (.rt a fr) s') Q
    rw [ow_bind]
    refine ow_mono (hs x r s h) fun f s' q => ?_
    cases f with
    | nx => exact for_rule Inv hs h0 r s' q
    | rt a fr => exact .mk q
theorem wh_rule {test : S → Out Bool} {body : S → Out Fl} {Q : Fl → S → Prop} (Inv : Nat → S → Prop)
    (hs : ∀ m s, Inv m s → Ow (test s) fun b s' => if b = true then Ow (body s') fun f s'' => match f with | .nx => ∃ m', m' < m ∧ Inv m' s'' | .rt a fr => Q (.rt a fr) s'' else Q .nx s') :
    ∀ (n m : Nat) (s : S), m < n → Inv m s → Ow (whL test body n s) Q
  | 0, _, _, h, _ => absurd h (Nat.not_lt_zero _)
  | n + 1, m, s, h, i => by
    show Ow ((test s).bind fun b s' => if b then (body s').bind fun f s'' => match f with | .nx => whL test body n s'' | .rt a fr => .ok (.rt a fr) s'' else .ok .nx s') Q
    rw [ow_bind]
    refine ow_mono (hs m s i) fun b s' q => ?_
    cases b with
    | false => exact .mk q
    | true =>
      rw [if_pos rfl] at q ⊢
      rw [ow_bind]
      refine ow_mono q fun f s'' q => ?_
      cases f with
      | nx =>
        obtain ⟨m', hm, i'⟩ := q
        exact wh_rule Inv hs n m' s'' (by omega) i'
      | rt a fr => exact .mk q
/-- a comprehension whose turns leave the state as it is -/
theorem lc_pure {turn : D → S → Out (Option D)} {s : S} (g : D → Option D) : ∀ (l acc : List D), (∀ x ∈ l, turn x s = .ok (g x) s) → acc.length + l.length ≤ sizeLine → lcL turn l acc s = .ok (acc ++ l.filterMap g) s
  | [], acc, _, _ => by simp [lcL]
  | x :: r, acc, h, hl => by
    simp only [lcL]
    rw [h x List.mem_cons_self, bind_ok]
    cases e : g x with
    | none =>
      rw [lc_pure g r acc (fun y hy => h y (List.mem_cons_of_mem _ hy)) (by simp at hl; omega), List.filterMap_cons, e]
    | some y =>
      simp only
      rw [if_pos (by simp at hl; omega), lc_pure g r (acc ++ [y]) (fun z hz => h z (List.mem_cons_of_mem _ hz)) (by simp at hl ⊢; omega), List.filterMap_cons, e]
      simp
end
theorem ow_lc {G : List D} {F : CallF} {e : Ex} {t : Tg} {it : It} {ifs : List Ex} {own : List Nat} {s : S} {Q : R → S → Prop} (g : D → Option D)
    (h : Ow (evIt G F it s) fun xs s' => ownFree own s' = true ∧ (∀ x ∈ xs, lcTurn t own (evEach G F ifs) (e, ev G F e) x (hideS own s') = .ok (g x) (hideS own s')) ∧ xs.length ≤ sizeLine ∧ Q (.d (.list (xs.filterMap g)), true) (backS own s' (hideS own s'))) :
    Ow (ev G F (.lc e t it ifs own) s) Q := by
  show Ow ((evIt G F it s).bind fun xs s => if ownFree own s then
      (lcL (fun x s => (lcTurn t own (evEach G F ifs) (e, ev G F e) x s).calm) xs [] (hideS own s)).bind fun ys s' => .ok (.d (.list ys), true) (backS own s s')
      else .bad) Q
  rw [ow_bind]
  refine ow_mono h fun xs s' ⟨h1, h2, h3, h4⟩ => ?_
  rw [h1, if_pos rfl, lc_pure g xs [] (fun x hx => by rw [h2 x hx]; rfl) (by simpa using h3), List.nil_append]
  exact .mk h4
/-- a comprehension whose turns may change the state within Inv -/
theorem lc_inv {turn : D → S → Out (Option D)} (Inv : S → Prop) (g : D → Option D) : ∀ (l acc : List D) (s : S), Inv s → (∀ x ∈ l, ∀ s, Inv s → ∃ s', turn x s = .ok (g x) s' ∧ Inv s') → acc.length + l.length ≤ sizeLine → ∃ s', Inv s' ∧ lcL turn l acc s = .ok (acc ++ l.filterMap g) s'
  | [], acc, s, hi, _, _ => ⟨s, hi, by simp [lcL]⟩
  | x :: r, acc, s, hi, h, hl => by
    obtain ⟨s1, e1, i1⟩ := h x List.mem_cons_self s hi
    simp only [lcL]
    rw [e1, bind_ok]
    cases e : g x with
    | none =>
      obtain ⟨s2, i2, e2⟩ := lc_inv Inv g r acc s1 i1 (fun y hy => h y (List.mem_cons_of_mem _ hy)) (by simp at hl; omega)
      exact ⟨s2, i2, by rw [e2, List.filterMap_cons, e]⟩
    | some y =>
      simp only
      obtain ⟨s2, i2, e2⟩ := lc_inv Inv g r (acc ++ [y]) s1 i1 (fun z hz => h z (List.mem_cons_of_mem _ hz)) (by simp at hl ⊢; omega)
      refine ⟨s2, i2, ?_⟩
      rw [if_pos (by simp at hl; omega), e2, List.filterMap_cons, e]
      simp
theorem ow_lcI {G : List D} {F : CallF} {e : Ex} {t : Tg} {it : It} {ifs : List Ex} {own : List Nat} {s : S} {Q : R → S → Prop} (Inv : S → Prop) (g : D → Option D)
    (h : Ow (evIt G F it s) fun xs s' => ownFree own s' = true ∧ Inv (hideS own s') ∧ (∀ x ∈ xs, ∀ s, Inv s → ∃ s', lcTurn t own (evEach G F ifs) (e, ev G F e) x s = .ok (g x) s' ∧ Inv s') ∧ xs.length ≤ sizeLine ∧ ∀ sf, Inv sf → Q (.d (.list (xs.filterMap g)), true) (backS own s' sf)) :
    Ow (ev G F (.lc e t it ifs own) s) Q := by
  show Ow ((evIt G F it s).bind fun xs s => if ownFree own s then
      (lcL (fun x s => (lcTurn t own (evEach G F ifs) (e, ev G F e) x s).calm) xs [] (hideS own s)).bind fun ys s' => .ok (.d (.list ys), true) (backS own s s')
      else .bad) Q
  rw [ow_bind]
  refine ow_mono h fun xs s' ⟨h1, h0, h2, h3, h4⟩ => ?_
  obtain ⟨sf, hi, e1⟩ := lc_inv (turn := fun x s => (lcTurn t own (evEach G F ifs) (e, ev G F e) x s).calm) Inv g xs [] (hideS own s') h0 (fun x hx s hs => by
    obtain ⟨s2, e2, i2⟩ := h2 x hx s hs
    exact ⟨s2, by rw [e2]; rfl, i2⟩) (by simpa using h3)
  rw [h1, if_pos rfl, e1, List.nil_append]
  exact .mk (h4 sf hi)
theorem lc_of_it {G : List D} {F : CallF} {e : Ex} {t : Tg} {it : It} {ifs : List Ex} {own : List Nat} {s s' : S} {xs : List D} {Q : R → S → Prop} (Inv : S → Prop) (g : D → Option D) (hit : evIt G F it s = .ok xs s') (hf : ownFree own s' = true) (h0 : Inv (hideS own s'))
    (ht : ∀ x ∈ xs, ∀ s, Inv s → Ow (lcTurn t own (evEach G F ifs) (e, ev G F e) x s) fun a s' => a = g x ∧ Inv s') (hl : xs.length ≤ sizeLine) (hq : ∀ sf, Inv sf → Q (.d (.list (xs.filterMap g)), true) (backS own s' sf)) : Ow (ev G F (.lc e t it ifs own) s) Q := by
  refine ow_lcI Inv g ?_
  rw [hit]
  refine .mk ⟨hf, h0, fun x hx s hs => ?_, hl, hq⟩
  obtain ⟨a, s2, e1, rfl, i2⟩ := ow_eq (ht x hx s hs)
  exact ⟨s2, e1, i2⟩
/-- an equation out of what a run comes to -/
theorem ow_out {A : Type} {o : Out A} {a : A} {s : S} (h : Ow o fun a' s' => a' = a ∧ s' = s) : o = .ok a s := by
  obtain ⟨a', s', e, rfl, rfl⟩ := ow_eq h
  exact e
theorem ow_cons {G : List D} {F : CallF} {x : Sm} {r : List Sm} {s : S} {Q : Fl → S → Prop} (h : Ow (evS G F x s) fun f s' => match f with | .nx => Ow (evB G F r s') Q | .rt a fr => Q (.rt a fr) s') : Ow (evB G F (x :: r) s) Q := by
  show Ow ((evS G F x s).bind fun f s' => match f with | .nx => evB G F r s' | .rt a fr => .ok (.rt a fr) s') Q
  rw [ow_bind]
  refine ow_mono h fun f s' q => ?_
  cases f
  · exact q
  · exact .mk q
theorem ow_nil {G : List D} {F : CallF} {s : S} {Q : Fl → S → Prop} (h : Q .nx s) : Ow (evB G F [] s) Q := .mk h
theorem ow_ifs {G : List D} {F : CallF} {t : Ex} {a b : List Sm} {s : S} {Q : Fl → S → Prop} (h : Ow (tst (t, ev G F t) s) fun k s' => if k = true then Ow (evB G F a s') Q else Ow (evB G F b s') Q) : Ow (evS G F (.ifs t a b) s) Q := by
  show Ow ((tst (t, ev G F t) s).bind fun k s => if k then evB G F a s else evB G F b s) Q
  rw [ow_bind]
  refine ow_mono h fun k s' q => ?_
  cases k <;> exact q
theorem ow_loop {G : List D} {F : CallF} {t : Ex} {b : List Sm} {s : S} {Q : Fl → S → Prop} (Inv : Nat → S → Prop) (m : Nat) (hm : m < 10 ^ 18) (h0 : Inv m s)
    (hs : ∀ m s, Inv m s → Ow (tst (t, ev G F t) s) fun k s' => if k = true then Ow (evB G F b s') fun f s'' => match f with | .nx => ∃ m', m' < m ∧ Inv m' s'' | .rt a fr => Q (.rt a fr) s'' else Q .nx s') : Ow (evS G F (.loop t b) s) Q :=
  wh_rule Inv hs turns m s hm h0
theorem ow_each {G : List D} {F : CallF} {t : Tg} {it : It} {b : List Sm} {s : S} {Q : Fl → S → Prop} (Inv : List D → S → Prop) (h : Ow (evIt G F it s) fun xs s' => Inv xs s')
    (hs : ∀ x r s, Inv (x :: r) s → Ow (match store t (.d x) false s with | some s' => evB G F b s' | none => .bad) fun f s' => match f with | .nx => Inv r s' | .rt a fr => Q (.rt a fr) s') (h0 : ∀ s, Inv [] s → Q .nx s) : Ow (evS G F (.each t it b) s) Q := by
  show Ow ((evIt G F it s).bind fun xs s => forL (fun x s => match store t (.d x) false s with | some s' => evB G F b s' | none => .bad) xs s) Q
  rw [ow_bind]
  exact ow_mono h fun xs s' i => for_rule Inv hs h0 xs s' i
theorem run_fn' {G : List D} {T : List Df} {f k np nn : Nat} {b : List Sm} {vs : List SV} {dr : Option Dr} (h : T[f]? = some (.fn np nn b)) (hv : vs.length = np) : run G T (k + 1) f vs dr = retOf (evB G (run G T k) b ⟨vs.map .va ++ List.replicate (nn - np) .un, dr⟩) := by
  show (match T[f]? with | some (.fn np nn b) => _ | none => _) = _
  rw [h]
  exact if_pos hv
theorem sz0 : (0 ≤ sizeLine) = True := eq_true (by decide)
theorem sz1 : (1 ≤ sizeLine) = True := eq_true (by decide)
theorem sz2 : (2 ≤ sizeLine) = True := eq_true (by decide)
theorem sz3 : (3 ≤ sizeLine) = True := eq_true (by decide)
theorem sz4 : (4 ≤ sizeLine) = True := eq_true (by decide)
theorem sz5 : (5 ≤ sizeLine) = True := eq_true (by decide)
theorem sz6 : (6 ≤ sizeLine) = True := eq_true (by decide)
theorem sz7 : (7 ≤ sizeLine) = True := eq_true (by decide)
theorem sz8 : (8 ≤ sizeLine) = True := eq_true (by decide)
theorem sz9 : (9 ≤ sizeLine) = True := eq_true (by decide)
theorem sz10 : (10 ≤ sizeLine) = True := eq_true (by decide)
theorem sz11 : (11 ≤ sizeLine) = True := eq_true (by decide)
theorem sz12 : (12 ≤ sizeLine) = True := eq_true (by decide)
theorem sz13 : (13 ≤ sizeLine) = True := eq_true (by decide)
theorem sz14 : (14 ≤ sizeLine) = True := eq_true (by decide)
theorem sz15 : (15 ≤ sizeLine) = True := eq_true (by decide)
theorem sz16 : (16 ≤ sizeLine) = True := eq_true (by decide)
theorem asInts_map {A : Type} (f : A → Int) : ∀ l : List A, asInts (l.map fun x => PyData.int (f x)) = some (l.map f)
  | [] => rfl
  | a :: l => by simp [asInts, asInts_map f l]
theorem fm_some {A B : Type} (f : A → Option B) (g : A → B) : ∀ l : List A, (∀ x ∈ l, f x = some (g x)) → l.filterMap f = l.map g
  | [], _ => rfl
  | a :: l, h => by rw [List.filterMap_cons, h a List.mem_cons_self, fm_some f g l fun x hx => h x (List.mem_cons_of_mem _ hx)]; rfl
theorem divOk_small {n : Int} (h : n ≠ 0) (h1 : n.natAbs < 1073741824) : divOk n = true := by
  unfold divOk
  rw [Bool.and_eq_true, Bool.or_eq_true]
  exact ⟨decide_eq_true h, .inl (decide_eq_true h1)⟩
theorem small_len {l : Nat} (h : l ≤ 100000) : l ≤ sizeLine := Nat.le_trans h (by decide)
theorem fdiv_pos {a b : Int} (h : 0 < b) : a.fdiv b = a / b := Int.fdiv_eq_ediv_of_nonneg a (by omega)
theorem fmod_pos {a b : Int} (h : 0 < b) : a.fmod b = a % b := Int.fmod_eq_emod_of_nonneg a (by omega)
end Pv
/-! Pv: repr of lists of small numbers has room. -/
namespace Pv
open PySem
structure RepOk (d : D) : Prop where
  a : PyData.showable d = true
  b : PyData.hasDict d = false
  c : PyData.depth d ≤ 60
  e : (PyData.shown d).length + 64 ≤ sizeLine
theorem rep_of {d : D} (h1 : d.canLay0 = true) (h2 : d.intsShort 13 = true) (h3 : d.weight ≤ 2 ^ 20) (h4 : d.depth ≤ 60) (h5 : d.showable = true) (h6 : d.hasDict = false) : RepOk d := by
  refine ⟨h5, h6, h4, ?_⟩
  have h := PyProof.Rows.shown_le13 (d := d) (by show (PyData.canLay0 d && decide (PyData.depth d ≤ 64) && decide (PyData.weight d ≤ 2 ^ 20)) = true; simp [h1, h3]; omega) h2
  have : sizeLine = 16777216 := by decide
  omega
theorem int_short {i : Int} (h0 : 0 ≤ i) (h1 : i < 10 ^ 12) : PyData.intsShort 13 (.int i) = true := by
  show decide ((PyData.shown (.int i)).length ≤ 13) = true
  have := PyProof.Rows.toString_length_le h0 (k := 12) (by decide) h1
  exact decide_eq_true (by show (Str.ofString (toString i)).length ≤ 13; omega)
theorem int_log {i : Int} (h0 : 0 ≤ i) (h1 : i < 10 ^ 12) : i.natAbs.log2 < 41 := by
  by_cases h : i.natAbs = 0
  · rw [h]; decide
  · exact (Nat.log2_lt h).mpr (by omega)
theorem rep_int {i : Int} (h0 : 0 ≤ i) (h1 : i < 10 ^ 12) : RepOk (.int i) := by
  have hl := int_log h0 h1
  refine rep_of rfl (int_short h0 h1) ?_ (by show (0 : Nat) ≤ 60; omega) (by show decide (i.natAbs.log2 < 1920) = true; exact decide_eq_true (by omega)) rfl
  show (if i == 0 then 0 else i.natAbs.log2 + 1) ≤ 2 ^ 20
  split <;> omega
theorem ints_all (l : List Int) (h : ∀ i ∈ l, 0 ≤ i ∧ i < 10 ^ 12) : PyData.canLayAll0 (l.map PyData.int) = true ∧ PyData.intsShortAll 13 (l.map PyData.int) = true ∧ PyData.weightAll (l.map PyData.int) ≤ 43 * l.length ∧ PyData.depthAll (l.map PyData.int) ≤ 1 ∧
    PyData.showableAll (l.map PyData.int) = true ∧ PyData.hasDictAll (l.map PyData.int) = false := by
  induction l with
  | nil => exact ⟨rfl, rfl, by simp [PyData.weightAll], by simp [PyData.depthAll], rfl, rfl⟩
  | cons i l ih =>
    obtain ⟨h1, h2, h3, h4, h5, h6⟩ := ih fun j hj => h j (List.mem_cons_of_mem _ hj)
    obtain ⟨k0, k1⟩ := h i List.mem_cons_self
    have hl := int_log k0 k1
    refine ⟨?_, ?_, ?_, ?_, ?_, ?_⟩
    · show (PyData.canLay0 (.int i) && PyData.canLayAll0 (l.map PyData.int)) = true
      rw [h1]; rfl
    · show (PyData.intsShort 13 (.int i) && PyData.intsShortAll 13 (l.map PyData.int)) = true
      rw [h2, int_short k0 k1]; rfl
    · show (if i == 0 then 0 else i.natAbs.log2 + 1) + 1 + PyData.weightAll (l.map PyData.int) ≤ 43 * (l.length + 1)
      split <;> omega
    · show max (PyData.depth (.int i)) (PyData.depthAll (l.map PyData.int)) ≤ 1
      have : PyData.depth (.int i) = 0 := rfl
      omega
    · show (decide (i.natAbs.log2 < 1920) && PyData.showableAll (l.map PyData.int)) = true
      rw [h5, decide_eq_true (by omega : i.natAbs.log2 < 1920)]; rfl
    · show (PyData.hasDict (.int i) || PyData.hasDictAll (l.map PyData.int)) = false
      rw [h6]; rfl
theorem rep_ints {l : List Int} (h : ∀ i ∈ l, 0 ≤ i ∧ i < 10 ^ 12) (hl : l.length ≤ 20000) : RepOk (.list (l.map PyData.int)) := by
  obtain ⟨h1, h2, h3, h4, h5, h6⟩ := ints_all l h
  refine rep_of (by rw [PyData.canLay0]; exact h1) (by rw [PyData.intsShort]; exact h2) (by rw [PyData.weight]; omega) ?_ (by rw [PyData.showable]; exact h5) (by rw [PyData.hasDict]; exact h6)
  rw [PyData.depth]; omega
theorem lay_il : ∀ l : List Int, PyData.canLayAll0 (l.map PyData.int) = true ∧ PyData.depthAll (l.map PyData.int) ≤ 1
  | [] => ⟨rfl, by simp [PyData.depthAll]⟩
  | i :: l => by
    obtain ⟨h1, h2⟩ := lay_il l
    refine ⟨?_, ?_⟩
    · show (PyData.canLay0 (.int i) && PyData.canLayAll0 (l.map PyData.int)) = true
      rw [h1]; rfl
    · show max (PyData.depth (.int i)) (PyData.depthAll (l.map PyData.int)) ≤ 1
      have : PyData.depth (.int i) = 0 := rfl
      omega
theorem shaped_il (l : List Int) : SeqAt.shaped (.list (l.map PyData.int)) = true := by
  obtain ⟨h1, h2⟩ := lay_il l
  unfold SeqAt.shaped
  rw [Bool.and_eq_true]
  refine ⟨by rw [PyData.canLay0]; exact h1, decide_eq_true ?_⟩
  rw [PyData.depth]; omega
theorem shaped_nil : SeqAt.shaped (.list []) = true := shaped_il []
end Pv
set_option maxHeartbeats 2000000
/-! Pv: more fuel keeps what a run came to. -/
namespace Pv
open PySem
def LeO {A : Type} (o o' : Out A) : Prop := o = .bad ∨ o' = o
theorem LeO.rfl' {A : Type} (o : Out A) : LeO o o := .inr rfl
theorem LeO.bind {A B : Type} {o o' : Out A} {f f' : A → S → Out B} (h : LeO o o') (hf : ∀ a s, LeO (f a s) (f' a s)) : LeO (o.bind f) (o'.bind f') := by
  rcases h with rfl | rfl
  · exact .inl rfl
  · cases o' with
    | ok a s => exact hf a s
    | exc x s => exact .inr rfl
    | bad => exact .inl rfl
theorem LeO.calm {A : Type} {o o' : Out A} (h : LeO o o') : LeO o.calm o'.calm := by
  rcases h with rfl | rfl
  · exact .inl rfl
  · exact .inr rfl
/-- the same texts, run better -/
inductive LeP : List Pr → List Pr → Prop
  | nil : LeP [] []
  | cons {e : Ex} {r r' : S → Out R} {l l' : List Pr} (h : ∀ s, LeO (r s) (r' s)) (t : LeP l l') : LeP ((e, r) :: l) ((e, r') :: l')
theorem LeP.ops : ∀ {l l' : List Pr}, LeP l l' → ∀ s, LeO (Pv.ops l s) (Pv.ops l' s)
  | _, _, .nil, s => .rfl' _
  | _, _, .cons (e := e) (r := r) (r' := r') (l := l) (l' := l') h t, s => by
    have gen : LeO ((r s).bind fun x s' => (Pv.ops l s').bind fun xs s'' => .ok (x.1 :: xs) s'') ((r' s).bind fun x s' => (Pv.ops l' s').bind fun xs s'' => .ok (x.1 :: xs) s'') :=
      (h s).bind fun x s' => (t.ops s').bind fun xs s'' => .rfl' _
    cases e <;> first | exact gen | skip
    rename_i i
    show LeO (match look i s with | none => .bad | some _ => (Pv.ops l s).bind fun xs s' => match look i s' with | some x => .ok (x :: xs) s' | none => .bad) (match look i s with | none => .bad | some _ => (Pv.ops l' s).bind fun xs s' => match look i s' with | some x => .ok (x :: xs) s' | none => .bad)
    cases look i s with
    | none => exact .rfl' _
    | some _ => exact (t.ops s).bind fun xs s' => .rfl' _
theorem LeP.evs : ∀ {l l' : List Pr}, LeP l l' → ∀ s, LeO (Pv.evs l s) (Pv.evs l' s)
  | _, _, .nil, s => .rfl' _
  | _, _, .cons h t, s => (h s).bind fun x s' => (t.evs s').bind fun xs s'' => .rfl' _
theorem LeP.evF : ∀ {l l' : List Pr}, LeP l l' → ∀ s, LeO (Pv.evF l s) (Pv.evF l' s)
  | _, _, .nil, s => .rfl' _
  | _, _, .cons h t, s => (h s).bind fun x s' => (t.evF s').bind fun xs s'' => .rfl' _
section
variable {A : Type} {e e2 : Ex} {r r' r2 r2' : S → Out R}
theorem le_op1 {f f' : D → S → Out A} (h : ∀ s, LeO (r s) (r' s)) (hf : ∀ x s, LeO (f x s) (f' x s)) (s : S) : LeO (op1 (e, r) s f) (op1 (e, r') s f') := by
  refine ((LeP.cons h .nil).ops s).bind fun l s => ?_
  rcases l with _ | ⟨x, _ | ⟨y, l⟩⟩ <;> (try cases x) <;> first | exact .rfl' _ | exact hf _ _
theorem le_op2 {f f' : D → D → S → Out A} (h : ∀ s, LeO (r s) (r' s)) (h2 : ∀ s, LeO (r2 s) (r2' s)) (hf : ∀ x y s, LeO (f x y s) (f' x y s)) (s : S) : LeO (op2 (e, r) (e2, r2) s f) (op2 (e, r') (e2, r2') s f') := by
  refine ((LeP.cons h (.cons h2 .nil)).ops s).bind fun l s => ?_
  rcases l with _ | ⟨x, _ | ⟨y, _ | ⟨z, l⟩⟩⟩ <;> (try cases x) <;> (try cases y) <;> first | exact .rfl' _ | exact hf _ _ _
theorem le_tst (h : ∀ s, LeO (r s) (r' s)) (s : S) : LeO (tst (e, r) s) (tst (e, r') s) := le_op1 h (fun _ _ => .rfl' _) s
theorem le_truD {f f' : D → Bool → S → Out A} (x : R) (s : S) (hf : ∀ d b s, LeO (f d b s) (f' d b s)) : LeO (truD x s f) (truD x s f') := by
  unfold truD
  cases x.1 with
  | d d => exact (LeO.rfl' _).bind fun b s => hf d b s
  | drw => exact .rfl' _
  | fn f => exact .rfl' _
  | clo m cs => exact .rfl' _
end
def LeF (F F' : CallF) : Prop := ∀ f vs dr, F f vs dr = .bad ∨ F' f vs dr = F f vs dr
theorem le_call {F F' : CallF} (h : LeF F F') (f : Nat) (vs : List SV) (s : S) : LeO (ofRo (F f vs s.dr) s) (ofRo (F' f vs s.dr) s) := by
  rcases h f vs s.dr with e | e
  · exact .inl (by rw [e]; rfl)
  · exact .inr (by rw [e])
theorem le_callK {F F' : CallF} (h : LeF F F') (f : Nat) (vs : List SV) (s : S) : LeO (ofRo (F f vs s.dr).keep s) (ofRo (F' f vs s.dr).keep s) := by
  rcases h f vs s.dr with e | e
  · exact .inl (by rw [e]; rfl)
  · exact .inr (by rw [e])
theorem le_lcL {turn turn' : D → S → Out (Option D)} (h : ∀ x s, LeO (turn x s) (turn' x s)) : ∀ (l acc : List D) (s : S), LeO (lcL turn l acc s) (lcL turn' l acc s)
  | [], acc, s => .rfl' _
  | x :: r, acc, s => (h x s).bind fun o s' => by
    cases o with
    | none => exact le_lcL h r acc s'
    | some y =>
      simp only
      split
      · exact le_lcL h r _ s'
      · exact .rfl' _
theorem le_tsts : ∀ {l l' : List Pr}, LeP l l' → ∀ s, LeO (tsts l s) (tsts l' s)
  | _, _, .nil, s => .rfl' _
  | _, _, .cons h t, s => (le_tst h s).bind fun b s' => by
    cases b with
    | true => exact le_tsts t s'
    | false => exact .rfl' _
theorem le_forL {turn turn' : D → S → Out Fl} (h : ∀ x s, LeO (turn x s) (turn' x s)) : ∀ (l : List D) (s : S), LeO (forL turn l s) (forL turn' l s)
  | [], s => .rfl' _
  | x :: r, s => (h x s).bind fun f s' => by
    cases f with
    | nx => exact le_forL h r s'
    | rt a fr => exact .rfl' _
theorem le_whL {test test' : S → Out Bool} {body body' : S → Out Fl} (h : ∀ s, LeO (test s) (test' s)) (hb : ∀ s, LeO (body s) (body' s)) : ∀ (n : Nat) (s : S), LeO (whL test body n s) (whL test' body' n s)
  | 0, s => .inl rfl
  | n + 1, s => by
    refine (h s).bind fun b s' => ?_
    cases b with
    | false => exact .rfl' _
    | true =>
      refine (hb s').bind fun f s'' => ?_
      cases f with
      | nx => exact le_whL h hb n s''
      | rt a fr => exact .rfl' _
mutual
theorem le_ev {G : List D} {F F' : CallF} (hF : LeF F F') : ∀ (e : Ex) (s : S), LeO (ev G F e s) (ev G F' e s)
  | .v i, s => .rfl' _
  | .c d, s => .rfl' _
  | .g i, s => .rfl' _
  | .fn i, s => .rfl' _
  | .bin o a b, s => le_op2 (le_ev hF a) (le_ev hF b) (fun _ _ _ => .rfl' _) s
  | .neg a, s => le_op1 (le_ev hF a) (fun _ _ => .rfl' _) s
  | .no a, s => (le_tst (le_ev hF a) s).bind fun _ _ => .rfl' _
  | .cmp o a b, s => le_op2 (le_ev hF a) (le_ev hF b) (fun _ _ _ => .rfl' _) s
  | .chain o p a b c, s => le_op2 (le_ev hF a) (le_ev hF b) (fun x y s => by
      cases y <;> first | exact .rfl' _ | skip
      exact (LeO.rfl' _).bind fun k s => by
        cases k with
        | true => exact le_op1 (le_ev hF c) (fun _ _ => .rfl' _) s
        | false => exact .rfl' _) s
  | .and a b, s => (le_ev hF a s).bind fun x s => le_truD x s fun d k s => by
      cases k with
      | true => exact le_ev hF b s
      | false => exact .rfl' _
  | .or a b, s => (le_ev hF a s).bind fun x s => le_truD x s fun d k s => by
      cases k with
      | true => exact .rfl' _
      | false => exact le_ev hF b s
  | .ite t a b, s => (le_tst (le_ev hF t) s).bind fun k s => by
      cases k with
      | true => exact le_ev hF a s
      | false => exact le_ev hF b s
  | .call f l, s => ((le_evEach hF l).evs s).bind fun vs s => le_call hF f vs s
  | .kcall f l k pm, s => ((le_evEach hF l).evs s).bind fun vs s => ((le_evEach hF k).evs s).bind fun ws s => (LeO.rfl' _).bind fun us s => le_call hF f us s
  | .bi o l, s => ((le_evEach hF l).ops s).bind fun _ _ => .rfl' _
  | .isi a l, s => le_op1 (le_ev hF a) (fun _ _ => .rfl' _) s
  | .ix a b, s => le_op2 (le_ev hF a) (le_ev hF b) (fun _ _ _ => .rfl' _) s
  | .sl a lo hi, s => by
      have rest : ∀ (get : S → Option SV) (s : S), LeO (op1 (lo, ev G F lo) s fun y s => (ofO (bound lo.gap y) s).bind fun l s => op1 (hi, ev G F hi) s fun z s => (ofO (bound hi.gap z) s).bind fun h s => (ofO (get s) s).bind fun x s => sliceO x l h s)
          (op1 (lo, ev G F' lo) s fun y s => (ofO (bound lo.gap y) s).bind fun l s => op1 (hi, ev G F' hi) s fun z s => (ofO (bound hi.gap z) s).bind fun h s => (ofO (get s) s).bind fun x s => sliceO x l h s) := fun get s =>
        le_op1 (le_ev hF lo) (fun y s => (LeO.rfl' _).bind fun l s => le_op1 (le_ev hF hi) (fun _ _ => .rfl' _) s) s
      show LeO (opA (a, ev G F a) s _) (opA (a, ev G F' a) s _)
      have gen := LeO.bind (le_ev (G := G) hF a s) fun x s => rest (fun _ => some x.1) s
      cases a <;> first | exact gen | skip
      rename_i i
      show LeO (match look i s with | none => .bad | some _ => _) (match look i s with | none => .bad | some _ => _)
      cases look i s with
      | none => exact .rfl' _
      | some _ => exact rest (look i) s
  | .rev a, s => le_op1 (le_ev hF a) (fun _ _ => .rfl' _) s
  | .tup l, s => ((le_evEach hF l).evs s).bind fun _ _ => .rfl' _
  | .lst l, s => ((le_evEach hF l).evs s).bind fun _ _ => .rfl' _
  | .dct _ _, s => .rfl' _
  | .lc e t it ifs own, s => (le_evIt hF it s).bind fun xs s => by
      split
      · refine (le_lcL (fun x s => LeO.calm ?_) xs [] _).bind fun _ _ => .rfl' _
        unfold lcTurn
        cases store t (.d x) false s with
        | none => exact .rfl' _
        | some s1 =>
          refine (le_tsts (le_evEach hF ifs) s1).bind fun b s2 => ?_
          cases b with
          | false => exact .rfl' _
          | true => exact (le_ev hF e s2).bind fun _ _ => .rfl' _
      · exact .rfl' _
  | .pop i, s => .rfl' _
  | .dk i k, s => .rfl' _
  | .dle i, s => .rfl' _
  | .dpop i, s => .rfl' _
  | .dmk l e, s => by
      show LeO (match s.at l with | .ow (.list _) => (ev G F e s).bind fun x s => mkO l x.1 s | _ => .bad) (match s.at l with | .ow (.list _) => (ev G F' e s).bind fun x s => mkO l x.1 s | _ => .bad)
      split
      · exact (le_ev hF e s).bind fun _ _ => .rfl' _
      · exact .rfl' _
  | .callv i l, s => by
      show LeO (match s.at i with | .va (.fn f) => (evs (evEach G F l) s).bind fun vs s => ofRo (F f vs s.dr) s | .va (.clo m cs) => (evs (evEach G F l) s).bind fun vs s => ofRo (F m (vs ++ cs.map .d) s.dr) s | _ => .bad)
        (match s.at i with | .va (.fn f) => (evs (evEach G F' l) s).bind fun vs s => ofRo (F' f vs s.dr) s | .va (.clo m cs) => (evs (evEach G F' l) s).bind fun vs s => ofRo (F' m (vs ++ cs.map .d) s.dr) s | _ => .bad)
      split
      · exact ((le_evEach hF l).evs s).bind fun vs s => le_call hF _ vs s
      · exact ((le_evEach hF l).evs s).bind fun vs s => le_call hF _ _ s
      · exact .rfl' _
  | .lcall f l m caps, s => ((le_evEach hF l).evs s).bind fun vs s => (LeO.rfl' _).bind fun cs s => le_callK hF f _ s
theorem le_evIt {G : List D} {F F' : CallF} (hF : LeF F F') : ∀ (it : It) (s : S), LeO (evIt G F it s) (evIt G F' it s)
  | .seq a, s => (le_ev hF a s).bind fun _ _ => .rfl' _
  | .rng1 a, s => le_op1 (le_ev hF a) (fun _ _ => .rfl' _) s
  | .rng2 a b, s => le_op2 (le_ev hF a) (le_ev hF b) (fun _ _ _ => .rfl' _) s
  | .enum a, s => (le_ev hF a s).bind fun _ _ => .rfl' _
  | .zip a b, s => ((LeP.cons (le_ev hF a) (.cons (le_ev hF b) .nil)).evs s).bind fun _ _ => .rfl' _
theorem le_evEach {G : List D} {F F' : CallF} (hF : LeF F F') : ∀ (l : List Ex), LeP (evEach G F l) (evEach G F' l)
  | [] => .nil
  | e :: r => .cons (le_ev hF e) (le_evEach hF r)
end
mutual
theorem le_evS {G : List D} {F F' : CallF} (hF : LeF F F') : ∀ (x : Sm) (s : S), LeO (evS G F x s) (evS G F' x s)
  | .asg t e, s => (le_ev hF e s).bind fun _ _ => .rfl' _
  | .par l k, s => ((le_evEach hF k).evF s).bind fun _ _ => .rfl' _
  | .setix i k e, s => (le_ev hF e s).bind fun x s => by
      cases look i s with
      | none => exact .rfl' _
      | some _ => exact (le_ev hF k s).bind fun _ _ => .rfl' _
  | .app i e, s => by
      show LeO (match s.at i with | .ow (.list _) => (ev G F e s).bind fun x s => appO i x.1 s | _ => .bad) (match s.at i with | .ow (.list _) => (ev G F' e s).bind fun x s => appO i x.1 s | _ => .bad)
      split
      · exact (le_ev hF e s).bind fun _ _ => .rfl' _
      · exact .rfl' _
  | .dset i k e, s => (le_ev hF e s).bind fun _ _ => .rfl' _
  | .expr e, s => (le_ev hF e s).bind fun _ _ => .rfl' _
  | .ifs t a b, s => (le_tst (le_ev hF t) s).bind fun k s => by
      cases k with
      | true => exact le_evB hF a s
      | false => exact le_evB hF b s
  | .loop t b, s => le_whL (le_tst (le_ev hF t)) (le_evB hF b) turns s
  | .each t it b, s => (le_evIt hF it s).bind fun xs s => le_forL (fun x s => by
      cases store t (.d x) false s with
      | none => exact .rfl' _
      | some s' => exact le_evB hF b s') xs s
  | .ret e, s => by
      have gen : LeO ((ev G F e s).bind fun x s => (.ok (.rt x.1 x.2) s : Out Fl)) ((ev G F' e s).bind fun x s => .ok (.rt x.1 x.2) s) := (le_ev hF e s).bind fun _ _ => .rfl' _
      cases e <;> first | exact gen | exact .rfl' _
  | .raise c m, s => .rfl' _
theorem le_evB {G : List D} {F F' : CallF} (hF : LeF F F') : ∀ (l : List Sm) (s : S), LeO (evB G F l s) (evB G F' l s)
  | [], s => .rfl' _
  | x :: r, s => (le_evS hF x s).bind fun f s' => by
      cases f with
      | nx => exact le_evB hF r s'
      | rt a fr => exact .rfl' _
end
theorem run_le {G : List D} {T : List Df} : ∀ n : Nat, LeF (run G T n) (run G T (n + 1))
  | 0, f, vs, dr => .inl rfl
  | n + 1, f, vs, dr => by
    cases e : T[f]? with
    | none => exact .inl (by unfold run; rw [e])
    | some d =>
      cases d with
      | fn np nn b =>
        unfold run
        rw [e]
        simp only
        split
        · rcases le_evB (G := G) (run_le (G := G) (T := T) n) b ⟨vs.map .va ++ List.replicate (nn - np) .un, dr⟩ with e | e
          · exact .inl (by rw [e]; rfl)
          · exact .inr (by rw [e])
        · exact .inl rfl
/-- more fuel -/
theorem run_more {G : List D} {T : List Df} {n f : Nat} {vs : List SV} {dr : Option Dr} (m : Nat) (h : run G T n f vs dr ≠ .bad) : run G T (n + m) f vs dr = run G T n f vs dr := by
  induction m with
  | zero => rfl
  | succ m ih =>
    rcases run_le (n + m) f vs dr with e | e
    · rw [ih] at e; exact absurd e h
    · rw [← ih]; exact e
end Pv
set_option maxHeartbeats 200000
set_option maxHeartbeats 2000000
/-! Pv: a run that needs no draws answers alike at any draws. -/
namespace Pv
open PySem
def S.dn (s : S) (d : Option Dr) : S := { s with dr := d }
/-- some draws stay; what runs from none to none runs at any draws -/
structure Nd {A : Type} (φ : S → Out A) : Prop where
  stay : ∀ s a s', s.dr.isSome = true → φ s = .ok a s' → s'.dr.isSome = true
  lift : ∀ s a s' d, s.dr = none → φ s = .ok a s' → s'.dr = none → φ (s.dn d) = .ok a (s'.dn d)
section
variable {A B : Type}
theorem Nd.bad : Nd (fun _ => (.bad : Out A)) := ⟨fun _ _ _ _ h => (nomatch h), fun _ _ _ _ _ h => (nomatch h)⟩
theorem Nd.exc (x : Xc) : Nd (fun s => (.exc x s : Out A)) := ⟨fun _ _ _ _ h => (nomatch h), fun _ _ _ _ _ h => (nomatch h)⟩
theorem Nd.ok (a : A) : Nd (fun s => .ok a s) := ⟨fun _ _ _ h e => (by cases e; exact h), fun _ _ _ d _ e _ => (by cases e; rfl)⟩
theorem Nd.bind {φ : S → Out A} {f : A → S → Out B} (h : Nd φ) (hf : ∀ a, Nd (f a)) : Nd fun s => (φ s).bind (f) := by
  refine ⟨fun s b s' hs e => ?_, fun s b s' d hs e hn => ?_⟩
  · cases e1 : φ s with
    | bad => rw [e1] at e; cases e
    | exc x s1 => rw [e1] at e; cases e
    | ok a s1 =>
      rw [e1] at e
      exact (hf a).stay s1 b s' (h.stay s a s1 hs e1) e
  · cases e1 : φ s with
    | bad => rw [e1] at e; cases e
    | exc x s1 => rw [e1] at e; cases e
    | ok a s1 =>
      rw [e1] at e
      have h1 : s1.dr = none := by
        cases hd : s1.dr with
        | none => rfl
        | some st =>
          have := (hf a).stay s1 b s' (by rw [hd]; rfl) e
          rw [hn] at this; cases this
      rw [h.lift s a s1 d hs e1 h1]
      exact (hf a).lift s1 b s' d h1 e hn
/-- by the slots -/
theorem Nd.env {φ : List Slot → S → Out A} (h : ∀ e, Nd (φ e)) : Nd fun s => φ s.env s :=
  ⟨fun s a s' hs e => (h s.env).stay s a s' hs e, fun s a s' d hs e hn => (h s.env).lift s a s' d hs e hn⟩
theorem Nd.env2 {φ : S → Out A} (e : List Slot → List Slot) (a : A) (h : φ = fun s => .ok a { s with env := e s.env }) : Nd φ := by
  subst h
  exact ⟨fun _ _ _ hs e => (by cases e; exact hs), fun _ _ _ d _ e _ => (by cases e; rfl)⟩
/-- by what the slots tell -/
theorem Nd.see {X : Type} {see : S → X} (hs : ∀ s d, see (s.dn d) = see s) {f : X → S → Out A} (h : ∀ x, Nd (f x)) : Nd fun s => f (see s) s :=
  ⟨fun s a s' h1 e => (h (see s)).stay s a s' h1 e, fun s a s' d h1 e hn => by
    show f (see (s.dn d)) (s.dn d) = _
    rw [hs]
    exact (h (see s)).lift s a s' d h1 e hn⟩
theorem look_dn (i : Nat) (s : S) (d : Option Dr) : look i (s.dn d) = look i s := rfl
theorem at_dn (i : Nat) (s : S) (d : Option Dr) : (s.dn d).at i = s.at i := rfl
theorem nd_ofO {X : Type} (o : Option X) : Nd (ofO o) := by
  cases o with
  | none => exact Nd.bad
  | some a => exact Nd.ok a
inductive NdP : List Pr → Prop
  | nil : NdP []
  | cons {e : Ex} {r : S → Out R} {l : List Pr} (h : Nd r) (t : NdP l) : NdP ((e, r) :: l)
theorem NdP.ops : ∀ {l : List Pr}, NdP l → Nd (Pv.ops l)
  | _, .nil => Nd.ok []
  | _, .cons (e := e) (r := r) (l := l) h t => by
    have gen : Nd (fun s => (r s).bind fun x s' => (Pv.ops l s').bind fun xs s'' => .ok (x.1 :: xs) s'') := h.bind fun x => (t.ops).bind fun xs => Nd.ok _
    cases e <;> first | exact gen | skip
    rename_i i
    refine Nd.see (see := look i) (f := fun o s => match o with | none => .bad | some _ => (Pv.ops l s).bind fun xs s' => match look i s' with | some x => .ok (x :: xs) s' | none => .bad) (look_dn i) fun o => ?_
    cases o with
    | none => exact Nd.bad
    | some x0 =>
      refine (t.ops).bind fun xs => ?_
      refine Nd.see (see := look i) (f := fun o s => match o with | some x => .ok (x :: xs) s | none => .bad) (look_dn i) fun o => ?_
      cases o with
      | none => exact Nd.bad
      | some x => exact Nd.ok _
theorem NdP.evs : ∀ {l : List Pr}, NdP l → Nd (Pv.evs l)
  | _, .nil => Nd.ok []
  | _, .cons h t => h.bind fun x => (t.evs).bind fun xs => Nd.ok _
theorem NdP.evF : ∀ {l : List Pr}, NdP l → Nd (Pv.evF l)
  | _, .nil => Nd.ok []
  | _, .cons h t => h.bind fun x => (t.evF).bind fun xs => Nd.ok _
theorem nd_op1 {e : Ex} {r : S → Out R} {f : D → S → Out A} (h : Nd r) (hf : ∀ x, Nd (f x)) : Nd fun s => op1 (e, r) s f := by
  refine ((NdP.cons h .nil).ops).bind fun l => ?_
  rcases l with _ | ⟨x, _ | ⟨y, l⟩⟩ <;> (try cases x) <;> first | exact Nd.bad | exact hf _
theorem nd_op2 {e e2 : Ex} {r r2 : S → Out R} {f : D → D → S → Out A} (h : Nd r) (h2 : Nd r2) (hf : ∀ x y, Nd (f x y)) : Nd fun s => op2 (e, r) (e2, r2) s f := by
  refine ((NdP.cons h (.cons h2 .nil)).ops).bind fun l => ?_
  rcases l with _ | ⟨x, _ | ⟨y, _ | ⟨z, l⟩⟩⟩ <;> (try cases x) <;> (try cases y) <;> first | exact Nd.bad | exact hf _ _
theorem nd_tst {e : Ex} {r : S → Out R} (h : Nd r) : Nd (tst (e, r)) := nd_op1 h fun x => nd_ofO _
theorem nd_truD {f : D → Bool → S → Out A} (x : R) (hf : ∀ d b, Nd (f d b)) : Nd fun s => truD x s f := by
  unfold truD
  cases x.1 with
  | d d => exact (nd_ofO _).bind fun b => hf d b
  | drw => exact Nd.bad
  | fn f => exact Nd.bad
  | clo m cs => exact Nd.bad
theorem nd_tsts : ∀ {l : List Pr}, NdP l → Nd (tsts l)
  | _, .nil => Nd.ok true
  | _, .cons h t => (nd_tst h).bind fun b => by
    cases b with
    | true => exact nd_tsts t
    | false => exact Nd.ok false
theorem nd_calm {φ : S → Out A} (h : Nd φ) : Nd fun s => (φ s).calm := by
  refine ⟨fun s a s' hs e => ?_, fun s a s' d hs e hn => ?_⟩
  · cases e1 : φ s <;> rw [e1] at e <;> cases e
    exact h.stay s _ _ hs e1
  · cases e1 : φ s <;> rw [e1] at e <;> cases e
    rw [h.lift s _ _ d hs e1 hn]; rfl
theorem nd_lcL {turn : D → S → Out (Option D)} (h : ∀ x, Nd (turn x)) : ∀ (l acc : List D), Nd (lcL turn l acc)
  | [], acc => Nd.ok acc
  | x :: r, acc => (h x).bind fun o => by
    cases o with
    | none => exact nd_lcL h r acc
    | some y =>
      by_cases hl : acc.length < sizeLine
      · simp only [hl, if_true]; exact nd_lcL h r _
      · simp only [hl, if_false]; exact Nd.bad
theorem nd_forL {turn : D → S → Out Fl} (h : ∀ x, Nd (turn x)) : ∀ (l : List D), Nd (forL turn l)
  | [] => Nd.ok Fl.nx
  | x :: r => (h x).bind fun f => by
    cases f with
    | nx => exact nd_forL h r
    | rt a fr => exact Nd.ok _
theorem nd_whL {test : S → Out Bool} {body : S → Out Fl} (h : Nd test) (hb : Nd body) : ∀ n : Nat, Nd fun s => whL test body n s
  | 0 => Nd.bad
  | n + 1 => by
    refine h.bind fun b => ?_
    cases b with
    | false => exact Nd.ok Fl.nx
    | true =>
      refine hb.bind fun f => ?_
      cases f with
      | nx => exact nd_whL h hb n
      | rt a fr => exact Nd.ok _
def NdF (F : CallF) : Prop := ∀ f vs, (∀ dr a fr dr', dr.isSome = true → F f vs dr = .ok a fr dr' → dr'.isSome = true) ∧ ∀ a fr d, F f vs none = .ok a fr none → F f vs d = .ok a fr d
theorem nd_call {F : CallF} (h : NdF F) (f : Nat) (vs : List SV) : Nd fun s => ofRo (F f vs s.dr) s := by
  refine ⟨fun s a s' hs e => ?_, fun s a s' d hs e hn => ?_⟩
  · cases e1 : F f vs s.dr <;> rw [e1] at e <;> cases e
    exact (h f vs).1 _ _ _ _ hs e1
  · rw [hs] at e
    cases e1 : F f vs none <;> rw [e1] at e <;> cases e
    have hn' : _ = none := hn
    simp only at hn'
    subst hn'
    show ofRo (F f vs d) (s.dn d) = _
    rw [(h f vs).2 _ _ d e1]; rfl
end
theorem nd_load (i : Nat) : Nd (load i) := by
  refine ⟨fun s a s' hs e => ?_, fun s a s' d hs e hn => ?_⟩
  · unfold load at e
    split at e <;> cases e <;> exact hs
  · have q2 : (s.dn d).at i = s.at i := rfl
    unfold load at e ⊢
    rw [q2]
    cases q : s.at i with
    | un => rw [q] at e; cases e
    | va x => rw [q] at e; cases x <;> cases e <;> rfl
    | ow d => rw [q] at e; cases e; rfl
theorem nd_none {A : Type} {i : Nat} {f : Dr → S → Out A} (h : ∀ st s, s.dr.isSome = true → ∀ a s', f st s = .ok a s' → s'.dr.isSome = true) : Nd fun s => drO i s f := by
  refine ⟨fun s a s' hs e => ?_, fun s a s' d hs e hn => ?_⟩
  · unfold drO at e
    split at e
    · exact h _ s hs a s' e
    · cases e
  · unfold drO at e
    split at e
    · rename_i hd
      rw [hs] at hd
      cases hd
    · cases e
/-- slots put, as they stand at any draws -/
theorem nd_pure {A : Type} {φ : S → Out A} (h : ∀ s a s', φ s = .ok a s' → s'.dr = s.dr ∧ ∀ d, φ (s.dn d) = .ok a (s'.dn d)) : Nd φ :=
  ⟨fun s a s' hs e => by rw [(h s a s' e).1]; exact hs, fun s a s' d _ e _ => (h s a s' e).2 d⟩
theorem caps_dn : ∀ (l : List Nat) (s : S) (d : Option Dr), capsOf l (s.dn d) = capsOf l s
  | [], _, _ => rfl
  | i :: r, s, d => by
    unfold capsOf
    rw [at_dn, caps_dn r s d]
theorem keep_ok {r : Ro} {a : SV} {fr : Bool} {dr : Option Dr} (h : r.keep = .ok a fr dr) : r = .ok a fr dr := by
  cases r with
  | ok x f d => cases x <;> first | exact h | cases h
  | exc x d => exact h
  | bad => exact h
theorem nd_callK {F : CallF} (h : NdF F) (f : Nat) (vs : List SV) : Nd fun s => ofRo (F f vs s.dr).keep s := by
  refine ⟨fun s a s' hs e => ?_, fun s a s' d hs e hn => ?_⟩
  · cases e1 : (F f vs s.dr).keep <;> rw [e1] at e <;> cases e
    exact (h f vs).1 _ _ _ _ hs (keep_ok e1)
  · rw [hs] at e
    cases e1 : (F f vs none).keep <;> rw [e1] at e <;> cases e
    have hn' : _ = none := hn
    simp only at hn'
    subst hn'
    show ofRo (F f vs d).keep (s.dn d) = _
    have e2 := (h f vs).2 _ _ d (keep_ok e1)
    rw [keep_ok e1] at e1
    rw [e2]
    cases (‹SV› : SV) <;> first | rfl | cases e1
theorem Nd.pre {A : Type} {φ : S → Out A} (h : Nd φ) {p : S → S} (hp : ∀ s d, p (s.dn d) = (p s).dn d) (hd : ∀ s, (p s).dr = s.dr) : Nd fun s => φ (p s) :=
  ⟨fun s a s' hs e => h.stay (p s) a s' (by rw [hd]; exact hs) e, fun s a s' d hs e hn => by
    show φ (p (s.dn d)) = _
    rw [hp]
    exact h.lift (p s) a s' d (by rw [hd]; exact hs) e hn⟩
theorem fold_dn {X : Type} (g : S → X → S) (hg : ∀ s x d, g (s.dn d) x = (g s x).dn d) (hd : ∀ s x, (g s x).dr = s.dr) : ∀ (l : List X) (s : S), (∀ d, l.foldl g (s.dn d) = (l.foldl g s).dn d) ∧ (l.foldl g s).dr = s.dr
  | [], s => ⟨fun _ => rfl, rfl⟩
  | x :: r, s => ⟨fun d => by
      show r.foldl g (g (s.dn d) x) = (r.foldl g (g s x)).dn d
      rw [hg]; exact (fold_dn g hg hd r (g s x)).1 d, by
      show (r.foldl g (g s x)).dr = _
      rw [(fold_dn g hg hd r (g s x)).2, hd]⟩
theorem hide_dn (own : List Nat) (s : S) : (∀ d, hideS own (s.dn d) = (hideS own s).dn d) ∧ (hideS own s).dr = s.dr := fold_dn (fun s i => s.put i .un) (fun _ _ _ => rfl) (fun _ _ => rfl) own s
theorem back_dn (own : List Nat) (s0 s : S) : (∀ d, backS own s0 (s.dn d) = (backS own s0 s).dn d) ∧ (backS own s0 s).dr = s.dr := fold_dn (fun s i => s.put i (s0.at i)) (fun _ _ _ => rfl) (fun _ _ => rfl) own s
theorem store_dn (t : Tg) (x : SV) (fr : Bool) : (∀ s, store t x fr s = none) ∨ ∃ p : S → S, (∀ s, store t x fr s = some (p s)) ∧ (∀ s d, p (s.dn d) = (p s).dn d) ∧ ∀ s, (p s).dr = s.dr := by
  cases t with
  | nm i => exact .inr ⟨fun s => s.put i (mine x fr), fun _ => rfl, fun _ _ => rfl, fun _ => rfl⟩
  | tup l =>
    unfold store
    cases x with
    | drw => exact .inl fun _ => rfl
    | fn f => exact .inl fun _ => rfl
    | clo m cs => exact .inl fun _ => rfl
    | d x =>
      cases x <;> first | exact .inl fun _ => rfl | skip
      rename_i ds
      by_cases hl : l.length = ds.length
      · exact .inr ⟨fun s => (l.zip ds).foldl (fun s p => s.put p.1 (.va (.d p.2))) s, fun _ => if_pos hl, fun s d => (fold_dn (X := Nat × D) (fun s p => s.put p.1 (.va (.d p.2))) (fun _ _ _ => rfl) (fun _ _ => rfl) _ s).1 d, fun s => (fold_dn (X := Nat × D) (fun s p => s.put p.1 (.va (.d p.2))) (fun _ _ _ => rfl) (fun _ _ => rfl) _ s).2⟩
      · exact .inl fun _ => if_neg hl
theorem nd_ite {A : Type} {b : Bool} {φ ψ : S → Out A} (h1 : Nd φ) (h2 : Nd ψ) : Nd fun s => if b then φ s else ψ s := by
  cases b
  · exact h2
  · exact h1
theorem nd_mkO (l : Nat) (x : SV) : Nd (mkO l x) := by
  refine ⟨fun s a s' hs e => ?_, fun s a s' d hs e hn => ?_⟩
  · unfold mkO at e
    split at e
    · split at e
      · cases e; rfl
      · cases e
    · cases e
  · unfold mkO at e
    split at e
    · split at e
      · cases e; cases hn
      · cases e
    · cases e
theorem nd_sliceO (q : SV) (l h : Option Int) : Nd (sliceO q l h) := by
  cases q with
  | d x => exact nd_ofO _
  | drw => exact Nd.bad
  | fn f => exact Nd.bad
  | clo m cs => exact Nd.bad
theorem nd_seqO (x : SV) : Nd (seqO x) := by
  unfold seqO
  split
  · exact Nd.ok _
  · exact Nd.ok _
  · exact Nd.bad
mutual
theorem nd_ev {G : List D} {F : CallF} (hF : NdF F) : ∀ (e : Ex), Nd (ev G F e)
  | .v i => nd_load i
  | .c d => Nd.ok _
  | .g i => nd_ofO _
  | .fn i => Nd.ok _
  | .bin o a b => nd_op2 (nd_ev hF a) (nd_ev hF b) fun _ _ => nd_ofO _
  | .neg a => nd_op1 (nd_ev hF a) fun x => by cases x <;> first | exact Nd.bad | exact Nd.ok _
  | .no a => (nd_tst (nd_ev hF a)).bind fun _ => Nd.ok _
  | .cmp o a b => nd_op2 (nd_ev hF a) (nd_ev hF b) fun _ _ => nd_ofO _
  | .chain o p a b c => nd_op2 (nd_ev hF a) (nd_ev hF b) fun x y => by
      cases y <;> first | exact Nd.bad | skip
      exact (nd_ofO _).bind fun k => nd_ite (nd_op1 (nd_ev hF c) fun _ => nd_ofO _) (Nd.ok _)
  | .and a b => (nd_ev hF a).bind fun x => nd_truD x fun d k => nd_ite (nd_ev hF b) (Nd.ok _)
  | .or a b => (nd_ev hF a).bind fun x => nd_truD x fun d k => nd_ite (Nd.ok _) (nd_ev hF b)
  | .ite t a b => (nd_tst (nd_ev hF t)).bind fun k => nd_ite (nd_ev hF a) (nd_ev hF b)
  | .call f l => ((nd_evEach hF l).evs).bind fun vs => nd_call hF f vs
  | .kcall f l k pm => ((nd_evEach hF l).evs).bind fun vs => ((nd_evEach hF k).evs).bind fun ws => (nd_ofO _).bind fun us => nd_call hF f us
  | .bi o l => ((nd_evEach hF l).ops).bind fun _ => nd_ofO _
  | .isi a l => nd_op1 (nd_ev hF a) fun _ => Nd.ok _
  | .ix a b => nd_op2 (nd_ev hF a) (nd_ev hF b) fun _ _ => nd_ofO _
  | .sl a lo hi => by
      have rest : ∀ (get : S → Option SV), (∀ s d, get (s.dn d) = get s) → Nd fun s => (op1 (lo, ev G F lo) s fun y s => (ofO (bound lo.gap y) s).bind fun l s => op1 (hi, ev G F hi) s fun z s => (ofO (bound hi.gap z) s).bind fun h s => (ofO (get s) s).bind fun x s => sliceO x l h s) := fun get hg =>
        nd_op1 (nd_ev hF lo) fun y => (nd_ofO _).bind fun l => nd_op1 (nd_ev hF hi) fun z => (nd_ofO _).bind fun h =>
          Nd.bind (φ := fun s => ofO (get s) s) (Nd.see (see := get) hg (f := fun o s => ofO o s) fun o => nd_ofO o) fun x => nd_sliceO x l h
      show Nd fun s => opA (a, ev G F a) s _
      have gen := Nd.bind (nd_ev (G := G) hF a) fun x => rest (fun _ => some x.1) (fun _ _ => rfl)
      cases a <;> first | exact gen | skip
      rename_i i
      refine Nd.see (see := look i) (f := fun o s => match o with | none => .bad | some _ => op1 (lo, ev G F lo) s fun y s => (ofO (bound lo.gap y) s).bind fun l s => op1 (hi, ev G F hi) s fun z s => (ofO (bound hi.gap z) s).bind fun h s => (ofO (look i s) s).bind fun x s => sliceO x l h s) (look_dn i) fun o => ?_
      cases o with
      | none => exact Nd.bad
      | some _ => exact rest (look i) (look_dn i)
  | .rev a => nd_op1 (nd_ev hF a) fun x => by cases x <;> first | exact Nd.bad | exact Nd.ok _
  | .tup l => ((nd_evEach hF l).evs).bind fun _ => nd_ofO _
  | .lst l => ((nd_evEach hF l).evs).bind fun _ => nd_ofO _
  | .dct _ _ => Nd.bad
  | .lc e t it ifs own => (nd_evIt hF it).bind fun xs => by
      have ht : ∀ x, Nd fun s => (lcTurn t own (evEach G F ifs) (e, ev G F e) x s).calm := fun x => nd_calm (by
        unfold lcTurn
        rcases store_dn t (.d x) false with h | ⟨p, h, hp, hd⟩
        · simp only [h]; exact Nd.bad
        · simp only [h]
          refine Nd.pre (φ := fun s => (tsts (evEach G F ifs) s).bind fun b s2 => if b then (ev G F e s2).bind fun r s3 => match r.1 with | .d y => .ok (some y) (hideS own s3) | _ => .bad else .ok none (hideS own s2)) ?_ hp hd
          refine (nd_tsts (nd_evEach hF ifs)).bind fun b => nd_ite ((nd_ev hF e).bind fun r => ?_) ((Nd.ok _).pre (fun s d => (hide_dn own s).1 d) (fun s => (hide_dn own s).2))
          cases r.1 with
          | d y => exact (Nd.ok _).pre (fun s d => (hide_dn own s).1 d) (fun s => (hide_dn own s).2)
          | drw => exact Nd.bad
          | fn f => exact Nd.bad
          | clo m cs => exact Nd.bad)
      refine Nd.env (φ := fun q s => if ownFree own ⟨q, none⟩ then (lcL (fun x s => (lcTurn t own (evEach G F ifs) (e, ev G F e) x s).calm) xs [] (hideS own s)).bind fun ys s' => Out.ok (SV.d (PyData.list ys), true) (backS own ⟨q, none⟩ s') else .bad) fun q => ?_
      refine nd_ite (((nd_lcL ht xs []).pre (fun s d => (hide_dn own s).1 d) (fun s => (hide_dn own s).2)).bind fun ys => (Nd.ok _).pre (fun s d => (back_dn own _ s).1 d) (fun s => (back_dn own _ s).2)) Nd.bad
  | .pop i => by
      refine Nd.see (see := fun s => s.at i) (f := fun o s => match o with | .ow (.list l) => (match l.getLast? with | some x => Out.ok (SV.d x, false) (s.put i (.ow (.list l.dropLast))) | none => .bad) | _ => .bad) (at_dn i) fun o => ?_
      split
      · split
        · exact (Nd.ok _).pre (fun _ _ => rfl) (fun _ => rfl)
        · exact Nd.bad
      · exact Nd.bad
  | .dk i k => nd_none fun st s hs a s' e => by cases e; exact hs
  | .dle i => nd_none fun st s hs a s' e => by cases e; exact hs
  | .dpop i => nd_none fun st s hs a s' e => by
      split at e
      · cases e; rfl
      · cases e
  | .dmk l e => by
      refine Nd.see (see := fun s => s.at l) (f := fun o s => match o with | .ow (.list _) => (ev G F e s).bind fun x s => mkO l x.1 s | _ => .bad) (at_dn l) fun o => ?_
      split
      · exact (nd_ev hF e).bind fun x => nd_mkO l x.1
      · exact Nd.bad
  | .callv i l => by
      refine Nd.see (see := fun s => s.at i) (f := fun o s => match o with | .va (.fn f) => (evs (evEach G F l) s).bind fun vs s => ofRo (F f vs s.dr) s | .va (.clo m cs) => (evs (evEach G F l) s).bind fun vs s => ofRo (F m (vs ++ cs.map .d) s.dr) s | _ => .bad) (at_dn i) fun o => ?_
      split
      · exact ((nd_evEach hF l).evs).bind fun vs => nd_call hF _ vs
      · exact ((nd_evEach hF l).evs).bind fun vs => nd_call hF _ _
      · exact Nd.bad
  | .lcall f l m caps => ((nd_evEach hF l).evs).bind fun vs => Nd.bind (φ := fun s => ofO (capsOf caps s) s) (Nd.see (see := capsOf caps) (caps_dn caps) (f := fun o s => ofO o s) fun o => nd_ofO o) fun cs => nd_callK hF f _
theorem nd_evIt {G : List D} {F : CallF} (hF : NdF F) : ∀ (it : It), Nd (evIt G F it)
  | .seq a => (nd_ev hF a).bind fun x => nd_seqO x.1
  | .rng1 a => nd_op1 (nd_ev hF a) fun x => by
      cases x <;> first | exact Nd.bad | skip
      exact nd_ite (Nd.ok _) Nd.bad
  | .rng2 a b => nd_op2 (nd_ev hF a) (nd_ev hF b) fun x y => by
      cases x <;> first | exact Nd.bad | skip
      cases y <;> first | exact Nd.bad | skip
      exact nd_ite (Nd.ok _) Nd.bad
  | .enum a => (nd_ev hF a).bind fun x => by
      split
      · exact Nd.ok _
      · exact Nd.bad
  | .zip a b => ((NdP.cons (nd_ev hF a) (.cons (nd_ev hF b) .nil)).evs).bind fun x => by
      split
      · exact Nd.ok _
      · exact Nd.bad
theorem nd_evEach {G : List D} {F : CallF} (hF : NdF F) : ∀ (l : List Ex), NdP (evEach G F l)
  | [] => .nil
  | e :: r => .cons (nd_ev hF e) (nd_evEach hF r)
end
theorem nd_setO (i : Nat) (x y : SV) : Nd (setO i x y) := by
  refine Nd.see (see := fun s => s.at i) (f := fun o s => match o, x, y with | .ow (.list l), .d x, .d (.int j) => (match L2.ixN l.length j with | some n => .ok Fl.nx (s.put i (.ow (.list (l.set n x)))) | none => .bad) | _, _, _ => .bad) (at_dn i) fun o => ?_
  split
  · split
    · exact (Nd.ok _).pre (fun _ _ => rfl) (fun _ => rfl)
    · exact Nd.bad
  · exact Nd.bad
theorem nd_appO (i : Nat) (x : SV) : Nd (appO i x) := by
  refine Nd.see (see := fun s => s.at i) (f := fun o s => match o, x with | .ow (.list l), .d x => if l.length < sizeLine then .ok Fl.nx (s.put i (.ow (.list (l ++ [x])))) else .bad | _, _ => .bad) (at_dn i) fun o => ?_
  split
  · split
    · exact (Nd.ok _).pre (fun _ _ => rfl) (fun _ => rfl)
    · exact Nd.bad
  · exact Nd.bad
mutual
theorem nd_evS {G : List D} {F : CallF} (hF : NdF F) : ∀ (x : Sm), Nd (evS G F x)
  | .asg t e => (nd_ev hF e).bind fun x => by
      rcases store_dn t x.1 x.2 with h | ⟨p, h, hp, hd⟩
      · simp only [h]; exact Nd.bad
      · simp only [h]; exact (Nd.ok _).pre hp hd
  | .par l k => ((nd_evEach hF k).evF).bind fun vs => by
      by_cases hl : vs.length = l.length
      · simp only [hl, if_true]
        exact (Nd.ok _).pre (fun s d => (fold_dn (X := Nat × R) (fun s p => s.put p.1 (mine p.2.1 p.2.2)) (fun _ _ _ => rfl) (fun _ _ => rfl) _ s).1 d) (fun s => (fold_dn (X := Nat × R) (fun s p => s.put p.1 (mine p.2.1 p.2.2)) (fun _ _ _ => rfl) (fun _ _ => rfl) _ s).2)
      · simp only [hl, if_false]
        exact Nd.bad
  | .setix i k e => (nd_ev hF e).bind fun x => by
      refine Nd.see (see := look i) (f := fun o s => match o with | none => .bad | some _ => (ev G F k s).bind fun y s => setO i x.1 y.1 s) (look_dn i) fun o => ?_
      cases o with
      | none => exact Nd.bad
      | some _ => exact (nd_ev hF k).bind fun y => nd_setO i x.1 y.1
  | .app i e => by
      refine Nd.see (see := fun s => s.at i) (f := fun o s => match o with | .ow (.list _) => (ev G F e s).bind fun x s => appO i x.1 s | _ => .bad) (at_dn i) fun o => ?_
      split
      · exact (nd_ev hF e).bind fun x => nd_appO i x.1
      · exact Nd.bad
  | .dset i k e => (nd_ev hF e).bind fun x => nd_none fun st s hs a s' e => by
      split at e
      · split at e
        · cases e; rfl
        · cases e
      · cases e
  | .expr e => (nd_ev hF e).bind fun _ => Nd.ok _
  | .ifs t a b => (nd_tst (nd_ev hF t)).bind fun k => nd_ite (nd_evB hF a) (nd_evB hF b)
  | .loop t b => by
      show Nd fun s => whL (tst (t, ev G F t)) (evB G F b) turns s
      exact nd_whL (nd_tst (nd_ev hF t)) (nd_evB hF b) turns
  | .each t it b => (nd_evIt hF it).bind fun xs => nd_forL (fun x => by
      rcases store_dn t (.d x) false with h | ⟨p, h, hp, hd⟩
      · simp only [h]; exact Nd.bad
      · simp only [h]; exact (nd_evB hF b).pre hp hd) xs
  | .ret e => by
      have gen : Nd (fun s => (ev G F e s).bind fun x s => (.ok (.rt x.1 x.2) s : Out Fl)) := (nd_ev hF e).bind fun _ => Nd.ok _
      cases e <;> first | exact gen | skip
      rename_i i
      refine Nd.see (see := fun s => s.at i) (f := fun o s => match o with | .un => .bad | .va (.d x) => .ok (Fl.rt (.d x) false) s | .va .drw => .ok (Fl.rt .drw false) s | .va (.fn f) => .ok (Fl.rt (.fn f) false) s | .va (.clo _ _) => .bad | .ow d => .ok (Fl.rt (.d d) true) (s.put i .un)) (at_dn i) fun o => ?_
      cases o with
      | un => exact Nd.bad
      | va x => cases x <;> first | exact Nd.ok _ | exact Nd.bad
      | ow d => exact (Nd.ok _).pre (fun _ _ => rfl) (fun _ => rfl)
  | .raise c m => Nd.exc _
theorem nd_evB {G : List D} {F : CallF} (hF : NdF F) : ∀ (l : List Sm), Nd (evB G F l)
  | [] => Nd.ok _
  | x :: r => (nd_evS hF x).bind fun f => by
      cases f with
      | nx => exact nd_evB hF r
      | rt a fr => exact Nd.ok _
end
theorem nd_run {G : List D} {T : List Df} : ∀ n : Nat, NdF (run G T n)
  | 0, f, vs => ⟨fun _ _ _ _ _ h => (nomatch h), fun _ _ _ h => (nomatch h)⟩
  | n + 1, f, vs => by
    have ih := nd_run (G := G) (T := T) n
    unfold run
    cases e : T[f]? with
    | none => exact ⟨fun _ _ _ _ _ h => (nomatch h), fun _ _ _ h => (nomatch h)⟩
    | some d =>
      cases d with
      | fn np nn b =>
        simp only
        split
        · have hb := nd_evB (G := G) ih b
          refine ⟨fun dr a fr dr' hs e => ?_, fun a fr d e => ?_⟩
          · cases q : evB G (run G T n) b ⟨vs.map .va ++ List.replicate (nn - np) .un, dr⟩ with
            | bad => rw [q] at e; cases e
            | exc x s => rw [q] at e; cases e
            | ok fl s =>
              rw [q] at e
              have := hb.stay _ _ _ hs q
              cases fl <;> cases e <;> exact this
          · cases q : evB G (run G T n) b ⟨vs.map .va ++ List.replicate (nn - np) .un, none⟩ with
            | bad => rw [q] at e; cases e
            | exc x s => rw [q] at e; cases e
            | ok fl s =>
              rw [q] at e
              have hn : s.dr = none := by cases fl <;> simp only [retOf, Ro.ok.injEq] at e <;> exact e.2.2
              have := hb.lift _ _ _ d rfl q hn
              have this : evB G (run G T n) b ⟨vs.map .va ++ List.replicate (nn - np) .un, d⟩ = .ok fl (s.dn d) := this
              rw [this]
              cases fl <;> simp only [retOf, Ro.ok.injEq] at e ⊢
              · exact ⟨e.1, e.2.1, rfl⟩
              · exact ⟨e.1, e.2.1, rfl⟩
        · exact ⟨fun _ _ _ _ _ h => (nomatch h), fun _ _ _ h => (nomatch h)⟩
/-- a run that needs no draws and makes none -/
theorem run_dr {G : List D} {T : List Df} {n f : Nat} {vs : List SV} {a : SV} {fr : Bool} (d : Option Dr) (h : run G T n f vs none = .ok a fr none) : run G T n f vs d = .ok a fr d := (nd_run n f vs).2 a fr d h
end Pv
set_option maxHeartbeats 200000
set_option maxHeartbeats 2000000
/-! Pv: how trees lie in the layer's heap. R: what is shared and never changed from now on; the rest belongs to one name. -/
namespace Pv
open PySem PySem.Spec PyProof.Rows L2

def bare : HO → HO
  | .frz _ u => u
  | o => o
def kD : Key → D
  | .inl i => .int i
  | .inr x => .str x

/-- what the whole run fixes: the written part, where each def and each class of errors stands -/
structure Lm where
  params : Arguments
  body : Expr
  scope : Scope
  qual : Str
  cl : List (Str × Addr)
  c : Addr
/-- the object at f is this lambda's -/
def LamO (f : Addr) (L : Lm) : HO := .ext fun h => ∃ pm ctv : Value, h.get? f = some (PySem.W.kla_obj "<lambda>" L.qual L.params L.body L.scope L.cl pm L.c ctv)
/-- a lambda at hand: its text's place, what it captured, as data and as it lies -/
structure Clo where
  m : Nat
  cs : List D
  ws : List V
  L : Lm
  ps : List Str
  fr : List Str
structure Ct where
  K : PySem.W.Frag
  fa : Nat → Option Addr
  ea : Nat → Option Addr
  /-- tables of code objects -/
  tabs : List (Addr × Str)
  /-- which texts the places of lambdas stand for: parameters, body, scope, the names of the parameters and of what is captured -/
  ls : Nat → Arguments → Expr → Scope → List Str → List Str → Prop
  /-- the lambdas that this frame got -/
  cl : Addr → Option Clo

/-- a list that is read: tracked, or of the written part -/
def SqX (K : PySem.W.Frag) (R : Hp) (a : Addr) (xs : List V) : Prop := Rd R a (.lst xs) ∨ ∃ (its : Array Value) (n : Nat), K.lookup a = some { cls := .type "list", data := .seq its n } ∧ its.size ≤ sizeLine ∧ Vals xs its.toList
theorem SqX.sq {K : PySem.W.Frag} {R : Hp} {a : Addr} {xs : List V} (h : SqX K R a xs) : SqL K R a xs := h.imp id fun ⟨its, n, h1, h2, h3⟩ => ⟨_, its, n, h1, rfl, rfl, rfl, h2, h3⟩

mutual
inductive Rp (K : PySem.W.Frag) (R : Hp) : V → D → Prop
  | non : Rp K R .non .none
  | bl (b : Bool) : Rp K R (.bl b) (.bool b)
  | int (i : Int) : Rp K R (.int i) (.int i)
  | str (x : Str) : Rp K R (.str x) (.str x)
  | lst {a : Addr} {xs : List V} {ds : List D} : SqX K R a xs → RpA K R xs ds → Rp K R (.ref a) (.list ds)
  | tup {a : Addr} {xs : List V} {ds : List D} : SqT K R a xs → RpA K R xs ds → Rp K R (.ref a) (.tuple ds)
  | dct {a : Addr} {kvs : List (Key × V)} {ds : List (D × D)} : Rd R a (.dK kvs) → RpK K R kvs ds → Rp K R (.ref a) (.dict ds)
inductive RpA (K : PySem.W.Frag) (R : Hp) : List V → List D → Prop
  | nil : RpA K R [] []
  | cons {v : V} {vs : List V} {d : D} {ds : List D} : Rp K R v d → RpA K R vs ds → RpA K R (v :: vs) (d :: ds)
inductive RpK (K : PySem.W.Frag) (R : Hp) : List (Key × V) → List (D × D) → Prop
  | nil : RpK K R [] []
  | cons {k : Key} {v : V} {vs : List (Key × V)} {d : D} {ds : List (D × D)} : Rp K R v d → RpK K R vs ds → RpK K R ((k, v) :: vs) ((kD k, d) :: ds)
end

/-- more is shared -/
def Le (R R' : Hp) : Prop := ∀ a o, R a = some o → ∃ o', R' a = some o' ∧ bare o' = bare o
theorem Le.refl (R : Hp) : Le R R := fun a o h => ⟨o, h, rfl⟩
theorem Le.trans {R R' R2 : Hp} (h : Le R R') (h' : Le R' R2) : Le R R2 := fun a o e => by
  obtain ⟨o1, e1, b1⟩ := h a o e
  obtain ⟨o2, e2, b2⟩ := h' a o1 e1
  exact ⟨o2, e2, b2.trans b1⟩
theorem Le.of {R R' : Hp} (h : ∀ a o, R a = some o → R' a = some o) : Le R R' := fun a o e => ⟨o, h a o e, rfl⟩

theorem rd_bare {R : Hp} {a : Addr} {o u : HO} (h : R a = some o) (hb : bare o = u) : Rd R a u := by
  cases o with
  | frz ob w => exact .inr ⟨ob, by rw [h]; exact congrArg _ (congrArg _ hb)⟩
  | _ => exact .inl (by rw [h]; exact congrArg _ hb)
/-- no thing that is read is a lock -/
def plain : HO → Prop
  | .frz _ _ => False
  | _ => True
theorem bare_of {o : HO} (h : plain o) : bare o = o := by cases o <;> first | rfl | exact h.elim
theorem Rd.le {R R' : Hp} {a : Addr} {u : HO} (hp : plain u) (h : Rd R a u) (l : Le R R') : Rd R' a u := by
  rcases h with h | ⟨ob, h⟩
  · obtain ⟨o', e, b⟩ := l a u h
    exact rd_bare e (b.trans (bare_of hp))
  · obtain ⟨o', e, b⟩ := l a _ h
    exact rd_bare e b
theorem SqX.le {K : PySem.W.Frag} {R R' : Hp} {a : Addr} {xs : List V} (h : SqX K R a xs) (l : Le R R') : SqX K R' a xs := h.elim (fun q => .inl (Rd.le trivial q l)) .inr
theorem SqL.le {K : PySem.W.Frag} {R R' : Hp} {a : Addr} {xs : List V} (h : SqL K R a xs) (l : Le R R') : SqL K R' a xs := h.elim (fun q => .inl (Rd.le trivial q l)) .inr
theorem SqT.le {K : PySem.W.Frag} {R R' : Hp} {a : Addr} {xs : List V} (h : SqT K R a xs) (l : Le R R') : SqT K R' a xs := h.elim (fun q => .inl (Rd.le trivial q l)) .inr
section
variable {K : PySem.W.Frag} {R R' : Hp}
mutual
theorem Rp.le (l : Le R R') : ∀ {v : V} {d : D}, Rp K R v d → Rp K R' v d
  | _, _, .non => .non
  | _, _, .bl b => .bl b
  | _, _, .int i => .int i
  | _, _, .str x => .str x
  | _, _, .lst h q => .lst (SqX.le h l) (RpA.le l q)
  | _, _, .tup h q => .tup (SqT.le h l) (RpA.le l q)
  | _, _, .dct h q => .dct (Rd.le trivial h l) (RpK.le l q)
theorem RpA.le (l : Le R R') : ∀ {v : List V} {d : List D}, RpA K R v d → RpA K R' v d
  | _, _, .nil => .nil
  | _, _, .cons h q => .cons (Rp.le l h) (RpA.le l q)
theorem RpK.le (l : Le R R') : ∀ {v : List (Key × V)} {d : List (D × D)}, RpK K R v d → RpK K R' v d
  | _, _, .nil => .nil
  | _, _, .cons h q => .cons (Rp.le l h) (RpK.le l q)
end
theorem RpA.length : ∀ {v : List V} {d : List D}, RpA K R v d → v.length = d.length
  | _, _, .nil => rfl
  | _, _, .cons _ q => congrArg (· + 1) (RpA.length q)
theorem RpA.get : ∀ {v : List V} {d : List D} {i : Nat} {x : D}, RpA K R v d → d[i]? = some x → ∃ y, v[i]? = some y ∧ Rp K R y x
  | _, _, _, _, .nil, h => by simp at h
  | _, _, 0, _, .cons h _, e => by simp at e; subst e; exact ⟨_, rfl, h⟩
  | _, _, i + 1, _, .cons _ q, e => by
    obtain ⟨y, h1, h2⟩ := RpA.get (i := i) q (by simpa using e)
    exact ⟨y, by simpa using h1, h2⟩
theorem RpA.at : ∀ {v : List V} {d : List D} {i : Nat} {y : V}, RpA K R v d → v[i]? = some y → ∃ x, d[i]? = some x ∧ Rp K R y x
  | _, _, _, _, .nil, h => by simp at h
  | _, _, 0, _, .cons h _, e => by simp at e; subst e; exact ⟨_, rfl, h⟩
  | _, _, i + 1, _, .cons _ q, e => by
    obtain ⟨y, h1, h2⟩ := RpA.at (i := i) q (by simpa using e)
    exact ⟨y, by simpa using h1, h2⟩
theorem RpA.append : ∀ {v w : List V} {d e : List D}, RpA K R v d → RpA K R w e → RpA K R (v ++ w) (d ++ e)
  | _, _, _, _, .nil, h => h
  | _, _, _, _, .cons h q, r => .cons h (RpA.append q r)
theorem RpA.set : ∀ {v : List V} {d : List D} {y : V} {x : D} (i : Nat), RpA K R v d → Rp K R y x → RpA K R (v.set i y) (d.set i x)
  | _, _, _, _, _, .nil, _ => .nil
  | _, _, _, _, 0, .cons _ q, r => .cons r q
  | _, _, _, _, i + 1, .cons h q, r => .cons h (RpA.set i q r)
theorem RpA.take : ∀ {v : List V} {d : List D} (i : Nat), RpA K R v d → RpA K R (v.take i) (d.take i)
  | _, _, 0, _ => by simpa using RpA.nil
  | _, _, i + 1, .nil => by simpa using RpA.nil
  | _, _, i + 1, .cons h q => .cons h (RpA.take i q)
theorem RpA.drop : ∀ {v : List V} {d : List D} (i : Nat), RpA K R v d → RpA K R (v.drop i) (d.drop i)
  | _, _, 0, h => h
  | _, _, i + 1, .nil => by simpa using RpA.nil
  | _, _, i + 1, .cons h q => RpA.drop i q
theorem RpA.snoc {v : List V} {d : List D} {y : V} {x : D} (h : RpA K R v d) (q : Rp K R y x) : RpA K R (v ++ [y]) (d ++ [x]) := h.append (.cons q .nil)
theorem RpA.dropLast {v : List V} {d : List D} (h : RpA K R v d) : RpA K R v.dropLast d.dropLast := by
  rw [List.dropLast_eq_take, List.dropLast_eq_take, h.length]
  exact h.take _
theorem RpA.reverse : ∀ {v : List V} {d : List D}, RpA K R v d → RpA K R v.reverse d.reverse
  | _, _, .nil => .nil
  | _, _, .cons h q => by simp only [List.reverse_cons]; exact (RpA.reverse q).snoc h
theorem RpA.rep {v : List V} {d : List D} (h : RpA K R v d) : ∀ n : Nat, RpA K R (List.replicate n v).flatten (List.replicate n d).flatten
  | 0 => .nil
  | n + 1 => by simp only [List.replicate_succ, List.flatten_cons]; exact h.append (RpA.rep h n)
theorem RpA.ints : ∀ {v : List V} {d : List D} {ns : List Int}, RpA K R v d → asInts d = some ns → v = ns.map V.int
  | _, _, ns, .nil, e => by simp [asInts] at e; subst e; rfl
  | _, _, ns, .cons (d := d) h q, e => by
    cases h <;> simp [asInts] at e
    obtain ⟨a, e1, e2⟩ := e
    subst e2
    rw [RpA.ints q e1]; rfl
theorem RpA.bools : ∀ {v : List V} {d : List D} {ns : List Bool}, RpA K R v d → asBools d = some ns → v = ns.map V.bl
  | _, _, ns, .nil, e => by simp [asBools] at e; subst e; rfl
  | _, _, ns, .cons (d := d) h q, e => by
    cases h <;> simp [asBools] at e
    obtain ⟨a, e1, e2⟩ := e
    subst e2
    rw [RpA.bools q e1]; rfl
theorem RpA.of_ints : ∀ (ns : List Int), RpA K R (ns.map V.int) (ns.map PyData.int)
  | [] => .nil
  | n :: r => .cons (.int n) (RpA.of_ints r)
mutual
/-- without dicts it is the layer's data -/
theorem Rp.dp {H : Hp} (l : Le R H) : ∀ {v : V} {d : D}, Rp K R v d → d.canLay0 = true → Dp K H v d
  | _, _, .non, _ => .non
  | _, _, .bl b, _ => .bl b
  | _, _, .int i, _ => .int i
  | _, _, .str x, _ => .str x
  | _, _, .lst h q, e => .lst (SqX.le h l).sq (RpA.dp l q (by simpa [PyData.canLay0] using e))
  | _, _, .tup h q, e => .tup (SqT.le h l) (RpA.dp l q (by simpa [PyData.canLay0] using e))
  | _, _, .dct h q, e => by simp [PyData.canLay0] at e
theorem RpA.dp {H : Hp} (l : Le R H) : ∀ {v : List V} {d : List D}, RpA K R v d → PyData.canLayAll0 d = true → DpAll K H v d
  | _, _, .nil, _ => .nil
  | _, _, .cons h q, e => by
    simp only [PyData.canLayAll0, Bool.and_eq_true] at e
    exact .cons (Rp.dp l h e.1) (RpA.dp l q e.2)
end
mutual
/-- .. also where no dict stands in it -/
theorem Rp.dpD {H : Hp} (l : Le R H) : ∀ {v : V} {d : D}, Rp K R v d → d.hasDict = false → Dp K H v d
  | _, _, .non, _ => .non
  | _, _, .bl b, _ => .bl b
  | _, _, .int i, _ => .int i
  | _, _, .str x, _ => .str x
  | _, _, .lst h q, e => .lst (SqX.le h l).sq (RpA.dpD l q (by simpa [PyData.hasDict] using e))
  | _, _, .tup h q, e => .tup (SqT.le h l) (RpA.dpD l q (by simpa [PyData.hasDict] using e))
  | _, _, .dct h q, e => by simp [PyData.hasDict] at e
theorem RpA.dpD {H : Hp} (l : Le R H) : ∀ {v : List V} {d : List D}, RpA K R v d → PyData.hasDictAll d = false → DpAll K H v d
  | _, _, .nil, _ => .nil
  | _, _, .cons h q, e => by
    simp only [PyData.hasDictAll, Bool.or_eq_false_iff] at e
    exact .cons (Rp.dpD l h e.1) (RpA.dpD l q e.2)
end
end

/-! ### the ghost state -/
structure Gh where
  R : Hp
  /-- where the draws stand: the dict, its list of great numbers, its list of cells -/
  dr : Option (Addr × Addr × Addr)
structure GLe (g g' : Gh) : Prop where
  le : Le g.R g'.R
  dr : ∀ p, g.dr = some p → g'.dr = some p
theorem GLe.refl (g : Gh) : GLe g g := ⟨Le.refl _, fun _ h => h⟩
theorem GLe.trans {g g' g2 : Gh} (h : GLe g g') (h' : GLe g' g2) : GLe g g2 := ⟨h.le.trans h'.le, fun p e => h'.dr p (h.dr p e)⟩

def isFrz : HO → Prop
  | .frz _ _ => True
  | _ => False
/-- tables and objects that are told by a word -/
def isX : HO → Prop
  | .tbl _ => True
  | .ext _ => True
  | _ => False
def isTbl : HO → Prop
  | .tbl _ => True
  | _ => False
/-- a frame's surroundings: kp, what must stand as it stands; un, what must not be shared -/
structure Fx where
  kp : Addr → HO → Prop
  un : Addr → Prop
  ku : ∀ a o, kp a o → un a ∨ isFrz o
  kn : ∀ a o, kp a o → ¬ isTbl o
def fx0 : Fx := ⟨fun _ _ => False, fun _ => False, fun _ _ h => h.elim, fun _ _ h => h.elim⟩

def Gh.isDr (g : Gh) (a : Addr) : Prop := ∃ p, g.dr = some p ∧ (a = p.1 ∨ a = p.2.1)

/-- belongs to nobody else -/
structure Loose (X : Fx) (g : Gh) (a : Addr) : Prop where
  kp : ∀ o, ¬ X.kp a o
  un : ¬ X.un a
  R : g.R a = none
  dr : ¬ g.isDr a

def RV (C : Ct) (g : Gh) (v : V) : SV → Prop
  | .d d => Rp C.K g.R v d
  | .drw => ∃ p, g.dr = some p ∧ v = .ref p.1
  | .fn f => ∃ a, C.fa f = some a ∧ v = .ref a
  | .clo _ _ => False
/-- what a slot may hold, besides -/
def RS (C : Ct) (g : Gh) (v : V) : SV → Prop
  | .clo m cs => ∃ a k, v = .ref a ∧ C.cl a = some k ∧ k.m = m ∧ k.cs = cs
  | x => RV C g v x
def OwnD (C : Ct) (X : Fx) (g : Gh) (H : Hp) (v : V) : D → Prop
  | .list ds => ∃ a xs, v = .ref a ∧ H a = some (.lst xs) ∧ RpA C.K g.R xs ds ∧ Loose X g a
  | .dict ds => ∃ a kvs, v = .ref a ∧ H a = some (.dK kvs) ∧ RpK C.K g.R kvs ds ∧ Loose X g a
  | _ => False
def SlotOk (C : Ct) (X : Fx) (g : Gh) (H : Hp) (e : Slot) (y : Option V) : Prop := match e with
  | .un => True
  | .va x => ∃ v, y = some v ∧ RS C g v x
  | .ow d => ∃ v, y = some v ∧ OwnD C X g H v d
def Owns (s : S) (σ : L2.St) (i : Nat) (a : Addr) : Prop := (∃ d, s.env[i]? = some (.ow d)) ∧ σ[i]? = some (some (.ref a))

def DrOk (C : Ct) (X : Fx) (g : Gh) (dr : Option Dr) (H : Hp) : Prop := match g.dr, dr with
  | none, none => True
  | some (a, l, c), some st => H a = some (.dK [(.inr "large", .ref l), (.inr "rest", .int st.rest), (.inr "cells", .ref c), (.inr "turn", .int st.turn)]) ∧
      H l = some (.lst (st.large.map V.int)) ∧ SqX C.K g.R c (st.cells.map V.int) ∧ g.R a = none ∧ g.R l = none ∧ a ≠ l ∧ (∀ o, ¬ X.kp a o) ∧ (∀ o, ¬ X.kp l o)
  | _, _ => False

/-- what the tables tell; lambdas stand -/
structure TbOk (C : Ct) (g : Gh) (H : Hp) : Prop where
  rt : ∀ a o, g.R a = some o → ¬ isX o
  tb : LamX.Tabs C.tabs H
structure ClOk (C : Ct) (g : Gh) (H : Hp) (a : Addr) (k : Clo) : Prop where
  f : H a = some (LamO a k.L)
  c : H k.L.c = some (LamX.CodeO k.L.c k.L.qual)
  ws : RpA C.K g.R k.ws k.cs
structure ExOk (C : Ct) (g : Gh) (H : Hp) : Prop where
  t : TbOk C g H
  cl : ∀ a k, C.cl a = some k → ClOk C g H a k
structure Good (C : Ct) (X : Fx) (g : Gh) (s : S) (σ : L2.St) (H : Hp) : Prop where
  sub : ∀ a o, g.R a = some o → H a = some o
  kp : ∀ a o, X.kp a o → H a = some o
  un : ∀ a, X.un a → g.R a = none ∧ H a ≠ none
  len : s.env.length = σ.length
  slot : ∀ (i : Nat) (e : Slot) (y : Option V), s.env[i]? = some e → σ[i]? = some y → SlotOk C X g H e y
  apart : ∀ i j a, Owns s σ i a → Owns s σ j a → i = j
  dr : DrOk C X g s.dr H
  ex : ExOk C g H

section
variable {C : Ct} {X : Fx} {g g' : Gh} {s : S} {σ : L2.St} {H H' : Hp} {v : V} {d : D} {a p : Addr}
theorem RV.le {x : SV} (h : RV C g v x) (l : GLe g g') : RV C g' v x := by
  cases x with
  | d d => exact Rp.le l.le h
  | drw => obtain ⟨p, e, q⟩ := h; exact ⟨p, l.dr p e, q⟩
  | fn f => exact h
  | clo m cs => exact h
theorem RS.le {x : SV} (h : RS C g v x) (l : GLe g g') : RS C g' v x := by
  cases x with
  | d d => exact RV.le (C := C) (x := .d d) h l
  | drw => exact RV.le (C := C) (x := .drw) h l
  | fn f => exact h
  | clo m cs => exact h
theorem RV.rs {x : SV} (h : RV C g v x) : RS C g v x := by
  cases x with
  | clo m cs => exact h.elim
  | _ => exact h
theorem TbOk.to (h : TbOk C g H) (hr : ∀ a o, g'.R a = some o → ¬ isX o) (hk : ∀ a o, H a = some o → isX o → H' a = some o) : TbOk C g' H' := by
  refine ⟨hr, fun p hp => ?_⟩
  obtain ⟨ps, h1, h2, h3⟩ := h.tb p hp
  refine ⟨ps, hk _ _ h1 trivial, h2, fun pos cv e => ?_⟩
  obtain ⟨c, e1, e2⟩ := h3 pos cv e
  exact ⟨c, e1, hk _ _ e2 trivial⟩
theorem ClOk.to {k : Clo} (q : ClOk C g H a k) (l : GLe g g') (hk : ∀ a o, H a = some o → isX o → H' a = some o) : ClOk C g' H' a k := ⟨hk _ _ q.f trivial, hk _ _ q.c trivial, RpA.le l.le q.ws⟩
theorem ExOk.to (h : ExOk C g H) (l : GLe g g') (hr : ∀ a o, g'.R a = some o → ¬ isX o) (hk : ∀ a o, H a = some o → isX o → H' a = some o) : ExOk C g' H' := ⟨h.t.to hr hk, fun a k e => (h.cl a k e).to l hk⟩
theorem ExOk.keep (h : ExOk C g H) (hk : ∀ a o, H a = some o → isX o → H' a = some o) : ExOk C g H' := h.to (GLe.refl g) h.t.rt hk
theorem Good.le (h : Good C X g s σ H) : Le g.R H := Le.of h.sub

theorem Good.fresh (h : Good C X g s σ H) (hp : H p = none) : Loose X g p := by
  refine ⟨fun o k => ?_, fun k => (h.un p k).2 hp, ?_, ?_⟩
  · have := h.kp p o k; rw [hp] at this; cases this
  · cases e : g.R p with
    | none => rfl
    | some o => have := h.sub p o e; rw [hp] at this; cases this
  · rintro ⟨q, e, z⟩
    have d := h.dr
    unfold DrOk at d
    rw [e] at d
    cases hs : s.dr with
    | none => rw [hs] at d; exact d
    | some st =>
      rw [hs] at d
      obtain ⟨d1, d2, _⟩ := d
      rcases z with z | z
      · subst z; rw [hp] at d1; cases d1
      · subst z; rw [hp] at d2; cases d2
theorem OwnD.addr (h : OwnD C X g H v d) : ∃ a, v = .ref a ∧ Loose X g a ∧ ∃ o, H a = some o := by
  cases d <;> first | exact h.elim | skip
  · obtain ⟨a, xs, e, q, _, l⟩ := h; exact ⟨a, e, l, _, q⟩
  · obtain ⟨a, xs, e, q, _, l⟩ := h; exact ⟨a, e, l, _, q⟩
theorem OwnD.noX (h : OwnD C X g H v d) {a : Addr} (e : v = .ref a) : ∀ o, H a = some o → ¬ isX o := by
  subst e
  cases d <;> first | exact h.elim | skip
  · obtain ⟨b, xs, e, q, _, l⟩ := h
    cases e
    intro o h2
    rw [q] at h2; cases h2
    exact fun z => z
  · obtain ⟨b, xs, e, q, _, l⟩ := h
    cases e
    intro o h2
    rw [q] at h2; cases h2
    exact fun z => z
/-- a change elsewhere -/
theorem OwnD.keep (h : OwnD C X g H v d) (hk : ∀ a, v = .ref a → ∀ o, H a = some o → H' a = some o) : OwnD C X g H' v d := by
  cases d <;> first | exact h.elim | skip
  · obtain ⟨a, xs, e, q, r, l⟩ := h; exact ⟨a, xs, e, hk a e _ q, r, l⟩
  · obtain ⟨a, xs, e, q, r, l⟩ := h; exact ⟨a, xs, e, hk a e _ q, r, l⟩
theorem DrOk.keep {dr : Option Dr} (h : DrOk C X g dr H) (hk : ∀ a o, H a = some o → g.isDr a → H' a = some o) : DrOk C X g dr H' := by
  unfold DrOk at *
  cases e : g.dr with
  | none => rw [e] at h; cases dr <;> exact h
  | some p =>
    rw [e] at h
    cases dr with
    | none => exact h
    | some st =>
      obtain ⟨h1, h2, h3⟩ := h
      exact ⟨hk _ _ h1 ⟨p, e, .inl rfl⟩, hk _ _ h2 ⟨p, e, .inr rfl⟩, h3⟩
/-- something new is laid -/
theorem Good.alloc {o : HO} (h : Good C X g s σ H) (hp : H p = none) : Good C X g s σ (upd H p o) := by
  have ne : ∀ a u, H a = some u → a ≠ p := fun a u e z => by rw [z, hp] at e; cases e
  have kk : ∀ a u, H a = some u → upd H p o a = some u := fun a u e => by rw [upd_ne (ne a u e)]; exact e
  refine ⟨fun a u e => kk a u (h.sub a u e), fun a u e => kk a u (h.kp a u e), fun a e => ⟨(h.un a e).1, ?_⟩, h.len, fun i e y h1 h2 => ?_, h.apart, h.dr.keep fun a u e _ => kk a u e, h.ex.keep fun a u e _ => kk a u e⟩
  · cases q : H a with
    | none => exact absurd q (h.un a e).2
    | some u => rw [kk a u q]; simp
  · have q := h.slot i e y h1 h2
    cases e with
    | un => trivial
    | va x => exact q
    | ow d => obtain ⟨v, e1, q⟩ := q; exact ⟨v, e1, q.keep fun a _ u e => kk a u e⟩
/-- something that belongs to nobody is shared from now on -/
def Gh.share (g : Gh) (H : Hp) (a : Addr) : Gh := { g with R := fun b => if b = a then H a else g.R b }
theorem share_le (hl : g.R a = none) : GLe g (g.share H a) := ⟨Le.of fun b o e => by
  have : b ≠ a := fun z => by rw [z, hl] at e; cases e
  show (if b = a then H a else g.R b) = some o
  rw [if_neg this]; exact e, fun _ e => e⟩
theorem share_at : (g.share H a).R a = H a := if_pos rfl
theorem share_ne {b : Addr} (h : b ≠ a) : (g.share H a).R b = g.R b := if_neg h
theorem Loose.share (l : Loose X g p) (hn : p ≠ a) : Loose X (g.share H a) p := ⟨l.kp, l.un, by rw [share_ne hn]; exact l.R, l.dr⟩
theorem OwnD.share (h : OwnD C X g H v d) (hl : g.R a = none) (hn : v ≠ .ref a) : OwnD C X (g.share H a) H v d := by
  have le := share_le (H := H) hl
  cases d <;> first | exact h.elim | skip
  · obtain ⟨b, xs, e, q, r, l⟩ := h; exact ⟨b, xs, e, q, RpA.le le.le r, l.share fun z => hn (by rw [e, z])⟩
  · obtain ⟨b, xs, e, q, r, l⟩ := h; exact ⟨b, xs, e, q, RpK.le le.le r, l.share fun z => hn (by rw [e, z])⟩
theorem DrOk.share {dr : Option Dr} (h : DrOk C X g dr H) (hl : g.R a = none) (hd : ¬ g.isDr a) : DrOk C X (g.share H a) dr H := by
  have le := share_le (H := H) hl
  have e' : (g.share H a).dr = g.dr := rfl
  unfold DrOk at *
  rw [e']
  cases e : g.dr with
  | none => rw [e] at h; cases dr <;> exact h
  | some p =>
    rw [e] at h
    cases dr with
    | none => exact h
    | some st =>
      obtain ⟨h1, h2, h3, h4, h5, h6⟩ := h
      refine ⟨h1, h2, SqX.le h3 le.le, ?_, ?_, h6⟩
      · rw [share_ne fun z => hd ⟨p, e, .inl z.symm⟩]; exact h4
      · rw [share_ne fun z => hd ⟨p, e, .inr z.symm⟩]; exact h5
theorem Good.share (h : Good C X g s σ H) (l : Loose X g a) (ho : ∀ i, ¬ Owns s σ i a) (hx : ∀ o, H a = some o → ¬ isX o) : Good C X (g.share H a) s σ H := by
  refine ⟨fun b o e => ?_, h.kp, fun b e => ⟨?_, (h.un b e).2⟩, h.len, fun i e y h1 h2 => ?_, h.apart, h.dr.share l.R l.dr, h.ex.to (share_le l.R) (fun b o e => by
    by_cases hb : b = a
    · subst hb; rw [share_at] at e; exact hx o e
    · rw [share_ne hb] at e; exact h.ex.t.rt b o e) fun _ _ e _ => e⟩
  · by_cases hb : b = a
    · subst hb; rw [share_at] at e; exact e
    · rw [share_ne hb] at e; exact h.sub b o e
  · have nb : b ≠ a := fun z => l.un (by rw [← z]; exact e)
    rw [share_ne nb]; exact (h.un b e).1
  · have q := h.slot i e y h1 h2
    cases e with
    | un => trivial
    | va x => obtain ⟨v, e1, q⟩ := q; exact ⟨v, e1, q.le (share_le l.R)⟩
    | ow d =>
      obtain ⟨v, e1, q⟩ := q
      refine ⟨v, e1, q.share l.R fun z => ho i ⟨⟨d, h1⟩, by rw [h2, e1, z]⟩⟩

/-- a value as it comes of an expression: shared, or new -/
def RF (C : Ct) (X : Fx) (g : Gh) (s : S) (σ : L2.St) (H : Hp) (v : V) (r : R) : Prop :=
  if r.2 = true then ∃ d, r.1 = .d d ∧ OwnD C X g H v d ∧ ∀ i a, v = .ref a → ¬ Owns s σ i a else RV C g v r.1
theorem own_rp {x : D} (h : OwnD C X g H v x) (hs : ∀ a o, g.R a = some o → H a = some o) : ∃ a, v = .ref a ∧ Rp C.K (g.share H a).R v x := by
  cases x <;> first | exact h.elim | skip
  · obtain ⟨a, xs, e, q, r, l⟩ := h
    subst e
    exact ⟨a, rfl, .lst (.inl (.inl (by rw [share_at]; exact q))) (RpA.le (share_le l.R).le r)⟩
  · obtain ⟨a, xs, e, q, r, l⟩ := h
    subst e
    exact ⟨a, rfl, .dct (.inl (by rw [share_at]; exact q)) (RpK.le (share_le l.R).le r)⟩
/-- what is new may be shared -/
theorem RF.share {r : R} (h : RF C X g s σ H v r) (G : Good C X g s σ H) : ∃ g', GLe g g' ∧ Good C X g' s σ H ∧ RV C g' v r.1 := by
  unfold RF at h
  split at h
  · obtain ⟨d, e, q, n⟩ := h
    obtain ⟨a, ea, l, o, ho⟩ := q.addr
    obtain ⟨b, eb, rp⟩ := own_rp q G.sub
    obtain rfl : a = b := V.ref.inj (ea.symm.trans eb)
    refine ⟨g.share H a, share_le l.R, G.share l (fun i z => n i a ea z) (q.noX ea), ?_⟩
    rw [e]; exact rp
  · exact ⟨g, GLe.refl g, G, h⟩
theorem RF.of {x : SV} (h : RV C g v x) : RF C X g s σ H v (x, false) := h

/-- a value that is looked at -/
def Pk (C : Ct) (X : Fx) (g : Gh) (H : Hp) (v : V) (x : SV) : Prop := RV C g v x ∨ ∃ d, x = .d d ∧ OwnD C X g H v d
theorem Pk.list {ds : List D} (h : Pk C X g H v (.d (.list ds))) (l : Le g.R H) : ∃ a xs, v = .ref a ∧ SqX C.K H a xs ∧ RpA C.K g.R xs ds := by
  rcases h with h | ⟨d, e, h⟩
  · cases h with
    | lst h q => exact ⟨_, _, rfl, SqX.le h l, q⟩
  · cases e
    obtain ⟨a, xs, e, q, r, _⟩ := h
    exact ⟨a, xs, e, .inl (.inl q), r⟩
theorem Pk.tuple {ds : List D} (h : Pk C X g H v (.d (.tuple ds))) (l : Le g.R H) : ∃ a xs, v = .ref a ∧ SqT C.K H a xs ∧ RpA C.K g.R xs ds := by
  rcases h with h | ⟨d, e, h⟩
  · cases h with
    | tup h q => exact ⟨_, _, rfl, SqT.le h l, q⟩
  · cases e; exact h.elim
theorem Pk.int {i : Int} (h : Pk C X g H v (.d (.int i))) : v = .int i := by
  rcases h with h | ⟨d, e, h⟩
  · cases h; rfl
  · cases e; exact h.elim
theorem Pk.bool {i : Bool} (h : Pk C X g H v (.d (.bool i))) : v = .bl i := by
  rcases h with h | ⟨d, e, h⟩
  · cases h; rfl
  · cases e; exact h.elim
theorem Pk.str {i : Str} (h : Pk C X g H v (.d (.str i))) : v = .str i := by
  rcases h with h | ⟨d, e, h⟩
  · cases h; rfl
  · cases e; exact h.elim
theorem Pk.none (h : Pk C X g H v (.d .none)) : v = .non := by
  rcases h with h | ⟨d, e, h⟩
  · cases h; rfl
  · cases e; exact h.elim
theorem Pk.dp {x : D} (h : Pk C X g H v (.d x)) (l : Le g.R H) (hx : x.canLay0 = true) : Dp C.K H v x := by
  rcases h with h | ⟨d, e, h⟩
  · exact Rp.dp l h hx
  · cases e
    cases x <;> first | exact h.elim | skip
    · obtain ⟨a, xs, e, q, r, _⟩ := h
      subst e
      exact .lst (.inl (.inl q)) (RpA.dp l r (by simpa [PyData.canLay0] using hx))
    · simp [PyData.canLay0] at hx
theorem Pk.dpD {x : D} (h : Pk C X g H v (.d x)) (l : Le g.R H) (hx : x.hasDict = false) : Dp C.K H v x := by
  rcases h with h | ⟨d, e, h⟩
  · exact Rp.dpD l h hx
  · cases e
    cases x <;> first | exact h.elim | skip
    · obtain ⟨a, xs, e, q, r, _⟩ := h
      subst e
      exact .lst (.inl (.inl q)) (RpA.dpD l r (by simpa [PyData.hasDict] using hx))
    · simp [PyData.hasDict] at hx
theorem Good.look {i : Nat} {x : SV} (h : Good C X g s σ H) (e : look i s = some x) : ∃ v, σ[i]? = some (some v) ∧ Pk C X g H v x := by
  unfold Pv.look S.at at e
  rw [List.getD_eq_getElem?_getD] at e
  cases q : s.env[i]? with
  | none => rw [q] at e; simp at e
  | some sl =>
    rw [q] at e
    have hi : i < σ.length := by
      rw [← h.len]
      exact (List.getElem?_eq_some_iff.mp q).1
    have hs := h.slot i sl σ[i] q (List.getElem?_eq_getElem hi)
    cases sl with
    | un => simp at e
    | va y =>
      obtain ⟨v, e1, r⟩ := hs
      cases y <;> simp at e <;> subst e <;> exact ⟨v, by rw [List.getElem?_eq_getElem hi, e1], .inl r⟩
    | ow d =>
      simp at e; subst e
      obtain ⟨v, e1, r⟩ := hs
      exact ⟨v, by rw [List.getElem?_eq_getElem hi, e1], .inr ⟨d, rfl, r⟩⟩
end
end Pv
set_option maxHeartbeats 200000
set_option maxHeartbeats 2000000
/-! Pv: what an expression's run asks, by the evaluator; operands, arguments. -/
namespace Pv
open PySem PySem.Spec PyProof.Rows L2

/-- behind a run from the ghost state g: the value and state as told, or the error as wished -/
def Af {A : Type} (C : Ct) (W : WX) (Y : Fx) (g : Gh) (σ : L2.St) (o : Out A) (k : A → S → Gh → Hp → Prop) : Prop := match o with
  | .ok a s => ∀ g' H', GLe g g' → Good C Y g' s σ H' → k a s g' H'
  | .exc x s => ∀ g' H' c, GLe g g' → Good C Y g' s σ H' → C.ea x.cls = some c → W (.ref c) none σ H'
  | .bad => False
def Te (C : Ct) (W : WX) (r : S → Out R) : TE := fun σ H Q => ∃ Y g s, Good C Y g s σ H ∧ Af C W Y g σ (r s) fun x s' g' H' => ∀ v, RF C Y g' s' σ H' v x → Q v H'
/-- an operand -/
def To (C : Ct) (W : WX) (p : Pr) : TE := match p.1 with
  | .v i => tVar i
  | _ => Te C W p.2
def Tos (C : Ct) (W : WX) : List Pr → TA
  | [] => tNil
  | p :: r => tCons (To C W p) (Tos C W r)
def Tes (C : Ct) (W : WX) : List Pr → TA
  | [] => tNil
  | p :: r => tCons (Te C W p.2) (Tes C W r)

section
variable {C : Ct} {W : WX} {Y : Fx} {g g' : Gh} {s s' : S} {σ : L2.St} {H H' : Hp} {A B : Type}
theorem Af.le {o : Out A} {k : A → S → Gh → Hp → Prop} (h : Af C W Y g σ o k) (l : GLe g g') : Af C W Y g' σ o k := by
  cases o with
  | ok a s => exact fun g2 H2 l2 G => h g2 H2 (l.trans l2) G
  | exc x s => exact fun g2 H2 c l2 G e => h g2 H2 c (l.trans l2) G e
  | bad => exact h
theorem Af.mono {o : Out A} {k k' : A → S → Gh → Hp → Prop} (h : Af C W Y g σ o k) (hk : ∀ a s g' H', GLe g g' → Good C Y g' s σ H' → k a s g' H' → k' a s g' H') : Af C W Y g σ o k' := by
  cases o with
  | ok a s => exact fun g2 H2 l2 G => hk a s g2 H2 l2 G (h g2 H2 l2 G)
  | exc x s => exact h
  | bad => exact h
/-- the run in two -/
theorem Af.bind {o : Out A} {f : A → S → Out B} {k : B → S → Gh → Hp → Prop} (h : Af C W Y g σ (o.bind f) k) : Af C W Y g σ o fun a s' g' H' => Af C W Y g' σ (f a s') k := by
  cases o with
  | ok a s => exact fun g2 H2 l2 G => Af.le h l2
  | exc x s => exact h
  | bad => exact h
theorem Af.ok {a : A} {k : A → S → Gh → Hp → Prop} (h : Af C W Y g σ (.ok a s) k) (G : Good C Y g s σ H) : k a s g H := h g H (GLe.refl g) G
theorem Af.ofO {o : Option A} {k : A → S → Gh → Hp → Prop} (h : Af C W Y g σ (ofO o s) k) (G : Good C Y g s σ H) : ∃ a, o = some a ∧ k a s g H := by
  cases o with
  | none => exact h.elim
  | some a => exact ⟨a, rfl, Af.ok (s := s) h G⟩

theorem Te.intro {r : S → Out R} {Q : VK} (G : Good C Y g s σ H) (h : Af C W Y g σ (r s) fun x s' g' H' => ∀ v, RF C Y g' s' σ H' v x → Q v H') : Te C W r σ H Q := ⟨Y, g, s, G, h⟩
/-- an operand's run, shared where it is new -/
theorem Te.shared {r : S → Out R} {Q : VK} (G : Good C Y g s σ H) (h : Af C W Y g σ (r s) fun x s' g' H' => ∀ g2 v, GLe g' g2 → Good C Y g2 s' σ H' → RV C g2 v x.1 → Q v H') : Te C W r σ H Q := by
  refine Te.intro G (h.mono fun x s' g' H' l G' q v rf => ?_)
  obtain ⟨g2, l2, G2, rv⟩ := rf.share G'
  exact q g2 v l2 G2 rv

/-- values that are looked at, each by its place in the state behind -/
inductive PkA (C : Ct) (Y : Fx) (g : Gh) (H : Hp) : List V → List SV → Prop
  | nil : PkA C Y g H [] []
  | cons {v : V} {vs : List V} {x : SV} {xs : List SV} : Pk C Y g H v x → PkA C Y g H vs xs → PkA C Y g H (v :: vs) (x :: xs)
inductive RVA (C : Ct) (g : Gh) : List V → List SV → Prop
  | nil : RVA C g [] []
  | cons {v : V} {vs : List V} {x : SV} {xs : List SV} : RV C g v x → RVA C g vs xs → RVA C g (v :: vs) (x :: xs)
theorem RVA.le : ∀ {vs : List V} {xs : List SV}, GLe g g' → RVA C g vs xs → RVA C g' vs xs
  | _, _, _, .nil => .nil
  | _, _, l, .cons h q => .cons (h.le l) (RVA.le l q)
theorem RVA.length : ∀ {vs : List V} {xs : List SV}, RVA C g vs xs → vs.length = xs.length
  | _, _, .nil => rfl
  | _, _, .cons h q => congrArg (· + 1) (RVA.length q)
theorem RVA.append : ∀ {vs ws : List V} {xs ys : List SV}, RVA C g vs xs → RVA C g ws ys → RVA C g (vs ++ ws) (xs ++ ys)
  | _, _, _, _, .nil, h => h
  | _, _, _, _, .cons h q, r => .cons h (RVA.append q r)
theorem RVA.get : ∀ {vs : List V} {xs : List SV} {i : Nat} {x : SV}, RVA C g vs xs → xs[i]? = some x → ∃ v, vs[i]? = some v ∧ RV C g v x
  | _, _, _, _, .nil, h => by simp at h
  | _, _, 0, _, .cons h _, e => by simp at e; subst e; exact ⟨_, rfl, h⟩
  | _, _, i + 1, _, .cons _ q, e => by
    obtain ⟨y, h1, h2⟩ := RVA.get (i := i) q (by simpa using e)
    exact ⟨y, by simpa using h1, h2⟩
theorem RVA.data : ∀ {vs : List V} {xs : List SV} {ds : List D}, RVA C g vs xs → dsOf xs = some ds → RpA C.K g.R vs ds
  | _, _, ds, .nil, e => by simp [dsOf] at e; subst e; exact .nil
  | _, _, ds, .cons (x := x) h q, e => by
    cases x <;> simp [dsOf] at e
    obtain ⟨r, e1, e2⟩ := e
    subst e2
    exact .cons h (RVA.data q e1)

theorem ops_run : ∀ (ps : List Pr) {s : S} {g : Gh} {H : Hp} {k : List SV → S → Gh → Hp → Prop} {Q : List V → Hp → Prop}, Good C Y g s σ H → Af C W Y g σ (ops ps s) k →
    (∀ vs xs s' g' H', GLe g g' → Good C Y g' s' σ H' → k xs s' g' H' → PkA C Y g' H' vs xs → Q vs H') → Tos C W ps σ H Q
  | [], s, g, H, k, Q, G, h, hQ => by
    have h' : k [] s g H := Af.ok (show Af C W Y g σ (.ok [] s) k from h) G
    exact hQ [] [] s g H (GLe.refl g) G h' .nil
  | (e, r) :: ps, s, g, H, k, Q, G, h, hQ => by
    have gen : (∀ i, e ≠ .v i) → To C W (e, r) = Te C W r ∧ ops ((e, r) :: ps) s = (r s).bind fun x s' => (ops ps s').bind fun xs s'' => .ok (x.1 :: xs) s'' := by
      intro hn
      cases e <;> first | exact ⟨rfl, rfl⟩ | exact absurd rfl (hn _)
    by_cases hv : ∃ i, e = .v i
    · obtain ⟨i, rfl⟩ := hv
      have h2 : Af C W Y g σ (match look i s with | none => .bad | some _ => (ops ps s).bind fun xs s' => match look i s' with | some x => .ok (x :: xs) s' | none => .bad) k := h
      cases e1 : look i s with
      | none => rw [e1] at h2; exact h2.elim
      | some x0 =>
        rw [e1] at h2
        obtain ⟨v, hv, _⟩ := G.look e1
        refine ⟨v, hv, ops_run ps G (Af.bind h2) fun vs xs s' g' H' l G' q pk => ?_⟩
        cases e2 : look i s' with
        | none => rw [e2] at q; exact q.elim
        | some x =>
          rw [e2] at q
          obtain ⟨v', hv', pk'⟩ := G'.look e2
          obtain rfl : v = v' := by rw [hv] at hv'; cases hv'; rfl
          exact hQ (v :: vs) (x :: xs) s' g' H' l G' (Af.ok q G') (.cons pk' pk)
    · obtain ⟨e1, e2⟩ := gen fun i z => hv ⟨i, z⟩
      rw [e2] at h
      show To C W (e, r) σ H _
      rw [e1]
      refine Te.shared G (h.bind.mono fun x s1 g1 H1 l1 G1 q g2 v l2 G2 rv => ?_)
      refine ops_run ps G2 (q.le l2).bind fun vs xs s3 g3 H3 l3 G3 q3 pk => ?_
      exact hQ (v :: vs) (x.1 :: xs) s3 g3 H3 (l1.trans (l2.trans l3)) G3 (Af.ok q3 G3) (.cons (.inl (rv.le l3)) pk)
theorem evs_run : ∀ (ps : List Pr) {s : S} {g : Gh} {H : Hp} {k : List SV → S → Gh → Hp → Prop} {Q : List V → Hp → Prop}, Good C Y g s σ H → Af C W Y g σ (evs ps s) k →
    (∀ vs xs s' g' H', GLe g g' → Good C Y g' s' σ H' → k xs s' g' H' → RVA C g' vs xs → Q vs H') → Tes C W ps σ H Q
  | [], s, g, H, k, Q, G, h, hQ => by
    have h' : k [] s g H := Af.ok (show Af C W Y g σ (.ok [] s) k from h) G
    exact hQ [] [] s g H (GLe.refl g) G h' .nil
  | p :: ps, s, g, H, k, Q, G, h, hQ => by
    have h2 : Af C W Y g σ ((p.2 s).bind fun x s' => (evs ps s').bind fun xs s'' => .ok (x.1 :: xs) s'') k := h
    refine Te.shared G (h2.bind.mono fun x s1 g1 H1 l1 G1 q g2 v l2 G2 rv => ?_)
    refine evs_run ps G2 (q.le l2).bind fun vs xs s3 g3 H3 l3 G3 q3 pk => ?_
    exact hQ (v :: vs) (x.1 :: xs) s3 g3 H3 (l1.trans (l2.trans l3)) G3 (Af.ok q3 G3) (.cons (rv.le l3) pk)

theorem op1_run {p : Pr} {f : D → S → Out A} {k : A → S → Gh → Hp → Prop} {Q : VK} (G : Good C Y g s σ H) (h : Af C W Y g σ (op1 p s f) k)
    (hQ : ∀ v x s' g' H', GLe g g' → Good C Y g' s' σ H' → Pk C Y g' H' v (.d x) → Af C W Y g' σ (f x s') k → Q v H') : To C W p σ H Q := by
  have r : Tos C W [p] σ H fun vs H' => ∀ v, vs = [v] → Q v H' := by
    refine ops_run [p] G h.bind fun vs xs s' g' H' l G' q pk v e => ?_
    subst e
    match xs, pk, q with
    | [.d x], .cons p1 .nil, q => exact hQ _ _ s' g' H' l G' p1 q
    | [.drw], .cons p1 .nil, q => exact False.elim q
    | [.fn _], .cons p1 .nil, q => exact False.elim q
    | [.clo _ _], .cons p1 .nil, q => exact False.elim q
  have r' : tCons (To C W p) tNil σ H fun vs H' => ∀ v, vs = [v] → Q v H' := r
  revert r'
  unfold tCons tNil To
  intro r'
  cases p with
  | mk e r =>
    cases e <;> first
      | (obtain ⟨v, hv, q⟩ := r'; exact ⟨v, hv, q v rfl⟩)
      | (obtain ⟨Y, g, s, G, h⟩ := r'; exact ⟨Y, g, s, G, h.mono fun x s' g' H' l G' q v rf => q v rf v rfl⟩)
theorem to_mono {p : Pr} {Q Q' : VK} (h : To C W p σ H Q) (hq : ∀ v H', Q v H' → Q' v H') : To C W p σ H Q' := by
  revert h
  unfold To
  intro h
  cases p with
  | mk e r =>
    cases e <;> first
      | (obtain ⟨v, hv, q⟩ := h; exact ⟨v, hv, hq _ _ q⟩)
      | (obtain ⟨Y, g, s, G, h⟩ := h; exact ⟨Y, g, s, G, h.mono fun x s' g' H' l G' q v rf => hq _ _ (q v rf)⟩)
theorem op2_run {p q : Pr} {f : D → D → S → Out A} {k : A → S → Gh → Hp → Prop} {Q : V → V → Hp → Prop} (G : Good C Y g s σ H) (h : Af C W Y g σ (op2 p q s f) k)
    (hQ : ∀ v u x y s' g' H', GLe g g' → Good C Y g' s' σ H' → Pk C Y g' H' v (.d x) → Pk C Y g' H' u (.d y) → Af C W Y g' σ (f x y s') k → Q v u H') :
    To C W p σ H fun v H1 => To C W q σ H1 fun u H2 => Q v u H2 := by
  have r : Tos C W [p, q] σ H fun vs H' => ∀ v u, vs = [v, u] → Q v u H' := by
    refine ops_run [p, q] G h.bind fun vs xs s' g' H' l G' q pk v u e => ?_
    subst e
    match xs, pk, q with
    | [.d x, .d y], .cons p1 (.cons p2 .nil), q => exact hQ _ _ _ _ s' g' H' l G' p1 p2 q
    | [.drw, _], .cons p1 (.cons p2 .nil), q => exact False.elim q
    | [.fn _, _], .cons p1 (.cons p2 .nil), q => exact False.elim q
    | [.clo _ _, _], .cons p1 (.cons p2 .nil), q => exact False.elim q
    | [.d _, .drw], .cons p1 (.cons p2 .nil), q => exact False.elim q
    | [.d _, .fn _], .cons p1 (.cons p2 .nil), q => exact False.elim q
    | [.d _, .clo _ _], .cons p1 (.cons p2 .nil), q => exact False.elim q
  exact to_mono (show To C W p σ H fun v H1 => To C W q σ H1 fun u H2 => ∀ a b, [v, u] = [a, b] → Q a b H2 from r) fun v H1 h => to_mono h fun u H2 h => h v u rfl
theorem opA_run {p : Pr} {f : (S → Option SV) → S → Out A} {k : A → S → Gh → Hp → Prop} {Q : VK} (G : Good C Y g s σ H) (h : Af C W Y g σ (opA p s f) k)
    (hQ : ∀ v get s' g' H', GLe g g' → Good C Y g' s' σ H' → (∀ s2 g2 H2 x, GLe g' g2 → Good C Y g2 s2 σ H2 → get s2 = some x → Pk C Y g2 H2 v x) → Af C W Y g' σ (f get s') k → Q v H') : To C W p σ H Q := by
  obtain ⟨e, r⟩ := p
  by_cases hv : ∃ i, e = .v i
  · obtain ⟨i, rfl⟩ := hv
    have h2 : Af C W Y g σ (match look i s with | none => .bad | some _ => f (look i) s) k := h
    cases e1 : look i s with
    | none => rw [e1] at h2; exact h2.elim
    | some x0 =>
      rw [e1] at h2
      obtain ⟨v, hv, _⟩ := G.look e1
      refine ⟨v, hv, hQ v _ s g H (GLe.refl _) G (fun s2 g2 H2 x l2 G2 e => ?_) h2⟩
      obtain ⟨v', hv', pk⟩ := G2.look e
      obtain rfl : v = v' := by rw [hv] at hv'; cases hv'; rfl
      exact pk
  · have e1 : To C W (e, r) = Te C W r ∧ opA (e, r) s f = (r s).bind fun x s => f (fun _ => some x.1) s := by
      cases e <;> first | exact ⟨rfl, rfl⟩ | exact absurd ⟨_, rfl⟩ hv
    rw [e1.1]
    rw [e1.2] at h
    refine Te.shared G (h.bind.mono fun x s1 g1 H1 l1 G1 q g2 v l2 G2 rv => ?_)
    exact hQ v _ s1 g2 H1 (l1.trans l2) G2 (fun s3 g3 H3 y l3 G3 e => by cases e; exact .inl (rv.le l3)) (q.le l2)
end

section
variable {X : Cx} {C : Ct} {W : WX}
theorem PE.weak {e : Expr} {t t' : TE} (h : PE X e t) (hw : ∀ σ H Q, t' σ H Q → t σ H Q) : PE X e t' := ⟨fun pins s σ H Q I q => h.run pins s σ H Q I (hw σ H Q q)⟩
theorem PA.weak {e : List Expr} {t t' : TA} (h : PA X e t) (hw : ∀ σ H Q, t' σ H Q → t σ H Q) : PA X e t' := ⟨fun pos pins s σ H Q I q => h.run pos pins s σ H Q I (hw σ H Q q)⟩
theorem PT.weak {e : Expr} {t t' : TT} (h : PT X e t) (hw : ∀ σ H Q, t' σ H Q → t σ H Q) : PT X e t' := ⟨fun pins s σ H Q I q => h.run pins s σ H Q I (hw σ H Q q)⟩
theorem PS.weak {e : Stmt} {t t' : TS} (h : PS X e t) (hw : ∀ D σ H, t' D σ H → t D σ H) : PS X e t' := ⟨fun pins s σ H D I q => h.run pins s σ H D I (hw D σ H q)⟩
/-- an operand's rule from its expression's -/
theorem pe_to {e : Ex} {r : S → Out R} {pe : Expr} (h : PE X pe (Te C W r)) (hv : ∀ i, e = .v i → PE X pe (tVar i)) : PE X pe (To C W (e, r)) := by
  unfold To
  cases e <;> first | exact h | exact hv _ rfl
end
end Pv
set_option maxHeartbeats 200000
set_option maxHeartbeats 2000000
/-! Pv: operators and comparisons of trees by the layer's rules. -/
namespace Pv
open PySem PySem.Spec PyProof.Rows L2

def bo : Bop → Operator
  | .add => .Add | .sub => .Sub | .mul => .Mult | .fdiv => .FloorDiv | .mod => .Mod | .pow => .Pow
  | .shl => .LShift | .shr => .RShift | .band => .BitAnd | .bor => .BitOr | .bxor => .BitXor
def co : Cop → CmpOp
  | .eq => .Eq | .ne => .NotEq | .lt => .Lt | .le => .LtE | .gt => .Gt | .ge => .GtE | .is => .Is | .nis => .IsNot | .isin => .In | .nin => .NotIn

/-! ### rules that the layer has for tracked lists alone -/
section
variable {X : Cx} {pins : List (Addr × Obj)} {σ : L2.St} {H : Hp} {s : Shared} {l : Addr} {xs : List V}
theorem rd_lst (I : Inv X pins σ H s) (h : SqX X.K H l xs) : xs.length ≤ sizeLine ∧ ∃ (its : List Value) (n : Nat), Vals xs its ∧ xs.length = its.length ∧ s.heap.get? l = some { cls := .type "list", data := .seq its.toArray n } := by
  rcases h with h | ⟨its, n, h1, h2, h3⟩
  · obtain ⟨z, its, n, r, e⟩ := (show ObjOk X.prog X.w H s.heap l (.lst xs) from h.ok I.hok)
    exact ⟨z, its, n, r, r.length, e⟩
  · have hl := h3.length
    exact ⟨by rw [hl, Array.length_toList]; exact h2, its.toList, n, h3, hl, I.kIn _ _ h1⟩
def rCatR (K : PySem.W.Frag) : R2 := fun x y H Q => ∃ l b xs zs, x = .ref l ∧ y = .ref b ∧ SqX K H l xs ∧ SqX K H b zs ∧ xs.length + zs.length ≤ sizeLine ∧ ∀ p, H p = none → Q (.ref p) (upd H p (.lst (xs ++ zs)))
theorem op_catR : OpR X (binaryOp .Add) (rCatR X.K) := by
  intro pins s σ H x y v u Q I rx ry h
  obtain ⟨l, b, xs, zs, rfl, rfl, h1, h2, hz, q⟩ := h
  cases rx; cases ry
  obtain ⟨_, i1, n1, r1, l1, e1⟩ := rd_lst I h1
  obtain ⟨_, i2, n2, r2, l2, e2⟩ := rd_lst I h2
  have hs : i1.toArray.size + i2.toArray.size ≤ sizeLine := by simp only [List.size_toArray]; omega
  refine PySem.P.add_list e1 e2 ?_ hs
  rw [show i1.toArray ++ i2.toArray = (i1 ++ i2).toArray by simp]
  exact ⟨.ref _, _, I.lnew (t' := s.toks) (r1.append r2) (by simp only [List.length_append]; omega), rfl, q _ I.fresh⟩
def rRepR (K : PySem.W.Frag) : R2 := fun x y H Q => ∃ l k xs, x = .ref l ∧ y = .int k ∧ SqX K H l xs ∧ -(2 ^ 63) ≤ k ∧ k < 2 ^ 63 ∧ xs.length * k.toNat ≤ sizeLine ∧
  ∀ p, H p = none → Q (.ref p) (upd H p (.lst (List.replicate k.toNat xs).flatten))
theorem op_repR : OpR X (binaryOp .Mult) (rRepR X.K) := by
  intro pins s σ H x y v u Q I rx ry h
  obtain ⟨l, k, xs, rfl, rfl, h1, lo, hi, hz, q⟩ := h
  by_cases ht : H l = some (.lst xs)
  · exact op_rep pins s σ H _ _ v u Q I rx ry ⟨l, k, xs, rfl, rfl, ht, lo, hi, hz, q⟩
  · -- a list that is known by its object: seen as a tracked one for the time of the rule
    cases rx
    obtain ⟨t, rfl⟩ := ry
    obtain ⟨_, its, n, r, hl, e⟩ := rd_lst I h1
    have hlen : its.toArray.size * k.toNat ≤ sizeLine := by simpa [← hl] using hz
    have c1 : ¬ its.toArray.size * k.toNat > (2 ^ 63 - 1) / 8 := by
      have : (sizeLine : Nat) ≤ (2 ^ 63 - 1) / 8 := by decide
      omega
    have c2 : ¬ (!Builtin.List.listFitsIndex k) = true := by rw [fitsIndex_both lo hi]; exact Bool.false_ne_true
    have c3 : ¬ Builtin.List.listTooLong (its.toArray.size * k.toNat) = true := by rw [notLongL hlen]; exact Bool.false_ne_true
    have new : List.foldl (fun a b => a ++ b) #[] (List.replicate (if its.toArray.isEmpty = true then 0 else k.toNat) its.toArray) = (List.replicate k.toNat its).flatten.toArray := by
      have f0 : ∀ m : Nat, List.foldl (fun a b => a ++ b) #[] (List.replicate m its.toArray) = (List.replicate m its).flatten.toArray := fun m => by
        simpa using foldl_rep its m []
      rw [f0]
      cases its <;> simp
    refine wpAny_binaryOp_repeat_ref (T := "list") (U := "int") (by decide) ⟨_, e, rfl⟩ (fun s' => typeIs_int s' k t) noFill_list_mul F.fills_int_mul F.slot_int_rmul repeat_list F.slot_int_index.lookup
      (call_meets F.slot_int_rmul (typeIs_int s k t) F.entry_int_rmul (F.args_int_rmul_2 _ _) (int___rmul___int_list k t l its.toArray n)
        ⟨e, rfl, ⟨_, e, rfl⟩, call_meets F.slot_list_mul ⟨_, e, rfl⟩ F.entry_list_mul (F.args_list_mul_2 _ _) (AutoListH.list___mul___list_int_3 l its.toArray n k t c2 c1 c3) ⟨e, ?_⟩⟩)
    rw [new]
    exact ⟨.ref _, _, I.lnew (t' := s.toks) (r.rep k.toNat) (by rw [PyProof.Rows.lm_len_rep_flat, Nat.mul_comm]; exact hz), rfl, q _ I.fresh⟩
def rInT (K : PySem.W.Frag) : R2 := fun x y H Q => ∃ d ds, Dp K H x d ∧ Dp K H y (.tuple ds) ∧ SeqAt.shaped d = true ∧ SeqAt.shaped (.tuple ds) = true ∧ Q (.bl (ds.any fun z => PyData.eqv z d)) H
def rNinT (K : PySem.W.Frag) : R2 := fun x y H Q => ∃ d ds, Dp K H x d ∧ Dp K H y (.tuple ds) ∧ SeqAt.shaped d = true ∧ SeqAt.shaped (.tuple ds) = true ∧ Q (.bl (!ds.any fun z => PyData.eqv z d)) H
theorem op_inT (hu : X.A.units + 65 < cLine) : OpR X (compareOp .In) (rInT X.K) := by
  intro pins s σ H x y v u Q I rx ry h
  obtain ⟨d, ds, hd, he, sd, se, q⟩ := h
  obtain ⟨_, r1⟩ := Dp.reads I d x v hd rx
  obtain ⟨_, r2⟩ := Dp.reads I (.tuple ds) y u he ry
  exact SeqAt.in_tuple_reads r2 r1 (SeqAt.canLay_of_shaped se) (SeqAt.canLay_of_shaped sd) (room_in_shaped sd hu) ⟨.bl _, H, I, rfl, q⟩
theorem op_ninT (hu : X.A.units + 65 < cLine) : OpR X (compareOp .NotIn) (rNinT X.K) := by
  intro pins s σ H x y v u Q I rx ry h
  obtain ⟨d, ds, hd, he, sd, se, q⟩ := h
  obtain ⟨_, r1⟩ := Dp.reads I d x v hd rx
  obtain ⟨_, r2⟩ := Dp.reads I (.tuple ds) y u he ry
  exact SeqAt.notIn_tuple_reads r2 r1 (SeqAt.canLay_of_shaped se) (SeqAt.canLay_of_shaped sd) (room_in_shaped sd hu) ⟨.bl _, H, I, rfl, q⟩
theorem op_mulA : OpR X (binaryOp .Mult) (rI (fun i j => mulOk i j = true) fun i j => .int (i * j)) := opI fun i j _ _ _ _ _ hc q => by
  simp only [mulOk, Bool.or_eq_true, decide_eq_true_eq] at hc
  rcases hc with (hc | hc) | hc
  · exact mul_int q (CMul.ok (.inl ⟨by omega, by omega⟩))
  · exact mul_int q (CMul.ok (.inr ⟨by omega, by omega⟩))
  · exact mul_int q (CMulW.ok hc)
theorem op_divA : OpR X (binaryOp .FloorDiv) (rI (fun _ j => divOk j = true) fun i j => .int (i.fdiv j)) := by
  intro pins s σ H x y v u Q I rx ry h
  obtain ⟨i, j, rfl, rfl, hc, q⟩ := h
  simp only [divOk, Bool.and_eq_true, Bool.or_eq_true, decide_eq_true_eq] at hc
  rcases hc with ⟨h0, hc | ⟨hp, hc⟩⟩
  · exact op_fdivN pins s σ H _ _ v u Q I rx ry ⟨i, j, rfl, rfl, ⟨h0, hc⟩, q⟩
  · refine op_fdivW pins s σ H _ _ v u Q I rx ry ⟨i, j, rfl, rfl, ⟨hp, hc⟩, ?_⟩
    have q' : Q (.int (i.fdiv j)) H := q
    rw [Int.fdiv_eq_ediv_of_nonneg i (Int.le_of_lt hp)] at q'
    exact q'
end

def rB (K : PySem.W.Frag) : Bop → R2
  | .add => fun x y H Q => rI0 (fun i j => .int (i + j)) x y H Q ∨ (∃ i j, x = .str i ∧ y = .str j ∧ i.length + j.length ≤ sizeLine ∧ Q (.str (i ++ j)) H) ∨ rCatR K x y H Q ∨ rCatA K x y H Q
  | .sub => rI0 fun i j => .int (i - j)
  | .mul => fun x y H Q => rI (fun i j => mulOk i j = true) (fun i j => .int (i * j)) x y H Q ∨ rRepR K x y H Q
  | .fdiv => rI (fun _ j => divOk j = true) fun i j => .int (i.fdiv j)
  | .mod => rI (fun _ j => j ≠ 0) fun i j => .int (i.fmod j)
  | .pow => rI CPow fun i j => .int (i ^ j.toNat)
  | .shl => rI CShl fun i j => .int (i * 2 ^ j.toNat)
  | .shr => rI (fun _ j => 0 ≤ j) fun i j => .int (i / 2 ^ j.toNat)
  | .band => rI0 fun i j => .int (Builtin.bitAnd i j)
  | .bor => rI0 fun i j => .int (Builtin.bitOr i j)
  | .bxor => rI0 fun i j => .int (Builtin.bitXor i j)
theorem op_bin {X : Cx} : ∀ o : Bop, OpR X (binaryOp (bo o)) (rB X.K o)
  | .add => op_add.or (op_add_str.or (op_catR.or op_catA))
  | .sub => op_sub
  | .mul => op_mulA.or op_repR
  | .fdiv => op_divA
  | .mod => op_modN
  | .pow => op_pow
  | .shl => op_shlW
  | .shr => op_shr
  | .band => op_and
  | .bor => op_or
  | .bxor => op_xor

section
variable {C : Ct} {W : WX} {Y : Fx} {g g' : Gh} {s s' : S} {σ : L2.St} {H H' : Hp} {v u w : V} {p : Addr}
/-! ### what is new -/
theorem new_lst {xs : List V} {ds : List D} (G : Good C Y g s σ H) (r : RpA C.K g.R xs ds) (hp : H p = none) :
    Good C Y g s σ (upd H p (.lst xs)) ∧ RF C Y g s σ (upd H p (.lst xs)) (.ref p) (.d (.list ds), true) := by
  refine ⟨G.alloc hp, ?_⟩
  unfold RF
  rw [if_pos rfl]
  refine ⟨_, rfl, ⟨p, xs, rfl, upd_same, r, G.fresh hp⟩, fun i a e o => ?_⟩
  obtain rfl : p = a := V.ref.inj e
  obtain ⟨⟨d, h1⟩, h2⟩ := o
  obtain ⟨v, e1, q⟩ := G.slot i _ _ h1 h2
  obtain ⟨b, e2, _, o, ho⟩ := q.addr
  have : b = p := by cases e1; exact (V.ref.inj e2).symm
  rw [this, hp] at ho; cases ho
theorem new_tup {xs : List V} {ds : List D} (G : Good C Y g s σ H) (r : RpA C.K g.R xs ds) (hp : H p = none) :
    ∃ g', GLe g g' ∧ Good C Y g' s σ (upd H p (.tup xs)) ∧ RV C g' (.ref p) (.d (.tuple ds)) := by
  have fr := G.fresh hp
  have G1 : Good C Y g s σ (upd H p (.tup xs)) := G.alloc hp
  refine ⟨g.share (upd H p (.tup xs)) p, share_le fr.R, G1.share fr (fun i o => ?_) (fun o h => by rw [upd_same] at h; cases h; exact fun z => z), ?_⟩
  · obtain ⟨⟨d, h1⟩, h2⟩ := o
    obtain ⟨v, e1, q⟩ := G.slot i _ _ h1 h2
    obtain ⟨b, e2, _, o, ho⟩ := q.addr
    have : b = p := by cases e1; exact (V.ref.inj e2).symm
    rw [this, hp] at ho; cases ho
  · exact .tup (.inl (.inl (by rw [share_at, upd_same]))) (RpA.le (share_le fr.R).le r)
theorem RF.data {d : D} (h : Rp C.K g.R v d) : RF C Y g s σ H v (.d d, false) := RF.of (show RV C g v (.d d) from h)

theorem bin_ok {o : Bop} {x y : D} {r : D × Bool} {Q : VK} (e : binop o x y = some r) (G : Good C Y g s σ H) (pv : Pk C Y g H v (.d x)) (pu : Pk C Y g H u (.d y))
    (hQ : ∀ w g' H', GLe g g' → Good C Y g' s σ H' → RF C Y g' s σ H' w (.d r.1, r.2) → Q w H') : rB C.K o v u H Q := by
  have same : ∀ {w : V} {d : D}, r = (d, false) → Rp C.K g.R w d → Q w H := fun {w d} e h => by
    subst e
    exact hQ w g H (GLe.refl g) G (RF.data h)
  cases o <;> cases x <;> cases y <;> simp only [binop] at e <;> first
    | (cases e; done)
    | (cases Option.some.inj e; exact ⟨_, _, pv.int, pu.int, same rfl (.int _)⟩)
    | (split at e <;> first | (cases e; done) | (rename_i c; cases Option.some.inj e; exact ⟨_, _, pv.int, pu.int, c, same rfl (.int _)⟩))
    | skip
  · -- int + int
    cases Option.some.inj e
    exact .inl ⟨_, _, pv.int, pu.int, same rfl (.int _)⟩
  · split at e <;> first | (cases e; done) | skip
    rename_i c
    cases Option.some.inj e
    exact .inr (.inl ⟨_, _, pv.str, pu.str, c, same rfl (.str _)⟩)
  · split at e <;> first | (cases e; done) | skip
    rename_i c
    cases Option.some.inj e
    obtain ⟨a, xs, e1, h1, r1⟩ := pv.list G.le
    obtain ⟨b, ys, e2, h2, r2⟩ := pu.list G.le
    refine .inr (.inr (.inl ⟨a, b, xs, ys, e1, e2, h1, h2, by rw [r1.length, r2.length]; exact c, fun p hp => ?_⟩))
    obtain ⟨G1, f1⟩ := new_lst G (r1.append r2) hp
    exact hQ _ g _ (GLe.refl g) G1 f1
  · split at e <;> first | (cases e; done) | skip
    rename_i c
    cases Option.some.inj e
    obtain ⟨a, xs, e1, h1, r1⟩ := pv.tuple G.le
    obtain ⟨b, ys, e2, h2, r2⟩ := pu.tuple G.le
    refine .inr (.inr (.inr ⟨a, b, xs, ys, e1, e2, h1, h2, by rw [r1.length, r2.length]; exact c, fun z => ?_, fun _ z => ?_, fun _ _ p hp => ?_⟩))
    · subst z
      cases r1
      rcases pu with h | ⟨_, q, h⟩
      · subst e2; exact same rfl h
      · cases q; exact h.elim
    · subst z
      cases r2
      rcases pv with h | ⟨_, q, h⟩
      · subst e1; exact same (by simp) h
      · cases q; exact h.elim
    · obtain ⟨g1, l1, G1, f1⟩ := new_tup G (r1.append r2) hp
      exact hQ _ g1 _ l1 G1 (RF.of f1)
  · -- int * int
    split at e <;> first | (cases e; done) | skip
    rename_i c
    cases Option.some.inj e
    exact .inl ⟨_, _, pv.int, pu.int, c, same rfl (.int _)⟩
  · split at e <;> first | (cases e; done) | skip
    rename_i c
    cases Option.some.inj e
    simp only [Bool.and_eq_true, decide_eq_true_eq] at c
    obtain ⟨a, xs, e1, h1, r1⟩ := pv.list G.le
    refine .inr ⟨a, _, xs, e1, pu.int, h1, c.1.1, c.1.2, by rw [r1.length]; exact c.2, fun p hp => ?_⟩
    obtain ⟨G1, f1⟩ := new_lst G (r1.rep _) hp
    exact hQ _ g _ (GLe.refl g) G1 f1
  · -- int ** int
    split at e <;> first | (cases e; done) | skip
    rename_i c
    cases Option.some.inj e
    simp only [expOk, Bool.and_eq_true, decide_eq_true_eq] at c
    exact ⟨_, _, pv.int, pu.int, ⟨c.1.1, c.1.2, c.2⟩, same rfl (.int _)⟩
  · -- int << int
    split at e <;> first | (cases e; done) | skip
    rename_i c
    cases Option.some.inj e
    simp only [shlOk, Bool.and_eq_true, decide_eq_true_eq] at c
    exact ⟨_, _, pv.int, pu.int, ⟨c.1, c.2⟩, same rfl (.int _)⟩
end
end Pv
set_option maxHeartbeats 200000
set_option maxHeartbeats 2000000
/-! Pv: comparisons, truth, built-ins, items and slices of trees by the layer's rules. -/
namespace Pv
open PySem PySem.Spec PyProof.Rows L2

def rC (K : PySem.W.Frag) : Cop → R2
  | .eq => fun x y H Q => rEq x y H Q ∨ rEqD K x y H Q
  | .ne => fun x y H Q => rNe x y H Q ∨ rNeD K x y H Q
  | .lt => rI0 fun i j => .bl (decide (i < j))
  | .le => rI0 fun i j => .bl (decide (i ≤ j))
  | .gt => rI0 fun i j => .bl (decide (j < i))
  | .ge => rI0 fun i j => .bl (decide (j ≤ i))
  | .is => fun x y H Q => (y = .non ∧ Q (.bl (decide (x = .non))) H) ∨ rIsB x y H Q
  | .nis => fun x y H Q => (y = .non ∧ Q (.bl (!decide (x = .non))) H) ∨ rNotB x y H Q
  | .isin => fun x y H Q => rInD K x y H Q ∨ rInT K x y H Q
  | .nin => fun x y H Q => rNotInD K x y H Q ∨ rNinT K x y H Q
theorem op_cmp {X : Cx} (hu : X.A.units + 65 < cLine) : ∀ o : Cop, OpR X (compareOp (co o)) (rC X.K o)
  | .eq => op_eq.or (op_eqD (by omega))
  | .ne => op_ne.or (op_neD (by omega))
  | .lt => op_lt
  | .le => op_le
  | .gt => op_gt
  | .ge => op_ge
  | .is => op_isN.or op_isBl
  | .nis => op_notN.or op_notBl
  | .isin => (op_inD hu).or (op_inT hu)
  | .nin => (op_notInD hu).or (op_ninT hu)

section
variable {C : Ct} {W : WX} {Y : Fx} {g g' : Gh} {s s' : S} {σ : L2.St} {H H' : Hp} {v u w : V} {p : Addr}
theorem isnon {x : D} (h : Pk C Y g H v (.d x)) : decide (v = V.non) = match x with | .none => true | _ => false := by
  rcases h with h | ⟨d, e, h⟩
  · cases h <;> rfl
  · cases e
    obtain ⟨a, rfl, _⟩ := h.addr
    cases x <;> first | exact h.elim | rfl
theorem eq_ok {x y : D} {b : Bool} {Q : VK} (e : deq x y = some b) (G : Good C Y g s σ H) (pv : Pk C Y g H v (.d x)) (pu : Pk C Y g H u (.d y)) (hQ : Q (.bl b) H) : rEq v u H Q ∨ rEqD C.K v u H Q := by
  unfold deq at e
  split at e
  · cases Option.some.inj e
    refine .inl ⟨by rw [pv.int, pu.int]; rfl, ?_⟩
    rw [pv.int, pu.int, dec_int]; exact hQ
  · cases Option.some.inj e
    refine .inl ⟨by rw [pv.str, pu.str]; rfl, ?_⟩
    rw [pv.str, pu.str]; simpa using hQ
  · split at e <;> first | (cases e; done) | skip
    rename_i c
    simp only [Bool.and_eq_true] at c
    cases Option.some.inj e
    exact .inr ⟨x, y, pv.dp G.le (SeqAt.canLay_of_shaped c.1), pu.dp G.le (SeqAt.canLay_of_shaped c.2), c.1, c.2, hQ⟩
theorem ne_ok {x y : D} {b : Bool} {Q : VK} (e : deq x y = some b) (G : Good C Y g s σ H) (pv : Pk C Y g H v (.d x)) (pu : Pk C Y g H u (.d y)) (hQ : Q (.bl (!b)) H) : rNe v u H Q ∨ rNeD C.K v u H Q := by
  unfold deq at e
  split at e
  · cases Option.some.inj e
    refine .inl ⟨by rw [pv.int, pu.int]; rfl, ?_⟩
    rw [pv.int, pu.int, dec_int]; exact hQ
  · cases Option.some.inj e
    refine .inl ⟨by rw [pv.str, pu.str]; rfl, ?_⟩
    rw [pv.str, pu.str]; simpa using hQ
  · split at e <;> first | (cases e; done) | skip
    rename_i c
    simp only [Bool.and_eq_true] at c
    cases Option.some.inj e
    exact .inr ⟨x, y, pv.dp G.le (SeqAt.canLay_of_shaped c.1), pu.dp G.le (SeqAt.canLay_of_shaped c.2), c.1, c.2, hQ⟩
theorem cmp_ok {o : Cop} {x y : D} {b : Bool} {Q : VK} (e : cmpop o x y = some b) (G : Good C Y g s σ H) (pv : Pk C Y g H v (.d x)) (pu : Pk C Y g H u (.d y)) (hQ : Q (.bl b) H) : rC C.K o v u H Q := by
  have ord : ∀ {i j : Int} {q : Int → Int → Bool}, x = .int i → y = .int j → b = q i j → rI0 (fun i j => .bl (q i j)) v u H Q := fun {i j q} e1 e2 e3 => by
    subst e1 e2 e3
    exact ⟨i, j, pv.int, pu.int, hQ⟩
  cases o with
  | eq => exact eq_ok (by simpa [cmpop] using e) G pv pu hQ
  | ne =>
    have e' : (deq x y).map (!·) = some b := by simpa [cmpop] using e
    cases q : deq x y with
    | none => rw [q] at e'; cases e'
    | some c =>
      rw [q] at e'
      cases Option.some.inj e'
      exact ne_ok q G pv pu hQ
  | lt => cases x <;> cases y <;> simp only [cmpop] at e <;> first | (cases e; done) | exact ord rfl rfl (Option.some.inj e).symm
  | le => cases x <;> cases y <;> simp only [cmpop] at e <;> first | (cases e; done) | exact ord rfl rfl (Option.some.inj e).symm
  | gt => cases x <;> cases y <;> simp only [cmpop] at e <;> first | (cases e; done) | exact ord rfl rfl (Option.some.inj e).symm
  | ge => cases x <;> cases y <;> simp only [cmpop] at e <;> first | (cases e; done) | exact ord rfl rfl (Option.some.inj e).symm
  | is =>
    have n := isnon pv
    cases y <;> first
      | (refine .inl ⟨pu.none, ?_⟩; rw [n]; cases x <;> simp only [cmpop] at e <;> cases Option.some.inj e <;> exact hQ)
      | (cases x <;> simp only [cmpop] at e <;> first | (cases e; done) | (cases Option.some.inj e; exact .inr ⟨_, _, pv.bool, pu.bool, hQ⟩))
  | nis =>
    have n := isnon pv
    cases y <;> first
      | (refine .inl ⟨pu.none, ?_⟩; rw [n]; cases x <;> simp only [cmpop] at e <;> cases Option.some.inj e <;> exact hQ)
      | (cases x <;> simp only [cmpop] at e <;> first | (cases e; done) | (cases Option.some.inj e; exact .inr ⟨_, _, pv.bool, pu.bool, hQ⟩))
  | isin =>
    cases y <;> simp only [cmpop, seqOf, Option.bind_none, Option.bind_some] at e <;> first | (cases e; done) | skip
    all_goals
      split at e <;> first | (cases e; done) | skip
      rename_i c
      simp only [Bool.and_eq_true] at c
      cases Option.some.inj e
    · exact .inl ⟨x, _, pv.dp G.le (SeqAt.canLay_of_shaped c.1), pu.dp G.le (SeqAt.canLay_of_shaped c.2), c.1, c.2, hQ⟩
    · exact .inr ⟨x, _, pv.dp G.le (SeqAt.canLay_of_shaped c.1), pu.dp G.le (SeqAt.canLay_of_shaped c.2), c.1, c.2, hQ⟩
  | nin =>
    cases y <;> simp only [cmpop, seqOf, Option.bind_none, Option.bind_some] at e <;> first | (cases e; done) | skip
    all_goals
      split at e <;> first | (cases e; done) | skip
      rename_i c
      simp only [Bool.and_eq_true] at c
      cases Option.some.inj e
    · exact .inl ⟨x, _, pv.dp G.le (SeqAt.canLay_of_shaped c.1), pu.dp G.le (SeqAt.canLay_of_shaped c.2), c.1, c.2, hQ⟩
    · exact .inr ⟨x, _, pv.dp G.le (SeqAt.canLay_of_shaped c.1), pu.dp G.le (SeqAt.canLay_of_shaped c.2), c.1, c.2, hQ⟩

theorem RpA.empty {K : PySem.W.Frag} {R : Hp} {vs : List V} {ds : List D} (h : RpA K R vs ds) : vs.isEmpty = ds.isEmpty := by cases h <;> rfl
theorem tru_of {x : D} {k : Bool} (e : truthy x = some k) (G : Good C Y g s σ H) (pv : Pk C Y g H v (.d x)) : TruV C.K v H k := by
  cases x <;> simp only [truthy] at e <;> first | (cases e; done) | skip
  · cases Option.some.inj e; rw [pv.none]; rfl
  · cases Option.some.inj e; rw [pv.bool]; rfl
  · cases Option.some.inj e; rw [pv.int]; rfl
  · cases Option.some.inj e
    obtain ⟨a, xs, e1, h1, r1⟩ := pv.list G.le
    subst e1
    exact .inl ⟨xs, h1.sq, by rw [r1.empty]⟩
  · cases Option.some.inj e
    obtain ⟨a, xs, e1, h1, r1⟩ := pv.tuple G.le
    subst e1
    exact .inr (.inl ⟨xs, h1, by rw [r1.empty]⟩)

/-! ### built-ins -/
def biV : Bi → Value
  | .len => .builtin "len" | .abs => .builtin "abs" | .min => .builtin "min" | .max => .builtin "max" | .sum => .builtin "sum" | .all => .builtin "all" | .any => .builtin "any"
  | .sorted => .builtin "sorted" | .repr => .builtin "repr" | .tuple => .type "tuple" | .list => .type "list" | .int => .type "int"
def rRepr (K : PySem.W.Frag) : List V → Hp → VK → Prop := fun xs H Q => ∃ x d, xs = [x] ∧ Dp K H x d ∧ d.showable = true ∧ d.hasDict = false ∧ d.depth ≤ 60 ∧ d.shown.length ≤ sizeLine ∧ Q (.str d.shown) H
theorem call_reprD {X : Cx} (hg : X.A.guards = some []) (hu : X.A.units + 64 < cLine) : CallR X (.builtin "repr") (rRepr X.K) := by
  intro pins s σ H xs us Q I r h
  obtain ⟨x, d, rfl, hd, h1, h2, h3, h4, q⟩ := h
  obtain ⟨u, rfl, rx⟩ := vals1 r
  obtain ⟨as, rd⟩ := Dp.reads I d x u hd rx
  cases hd with
  | non => cases rx; exact PySem.P.repr_of_none ⟨.str _, H, I.tok _, ⟨_, rfl⟩, q⟩
  | bl b => cases rx; exact PySem.P.repr_of_bool ⟨.str _, H, I.tok _, ⟨_, rfl⟩, q⟩
  | int i =>
    obtain ⟨t, rfl⟩ := rx
    exact PySem.P.repr_of_int (by simpa [PyData.showable] using h1) ⟨.str _, H, I.tok _, ⟨_, rfl⟩, q⟩
  | str x =>
    obtain ⟨t, rfl⟩ := rx
    exact PySem.P.repr_of_str ⟨.str _, H, I.tok _, ⟨_, rfl⟩, q⟩ (by simpa [PyData.shown] using h4)
  | lst hs ha =>
    cases rx
    exact PySem.repr_of_reads' rd h1 (PyData.noDict_hsm h2) hg (by omega) (fun _ _ e => e) (fun h' u tk hk => ⟨.str _, H, I.kept hk, ⟨_, rfl⟩, q⟩) h4
  | tup hs ha =>
    cases rx
    exact PySem.repr_of_reads' rd h1 (PyData.noDict_hsm h2) hg (by omega) (fun _ _ e => e) (fun h' u tk hk => ⟨.str _, H, I.kept hk, ⟨_, rfl⟩, q⟩) h4
def rBi (K : PySem.W.Frag) : Bi → List V → Hp → VK → Prop
  | .len => fun xs H Q => ∃ p ys, xs = [.ref p] ∧ (SqL K H p ys ∨ SqT K H p ys) ∧ Q (.int ys.length) H
  | .abs => fun xs H Q => ∃ i, xs = [.int i] ∧ Q (.int (if i < 0 then -i else i)) H
  | .min => fun xs H Q => (∃ i j, xs = [.int i, .int j] ∧ Q (.int (if j < i then j else i)) H) ∨ rMin K xs H Q
  | .max => fun xs H Q => (∃ i j, xs = [.int i, .int j] ∧ Q (.int (if j > i then j else i)) H) ∨ rMax K xs H Q
  | .sum => rSum K
  | .all => rAll K
  | .any => rAny K
  | .tuple => fun xs H Q => ∃ p ys, xs = [.ref p] ∧ ((SqL K H p ys ∧ ∀ l, H l = none → Q (.ref l) (upd H l (.tup ys))) ∨ (SqT K H p ys ∧ Q (.ref p) H))
  | .list => fun xs H Q => ∃ p ys, xs = [.ref p] ∧ (SqL K H p ys ∨ SqT K H p ys) ∧ ∀ l, H l = none → Q (.ref l) (upd H l (.lst ys))
  | .int => fun xs H Q => (∃ i, xs = [.int i] ∧ Q (.int i) H) ∨ ∃ k, xs = [.bl k] ∧ Q (.int (if k then 1 else 0)) H
  | .sorted => rSortedI K
  | .repr => rRepr K
theorem call_bi {X : Cx} (hc : X.calm = true) (hg : X.A.guards = some []) (hu : X.A.units + 64 < cLine) : ∀ b : Bi, CallR X (biV b) (rBi X.K b)
  | .len => call_len_seq
  | .abs => call_abs
  | .min => (call_min2 hc).or (cr_min hc)
  | .max => (call_max2 hc).or (cr_max hc)
  | .sum => cr_sum hc
  | .all => cr_all hc
  | .any => cr_any hc
  | .tuple => call_tuple_of
  | .list => call_list_of
  | .int => call_int1
  | .sorted => cr_sortedI
  | .repr => call_reprD hg hu

theorem maxI_mem : ∀ {l : List Int}, l ≠ [] → maxI l ∈ l ∧ ∀ y ∈ l, y ≤ maxI l
  | [], h => absurd rfl h
  | [a], _ => by simp [maxI]
  | a :: b :: r, _ => by
    obtain ⟨h1, h2⟩ := maxI_mem (l := b :: r) (by simp)
    have e : maxI (a :: b :: r) = max a (maxI (b :: r)) := rfl
    rw [e]
    refine ⟨?_, fun y hy => ?_⟩
    · rcases Int.le_total a (maxI (b :: r)) with h | h
      · rw [Int.max_eq_right h]; exact List.mem_cons_of_mem _ h1
      · rw [Int.max_eq_left h]; exact List.mem_cons_self
    · rcases List.mem_cons.mp hy with rfl | hy
      · omega
      · have := h2 y hy; omega
theorem minI_mem : ∀ {l : List Int}, l ≠ [] → minI l ∈ l ∧ ∀ y ∈ l, minI l ≤ y
  | [], h => absurd rfl h
  | [a], _ => by simp [minI]
  | a :: b :: r, _ => by
    obtain ⟨h1, h2⟩ := minI_mem (l := b :: r) (by simp)
    have e : minI (a :: b :: r) = min a (minI (b :: r)) := rfl
    rw [e]
    refine ⟨?_, fun y hy => ?_⟩
    · rcases Int.le_total a (minI (b :: r)) with h | h
      · rw [Int.min_eq_left h]; exact List.mem_cons_self
      · rw [Int.min_eq_right h]; exact List.mem_cons_of_mem _ h1
    · rcases List.mem_cons.mp hy with rfl | hy
      · omega
      · have := h2 y hy; omega
theorem insI_perm (a : Int) : ∀ l : List Int, (insI a l).Perm (a :: l)
  | [] => .refl _
  | b :: r => by
    unfold insI
    split
    · exact .refl _
    · exact ((insI_perm a r).cons b).trans (.swap a b r)
theorem sortI_perm : ∀ l : List Int, (sortI l).Perm l
  | [] => .refl _
  | a :: r => (insI_perm a _).trans ((sortI_perm r).cons a)
theorem insI_sorted (a : Int) : ∀ {l : List Int}, l.Pairwise (· ≤ ·) → (insI a l).Pairwise (· ≤ ·)
  | [], _ => by simp [insI]
  | b :: r, h => by
    unfold insI
    rw [List.pairwise_cons] at h
    split
    · rename_i c
      refine List.pairwise_cons.mpr ⟨fun y hy => ?_, List.pairwise_cons.mpr h⟩
      rcases List.mem_cons.mp hy with rfl | hy
      · exact c
      · have := h.1 y hy; omega
    · rename_i c
      refine List.pairwise_cons.mpr ⟨fun y hy => ?_, insI_sorted a h.2⟩
      rcases List.mem_cons.mp ((insI_perm a r).mem_iff.mp hy) with rfl | hy
      · omega
      · exact h.1 y hy
theorem sortI_sorted : ∀ l : List Int, (sortI l).Pairwise (· ≤ ·)
  | [] => .nil
  | a :: r => insI_sorted a (sortI_sorted r)
theorem sorted_unique : ∀ {l m : List Int}, l.Perm m → l.Pairwise (· ≤ ·) → m.Pairwise (· ≤ ·) → l = m
  | [], m, p, _, _ => (p.nil_eq)
  | a :: l, [], p, _, _ => absurd p.symm.nil_eq (by simp)
  | a :: l, b :: m, p, h1, h2 => by
    rw [List.pairwise_cons] at h1 h2
    have e : a = b := by
      have ha : a ∈ b :: m := p.mem_iff.mp List.mem_cons_self
      have hb : b ∈ a :: l := p.mem_iff.mpr List.mem_cons_self
      rcases List.mem_cons.mp ha with rfl | ha
      · rfl
      · rcases List.mem_cons.mp hb with rfl | hb
        · rfl
        · have := h1.1 b hb; have := h2.1 a ha; omega
    subst e
    rw [sorted_unique (List.Perm.cons_inv p) h1.2 h2.2]
theorem sortI_unique {l m : List Int} (p : m.Perm l) (h : m.Pairwise (· ≤ ·)) : m = sortI l := sorted_unique (p.trans (sortI_perm l).symm) h (sortI_sorted l)

theorem PkA.one {vs : List V} {x : SV} (h : PkA C Y g H vs [x]) : ∃ v, vs = [v] ∧ Pk C Y g H v x := by
  cases h with
  | cons h q => cases q; exact ⟨_, rfl, h⟩
theorem PkA.two {vs : List V} {x y : SV} (h : PkA C Y g H vs [x, y]) : ∃ v u, vs = [v, u] ∧ Pk C Y g H v x ∧ Pk C Y g H u y := by
  cases h with
  | cons h q =>
    obtain ⟨u, rfl, q'⟩ := PkA.one q
    exact ⟨_, u, rfl, h, q'⟩
theorem dsOf_map : ∀ {xs : List SV} {ds : List D}, dsOf xs = some ds → xs = ds.map SV.d
  | [], ds, e => by simp [dsOf] at e; subst e; rfl
  | x :: xs, ds, e => by
    cases x <;> simp [dsOf] at e
    obtain ⟨r, e1, e2⟩ := e
    subst e2
    rw [dsOf_map e1]; rfl
theorem bi_ok {o : Bi} {ds : List D} {vs : List V} {r : D × Bool} {Q : VK} (e : builtin o ds = some r) (G : Good C Y g s σ H) (pa : PkA C Y g H vs (ds.map SV.d))
    (hQ : ∀ w g' H', GLe g g' → Good C Y g' s σ H' → RF C Y g' s σ H' w (.d r.1, r.2) → Q w H') : rBi C.K o vs H Q := by
  have same : ∀ {w : V} {d : D}, r = (d, false) → Rp C.K g.R w d → Q w H := fun {w d} e h => by
    subst e
    exact hQ w g H (GLe.refl g) G (RF.data h)
  have lnew : ∀ {xs : List V} {d : List D}, r = (.list d, true) → RpA C.K g.R xs d → ∀ p, H p = none → Q (.ref p) (upd H p (.lst xs)) := fun {xs d} e h p hp => by
    subst e
    obtain ⟨G1, f1⟩ := new_lst G h hp
    exact hQ _ g _ (GLe.refl g) G1 f1
  unfold builtin at e
  split at e
  · cases Option.some.inj e
    obtain ⟨v, rfl, pv⟩ := pa.one
    obtain ⟨a, xs, rfl, h1, r1⟩ := pv.list G.le
    exact ⟨a, xs, rfl, .inl h1.sq, by rw [r1.length]; exact same rfl (.int _)⟩
  · cases Option.some.inj e
    obtain ⟨v, rfl, pv⟩ := pa.one
    obtain ⟨a, xs, rfl, h1, r1⟩ := pv.tuple G.le
    exact ⟨a, xs, rfl, .inr h1, by rw [r1.length]; exact same rfl (.int _)⟩
  · cases Option.some.inj e
    obtain ⟨v, rfl, pv⟩ := pa.one
    exact ⟨_, by rw [pv.int], same rfl (.int _)⟩
  · cases Option.some.inj e
    obtain ⟨v, u, rfl, pv, pu⟩ := pa.two
    exact .inl ⟨_, _, by rw [pv.int, pu.int], same rfl (.int _)⟩
  · cases Option.some.inj e
    obtain ⟨v, u, rfl, pv, pu⟩ := pa.two
    exact .inl ⟨_, _, by rw [pv.int, pu.int], same rfl (.int _)⟩
  · rename_i l
    obtain ⟨v, rfl, pv⟩ := pa.one
    obtain ⟨a, xs, rfl, h1, r1⟩ := pv.list G.le
    cases q : asInts l with
    | none => rw [q] at e; cases e
    | some ns =>
      rw [q] at e
      simp only [Option.bind_some] at e
      split at e <;> first | (cases e; done) | skip
      rename_i hne
      cases Option.some.inj e
      have ex := r1.ints q
      subst ex
      obtain ⟨m1, m2⟩ := minI_mem hne
      refine .inr ⟨a, ns, rfl, h1.sq, List.length_pos_iff.mpr hne, fun m hm hle => ?_⟩
      have : m = minI ns := by have := hle _ m1; have := m2 _ hm; omega
      subst this
      exact same rfl (.int _)
  · rename_i l
    obtain ⟨v, rfl, pv⟩ := pa.one
    obtain ⟨a, xs, rfl, h1, r1⟩ := pv.list G.le
    cases q : asInts l with
    | none => rw [q] at e; cases e
    | some ns =>
      rw [q] at e
      simp only [Option.bind_some] at e
      split at e <;> first | (cases e; done) | skip
      rename_i hne
      cases Option.some.inj e
      have ex := r1.ints q
      subst ex
      obtain ⟨m1, m2⟩ := maxI_mem hne
      refine .inr ⟨a, ns, rfl, h1.sq, List.length_pos_iff.mpr hne, fun m hm hle => ?_⟩
      have : m = maxI ns := by have := hle _ m1; have := m2 _ hm; omega
      subst this
      exact same rfl (.int _)
  · rename_i l
    obtain ⟨v, rfl, pv⟩ := pa.one
    obtain ⟨a, xs, rfl, h1, r1⟩ := pv.list G.le
    cases q : asInts l with
    | none => rw [q] at e; cases e
    | some ns =>
      rw [q] at e
      cases Option.some.inj e
      have ex := r1.ints q
      subst ex
      exact ⟨a, ns, rfl, h1.sq, same rfl (.int _)⟩
  · rename_i l
    obtain ⟨v, rfl, pv⟩ := pa.one
    obtain ⟨a, xs, rfl, h1, r1⟩ := pv.list G.le
    cases q : asBools l with
    | none => rw [q] at e; cases e
    | some ns =>
      rw [q] at e
      cases Option.some.inj e
      have ex := r1.bools q
      subst ex
      exact ⟨a, ns, rfl, h1.sq, same rfl (.bl _)⟩
  · rename_i l
    obtain ⟨v, rfl, pv⟩ := pa.one
    obtain ⟨a, xs, rfl, h1, r1⟩ := pv.list G.le
    cases q : asBools l with
    | none => rw [q] at e; cases e
    | some ns =>
      rw [q] at e
      cases Option.some.inj e
      have ex := r1.bools q
      subst ex
      exact ⟨a, ns, rfl, h1.sq, same rfl (.bl _)⟩
  · cases Option.some.inj e
    obtain ⟨v, rfl, pv⟩ := pa.one
    obtain ⟨a, xs, rfl, h1, r1⟩ := pv.list G.le
    refine ⟨a, xs, rfl, .inl ⟨h1.sq, fun p hp => ?_⟩⟩
    obtain ⟨g1, l1, G1, f1⟩ := new_tup G r1 hp
    exact hQ _ g1 _ l1 G1 (RF.of f1)
  · cases Option.some.inj e
    obtain ⟨v, rfl, pv⟩ := pa.one
    obtain ⟨a, xs, ea, h1, r1⟩ := pv.tuple G.le
    rcases pv with h | ⟨_, q, h⟩
    · subst ea
      exact ⟨a, xs, rfl, .inr ⟨h1, same rfl h⟩⟩
    · cases q; exact h.elim
  · cases Option.some.inj e
    obtain ⟨v, rfl, pv⟩ := pa.one
    obtain ⟨a, xs, rfl, h1, r1⟩ := pv.list G.le
    exact ⟨a, xs, rfl, .inl h1.sq, lnew rfl r1⟩
  · cases Option.some.inj e
    obtain ⟨v, rfl, pv⟩ := pa.one
    obtain ⟨a, xs, rfl, h1, r1⟩ := pv.tuple G.le
    exact ⟨a, xs, rfl, .inr h1, lnew rfl r1⟩
  · cases Option.some.inj e
    obtain ⟨v, rfl, pv⟩ := pa.one
    exact .inl ⟨_, by rw [pv.int], same rfl (.int _)⟩
  · cases Option.some.inj e
    obtain ⟨v, rfl, pv⟩ := pa.one
    exact .inr ⟨_, by rw [pv.bool], same rfl (.int _)⟩
  · rename_i l
    obtain ⟨v, rfl, pv⟩ := pa.one
    obtain ⟨a, xs, rfl, h1, r1⟩ := pv.list G.le
    cases q : asInts l with
    | none => rw [q] at e; cases e
    | some ns =>
      rw [q] at e
      cases Option.some.inj e
      have ex := r1.ints q
      subst ex
      refine ⟨a, ns, rfl, h1.sq, fun ns' p pm so hp => ?_⟩
      rw [sortI_unique pm so]
      exact lnew rfl (RpA.of_ints _) p hp
  · obtain ⟨v, rfl, pv⟩ := pa.one
    split at e <;> first | (cases e; done) | skip
    rename_i c
    simp only [Bool.and_eq_true, decide_eq_true_eq, Bool.not_eq_true'] at c
    cases Option.some.inj e
    exact ⟨v, _, rfl, pv.dpD G.le c.1.1.2, c.1.1.1, c.1.1.2, c.1.2, by omega, same rfl (.str _)⟩
  · cases e

/-! ### items, slices -/
theorem atI_map {xs : List V} {ds : List D} {i : Int} {d : D} (r : RpA C.K g.R xs ds) (e : L2.atI ds i = some d) : ∃ v, L2.atI xs i = some v ∧ Rp C.K g.R v d := by
  unfold L2.atI at e ⊢
  rw [r.length]
  cases q : ixN ds.length i with
  | none => rw [q] at e; cases e
  | some j =>
    rw [q] at e
    obtain ⟨v, h1, h2⟩ := r.get e
    exact ⟨v, h1, h2⟩
theorem item_ok {x y d : D} {Q : VK} (e : item x y = some d) (G : Good C Y g s σ H) (pv : Pk C Y g H v (.d x)) (pu : Pk C Y g H u (.d y)) (hQ : ∀ w, Rp C.K g.R w d → Q w H) : rIx C.K v u H Q := by
  cases x <;> cases y <;> simp only [item] at e <;> first | (cases e; done) | skip
  · obtain ⟨a, xs, rfl, h1, r1⟩ := pv.list G.le
    obtain ⟨w, h2, h3⟩ := atI_map r1 e
    exact .inl ⟨a, xs, _, w, rfl, pu.int, h1.sq, h2, hQ w h3⟩
  · obtain ⟨a, xs, rfl, h1, r1⟩ := pv.tuple G.le
    obtain ⟨w, h2, h3⟩ := atI_map r1 e
    exact .inr (.inl ⟨a, xs, _, w, rfl, pu.int, h1, h2, hQ w h3⟩)
theorem cut_map {xs : List V} {ds : List D} {lo hi : Option Int} (r : RpA C.K g.R xs ds) : RpA C.K g.R (cutV xs lo hi) (cutD ds lo hi) := by
  unfold cutV cutD
  rw [r.length]
  exact (r.drop _).take _
def rSl (K : PySem.W.Frag) : V → Option Int → Option Int → Hp → VK → Prop := fun x lo hi H Q => rSlL K x lo hi H Q ∨ rSlA K x lo hi H Q
theorem op_slice {X : Cx} : SlR X (rSl X.K) := sl_list.or sl_tupA
theorem slice_ok {x : D} {lo hi : Option Int} {r : D × Bool} {Q : VK} (e : slice x lo hi = some r) (G : Good C Y g s σ H) (pv : Pk C Y g H v (.d x))
    (hQ : ∀ w g' H', GLe g g' → Good C Y g' s σ H' → RF C Y g' s σ H' w (.d r.1, r.2) → Q w H') : rSl C.K v lo hi H Q := by
  unfold slice at e
  cases x <;> simp only at e <;> first | (cases e; done) | skip
  · cases Option.some.inj e
    obtain ⟨a, xs, rfl, h1, r1⟩ := pv.list G.le
    refine .inl ⟨a, xs, rfl, h1.sq, fun p hp => ?_⟩
    obtain ⟨G1, f1⟩ := new_lst G (cut_map r1) hp
    exact hQ _ g _ (GLe.refl g) G1 f1
  · cases Option.some.inj e
    obtain ⟨a, xs, ea, h1, r1⟩ := pv.tuple G.le
    refine .inr ⟨a, xs, ea, h1, fun c => ?_, fun _ p hp => ?_⟩
    · rcases pv with h | ⟨_, q, h⟩
      · subst ea
        rename_i ys
        have e1 : cutD ys lo hi = ys := by
          unfold cutD
          rw [← r1.length, c.1, c.2, Nat.sub_zero, List.drop_zero, r1.length, List.take_length]
        rw [e1] at hQ
        exact hQ _ g H (GLe.refl g) G (RF.data h)
      · cases q; exact h.elim
    · obtain ⟨g1, l1, G1, f1⟩ := new_tup G (cut_map r1) hp
      exact hQ _ g1 _ l1 G1 (RF.of f1)
end
end Pv
set_option maxHeartbeats 200000
set_option maxHeartbeats 2000000
/-! Pv: is a Pv text the text of a piece of the program? -/
namespace Pv
open PySem PySem.Spec PyProof.Rows L2

/-- names of the top: defs with their parameters, constants, classes of errors; calls with keywords: def, positional ones, keywords, layout -/
structure Nm where
  fns : List (Str × List Str)
  gns : List Str
  ens : List Str
  kws : List (Nat × Nat × List Str × List Nat)
structure Cc where
  M : Nm
  N : List Str
  sc : Scope
  fb : Str → Bool
  /-- may it call the lambdas that it got -/
  cv : Bool
  /-- is this lambda the text at that place, with these slots captured -/
  lam : Nat → List Nat → Arguments → Expr → Scope → Bool

def biN : Bi → Str
  | .len => "len" | .abs => "abs" | .min => "min" | .max => "max" | .sum => "sum" | .all => "all" | .any => "any"
  | .sorted => "sorted" | .repr => "repr" | .tuple => "tuple" | .list => "list" | .int => "int"
def tyN : Ty → String
  | .int => "int" | .bool => "bool" | .str => "str" | .list => "list" | .tuple => "tuple" | .dict => "dict" | .err _ => ""
/-- built-in names that may be met -/
def bnames : List Str := ["len", "abs", "min", "max", "sum", "all", "any", "sorted", "repr", "tuple", "list", "int", "isinstance", "bool", "str", "dict", "range", "enumerate", "zip"]

def Cc.vis (c : Cc) (i : Nat) (x : Str) : Bool := decide (c.N[i]? = some x) && (match c.sc.names.lookup x with | some .local => true | some .cell => true | some .free => true | _ => false) &&
  !(x == ("__debug__" : Str)) && !(x == ("__classdict__" : Str))
def Cc.gl (c : Cc) (x : Str) : Bool := decide (c.sc.names.lookup x = some .globalImplicit) && !(x == ("__debug__" : Str)) && !(x == ("__name__" : Str))
/-- a name that may be stored -/
def Cc.sto (c : Cc) (i : Nat) (x : Str) : Bool := decide (c.N[i]? = some x) && (match c.sc.names.lookup x with | some .local => true | some .cell => c.fb x | _ => false)
def Cc.blk (c : Cc) (scope : Scope) : Cc := { c with sc := relS scope c.sc, fb := fun x => scope.names.lookup x == some .cell, cv := false, lam := fun _ _ _ _ _ => false }

def dataC : D → Const → Bool
  | .none, .none => true
  | .bool a, .bool b => decide (a = b)
  | .int a, .int b => decide (a = b)
  | .str a, .str b => decide (a = b)
  | _, _ => false
def notStar : Expr → Bool
  | .Starred .. => false
  | _ => true
def notSlice : Expr → Bool
  | .Slice .. => false
  | _ => true
def tgC1 (c : Cc) (i : Nat) : Expr → Bool
  | .Name x _ => c.sto i x
  | _ => false
def tgsC (c : Cc) : List Nat → List Expr → Bool
  | [], [] => true
  | i :: is, e :: es => tgC1 c i e && tgsC c is es
  | _, _ => false
def tgC (c : Cc) : Tg → Expr → Bool
  | .nm i, e => tgC1 c i e
  | .tup l, .Tuple es _ _ => tgsC c l es
  | _, _ => false
def Tg.slots : Tg → List Nat
  | .nm i => [i]
  | .tup l => l
def one1 (c : Cc) (n : Str) : Expr → Bool
  | .Name x _ => decide (x = n) && c.gl x
  | _ => false
def kwN (l : List Keyword) : Option (List Str) := l.mapM fun k => k.arg

def dkN : Dk → Str
  | .rest => "rest" | .turn => "turn" | .cells => "cells"

mutual
def chk (c : Cc) : Ex → Expr → Bool
  | .v i, .Name x _ => c.vis i x
  | .c d, .Constant k _ _ => dataC d k
  | .g i, .Name x _ => decide (c.M.gns[i]? = some x) && c.gl x
  | .fn i, .Name x _ => (match c.M.fns[i]? with | some p => decide (p.1 = x) | none => false) && c.gl x
  | .bin o a b, .BinOp p op q _ => decide (bo o = op) && chk c a p && chk c b q
  | .neg a, .UnaryOp .USub p _ => chk c a p
  | .no a, .UnaryOp .Not p _ => chk c a p
  | .cmp o a b, .Compare p [op] [q] _ => decide (co o = op) && chk c a p && chk c b q
  | .chain o o' a b d, .Compare p [op, op'] [q, r] _ => decide (co o = op) && decide (co o' = op') && !decide (op' = .In) && !decide (op' = .NotIn) && chk c a p && chk c b q && chk c d r
  | .and a b, .BoolOp .And l pos => match l with
    | [p, q] => chk c a p && chk c b q
    | p :: q :: r :: t => chk c a p && chk c b (.BoolOp .And (q :: r :: t) pos)
    | _ => false
  | .or a b, .BoolOp .Or l pos => match l with
    | [p, q] => chk c a p && chk c b q
    | p :: q :: r :: t => chk c a p && chk c b (.BoolOp .Or (q :: r :: t) pos)
    | _ => false
  | .ite t a b, .IfExp p q r _ => chk c t p && chk c a q && chk c b r
  | .call f l, .Call (.Name x _) ps [] _ => (match c.M.fns[f]? with | some q => decide (q.1 = x) | none => false) && c.gl x && chks c l ps
  | .kcall f l k pm, .Call (.Name x _) ps (q :: qs) _ => (match c.M.fns[f]? with | some r => decide (r.1 = x) | none => false) && c.gl x && chks c l ps && chks c k ((q :: qs).map (·.value)) &&
      (match kwN (q :: qs) with | some ks => decide ((f, l.length, ks, pm) ∈ c.M.kws) | none => false)
  | .bi o l, .Call (.Name x _) (p :: ps) [] _ => decide (x = biN o) && c.gl x && chks c l (p :: ps)
  | .isi a l, .Call (.Name x _) [p, q] [] _ => decide (x = "isinstance") && c.gl x && chk c a p && (match l with
    | [.err _] => false
    | [t] => one1 c (Str.ofString (tyN t)) q
    | _ => false)
  | .ix a b, .Subscript p q _ => notSlice q && chk c a p && chk c b q
  | .sl a lo hi, .Subscript p (.Slice l h none _) _ => chk c a p && (match l with | none => lo.gap | some l => !lo.gap && chk c lo l) && (match h with | none => hi.gap | some h => !hi.gap && chk c hi h)
  | .rev a, .Subscript p (.Slice none none (some (.UnaryOp .USub (.Constant (.int 1) _ _) _)) _) _ => chk c a p
  | .tup l, .Tuple ps _ _ => chks c l ps
  | .lst l, .List ps _ => chks c l ps
  | .lc e t it ifs own, .ListComp p [⟨tg, iter, qs, 0⟩] scope _ => chkIt c it tg iter && blkC c.N c.sc scope (own.filterMap fun i => (c.N[i]?).map fun x => (x, i)) && decide ((own.filterMap fun i => (c.N[i]?).map fun x => (x, i)).map (·.2) = own) &&
      decide (∀ i ∈ t.slots, i ∈ own) && tgC (c.blk scope) t tg && decide (ifs.length ≤ 1) && chks (c.blk scope) ifs qs && chk (c.blk scope) e p
  | .pop i, .Call (.Attribute (.Name x _) m apos) [] [] cpos => decide (m = "pop") && c.vis i x && (apos.endLine == cpos.line)
  | .dk i k, .Subscript (.Name x _) (.Constant (.str n) _ _) _ => c.vis i x && decide (n = dkN k)
  | .dle i, .Compare (.Subscript (.Name x _) (.Constant (.str n) _ _) _) [.NotEq] [.List [] _] _ => c.vis i x && decide (n = "large")
  | .dpop i, .Call (.Attribute (.Subscript (.Name x _) (.Constant (.str n) _ _) _) m apos) [.Constant (.int z) _ _] [] cpos => c.vis i x && decide (n = "large") && decide (m = "pop") && decide (z = 0) && (apos.endLine == cpos.line)
  | .dmk l e, .Dict [some (.Constant (.str n1) _ _), some (.Constant (.str n2) _ _), some (.Constant (.str n3) _ _), some (.Constant (.str n4) _ _)] [.Name x _, .Constant (.int z) _ _, p, .Constant (.int w) _ _] _ =>
      c.vis l x && decide (n1 = "large") && decide (n2 = "rest") && decide (n3 = "cells") && decide (n4 = "turn") && decide (z = 0) && decide (w = 0) && chk c e p
  | .callv i l, .Call (.Name x _) (p :: ps) [] _ => c.cv && c.vis i x && chks c l (p :: ps)
  | .lcall f l m caps, .Call (.Name x _) (p :: ps) [] _ => (match c.M.fns[f]? with | some q => decide (q.1 = x) | none => false) && c.gl x && chkl c m caps l (p :: ps)
  | _, _ => false
/-- arguments, the last one a lambda -/
def chkl (c : Cc) (m : Nat) (caps : List Nat) : List Ex → List Expr → Bool
  | [], [.Lambda params body scope _] => c.lam m caps params body scope
  | e :: es, p :: ps => chk c e p && chkl c m caps es ps
  | _, _ => false
def chks (c : Cc) : List Ex → List Expr → Bool
  | [], [] => true
  | e :: es, p :: ps => chk c e p && chks c es ps
  | _, _ => false
/-- what a loop walks -/
def chkIt (c : Cc) : It → Expr → Expr → Bool
  | .seq a, _, p => chk c a p
  | .rng1 a, _, .Call (.Name x _) [p] [] _ => decide (x = "range") && c.gl x && chk c a p
  | .rng2 a b, _, .Call (.Name x _) [p, q] [] _ => decide (x = "range") && c.gl x && chk c a p && chk c b q
  | .enum a, .Tuple .., .Call (.Name x _) [p] [] _ => decide (x = "enumerate") && c.gl x && chk c a p
  | .zip a b, .Tuple .., .Call (.Name x _) [p, q] [] _ => decide (x = "zip") && c.gl x && chk c a p && chk c b q
  | _, _, _ => false
end
end Pv
set_option maxHeartbeats 200000
set_option maxHeartbeats 2000000
/-! Pv: what a def promises, as the evaluator tells it; calls. -/
namespace Pv
open PySem PySem.Spec PyProof.Rows L2

/-- the ghost state at a call's entry and end -/
structure GG (C : Ct) (g : Gh) (dr : Option Dr) (H : Hp) : Prop where
  sub : ∀ a o, g.R a = some o → H a = some o
  dr : DrOk C fx0 g dr H
  tb : TbOk C g H
/-- what a call leaves as it was -/
structure Ext (g g' : Gh) (H H' : Hp) : Prop where
  le : GLe g g'
  kp : ∀ a o, H a = some o → ¬ g.isDr a → ¬ isTbl o → (g.R a = none ∨ isFrz o) → H' a = some o
  un : ∀ a, H a ≠ none → g.R a = none → g'.R a = none
  al : ∀ a, H a ≠ none → H' a ≠ none
  nd : g.dr = none → ∀ a, g'.isDr a → ∀ o, H a = some o → isTbl o
/-- what a call hands back: shared, or new since the entry -/
def RR (C : Ct) (g' : Gh) (H H' : Hp) (v : V) (x : SV) (fr : Bool) : Prop :=
  if fr = true then ∃ d a, x = .d d ∧ v = .ref a ∧ H a = none ∧ g'.R a = none ∧ ¬ g'.isDr a ∧ OwnD C fx0 g' H' v d else RV C g' v x
/-- a def's promise -/
def SpF (C : Ct) (F : CallF) (f : Nat) : Sp := fun vs H Q E => ∃ g xs dr, GG C g dr H ∧ RVA C g vs xs ∧ match F f xs dr with
  | .ok x fr dr' => ∀ v g' H', Ext g g' H H' → GG C g' dr' H' → RR C g' H H' v x fr → Q v H'
  | .exc x dr' => ∀ g' H' c, Ext g g' H H' → GG C g' dr' H' → C.ea x.cls = some c → E (.ref c) none H'
  | .bad => False

/-- .. of a def that gets a lambda last -/
def SpL (C : Ct) (F : CallF) (f : Nat) (a : Addr) (k : Clo) : Sp := fun vs H Q E => ∃ g xs us dr, vs = us ++ [.ref a] ∧ GG C g dr H ∧ RVA C g us xs ∧ ClOk C g H a k ∧ match (F f (xs ++ [.clo k.m k.cs]) dr).keep with
  | .ok x fr dr' => ∀ v g' H', Ext g g' H H' → GG C g' dr' H' → RR C g' H H' v x fr → Q v H'
  | .exc x dr' => ∀ g' H' c, Ext g g' H H' → GG C g' dr' H' → C.ea x.cls = some c → E (.ref c) none H'
  | .bad => False
/-- the lambda's text is known; its cells lie in the heap -/
structure LamAt (C : Ct) (s : Shared) (H : Hp) (k : Clo) : Prop where
  ls : C.ls k.m k.L.params k.L.body k.L.scope k.ps k.fr
  cells : NdefX.CellsAt k.L.cl k.fr (k.ws.map some) s.heap H
/-- the values by a layout -/
def layV {A : Type} (pm : List Nat) (vs : List A) : Option (List A) := match pm with
  | [] => some []
  | i :: r => (vs[i]?).bind fun x => (layV r vs).map (x :: ·)
/-- each def keeps its promise, at most n deep -/
structure Calls (C : Ct) (M : Nm) (P : Program) (w : World) (mg : Str → Option Value) (base : Heap) (n : Nat) (F : CallF) : Prop where
  fn : ∀ (f : Nat) (nm : Str) (ps : List Str), M.fns[f]? = some (nm, ps) → ∃ a fd, C.fa f = some a ∧ mg nm = some (.ref a) ∧ PySem.W.keepIn C.K (.ref a) = true ∧
    (∀ us : List Value, us.length = ps.length → bindArgs fd ⟨us, []⟩ = pure (ps.zip us)) ∧
    (∀ p ∈ M.kws, p.1 = f → ∀ us ws : List Value, us.length = p.2.1 → ws.length = p.2.2.1.length → ∃ zs, layV p.2.2.2 (us ++ ws) = some zs ∧ zs.length = ps.length ∧ bindArgs fd ⟨us, p.2.2.1.zip ws⟩ = pure (ps.zip zs)) ∧
    (∀ xs dr, F f xs dr ≠ .bad → xs.length = ps.length) ∧
    ∀ (A : Around) (outer : List Env) (s : Shared) (H : Hp) (args : Args) (us : List Value) (vs : List V) (Q : VK) (E : XK), Room n A → A.guards = some [] → Env0 P w C.K mg base A outer s H → BindsTo s fd args (ps.zip us) → Vals vs us → SpF C F f vs H Q E →
      codeAny (model P w) A (.call (.ref a) args) (CR (L2.CX P w) outer P w H s Q E) s
  fas : ∀ f a, C.fa f = some a → ∃ p, M.fns[f]? = some p
  fnL : ∀ (f : Nat) (nm : Str) (ps : List Str), M.fns[f]? = some (nm, ps) → ∀ a, C.fa f = some a → ∃ fd, mg nm = some (.ref a) ∧ PySem.W.keepIn C.K (.ref a) = true ∧ (∀ us : List Value, us.length = ps.length → bindArgs fd ⟨us, []⟩ = pure (ps.zip us)) ∧
    (∀ xs dr, F f xs dr ≠ .bad → xs.length = ps.length) ∧
    ∀ (A : Around) (outer : List Env) (s : Shared) (H : Hp) (args : Args) (us : List Value) (vs : List V) (Q : VK) (E : XK) (la : Addr) (k : Clo), Room n A → A.guards = some [] → Env0 P w C.K mg base A outer s H → BindsTo s fd args (ps.zip us) → Vals vs us → LamAt C s H k → SpL C F f la k vs H Q E →
      codeAny (model P w) A (.call (.ref a) args) (CR (L2.CX P w) outer P w H s Q E) s

/-- what a body leans on -/
structure Ok (C : Ct) (c : Cc) (G : List D) (F : CallF) (n : Nat) (W : WX) (X : Cx) : Prop where
  eK : X.K = C.K
  eN : X.N = c.N
  esc : X.env.scope = c.sc
  efn : X.fn = c.fb
  nd : X.N.Nodup
  calm : X.calm = true
  room : Room n X.A
  gd : X.A.guards = some []
  tk : Takes X W
  bn : ∀ x ∈ bnames, X.mg x = none
  gc : ∀ (i : Nat) (nm : Str) (d : D), c.M.gns[i]? = some nm → G[i]? = some d → ∃ v u, X.mg nm = some u ∧ RelV v u ∧ Rp C.K (fun _ => none) v d
  calls : Calls C c.M X.prog X.w X.mg X.base n F
  /-- the lambdas that the frame got may be called -/
  clos : c.cv = true → ∀ a k, C.cl a = some k → ∀ (pins : List (Addr × Obj)) (σ : L2.St) (H : Hp) (s : Shared) (us : List Value) (vs : List V) (Q : VK), Inv X pins σ H s → H a = some (LamO a k.L) → H k.L.c = some (LamX.CodeO k.L.c k.L.qual) → Vals vs us →
    SpF C F k.m (vs ++ k.ws) H Q (fun cls d H' => W cls d σ H') → codeAny (model X.prog X.w) X.A (.call (.ref a) ⟨us, []⟩) (fun r s' => match r with | .ok (.ret u) => EP X pins σ Q u s' | .ok _ => False | .error e => X.xe e s') s
  /-- the lambdas that the text makes -/
  lams : ∀ m caps params body scope, c.lam m caps params body scope = true → ∃ (ps fr : List Str) (cc P : Addr), C.ls m params body scope ps fr ∧ X.env.code = .ref cc ∧ LamX.TabB X.base X.mg cc P ∧ (P, X.env.qual ++ "<lambda>") ∈ C.tabs ∧ (∀ p ∈ C.tabs, p.1 = P → p.2 = X.env.qual ++ "<lambda>") ∧
    defaultsOf params X.env = ([], []) ∧ (∀ y ∈ scope.names, y.2 = .free → X.env.scope.names.lookup y.1 = some .cell ∨ X.env.scope.names.lookup y.1 = some .free) ∧ (∀ y ∈ fr, (y, NameKind.free) ∈ scope.names) ∧ caps.map (fun j => X.N[j]?) = fr.map some

section
variable {C : Ct} {c : Cc} {G : List D} {F : CallF} {n : Nat} {W : WX} {X : Cx} {Y : Fx} {g g' : Gh} {s s' : S} {σ : L2.St} {H H' : Hp} {v u w : V} {p : Addr}
theorem RVA.data' {vs : List V} {xs : List SV} (h : RVA C g vs xs) : ∀ {ds : List D}, dsOf xs = some ds → RpA C.K g.R vs ds := fun e => h.data e
/-- the caller's state as a callee's entry -/
theorem Good.gg (h : Good C Y g s σ H) : GG C g s.dr H := by
  refine ⟨h.sub, ?_, h.ex.t⟩
  have d := h.dr
  unfold DrOk at *
  cases e : g.dr with
  | none => rw [e] at d; cases q : s.dr <;> rw [q] at d <;> exact d
  | some p =>
    rw [e] at d
    cases q : s.dr with
    | none => rw [q] at d; exact d
    | some st =>
      rw [q] at d
      obtain ⟨h1, h2, h3, h4, h5, h6, _, _⟩ := d
      exact ⟨h1, h2, h3, h4, h5, h6, fun _ z => z, fun _ z => z⟩
theorem Good.drn (h : Good C Y g s σ H) {a : Addr} (hd : g.isDr a) : (∀ o, ¬ Y.kp a o) ∧ g.R a = none := by
  obtain ⟨p, e, z⟩ := hd
  have d := h.dr
  unfold DrOk at d
  rw [e] at d
  cases q : s.dr with
  | none => rw [q] at d; exact d.elim
  | some st =>
    rw [q] at d
    obtain ⟨_, _, _, h4, h5, _, h7, h8⟩ := d
    rcases z with z | z <;> subst z
    · exact ⟨h7, h4⟩
    · exact ⟨h8, h5⟩
theorem GG.drn {dr : Option Dr} (h : GG C g dr H) {a : Addr} (hd : g.isDr a) : g.R a = none ∧ ∃ o, H a = some o := by
  obtain ⟨p, e, z⟩ := hd
  have d := h.dr
  unfold DrOk at d
  rw [e] at d
  cases q : dr with
  | none => rw [q] at d; exact d.elim
  | some st =>
    rw [q] at d
    obtain ⟨h1, h2, _, h4, h5, _, h7, h8⟩ := d
    rcases z with z | z <;> subst z
    · exact ⟨h4, _, h1⟩
    · exact ⟨h5, _, h2⟩
theorem Ext.dr (x : Ext g g' H H') {dr : Option Dr} (gg : GG C g dr H) {a : Addr} (hd : g'.isDr a) : g.isDr a ∨ ∀ o, H a = some o → isTbl o := by
  cases r : g.dr with
  | none => exact .inr (x.nd r a hd)
  | some p0 =>
    obtain ⟨p1, q, z⟩ := hd
    have e := x.le.dr p0 r
    rw [q] at e
    obtain rfl := Option.some.inj e
    exact .inl ⟨p1, r, z⟩
/-- behind a call the caller's state stands -/
theorem Good.after {dr' : Option Dr} (h : Good C Y g s σ H) (x : Ext g g' H H') (gg : GG C g' dr' H') : Good C Y g' { s with dr := dr' } σ H' := by
  have own : ∀ {a : Addr} {o : HO}, H a = some o → ¬ isTbl o → Loose Y g a → H' a = some o ∧ Loose Y g' a := fun {a o} e nt l =>
    ⟨x.kp a o e l.dr nt (.inl l.R), l.kp, l.un, x.un a (by rw [e]; simp) l.R, fun hd => by
      rcases x.dr h.gg hd with z | z
      · exact l.dr z
      · exact nt (z _ e)⟩
  refine ⟨gg.sub, fun a o k => ?_, fun a k => ⟨x.un a (h.un a k).2 (h.un a k).1, x.al a (h.un a k).2⟩, h.len, fun i e y h1 h2 => ?_, h.apart, ?_, ?_⟩
  · have e := h.kp a o k
    refine x.kp a o e (fun hd => (h.drn hd).1 o k) (Y.kn a o k) ?_
    rcases Y.ku a o k with z | z
    · exact .inl (h.un a z).1
    · exact .inr z
  · have q := h.slot i e y h1 h2
    cases e with
    | un => trivial
    | va x' => obtain ⟨v, e1, q⟩ := q; exact ⟨v, e1, q.le x.le⟩
    | ow d =>
      obtain ⟨v, e1, q⟩ := q
      refine ⟨v, e1, ?_⟩
      cases d <;> first | exact q.elim | skip
      · obtain ⟨a, xs, e2, e3, r, l⟩ := q
        obtain ⟨e4, l'⟩ := own e3 (fun z => z) l
        exact ⟨a, xs, e2, e4, RpA.le x.le.le r, l'⟩
      · obtain ⟨a, xs, e2, e3, r, l⟩ := q
        obtain ⟨e4, l'⟩ := own e3 (fun z => z) l
        exact ⟨a, xs, e2, e4, RpK.le x.le.le r, l'⟩
  · have d := gg.dr
    have nk : ∀ a, g'.isDr a → ∀ o, ¬ Y.kp a o := fun a hd o k => by
      rcases x.dr h.gg hd with z | z
      · exact (h.drn z).1 o k
      · exact Y.kn a o k (z _ (h.kp a o k))
    show DrOk C Y g' dr' H'
    unfold DrOk at *
    cases e : g'.dr with
    | none => rw [e] at d; cases dr' <;> exact d
    | some p =>
      rw [e] at d
      cases dr' with
      | none => exact d
      | some st =>
        obtain ⟨h1, h2, h3, h4, h5, h6, _, _⟩ := d
        exact ⟨h1, h2, h3, h4, h5, h6, nk _ ⟨p, e, .inl rfl⟩, nk _ ⟨p, e, .inr rfl⟩⟩
  · have nX : ∀ {b : Addr} {φ : Heap → Prop}, H b = some (.ext φ) → H' b = some (.ext φ) := fun {b φ} e => by
      refine x.kp b _ e (fun hd => ?_) (fun z => z) (.inl ?_)
      · obtain ⟨_, o, z⟩ := GG.drn h.gg hd
        have d := h.gg.dr
        obtain ⟨p, e1, z⟩ := hd
        unfold DrOk at d
        rw [e1] at d
        cases q : s.dr with
        | none => rw [q] at d; exact d.elim
        | some st =>
          rw [q] at d
          obtain ⟨d1, d2, _⟩ := d
          rcases z with z | z
          · rw [z, d1] at e; cases e
          · rw [z, d2] at e; cases e
      · cases q : g.R b with
        | none => rfl
        | some o =>
          exfalso
          have := h.sub b o q
          rw [e] at this
          cases this
          exact h.ex.t.rt b _ q trivial
    exact ⟨gg.tb, fun a k e => by
      have q := h.ex.cl a k e
      exact ⟨nX q.f, nX q.c, RpA.le x.le.le q.ws⟩⟩
theorem RR.rf {dr' : Option Dr} {x : SV} {fr : Bool} (h : Good C Y g s σ H) (e : Ext g g' H H') (r : RR C g' H H' v x fr) : RF C Y g' { s with dr := dr' } σ H' v (x, fr) := by
  unfold RR at r
  unfold RF
  cases fr with
  | false => exact r
  | true =>
    rw [if_pos rfl] at r
    obtain ⟨d, a, rfl, rfl, hn, hr, hd, o⟩ := r
    rw [if_pos rfl]
    have l : Loose Y g' a := ⟨fun o k => absurd ((h.kp a o k).symm.trans hn) (by simp), fun k => (h.un a k).2 hn, hr, hd⟩
    refine ⟨d, rfl, ?_, fun i b eb ow => ?_⟩
    · cases d <;> first | exact o.elim | skip
      · obtain ⟨b, xs, e1, e2, e3, _⟩ := o
        cases e1
        exact ⟨a, xs, rfl, e2, e3, l⟩
      · obtain ⟨b, xs, e1, e2, e3, _⟩ := o
        cases e1
        exact ⟨a, xs, rfl, e2, e3, l⟩
    · cases eb
      obtain ⟨⟨d', h1⟩, h2⟩ := ow
      obtain ⟨v, e1, q⟩ := h.slot i _ _ h1 h2
      obtain ⟨b, e2, _, o', ho⟩ := q.addr
      have : b = a := by cases e1; exact (V.ref.inj e2).symm
      rw [this, hn] at ho; cases ho

/-! ### calls -/
/-- what a call's end asks -/
def CallK (C : Ct) (W : WX) (Y : Fx) (F : CallF) (f : Nat) (σ : L2.St) (vs : List V) (H : Hp) (Q : VK) : Prop := ∃ g xs s, Good C Y g s σ H ∧ RVA C g vs xs ∧ Af C W Y g σ (ofRo (F f xs s.dr) s) fun x s' g' H' => ∀ v, RF C Y g' s' σ H' v x → Q v H'
theorem CallK.sp {f : Nat} {vs : List V} {Q : VK} (h : CallK C W Y F f σ vs H Q) : SpF C F f vs H Q fun cls d H' => W cls d σ H' := by
  obtain ⟨g, xs, s, G, rv, a⟩ := h
  refine ⟨g, xs, s.dr, G.gg, rv, ?_⟩
  cases e : F f xs s.dr with
  | bad => rw [e] at a; exact a.elim
  | ok x fr dr' =>
    rw [e] at a
    exact fun v g' H' ex gg r => a g' H' ex.le (G.after ex gg) v (RR.rf G ex r)
  | exc x dr' =>
    rw [e] at a
    exact fun g' H' cc ex gg hc => a g' H' cc ex.le (G.after ex gg) hc
theorem run_call {pins : List (Addr × Obj)} {s : Shared} {f : Nat} {a : Addr} {fd : FuncData} {ps : List Str} {args : Args} {us : List Value} {vs : List V} {Q : VK} (ok : Ok C c G F n W X)
    (run : ∀ (A : Around) (outer : List Env) (s : Shared) (H : Hp) (args : Args) (us : List Value) (vs : List V) (Q : VK) (E : XK), Room n A → A.guards = some [] → Env0 X.prog X.w C.K X.mg X.base A outer s H → BindsTo s fd args (ps.zip us) → Vals vs us → SpF C F f vs H Q E →
      codeAny (model X.prog X.w) A (.call (.ref a) args) (CR (L2.CX X.prog X.w) outer X.prog X.w H s Q E) s)
    (hb : bindArgs fd args = pure (ps.zip us)) (I : Inv X pins σ H s) (r : Vals vs us) (h : SpF C F f vs H Q fun cls d H' => W cls d σ H') :
    codeAny (model X.prog X.w) X.A (.call (.ref a) args) (fun r s' => match r with | .ok (.ret u) => EP X pins σ Q u s' | .ok _ => False | .error e => X.xe e s') s := by
  have e0 := I.env0
  rw [ok.eK] at e0
  refine codeAny_mono (run X.A X.stack s H args us vs Q _ ok.room ok.gd e0 (.of_eq hb) r h) fun r s' hq => ?_
  cases r with
  | error e => exact ok.tk e s' (XE.of_call I (fun _ _ _ q => q) hq)
  | ok fl =>
    cases fl with
    | ret u => exact I.after hq
    | next => exact False.elim hq
    | brk => exact False.elim hq
    | cont => exact False.elim hq
end
end Pv
set_option maxHeartbeats 200000
set_option maxHeartbeats 4000000
/-! Pv: each expression runs as the evaluator tells. -/
namespace Pv
open PySem PySem.Spec PyProof.Rows L2

def Tt (C : Ct) (W : WX) (p : Pr) : TT := fun σ H Q => ∃ Y g s, Good C Y g s σ H ∧ Af C W Y g σ (tst p s) fun b _ _ H' => Q b H'

section
variable {C : Ct} {c : Cc} {G : List D} {F : CallF} {n : Nat} {W : WX} {X : Cx} {Y : Fx} {g g' : Gh} {s s' : S} {σ : L2.St} {H H' : Hp} {v u w : V} {p : Addr}

/-! ### names -/
theorem Ok.hv (ok : Ok C c G F n W X) {i : Nat} {x : Str} (h : c.vis i x = true) : X.N[i]? = some x ∧ Vis X.env.scope x ∧ (x == ("__debug__" : Str)) = false ∧ (x == ("__classdict__" : Str)) = false := by
  unfold Cc.vis at h
  simp only [Bool.and_eq_true, decide_eq_true_eq, Bool.not_eq_true'] at h
  obtain ⟨⟨⟨h1, h2⟩, h3⟩, h4⟩ := h
  refine ⟨by rw [ok.eN]; exact h1, ?_, h3, h4⟩
  unfold Vis
  rw [ok.esc]
  split at h2 <;> first | exact .inl (by assumption) | exact .inr (.inl (by assumption)) | exact .inr (.inr (by assumption)) | cases h2
theorem Ok.var (ok : Ok C c G F n W X) {i : Nat} {x : Str} {pos : Pos} (h : c.vis i x = true) : PE X (.Name x pos) (tVar i) :=
  let ⟨h1, h2, h3, h4⟩ := ok.hv h
  pe_var h1 h2 h3 h4
theorem Ok.hgl (ok : Ok C c G F n W X) {x : Str} (h : c.gl x = true) : Gl X x ∧ (x == ("__debug__" : Str)) = false ∧ x ≠ "__name__" := by
  unfold Cc.gl at h
  simp only [Bool.and_eq_true, decide_eq_true_eq, Bool.not_eq_true'] at h
  obtain ⟨⟨h1, h3⟩, h4⟩ := h
  refine ⟨?_, h3, fun e => ?_⟩
  · show X.env.scope.names.lookup x = _
    rw [ok.esc]; exact h1
  · subst e
    simp at h4

/-! ### argument lists -/
theorem star_cons {e : Expr} {es : List Expr} {env : Env} (h : notStar e = true) : starEach (e :: es) env = (false, eval e env) :: starEach es env := by
  cases e <;> first | rfl | cases h
theorem star_any : ∀ {es : List Expr} {env : Env} {pos : Pos}, (∀ e ∈ es, notStar e = true) → (backTo pos (starEach es env)).any (·.1) = false
  | [], _, _, _ => rfl
  | e :: es, env, pos, h => by
    rw [star_cons (h e List.mem_cons_self)]
    show (false || (backTo pos (starEach es env)).any (·.1)) = false
    rw [star_any fun e he => h e (List.mem_cons_of_mem _ he)]
    rfl
theorem chk_star : ∀ {e : Ex} {p : Expr}, chk c e p = true → notStar p = true := fun {e p} h => by
  cases p <;> first | rfl | (exfalso; cases e <;> simp [chk] at h)
theorem chk_slice : ∀ {e : Ex} {p : Expr}, chk c e p = true → notSlice p = true := fun {e p} h => by
  cases p <;> first | rfl | (exfalso; cases e <;> simp [chk] at h)
theorem chks_star : ∀ {l : List Ex} {ps : List Expr}, chks c l ps = true → ∀ e ∈ ps, notStar e = true
  | [], [], _ => fun e he => absurd he (by simp)
  | [], _ :: _, h => by simp [chks] at h
  | _ :: _, [], h => by simp [chks] at h
  | e :: l, p :: ps, h => fun q hq => by
    simp only [chks, Bool.and_eq_true] at h
    rcases List.mem_cons.mp hq with rfl | hq
    · exact chk_star h.1
    · exact chks_star h.2 q hq
theorem chks_len : ∀ {l : List Ex} {ps : List Expr}, chks c l ps = true → l.length = ps.length
  | [], [], _ => rfl
  | [], _ :: _, h => by simp [chks] at h
  | _ :: _, [], h => by simp [chks] at h
  | e :: l, p :: ps, h => by
    simp only [chks, Bool.and_eq_true] at h
    simp [chks_len h.2]
theorem plain_ix {p : Expr} (h : notSlice p = true) : PlainIx p := by
  intro o i
  cases p <;> first | rfl | cases h

/-! ### what the evaluator's steps ask -/
theorem te_of {r : S → Out R} {Q : VK} (h : Te C W r σ H Q) : ∃ Y g s, Good C Y g s σ H ∧ Af C W Y g σ (r s) fun x s' g' H' => ∀ v, RF C Y g' s' σ H' v x → Q v H' := h
theorem retD {x : D} {b : Bool} {o : Option D} {Q : VK} (G0 : Good C Y g s σ H) (h : Af C W Y g σ (ofO (o.map fun r => ((.d r, false) : R)) s) fun x s' g' H' => ∀ v, RF C Y g' s' σ H' v x → Q v H') :
    ∃ d, o = some d ∧ ∀ v, Rp C.K g.R v d → Q v H := by
  obtain ⟨a, e, q⟩ := Af.ofO h G0
  cases o with
  | none => cases e
  | some d =>
    cases e
    exact ⟨d, rfl, fun v r => q v (RF.data r)⟩

/-- an argument list: shared values, operands -/
theorem pa_of : ∀ {l : List Pr} {ps : List Expr}, (∀ q ∈ l.zip ps, PE X q.2 (Te C W q.1.2)) → l.length = ps.length → (∀ e ∈ ps, notStar e = true) → PA X ps (Tes C W l)
  | [], [], _, _, _ => pa_nil
  | [], _ :: _, _, h, _ => by simp at h
  | _ :: _, [], _, h, _ => by simp at h
  | q :: l, p :: ps, h, hl, hs => pa_cons (h (q, p) (by simp)) (pa_of (fun r hr => h r (by simp only [List.zip_cons_cons]; exact List.mem_cons_of_mem _ hr)) (by simpa using hl) fun e he => hs e (List.mem_cons_of_mem _ he)) (star_cons (hs p List.mem_cons_self))
theorem pao_of : ∀ {l : List Pr} {ps : List Expr}, (∀ q ∈ l.zip ps, PE X q.2 (To C W q.1)) → l.length = ps.length → (∀ e ∈ ps, notStar e = true) → PA X ps (Tos C W l)
  | [], [], _, _, _ => pa_nil
  | [], _ :: _, _, h, _ => by simp at h
  | _ :: _, [], _, h, _ => by simp at h
  | q :: l, p :: ps, h, hl, hs => pa_cons (h (q, p) (by simp)) (pao_of (fun r hr => h r (by simp only [List.zip_cons_cons]; exact List.mem_cons_of_mem _ hr)) (by simpa using hl) fun e he => hs e (List.mem_cons_of_mem _ he)) (star_cons (hs p List.mem_cons_self))

/-- what is shown of an expression -/
structure Si (C : Ct) (W : WX) (X : Cx) (e : Ex) (r : S → Out R) (p : Expr) : Prop where
  pe : PE X p (Te C W r)
  to : PE X p (To C W (e, r))
  pt : PT X p (Tt C W (e, r))
theorem isPlain {p : Expr} (hK : X.K = C.K) (h : ∀ whole, isTrue p X.env whole = (do let v ← whole; standAt p.pos; holding [v] (PySem.truthy v))) {e : Ex} {r : S → Out R} (to : PE X p (To C W (e, r))) : PT X p (Tt C W (e, r)) := by
  refine PT.weak (pt_truth to h) fun σ H Q hq => ?_
  obtain ⟨Y, g, s, G0, h⟩ := hq
  refine op1_run G0 h fun v x s' g' H' l G' pk q => ?_
  obtain ⟨k, e, q⟩ := Af.ofO q G'
  exact ⟨k, by rw [hK]; exact tru_of e G' pk, q⟩
/-- most forms -/
theorem Si.of {e : Ex} {r : S → Out R} {p : Expr} (hK : X.K = C.K) (pe : PE X p (Te C W r)) (hv : ∀ i, e ≠ .v i) (h : ∀ whole, isTrue p X.env whole = (do let v ← whole; standAt p.pos; holding [v] (PySem.truthy v)) := by intro _; rfl) : Si C W X e r p :=
  have to := pe_to pe fun i z => absurd z (hv i)
  ⟨pe, to, isPlain hK h to⟩

/-! ### each form -/
theorem share_load {i : Nat} {v : V} {d : D} (G0 : Good C Y g s σ H) (e1 : s.env[i]? = some (.ow d)) (e2 : σ[i]? = some (some v)) : ∃ g', GLe g g' ∧ Good C Y g' (s.put i (.va (.d d))) σ H ∧ Rp C.K g'.R v d := by
  obtain ⟨v', ev, o⟩ := G0.slot i _ _ e1 e2
  obtain rfl : v = v' := Option.some.inj ev
  obtain ⟨a, ea, l, o', ho⟩ := o.addr
  obtain ⟨b, eb, rp⟩ := own_rp o G0.sub
  obtain rfl : a = b := V.ref.inj (ea.symm.trans eb)
  subst ea
  have hi : i < s.env.length := (List.getElem?_eq_some_iff.mp e1).1
  have G1 : Good C Y g (s.put i .un) σ H := by
    refine ⟨G0.sub, G0.kp, G0.un, by simpa [S.put] using G0.len, fun j e y h1 h2 => ?_, fun j k b h1 h2 => ?_, G0.dr, G0.ex⟩
    · by_cases hj : i = j
      · subst hj
        simp only [S.put, List.getElem?_set_self hi] at h1
        cases h1
        trivial
      · simp only [S.put, List.getElem?_set_ne hj] at h1
        exact G0.slot j e y h1 h2
    · have f : ∀ {j}, Owns (s.put i .un) σ j b → Owns s σ j b := fun {j} h => by
        obtain ⟨⟨d, h1⟩, h2⟩ := h
        by_cases hj : i = j
        · subst hj
          simp only [S.put, List.getElem?_set_self hi] at h1
          cases h1
        · simp only [S.put, List.getElem?_set_ne hj] at h1
          exact ⟨⟨d, h1⟩, h2⟩
      exact G0.apart j k b (f h1) (f h2)
  have no : ∀ j, ¬ Owns (s.put i .un) σ j a := fun j h => by
    obtain ⟨⟨d', h1⟩, h2⟩ := h
    by_cases hj : i = j
    · subst hj
      simp only [S.put, List.getElem?_set_self hi] at h1
      cases h1
    · simp only [S.put, List.getElem?_set_ne hj] at h1
      exact hj (G0.apart i j a ⟨⟨d, e1⟩, e2⟩ ⟨⟨d', h1⟩, h2⟩)
  have G2 := G1.share (H := H) l no (o.noX rfl)
  refine ⟨g.share H a, share_le l.R, ?_, rp⟩
  refine ⟨G2.sub, G2.kp, G2.un, by simpa [S.put] using G0.len, fun j e y h1 h2 => ?_, fun j k b h1 h2 => ?_, G2.dr, G2.ex⟩
  · by_cases hj : i = j
    · subst hj
      simp only [S.put, List.getElem?_set_self hi] at h1
      cases h1
      rw [e2] at h2
      cases h2
      exact ⟨_, rfl, rp⟩
    · refine G2.slot j e y ?_ h2
      simp only [S.put, List.getElem?_set_ne hj] at h1 ⊢
      exact h1
  · have f : ∀ {j}, Owns (s.put i (.va (.d d))) σ j b → Owns (s.put i .un) σ j b := fun {j} h => by
      obtain ⟨⟨d', h1⟩, h2⟩ := h
      by_cases hj : i = j
      · subst hj
        simp only [S.put, List.getElem?_set_self hi] at h1
        cases h1
      · simp only [S.put, List.getElem?_set_ne hj] at h1 ⊢
        exact ⟨⟨d', by simpa [S.put, List.getElem?_set_ne hj] using h1⟩, h2⟩
    exact G2.apart j k b (f h1) (f h2)
theorem at_env {s : S} {i : Nat} {e : Slot} (h : s.at i = e) (hn : e ≠ .un) : s.env[i]? = some e := by
  unfold S.at at h
  rw [List.getD_eq_getElem?_getD] at h
  cases q : s.env[i]? with
  | none => rw [q] at h; exact absurd h.symm hn
  | some x => rw [q] at h; exact congrArg some h
theorem load_run {i : Nat} {Q : VK} (G0 : Good C Y g s σ H) (h : Af C W Y g σ (load i s) fun x s' g' H' => ∀ v, RF C Y g' s' σ H' v x → Q v H') : tVar i σ H Q := by
  unfold load at h
  cases e : s.at i with
  | un => rw [e] at h; exact h.elim
  | va x =>
    rw [e] at h
    have e1 := at_env e (by simp)
    have hi : i < σ.length := by rw [← G0.len]; exact (List.getElem?_eq_some_iff.mp e1).1
    obtain ⟨v, ev, r⟩ := G0.slot i _ _ e1 (List.getElem?_eq_getElem hi)
    cases x with
    | d x => exact ⟨v, by rw [List.getElem?_eq_getElem hi, ev], Af.ok (s := s) h G0 v (RF.of r)⟩
    | drw => exact ⟨v, by rw [List.getElem?_eq_getElem hi, ev], Af.ok (s := s) h G0 v (RF.of r)⟩
    | fn f => exact ⟨v, by rw [List.getElem?_eq_getElem hi, ev], Af.ok (s := s) h G0 v (RF.of r)⟩
    | clo m cs => exact h.elim
  | ow d =>
    rw [e] at h
    have e1 := at_env e (by simp)
    have hi : i < σ.length := by rw [← G0.len]; exact (List.getElem?_eq_some_iff.mp e1).1
    obtain ⟨v, ev, r⟩ := G0.slot i _ _ e1 (List.getElem?_eq_getElem hi)
    have e2 : σ[i]? = some (some v) := by rw [List.getElem?_eq_getElem hi, ev]
    obtain ⟨g', l, G', rp⟩ := share_load G0 e1 e2
    exact ⟨v, e2, h g' H l G' v (RF.data rp)⟩

theorem sim_v (ok : Ok C c G F n W X) {i : Nat} {x : Str} {pos : Pos} (h : c.vis i x = true) : Si C W X (.v i) (load i) (.Name x pos) := by
  have to : PE X (.Name x pos) (To C W (.v i, load i)) := ok.var h
  exact ⟨PE.weak (ok.var h) fun σ H Q ⟨Y, g, s, G0, q⟩ => load_run G0 q, to, isPlain ok.eK (fun _ => rfl) to⟩
theorem sim_const (ok : Ok C c G F n W X) {e : Ex} {d : D} {v : V} {p : Expr} (hv : ∀ i, e ≠ .v i) (hp : PE X p (tC v)) (r : ∀ R, Rp C.K R v d)
    (h : ∀ whole, isTrue p X.env whole = (do let v ← whole; standAt p.pos; holding [v] (PySem.truthy v)) := by intro _; rfl) : Si C W X e (fun s => .ok (.d d, false) s) p :=
  Si.of ok.eK (PE.weak hp fun σ H Q ⟨Y, g, s, G0, q⟩ => Af.ok (s := s) q G0 v (RF.data (r _))) hv h
theorem sim_c (ok : Ok C c G F n W X) {d : D} {k : Const} {j : Nat} {pos : Pos} (h : dataC d k = true) : Si C W X (.c d) (fun s => .ok (.d d, false) s) (.Constant k j pos) := by
  cases d <;> cases k <;> simp [dataC] at h <;> first
    | exact sim_const ok (fun _ z => nomatch z) pe_non fun _ => .non
    | (subst h; first
      | exact sim_const ok (fun _ z => nomatch z) pe_bl fun _ => .bl _
      | exact sim_const ok (fun _ z => nomatch z) pe_int fun _ => .int _
      | exact sim_const ok (fun _ z => nomatch z) pe_str fun _ => .str _)
theorem sim_g (ok : Ok C c G F n W X) {i : Nat} {x : Str} {pos : Pos} (h : c.M.gns[i]? = some x) (hg : c.gl x = true) : Si C W X (.g i) (fun s => ofO ((G[i]?).map fun d => (.d d, false)) s) (.Name x pos) := by
  obtain ⟨g1, g2, g3⟩ := ok.hgl hg
  refine Si.of ok.eK ?_ fun _ z => nomatch z
  cases e : G[i]? with
  | none => exact ⟨fun pins s σ H Q I ⟨Y, g, s0, G0, q⟩ => q.elim⟩
  | some d =>
    obtain ⟨v, u, h1, h2, h3⟩ := ok.gc i x d h e
    exact PE.weak (pe_glob g1 h1 h2 g2) fun σ H Q ⟨Y, g, s, G0, q⟩ => Af.ok (s := s) q G0 v (RF.data (h3.le fun a o z => by cases z))
theorem sim_fn (ok : Ok C c G F n W X) {i : Nat} {x : Str} {ps : List Str} {pos : Pos} (h : c.M.fns[i]? = some (x, ps)) (hg : c.gl x = true) : Si C W X (.fn i) (fun s => .ok (.fn i, false) s) (.Name x pos) := by
  obtain ⟨g1, g2, g3⟩ := ok.hgl hg
  obtain ⟨a, fd, h1, h2, _⟩ := ok.calls.fn i x ps h
  exact Si.of ok.eK (PE.weak (pe_glob (v := .ref a) g1 h2 rfl g2) fun σ H Q ⟨Y, g, s, G0, q⟩ => Af.ok (s := s) q G0 (.ref a) (RF.of ⟨a, h1, rfl⟩)) fun _ z => nomatch z

theorem af_map {A B : Type} {o : Option A} {f : A → B} {k : B → S → Gh → Hp → Prop} (h : Af C W Y g σ (ofO (o.map f) s) k) : ∃ a, o = some a ∧ ∀ g2 H2, GLe g g2 → Good C Y g2 s σ H2 → k (f a) s g2 H2 := by
  cases o with
  | none => exact h.elim
  | some a => exact ⟨a, rfl, h⟩
theorem af_opt {A : Type} {o : Option A} {k : A → S → Gh → Hp → Prop} (h : Af C W Y g σ (ofO o s) k) : ∃ a, o = some a ∧ ∀ g2 H2, GLe g g2 → Good C Y g2 s σ H2 → k a s g2 H2 := by
  cases o with
  | none => exact h.elim
  | some a => exact ⟨a, rfl, h⟩
variable {a b d : Ex} {pa pb pc : Expr} {pos : Pos} {ra rb rd : S → Out R}
theorem sim_bin (ok : Ok C c G F n W X) {o : Bop} (ha : Si C W X a ra pa) (hb : Si C W X b rb pb) :
    Si C W X (.bin o a b) (fun s => op2 (a, ra) (b, rb) s fun x y s => ofO ((binop o x y).map fun r => (.d r.1, r.2)) s) (.BinOp pa (bo o) pb pos) := by
  refine Si.of ok.eK (PE.weak (pe_op (op_bin o) ha.to hb.to) fun σ H Q ⟨Y, g, s, G0, q⟩ => ?_) fun _ z => nomatch z
  refine op2_run G0 q fun v u x y s' g' H' l G' pv pu q => ?_
  obtain ⟨r, e, q⟩ := af_map q
  rw [ok.eK]
  exact bin_ok e G' pv pu fun w g2 H2 l2 G2 rf => q g2 H2 l2 G2 w rf
theorem sim_neg (ok : Ok C c G F n W X) (ha : Si C W X a ra pa) :
    Si C W X (.neg a) (fun s => op1 (a, ra) s fun x s => match x with | .int i => .ok (.d (.int (-i)), false) s | _ => .bad) (.UnaryOp .USub pa pos) := by
  refine Si.of ok.eK (PE.weak (pe_un un_neg ha.to) fun σ H Q ⟨Y, g, s, G0, q⟩ => ?_) fun _ z => nomatch z
  refine op1_run G0 q fun v x s' g' H' l G' pv q => ?_
  cases x <;> first | exact q.elim | skip
  exact ⟨_, pv.int, Af.ok (s := s') q G' _ (RF.data (.int _))⟩
theorem bind_assoc {A B D' : Type} (o : Out A) (f : A → S → Out B) (h : B → S → Out D') : (o.bind f).bind h = o.bind fun a s => (f a s).bind h := by cases o <;> rfl
theorem tst_eq {e : Ex} {r : S → Out R} (hv : ∀ i, e ≠ .v i) (s : S) : tst (e, r) s = (r s).bind fun x s => truD x s fun _ b s => .ok b s := by
  have h : ops [(e, r)] s = (r s).bind fun x s' => .ok [x.1] s' := by
    cases e <;> first | rfl | exact absurd rfl (hv _)
  unfold tst op1
  rw [h, bind_assoc]
  congr 1
  funext x s
  obtain ⟨x, b⟩ := x
  unfold truD
  cases x with
  | d d => simp only [Out.bind]; cases truthy d <;> rfl
  | drw => rfl
  | fn f => rfl
  | clo m cs => rfl
theorem truD_bind {A B : Type} (x : R) (s : S) (f : D → Bool → S → Out A) (h : A → S → Out B) : (truD x s f).bind h = truD x s fun d b s => (f d b s).bind h := by
  unfold truD
  obtain ⟨x, b⟩ := x
  cases x with
  | d d => exact bind_assoc _ _ _
  | drw => rfl
  | fn f => rfl
  | clo m cs => rfl
theorem op2_bind {A B : Type} (p q : Pr) (s : S) (f : D → D → S → Out A) (h : A → S → Out B) : (op2 p q s f).bind h = op2 p q s fun x y s => (f x y s).bind h := by
  unfold op2
  rw [bind_assoc]
  congr 1
  funext l s
  rcases l with _ | ⟨x, _ | ⟨y, _ | ⟨z, t⟩⟩⟩ <;> (try cases x) <;> (try cases y) <;> rfl
theorem sim_cmp (ok : Ok C c G F n W X) {o : Cop} (ha : Si C W X a ra pa) (hb : Si C W X b rb pb) (hset : behindInMarks (co o) pb = false) :
    Si C W X (.cmp o a b) (fun s => op2 (a, ra) (b, rb) s fun x y s => ofO ((cmpop o x y).map fun r => (.d (.bool r), false)) s) (.Compare pa [co o] [pb] pos) := by
  have hu : X.A.units + 65 < cLine := by have := ok.room.un; omega
  have pe : PE X (.Compare pa [co o] [pb] pos) (Te C W fun s => op2 (a, ra) (b, rb) s fun x y s => ofO ((cmpop o x y).map fun r => (.d (.bool r), false)) s) := by
    refine PE.weak (pe_cmpR (op_cmp hu o) ha.to hb.to hset) fun σ H Q ⟨Y, g, s, G0, q⟩ => ?_
    refine op2_run G0 q fun v u x y s' g' H' l G' pv pu q => ?_
    obtain ⟨k, e, q⟩ := af_map q
    rw [ok.eK]
    exact cmp_ok e G' pv pu (q g' H' (GLe.refl _) G' _ (RF.data (.bl _)))
  refine ⟨pe, pe_to pe (fun _ z => nomatch z), ?_⟩
  refine PT.weak (pt_cmpR (op_cmp hu o) ha.to hb.to hset) fun σ H Q ⟨Y, g, s, G0, q⟩ => ?_
  rw [tst_eq (e := .cmp o a b) (fun _ z => nomatch z), op2_bind] at q
  refine op2_run G0 q fun v u x y s' g' H' l G' pv pu q => ?_
  cases e : cmpop o x y with
  | none => rw [e] at q; exact q.elim
  | some k =>
    rw [e] at q
    rw [ok.eK]
    exact cmp_ok e G' pv pu ⟨k, rfl, Af.ok (s := s') q G'⟩

theorem sim_no (ok : Ok C c G F n W X) (ha : Si C W X a ra pa) : Si C W X (.no a) (fun s => (tst (a, ra) s).bind fun b s => .ok (.d (.bool (!b)), false) s) (.UnaryOp .Not pa pos) := by
  have pt : PT X (.UnaryOp .Not pa pos) (tNot (Tt C W (a, ra))) := pt_not ha.pt
  -- as a value: by truth of the operand
  have pe : PE X (.UnaryOp .Not pa pos) (Te C W fun s => (tst (a, ra) s).bind fun b s => .ok (.d (.bool (!b)), false) s) := by
    refine PE.weak (pe_notT ha.to) fun σ H Q ⟨Y, g, s, G0, q⟩ => ?_
    have e : (tst (a, ra) s).bind (fun b s => .ok ((.d (.bool (!b)), false) : R) s) = op1 (a, ra) s fun x s => (ofO (truthy x) s).bind fun b s => .ok ((.d (.bool (!b)), false) : R) s := by
      unfold tst op1
      rw [bind_assoc]
      congr 1
      funext l s
      rcases l with _ | ⟨x, _ | ⟨y, t⟩⟩ <;> (try cases x) <;> rfl
    dsimp only at q
    rw [e] at q
    refine op1_run G0 q fun v x s' g' H' l G' pv q => ?_
    cases e : truthy x with
    | none => rw [e] at q; exact q.elim
    | some k =>
      rw [e] at q
      exact ⟨k, by rw [ok.eK]; exact tru_of e G' pv, Af.ok (s := s') q G' _ (RF.data (.bl _))⟩
  refine ⟨pe, pe_to pe (fun _ z => nomatch z), PT.weak pt fun σ H Q ⟨Y, g, s, G0, q⟩ => ?_⟩
  rw [tst_eq (e := .no a) (fun _ z => nomatch z), bind_assoc] at q
  exact ⟨Y, g, s, G0, q.bind.mono fun b s' g' H' l G' q => Af.ok (s := s') q G'⟩

/-! ### and, or -/
/-- the test of an operand whose value is shared -/
theorem tt_of {A : Type} {e : Ex} {r : S → Out R} {f : D → Bool → S → Out A} {k : A → S → Gh → Hp → Prop} {Q : Bool → Hp → Prop} (hl : ∀ i, e = .v i → r = load i) (G0 : Good C Y g s σ H)
    (q : Af C W Y g σ ((r s).bind fun x s => truD x s f) k)
    (hQ : ∀ d b s' g' H', truthy d = some b → GLe g g' → Good C Y g' s' σ H' → Af C W Y g' σ (f d b s') k → Q b H') : Tt C W (e, r) σ H Q := by
  by_cases hv : ∃ i, e = .v i
  · obtain ⟨i, rfl⟩ := hv
    rw [hl i rfl] at q ⊢
    refine ⟨Y, g, s, G0, ?_⟩
    have key : ∀ (x : SV), look i s = some x → tst (.v i, load i) s = match x with | .d d => ofO (truthy d) s | _ => .bad := fun x e => by
      unfold tst op1 ops ops
      simp only [e, Out.bind]
      cases x <;> rfl
    cases e : s.at i with
    | un => unfold load at q; rw [e] at q; exact q.elim
    | va x =>
      unfold load at q
      rw [e] at q
      cases x with
      | d d =>
        have e2 : look i s = some (.d d) := by unfold look; rw [e]
        rw [key _ e2]
        simp only [Out.bind, truD] at q ⊢
        cases t : truthy d with
        | none => rw [t] at q; exact q.elim
        | some b =>
          rw [t] at q
          exact fun g' H' l G' => hQ d b s g' H' t l G' (Af.le (show Af C W Y g σ (f d b s) k from q) l)
      | drw => exact q.elim
      | fn f => exact q.elim
      | clo m cs => exact q.elim
    | ow d =>
      have e2 : look i s = some (.d d) := by unfold look; rw [e]
      rw [key _ e2]
      unfold load at q
      rw [e] at q
      simp only [Out.bind, truD] at q ⊢
      cases t : truthy d with
      | none => rw [t] at q; exact q.elim
      | some b =>
        rw [t] at q
        intro g' H' l G'
        have e1 := at_env e (by simp)
        have hi : i < σ.length := by rw [← G0.len]; exact (List.getElem?_eq_some_iff.mp e1).1
        obtain ⟨v, ev, _⟩ := G'.slot i _ _ e1 (List.getElem?_eq_getElem hi)
        obtain ⟨g2, l2, G2, _⟩ := share_load (v := v) G' e1 (by rw [List.getElem?_eq_getElem hi, ev])
        exact hQ d b _ g2 H' t (l.trans l2) G2 (Af.le (show Af C W Y g σ (f d b (s.put i (.va (.d d)))) k from q) (l.trans l2))
  · refine ⟨Y, g, s, G0, ?_⟩
    rw [tst_eq fun i z => hv ⟨i, z⟩]
    cases e2 : r s with
    | bad => rw [e2] at q; exact q.elim
    | exc x s1 => rw [e2] at q; exact q
    | ok x s1 =>
      rw [e2] at q
      obtain ⟨x, fr⟩ := x
      simp only [Out.bind, truD] at q ⊢
      cases x with
      | drw => exact q.elim
      | fn f => exact q.elim
      | clo m cs => exact q.elim
      | d d =>
        simp only at q ⊢
        cases t : truthy d with
        | none => rw [t] at q; exact q.elim
        | some b =>
          rw [t] at q
          exact fun g' H' l G' => hQ d b s1 g' H' t l G' (Af.le (show Af C W Y g σ (f d b s1) k from q) l)
/-- .. as a value -/
theorem te_tru {A : Type} {r : S → Out R} {f : D → Bool → S → Out A} {k : A → S → Gh → Hp → Prop} {Q : VK} (G0 : Good C Y g s σ H)
    (q : Af C W Y g σ ((r s).bind fun x s => truD x s f) k)
    (hQ : ∀ v d b s' g' H', GLe g g' → Good C Y g' s' σ H' → Rp C.K g'.R v d → TruV C.K v H' b → Af C W Y g' σ (f d b s') k → Q v H') : Te C W r σ H Q := by
  refine Te.shared G0 (q.bind.mono fun x s' g' H' l G' q g2 v l2 G2 rv => ?_)
  obtain ⟨x, fr⟩ := x
  unfold truD at q
  cases x with
  | drw => exact q.elim
  | fn f => exact q.elim
  | clo m cs => exact q.elim
  | d d =>
    simp only at q
    cases t : truthy d with
    | none => rw [t] at q; exact q.elim
    | some b =>
      rw [t] at q
      exact hQ v d b s' g2 H' (l.trans l2) G2 rv (tru_of t G2 (.inl rv)) (Af.le (show Af C W Y g' σ (f d b s') k from q) l2)
theorem tt_end {e : Ex} {r : S → Out R} {Q : Bool → Hp → Prop} (hl : ∀ i, e = .v i → r = load i) (G0 : Good C Y g s σ H)
    (q : Af C W Y g σ ((r s).bind fun x s => truD x s fun _ b s => .ok b s) fun b _ _ H' => Q b H') : Tt C W (e, r) σ H Q :=
  tt_of hl G0 q fun d k s2 g2 H2 _ l2 G2 q2 => Af.ok (s := s2) q2 G2

theorem PW.weak {e : Expr} {t t' : TT} (h : PW X e t) (hw : ∀ σ H Q, t' σ H Q → t σ H Q) : PW X e t' := ⟨fun wh pins s σ H Q I q => h.run wh pins s σ H Q I (hw σ H Q q)⟩
/-- and, or: a first one and the rest -/
theorem sim_andW (ok : Ok C c G F n W X) {ps : List Expr} (hl : ∀ i, a = .v i → ra = load i) (hlb : ∀ i, b = .v i → rb = load i) (ha : Si C W X a ra pa) (hbt : PW X (.BoolOp .And (pb :: ps) pos) (Tt C W (b, rb))) :
    PW X (.BoolOp .And (pa :: pb :: ps) pos) (Tt C W (.and a b, fun s => (ra s).bind fun x s => truD x s fun d k s => if k then rb s else .ok (.d d, false) s)) := by
  refine PW.weak (pw_and ha.pt hbt) fun σ H Q ⟨Y, g, s, G0, q⟩ => ?_
  rw [tst_eq (e := .and a b) (fun _ z => nomatch z), bind_assoc] at q
  simp only [truD_bind] at q
  refine tt_of hl G0 q fun d k s' g' H' t l G' q => ?_
  cases k with
  | true => exact tt_end hlb G' q
  | false =>
    have q' : Af C W Y g' σ (truD ((.d d, false) : R) s' fun _ b s => .ok b s) fun b _ _ H' => Q b H' := q
    unfold truD at q'
    simp only [t] at q'
    exact Af.ok (s := s') q' G'
theorem sim_orW (ok : Ok C c G F n W X) {ps : List Expr} (hl : ∀ i, a = .v i → ra = load i) (hlb : ∀ i, b = .v i → rb = load i) (ha : Si C W X a ra pa) (hbt : PW X (.BoolOp .Or (pb :: ps) pos) (Tt C W (b, rb))) :
    PW X (.BoolOp .Or (pa :: pb :: ps) pos) (Tt C W (.or a b, fun s => (ra s).bind fun x s => truD x s fun d k s => if k then .ok (.d d, false) s else rb s)) := by
  refine PW.weak (pw_or ha.pt hbt) fun σ H Q ⟨Y, g, s, G0, q⟩ => ?_
  rw [tst_eq (e := .or a b) (fun _ z => nomatch z), bind_assoc] at q
  simp only [truD_bind] at q
  refine tt_of hl G0 q fun d k s' g' H' t l G' q => ?_
  cases k with
  | false => exact tt_end hlb G' q
  | true =>
    have q' : Af C W Y g' σ (truD ((.d d, false) : R) s' fun _ b s => .ok b s) fun b _ _ H' => Q b H' := q
    unfold truD at q'
    simp only [t] at q'
    exact Af.ok (s := s') q' G'
theorem sim_and (ok : Ok C c G F n W X) {ps : List Expr} (hl : ∀ i, a = .v i → ra = load i) (hlb : ∀ i, b = .v i → rb = load i) (ha : Si C W X a ra pa)
    (hb : PE X (.BoolOp .And (pb :: ps) pos) (Te C W rb)) (hbt : PW X (.BoolOp .And (pb :: ps) pos) (Tt C W (b, rb))) :
    Si C W X (.and a b) (fun s => (ra s).bind fun x s => truD x s fun d k s => if k then rb s else .ok (.d d, false) s) (.BoolOp .And (pa :: pb :: ps) pos) := by
  have pe : PE X (.BoolOp .And (pa :: pb :: ps) pos) (Te C W fun s => (ra s).bind fun x s => truD x s fun d k s => if k then rb s else .ok (.d d, false) s) := by
    refine PE.weak (pe_andT ha.pe hb) fun σ H Q ⟨Y, g, s, G0, q⟩ => ?_
    refine te_tru G0 q fun v d k s' g' H' l G' rp tv q => ?_
    refine ⟨k, by rw [ok.eK]; exact tv, ?_⟩
    cases k with
    | true => exact ⟨Y, g', s', G', q⟩
    | false => exact Af.ok (s := s') q G' v (RF.data rp)
  exact ⟨pe, pe_to pe (fun _ z => nomatch z), (sim_andW ok hl hlb ha hbt).pt⟩
theorem sim_or (ok : Ok C c G F n W X) {ps : List Expr} (hl : ∀ i, a = .v i → ra = load i) (hlb : ∀ i, b = .v i → rb = load i) (ha : Si C W X a ra pa)
    (hb : PE X (.BoolOp .Or (pb :: ps) pos) (Te C W rb)) (hbt : PW X (.BoolOp .Or (pb :: ps) pos) (Tt C W (b, rb))) :
    Si C W X (.or a b) (fun s => (ra s).bind fun x s => truD x s fun d k s => if k then .ok (.d d, false) s else rb s) (.BoolOp .Or (pa :: pb :: ps) pos) := by
  have pe : PE X (.BoolOp .Or (pa :: pb :: ps) pos) (Te C W fun s => (ra s).bind fun x s => truD x s fun d k s => if k then .ok (.d d, false) s else rb s) := by
    refine PE.weak (pe_orT ha.pe hb) fun σ H Q ⟨Y, g, s, G0, q⟩ => ?_
    refine te_tru G0 q fun v d k s' g' H' l G' rp tv q => ?_
    refine ⟨k, by rw [ok.eK]; exact tv, ?_⟩
    cases k with
    | false => exact ⟨Y, g', s', G', q⟩
    | true => exact Af.ok (s := s') q G' v (RF.data rp)
  exact ⟨pe, pe_to pe (fun _ z => nomatch z), (sim_orW ok hl hlb ha hbt).pt⟩
end
end Pv
set_option maxHeartbeats 200000
set_option maxHeartbeats 4000000
/-! Pv: further forms. -/
namespace Pv
open PySem PySem.Spec PyProof.Rows L2
section
variable {C : Ct} {c : Cc} {G : List D} {F : CallF} {n : Nat} {W : WX} {X : Cx} {Y : Fx} {g g' : Gh} {s s' : S} {σ : L2.St} {H H' : Hp} {v u w : V} {p : Addr}
variable {a b d t : Ex} {pa pb pc pt : Expr} {pos : Pos} {ra rb rd rt : S → Out R}

theorem sim_chain (ok : Ok C c G F n W X) {o o' : Cop} (ha : Si C W X a ra pa) (hb : Si C W X b rb pb) (hd : Si C W X d rd pc) (hm : lastMarks [co o, co o'] [pb, pc] = false) :
    Si C W X (.chain o o' a b d) (fun s => op2 (a, ra) (b, rb) s fun x y s => match y with
      | .int j => (ofO (cmpop o x (.int j)) s).bind fun k s => if k then op1 (d, rd) s fun z s => ofO ((cmpop o' (.int j) z).map fun r => (.d (.bool r), false)) s else .ok (.d (.bool false), false) s
      | _ => .bad) (.Compare pa [co o, co o'] [pb, pc] pos) := by
  have hu : X.A.units + 65 < cLine := by have := ok.room.un; omega
  have run : ∀ {A : Type} {f : Bool → S → Out A} {k : A → S → Gh → Hp → Prop} {s : S} {g : Gh} {Y : Fx} {σ : L2.St} {H : Hp} {Q : VK}, Good C Y g s σ H →
      Af C W Y g σ (op2 (a, ra) (b, rb) s fun x y s => match y with
        | .int j => (ofO (cmpop o x (.int j)) s).bind fun k s => if k then op1 (d, rd) s fun z s => (ofO (cmpop o' (.int j) z) s).bind f else f false s
        | _ => .bad) k → (∀ q s' g' H', GLe g g' → Good C Y g' s' σ H' → Af C W Y g' σ (f q s') k → Q (.bl q) H') →
      tChain (rC X.K o) (rC X.K o') (To C W (a, ra)) (To C W (b, rb)) (To C W (d, rd)) σ H Q := fun {A f k s g Y σ H Q} G0 q hQ => by
    refine op2_run G0 q fun v u x y s' g' H' l G' pv pu q => ?_
    cases y <;> first | exact q.elim | skip
    rename_i j
    simp only at q
    cases e : cmpop o x (.int j) with
    | none => rw [e] at q; exact q.elim
    | some z =>
      rw [e] at q
      simp only [Out.bind, ofO] at q
      rw [ok.eK]
      refine cmp_ok e G' pv pu ⟨z, rfl, ?_⟩
      cases z with
      | false =>
        rw [if_neg Bool.false_ne_true] at q ⊢
        exact hQ false s' g' H' l G' q
      | true =>
        rw [if_pos rfl] at q ⊢
        refine op1_run G' q fun w z s2 g2 H2 l2 G2 pw q => ?_
        cases e2 : cmpop o' (.int j) z with
        | none => rw [e2] at q; exact q.elim
        | some z2 =>
          rw [e2] at q
          have pu2 : Pk C Y g2 H2 u (.d (.int j)) := .inl (by rw [pu.int]; exact .int j)
          exact cmp_ok e2 G2 pu2 pw (hQ z2 s2 g2 H2 (l.trans l2) G2 q)
  have pe : PE X (.Compare pa [co o, co o'] [pb, pc] pos) (Te C W fun s => op2 (a, ra) (b, rb) s fun x y s => match y with
      | .int j => (ofO (cmpop o x (.int j)) s).bind fun k s => if k then op1 (d, rd) s fun z s => ofO ((cmpop o' (.int j) z).map fun r => (.d (.bool r), false)) s else .ok (.d (.bool false), false) s
      | _ => .bad) := by
    refine PE.weak (pe_chain (op_cmp hu o) (op_cmp hu o') ha.to hb.to hd.to hm) fun σ H Q ⟨Y, g, s, G0, q⟩ => ?_
    have e : ∀ (z : Option Bool) (s : S), ofO (z.map fun r => ((.d (.bool r), false) : R)) s = (ofO z s).bind fun r s => .ok (.d (.bool r), false) s := fun z s => by cases z <;> rfl
    simp only [e] at q
    exact run (f := fun r s => .ok ((.d (.bool r), false) : R) s) G0 q fun z s' g' H' l G' q => Af.ok (s := s') q G' _ (RF.data (.bl _))
  refine ⟨pe, pe_to pe (fun _ z => nomatch z), ?_⟩
  refine PT.weak (pt_chain (op_cmp hu o) (op_cmp hu o') ha.to hb.to hd.to hm) fun σ H Q ⟨Y, g, s, G0, q⟩ => ?_
  rw [tst_eq (e := .chain o o' a b d) (fun _ z => nomatch z), op2_bind] at q
  refine run (f := fun r s => .ok r s) (k := fun b _ _ H' => Q b H') G0 ?_ fun z s' g' H' l G' q => ⟨z, rfl, Af.ok (s := s') q G'⟩
  have e3 : ∀ (x y : D) (s : S), (match y with
      | .int j => (ofO (cmpop o x (.int j)) s).bind fun k s => if k then op1 (d, rd) s fun z s => ofO ((cmpop o' (.int j) z).map fun r => ((.d (.bool r), false) : R)) s else .ok (.d (.bool false), false) s
      | _ => .bad : Out R).bind (fun x s => truD x s fun _ b s => .ok b s) = match y with
      | .int j => (ofO (cmpop o x (.int j)) s).bind fun k s => if k then op1 (d, rd) s fun z s => (ofO (cmpop o' (.int j) z) s).bind fun r s => .ok r s else .ok false s
      | _ => .bad := fun x y s => by
    cases y <;> first | rfl | skip
    rename_i j
    simp only
    cases cmpop o x (.int j) with
    | none => rfl
    | some z =>
      cases z with
      | false => rfl
      | true =>
        simp only [ofO, Out.bind, if_true]
        unfold op1
        cases ops [(d, rd)] s with
        | bad => rfl
        | exc x s => rfl
        | ok l s =>
          rcases l with _ | ⟨x, _ | ⟨y, t⟩⟩ <;> (try cases x) <;> first | rfl | skip
          rename_i z
          show ((ofO ((cmpop o' (.int j) z).map fun r => ((.d (.bool r), false) : R)) s).bind fun x s => truD x s fun _ b s => .ok b s) = (ofO (cmpop o' (.int j) z) s).bind fun r s => .ok r s
          cases cmpop o' (.int j) z <;> rfl
  simp only [e3] at q
  exact q

theorem sim_ite (ok : Ok C c G F n W X) (ht : Si C W X t rt pt) (ha : Si C W X a ra pa) (hb : Si C W X b rb pb) (hla : ∀ i, a = .v i → ra = load i) (hlb : ∀ i, b = .v i → rb = load i) :
    Si C W X (.ite t a b) (fun s => (tst (t, rt) s).bind fun k s => if k then ra s else rb s) (.IfExp pt pa pb pos) := by
  have pe : PE X (.IfExp pt pa pb pos) (Te C W fun s => (tst (t, rt) s).bind fun k s => if k then ra s else rb s) := by
    refine PE.weak (pe_ifExp ht.pt ha.pe hb.pe) fun σ H Q ⟨Y, g, s, G0, q⟩ => ?_
    refine ⟨Y, g, s, G0, q.bind.mono fun k s' g' H' l G' q => ?_⟩
    cases k with
    | true => exact ⟨Y, g', s', G', q⟩
    | false => exact ⟨Y, g', s', G', q⟩
  refine ⟨pe, pe_to pe (fun _ z => nomatch z), ⟨fun pins s σ H Q I hq => ?_⟩⟩
  obtain ⟨Y, g, s0, G0, q⟩ := hq
  rw [tst_eq (e := .ite t a b) (fun _ z => nomatch z), bind_assoc] at q
  show wpAny _ _ (do if ← isTrue pt X.env (eval pt X.env) then isTrue pa X.env (eval pa X.env) else isTrue pb X.env (eval pb X.env)) _ _ _
  have h : Tt C W (t, rt) σ H fun k H1 => if k = true then Tt C W (a, ra) σ H1 Q else Tt C W (b, rb) σ H1 Q := by
    refine ⟨Y, g, s0, G0, q.bind.mono fun k s' g' H' l G' q => ?_⟩
    cases k with
    | true => exact tt_end hla G' q
    | false => exact tt_end hlb G' q
  refine wpAny_bind (thn (ht.pt.run pins s σ H _ I h) fun k s1 ⟨H1, I1, q1⟩ => ?_)
  cases k with
  | true => exact ha.pt.run pins s1 σ H1 Q I1 q1
  | false => exact hb.pt.run pins s1 σ H1 Q I1 q1

/-! ### displays -/
theorem tes_data {l : List Pr} {f : List D → Option (D × Bool)} {k : R → S → Gh → Hp → Prop} {Q : List V → Hp → Prop} (G0 : Good C Y g s σ H)
    (q : Af C W Y g σ ((evs l s).bind fun vs s => ofO ((dsOf vs).bind fun ds => (f ds).map fun r => ((.d r.1, r.2) : R)) s) k)
    (hQ : ∀ vs ds r s' g' H', GLe g g' → Good C Y g' s' σ H' → RpA C.K g'.R vs ds → f ds = some r → (∀ g2 H2, GLe g' g2 → Good C Y g2 s' σ H2 → k (.d r.1, r.2) s' g2 H2) → Q vs H') : Tes C W l σ H Q := by
  refine evs_run l G0 q.bind fun vs xs s' g' H' l G' q rv => ?_
  cases e : dsOf xs with
  | none => rw [e] at q; exact q.elim
  | some ds =>
    rw [e] at q
    simp only [Option.bind_some] at q
    obtain ⟨r, e2, q⟩ := af_map q
    exact hQ vs ds r s' g' H' l G' (rv.data e) e2 q
theorem sim_tup (ok : Ok C c G F n W X) {l : List Pr} {es : List Ex} {ps : List Expr} {j : Nat} (hp : PA X ps (Tes C W l)) :
    Si C W X (.tup es) (fun s => (evs l s).bind fun vs s => ofO ((dsOf vs).bind fun ds => (tupD ds).map fun r => (.d r.1, r.2)) s) (.Tuple ps j pos) := by
  refine Si.of ok.eK (PE.weak (pe_tup hp) fun σ H Q ⟨Y, g, s, G0, q⟩ => ?_) fun _ z => nomatch z
  refine tes_data G0 q fun vs ds r s' g' H' l G' rp e q => ?_
  unfold tupD at e
  split at e <;> first | (cases e; done) | skip
  rename_i hz
  cases e
  refine ⟨by rw [rp.length]; exact hz, fun p hp => ?_⟩
  obtain ⟨g2, l2, G2, r2⟩ := new_tup G' rp hp
  exact q g2 _ l2 G2 _ (RF.of r2)
theorem sim_lst (ok : Ok C c G F n W X) {l : List Pr} {es : List Ex} {ps : List Expr} (hp : PA X ps (Tes C W l)) :
    Si C W X (.lst es) (fun s => (evs l s).bind fun vs s => ofO ((dsOf vs).bind fun ds => (lstD ds).map fun r => (.d r.1, r.2)) s) (.List ps pos) := by
  refine Si.of ok.eK (PE.weak (pe_lst hp) fun σ H Q ⟨Y, g, s, G0, q⟩ => ?_) fun _ z => nomatch z
  refine tes_data G0 q fun vs ds r s' g' H' l G' rp e q => ?_
  unfold lstD at e
  split at e <;> first | (cases e; done) | skip
  rename_i hz
  cases e
  refine ⟨by rw [rp.length]; exact hz, fun p hp => ?_⟩
  obtain ⟨G2, r2⟩ := new_lst G' rp hp
  exact q g' _ (GLe.refl _) G2 _ r2

/-! ### built-ins -/
theorem boot_bi : ∀ o : Bi, bootBuiltins (biN o) = some (biV o) := by intro o; cases o <;> decide +kernel
theorem bi_named (o : Bi) : biN o ∈ bnames := by cases o <;> decide +kernel
theorem sim_bi (ok : Ok C c G F n W X) {o : Bi} {l : List Pr} {es : List Ex} {ps : List Expr} {pp : Pos} (hp : PA X (pa :: ps) (Tos C W l)) (hg : c.gl (biN o) = true) (hs : ∀ e ∈ pa :: ps, notStar e = true) :
    Si C W X (.bi o es) (fun s => (ops l s).bind fun vs s => ofO ((dsOf vs).bind fun ds => (builtin o ds).map fun r => (.d r.1, r.2)) s) (.Call (.Name (biN o) pp) (pa :: ps) [] pos) := by
  obtain ⟨g1, g2, g3⟩ := ok.hgl hg
  have hu : X.A.units + 64 < cLine := by have := ok.room.un; omega
  have hm : X.mg (biN o) = none := ok.bn _ (bi_named o)
  have s1 := star_cons (es := ps) (env := X.env) (hs pa List.mem_cons_self)
  have s2 : (backTo pos (starEach ps X.env)).any (·.1) = false := star_any fun e he => hs e (List.mem_cons_of_mem _ he)
  have pe : PE X (.Call (.Name (biN o) pp) (pa :: ps) [] pos) (tCB (rBi X.K o) (Tos C W l)) := by
    have hc := call_bi ok.calm ok.gd hu o
    have hb := boot_bi o
    cases o <;> first
      | exact pe_callB hc g1 hm hb hp g3 g2 s1 s2
      | exact pe_callTy hc g1 hm hb hp g3 g2 s1 s2
  refine Si.of ok.eK (PE.weak pe fun σ H Q ⟨Y, g, s, G0, q⟩ => ?_) fun _ z => nomatch z
  refine ops_run l G0 q.bind fun vs xs s' g' H' l G' q pk => ?_
  cases e : dsOf xs with
  | none => rw [e] at q; exact q.elim
  | some ds =>
    rw [e] at q
    simp only [Option.bind_some] at q
    obtain ⟨r, e2, q⟩ := af_map q
    rw [dsOf_map e] at pk
    rw [ok.eK]
    exact bi_ok e2 G' pk fun w g2 H2 l2 G2 rf => q g2 H2 l2 G2 w rf

/-! ### isinstance -/
def tyD : D → String
  | .none => "NoneType" | .bool _ => "bool" | .int _ => "int" | .str _ => "str" | .list _ => "list" | .tuple _ => "tuple" | .dict _ => "dict"
theorem kit_d (x : D) (t : Ty) (ht : ∀ i, t ≠ .err i) : kitB (tyD x) (tyN t) = some (isTy x t) := by
  cases x <;> cases t <;> first | exact absurd rfl (ht _) | (simp only [tyD, tyN, isTy]; decide +kernel)
theorem tyx_of {x : D} (h : Pk C Y g H v (.d x)) (l : Le g.R H) : TyX C.K H v (.type (tyD x)) := by
  cases x with
  | none => rw [h.none]; exact .base .non
  | bool b => rw [h.bool]; exact .base (.bl b)
  | int i => rw [h.int]; exact .base (.int i)
  | str y => rw [h.str]; exact .base (.str y)
  | list ds =>
    obtain ⟨a, xs, rfl, (h1 | ⟨o, h1⟩) | ⟨its, n, h1, _⟩, _⟩ := h.list l
    · exact .base (.lst h1)
    · exact .base (.frz h1)
    · exact .kList h1 rfl
  | tuple ds =>
    obtain ⟨a, xs, rfl, (h1 | ⟨o, h1⟩) | ⟨o, its, n, h1, h2, _⟩, _⟩ := h.tuple l
    · exact .base (.tup h1)
    · exact .fTuple h1
    · exact .kTuple h1 h2
  | dict ds =>
    rcases h with h | ⟨d, e, h⟩
    · cases h with
      | dct h q =>
        rcases Rd.le (show plain (.dK _) from trivial) h l with h1 | ⟨o, h1⟩
        · exact .base (.dK h1)
        · exact .fDict h1
    · cases e
      obtain ⟨a, kvs, rfl, h1, _⟩ := h
      exact .base (.dK h1)
theorem boot_ty (t : Ty) (ht : ∀ i, t ≠ .err i) : bootBuiltins (Str.ofString (tyN t)) = some (.type (tyN t)) := by
  cases t <;> first | exact absurd rfl (ht _) | decide +kernel
theorem ty_named (t : Ty) (ht : ∀ i, t ≠ .err i) : Str.ofString (tyN t) ∈ bnames := by
  cases t <;> first | exact absurd rfl (ht _) | decide +kernel
theorem sim_isi (ok : Ok C c G F n W X) {t : Ty} {pp p2 : Pos} (ht : ∀ i, t ≠ .err i) (ha : Si C W X a ra pa) (hg : c.gl "isinstance" = true) (hg2 : c.gl (Str.ofString (tyN t)) = true) (hs : notStar pa = true) :
    Si C W X (.isi a [t]) (fun s => op1 (a, ra) s fun x s => .ok (.d (.bool ([t].any fun t => isTy x t)), false) s) (.Call (.Name "isinstance" pp) [pa, .Name (Str.ofString (tyN t)) p2] [] pos) := by
  obtain ⟨g1, g2, g3⟩ := ok.hgl hg
  obtain ⟨k1, k2, k3⟩ := ok.hgl hg2
  have hm : X.mg "isinstance" = none := ok.bn _ (by decide +kernel)
  have hm2 : X.mg (Str.ofString (tyN t)) = none := ok.bn _ (ty_named t ht)
  have pn : PE X (.Name (Str.ofString (tyN t)) p2) (tC (.ty (tyN t))) := pe_bltn k1 hm2 (boot_ty t ht) rfl k3 k2
  have pl : PA X [pa, .Name (Str.ofString (tyN t)) p2] (tCons (To C W (a, ra)) (tCons (tC (.ty (tyN t))) tNil)) := pa_cons ha.to (pa_cons pn pa_nil) (star_cons hs)
  have pe := pe_callB (pos := pos) (p := pp) call_isi g1 hm (by decide +kernel) pl g3 g2 (star_cons hs) rfl
  refine Si.of ok.eK (PE.weak pe fun σ H Q ⟨Y, g, s, G0, q⟩ => ?_) fun _ z => nomatch z
  refine op1_run G0 q fun v x s' g' H' l G' pv q => ?_
  refine ⟨v, .ty (tyN t), _, _, _, rfl, .ty _, by rw [ok.eK]; exact tyx_of pv G'.le, kit_ty (kit_d x t ht), ?_⟩
  have := Af.ok (s := s') q G' (.bl (isTy x t)) (by simp only [List.any_cons, List.any_nil, Bool.or_false]; exact RF.data (.bl _))
  exact this

/-! ### items, slices -/
theorem sim_ix (ok : Ok C c G F n W X) (ha : Si C W X a ra pa) (hb : Si C W X b rb pb) (hs : notSlice pb = true) :
    Si C W X (.ix a b) (fun s => op2 (a, ra) (b, rb) s fun x y s => ofO ((item x y).map fun r => (.d r, false)) s) (.Subscript pa pb pos) := by
  refine Si.of ok.eK (PE.weak (pe_ix ix_seq ha.to hb.to (plain_ix hs)) fun σ H Q ⟨Y, g, s, G0, q⟩ => ?_) fun _ z => nomatch z
  refine op2_run G0 q fun v u x y s' g' H' l G' pv pu q => ?_
  obtain ⟨r, e, q⟩ := af_map q
  rw [ok.eK]
  exact item_ok e G' pv pu fun w rp => q g' H' (GLe.refl _) G' w (RF.data rp)
theorem Af.self {A : Type} {o : Out A} {k : A → S → Gh → Hp → Prop} (h : Af C W Y g σ o k) : Af C W Y g σ o fun a s g H => o = .ok a s ∧ k a s g H := by
  cases o with
  | ok a s => exact fun g' H' l G' => ⟨rfl, h g' H' l G'⟩
  | exc x s => exact h
  | bad => exact h
/-- a bound of a slice -/
def Tb (C : Ct) (W : WX) (p : Pr) : TO := match p.1.gap with
  | true => tNoPart
  | false => tPart (To C W p)
theorem po_b {o : Option Expr} (h : match o with | none => a.gap = true | some p => a.gap = false ∧ Si C W X a ra p) : PO X o (Tb C W (a, ra)) := by
  unfold Tb
  cases o with
  | none => simp only at h ⊢; rw [h]; exact po_none
  | some p => simp only at h ⊢; rw [h.1]; exact po_some h.2.to
theorem gap_to {Q : VK} (h : a.gap = true) (hr : ra = fun s => .ok (.d .none, false) s) (q : To C W (a, ra) σ H Q) : Q .non H := by
  cases a with
  | c d =>
    cases d with
    | none =>
      obtain ⟨Y, g, s, G0, q⟩ := q
      subst hr
      exact Af.ok (s := s) q G0 .non (RF.data .non)
    | _ => cases h
  | _ => cases h
def ofB : Option Int → V
  | some i => .int i
  | none => .non
theorem tb_run {o : Option Int} {P : Option Int → Hp → Prop} (hr : a.gap = true → ra = fun s => .ok (.d .none, false) s)
    (q : To C W (a, ra) σ H fun v H' => (a.gap = false → ∃ i, o = some i ∧ v = .int i) ∧ (a.gap = true → o = none) ∧ P o H') : Tb C W (a, ra) σ H P := by
  unfold Tb
  cases h : a.gap with
  | true =>
    obtain ⟨_, e, q⟩ := gap_to h (hr h) q
    rw [e h] at q
    exact q
  | false =>
    refine to_mono q fun v H' ⟨e, _, q⟩ => ?_
    obtain ⟨i, rfl, rfl⟩ := e h
    exact ⟨i, rfl, q⟩
theorem bound_cases {gp : Bool} {y : D} {o : Option Int} {u : V} (e : bound gp y = some o) (pu : Pk C Y g H u (.d y)) : (gp = false → ∃ i, o = some i ∧ u = .int i) ∧ (gp = true → o = none) := by
  cases gp with
  | true => exact ⟨fun z => (Bool.noConfusion z), fun _ => by cases y <;> simp [bound] at e <;> exact e.symm⟩
  | false =>
    refine ⟨fun _ => ?_, fun z => by cases z⟩
    cases y <;> simp [bound] at e
    exact ⟨_, e.symm, pu.int⟩
theorem sim_sl (ok : Ok C c G F n W X) {lo hi : Option Expr} {p2 : Pos} (ha : Si C W X a ra pa) (hl : match lo with | none => b.gap = true | some p => b.gap = false ∧ Si C W X b rb p)
    (hh : match hi with | none => d.gap = true | some p => d.gap = false ∧ Si C W X d rd p) (hb : b.gap = true → rb = fun s => .ok (.d .none, false) s) (hd : d.gap = true → rd = fun s => .ok (.d .none, false) s) :
    Si C W X (.sl a b d) (fun s => opA (a, ra) s fun get s => op1 (b, rb) s fun y s => (ofO (bound b.gap y) s).bind fun l s => op1 (d, rd) s fun z s => (ofO (bound d.gap z) s).bind fun h s => (ofO (get s) s).bind fun x s => sliceO x l h s) (.Subscript pa (.Slice lo hi none p2) pos) := by
  refine Si.of ok.eK (PE.weak (pe_slice op_slice ha.to (po_b hl) (po_b hh)) fun σ H Q ⟨Y, g, s, G0, q⟩ => ?_) fun _ z => nomatch z
  refine opA_run G0 q fun v get s1 g1 H1 l1 G1 hg q => ?_
  -- the lower bound
  have r1 : To C W (b, rb) σ H1 fun u H2 => ∃ o, (b.gap = false → ∃ i, o = some i ∧ u = .int i) ∧ (b.gap = true → o = none) ∧ Tb C W (d, rd) σ H2 fun h H3 => rSl X.K v o h H3 Q := by
    refine op1_run G1 q fun u y s2 g2 H2 l2 G2 pu q => ?_
    cases e1 : bound b.gap y with
    | none => rw [e1] at q; exact q.elim
    | some o =>
      rw [e1] at q
      simp only [ofO, Out.bind] at q
      obtain ⟨k1, k2⟩ := bound_cases e1 pu
      refine ⟨o, k1, k2, ?_⟩
      have r2 : To C W (d, rd) σ H2 fun w H3 => ∃ o', (d.gap = false → ∃ i, o' = some i ∧ w = .int i) ∧ (d.gap = true → o' = none) ∧ rSl X.K v o o' H3 Q := by
        refine op1_run G2 q fun w z s3 g3 H3 l3 G3 pw q => ?_
        cases e2 : bound d.gap z with
        | none => rw [e2] at q; exact q.elim
        | some o' =>
          rw [e2] at q
          simp only at q
          obtain ⟨k1, k2⟩ := bound_cases e2 pw
          refine ⟨o', k1, k2, ?_⟩
          cases e3 : get s3 with
          | none => rw [e3] at q; exact q.elim
          | some x =>
            rw [e3] at q
            have pk := hg s3 g3 H3 x (l2.trans l3) G3 e3
            cases x with
            | drw => exact q.elim
            | fn f => exact q.elim
            | clo m cs => exact q.elim
            | d x =>
              obtain ⟨r, e, q⟩ := af_map (show Af C W Y g3 σ (ofO ((slice x o o').map fun r => ((.d r.1, r.2) : R)) s3) _ from q)
              rw [ok.eK]
              exact slice_ok e G3 pk fun w g2 H2 l2 G2 rf => q g2 H2 l2 G2 w rf
      unfold Tb
      cases h : d.gap with
      | true =>
        obtain ⟨o', _, e, q⟩ := gap_to h (hd h) r2
        rw [e h] at q
        exact q
      | false =>
        refine to_mono r2 fun w H3 ⟨o', e, _, q⟩ => ?_
        obtain ⟨i, rfl, rfl⟩ := e h
        exact ⟨i, rfl, q⟩
  unfold Tb
  cases h : b.gap with
  | true =>
    obtain ⟨o', _, e, q⟩ := gap_to h (hb h) r1
    rw [e h] at q
    exact q
  | false =>
    refine to_mono r1 fun w H3 ⟨o', e, _, q⟩ => ?_
    obtain ⟨i, rfl, rfl⟩ := e h
    exact ⟨i, rfl, q⟩

theorem sim_rev (ok : Ok C c G F n W X) {k : Nat} {p1 p2 p3 : Pos} (ha : Si C W X a ra pa) :
    Si C W X (.rev a) (fun s => op1 (a, ra) s fun x s => match x with | .list x => .ok (.d (.list x.reverse), true) s | _ => .bad)
      (.Subscript pa (.Slice none none (some (.UnaryOp .USub (.Constant (.int 1) k p1) p2)) p3) pos) := by
  refine Si.of ok.eK (PE.weak (pe_revL ha.to) fun σ H Q ⟨Y, g, s, G0, q⟩ => ?_) fun _ z => nomatch z
  refine op1_run G0 q fun v x s' g' H' l G' pv q => ?_
  cases x <;> first | exact q.elim | skip
  obtain ⟨a, xs, e, h1, r1⟩ := pv.list G'.le
  refine ⟨a, xs, e, by rw [ok.eK]; exact h1.sq, fun p hp => ?_⟩
  obtain ⟨G2, r2⟩ := new_lst G' r1.reverse hp
  exact q g' _ (GLe.refl _) G2 _ r2

/-! ### calls of defs -/
theorem sim_call (ok : Ok C c G F n W X) {f : Nat} {x : Str} {prs : List Str} {l : List Pr} {es : List Ex} {ps : List Expr} {pp : Pos} (hf : c.M.fns[f]? = some (x, prs)) (hg : c.gl x = true) (hp : PA X (pa :: ps) (Tes C W l)) (hs : ∀ e ∈ pa :: ps, notStar e = true) :
    Si C W X (.call f es) (fun s => (evs l s).bind fun vs s => ofRo (F f vs s.dr) s) (.Call (.Name x pp) (pa :: ps) [] pos) := by
  obtain ⟨g1, g2, g3⟩ := ok.hgl hg
  obtain ⟨fa, fd, hfa, hm, hk, hb, _, hlen, run⟩ := ok.calls.fn f x prs hf
  have s1 := star_cons (es := ps) (env := X.env) (hs pa List.mem_cons_self)
  have s2 : (backTo pos (starEach ps X.env)).any (·.1) = false := star_any fun e he => hs e (List.mem_cons_of_mem _ he)
  have hk' : PySem.W.keepIn X.K (.ref fa) = true := by rw [ok.eK]; exact hk
  refine Si.of ok.eK ⟨fun pins s σ H Q I hq => ?_⟩ fun _ z => nomatch z
  obtain ⟨Y, g, s0, G0, q⟩ := hq
  have tes : Tes C W l σ H fun vs H1 => CallK C W Y F f σ vs H1 Q := by
    refine evs_run l G0 q.bind fun vs xs s' g' H' l' G' q rv => ⟨g', xs, s', G', rv, q⟩
  refine wpAny_Call_Name_kw (ld_glob I g1 hm ?_ g2)
  refine PySem.W.callWith_K (h₀ := X.base) I.ok.mod.kin hk' (thn (hp.run pos pins s σ H _ I tes) fun us sh ⟨vs, H1, I1, r, q⟩ => ⟨I1.kIn, ?_⟩) s1 s2
  have hl : us.length = prs.length := by
    rw [← r.length]
    obtain ⟨g1, xs, s2, _, rv, af⟩ := q
    rw [rv.length]
    refine hlen xs s2.dr fun e => ?_
    rw [e] at af
    exact af
  refine wpAny_call (codeAny_mono (run_call ok run (hb us hl) I1 r q.sp) fun r s' h => ?_)
  cases r with
  | error e => exact h
  | ok fl =>
    cases fl with
    | ret u => exact h
    | next => exact h.elim
    | brk => exact h.elim
    | cont => exact h.elim
end
end Pv
set_option maxHeartbeats 200000
set_option maxHeartbeats 4000000
/-! Pv: calls with keywords, own lists' changes, stores, walks. -/
namespace Pv
open PySem PySem.Spec PyProof.Rows L2
section
variable {C : Ct} {c : Cc} {G : List D} {F : CallF} {n : Nat} {W : WX} {X : Cx} {Y : Fx} {g g' : Gh} {s s' : S} {σ : L2.St} {H H' : Hp} {v u w : V} {p : Addr}
variable {a b d t : Ex} {pa pb pc pt : Expr} {pos : Pos} {ra rb rd rt : S → Out R}

/-! ### calls -/
theorem run_end {pins : List (Addr × Obj)} {f : Nat} {fa : Addr} {fd : FuncData} {prs : List Str} {args : List Value} {kw : List (Str × Value)} {us : List Value} {vs : List V} {s : Shared} {Q : VK} (ok : Ok C c G F n W X)
    (run : ∀ (A : Around) (outer : List Env) (s : Shared) (H : Hp) (args : Args) (us : List Value) (vs : List V) (Q : VK) (E : XK), Room n A → A.guards = some [] → Env0 X.prog X.w C.K X.mg X.base A outer s H → BindsTo s fd args (prs.zip us) → Vals vs us → SpF C F f vs H Q E →
      codeAny (model X.prog X.w) A (.call (.ref fa) args) (CR (L2.CX X.prog X.w) outer X.prog X.w H s Q E) s)
    (hb : bindArgs fd ⟨args, kw⟩ = pure (prs.zip us)) (I : Inv X pins σ H s) (r : Vals vs us) (q : CallK C W Y F f σ vs H Q) : wpAny (model X.prog X.w) X.A (call (.ref fa) args kw) (EP X pins σ Q) X.xe s := by
  refine wpAny_call (codeAny_mono (run_call ok run hb I r q.sp) fun r s' h => ?_)
  cases r with
  | error e => exact h
  | ok fl =>
    cases fl with
    | ret u => exact h
    | next => exact h.elim
    | brk => exact h.elim
    | cont => exact h.elim
theorem sim_call0 (ok : Ok C c G F n W X) {f : Nat} {x : Str} {prs : List Str} {pp : Pos} (hf : c.M.fns[f]? = some (x, prs)) (hg : c.gl x = true) :
    Si C W X (.call f []) (fun s => (evs [] s).bind fun vs s => ofRo (F f vs s.dr) s) (.Call (.Name x pp) [] [] pos) := by
  obtain ⟨g1, g2, g3⟩ := ok.hgl hg
  obtain ⟨fa, fd, hfa, hm, hk, hb, _, hlen, run⟩ := ok.calls.fn f x prs hf
  have hk' : PySem.W.keepIn X.K (.ref fa) = true := by rw [ok.eK]; exact hk
  refine Si.of ok.eK ⟨fun pins s σ H Q I hq => ?_⟩ fun _ z => nomatch z
  obtain ⟨Y, g, s0, G0, q⟩ := hq
  have q : CallK C W Y F f σ [] H Q := ⟨g, [], s0, G0, .nil, q⟩
  refine wpAny_Call_Name_kw (ld_glob I g1 hm ?_ g2)
  refine PySem.W.callWith_K0 I.kIn hk' (run_end ok run (hb [] ?_) I .nil q)
  obtain ⟨g1, xs, s2, _, rv, af⟩ := q
  cases rv
  exact hlen [] s2.dr fun e => by rw [e] at af; exact af
theorem kw_all : ∀ {ks : List Keyword} {env : Env} {pos : Pos} {l : List Str}, kwN ks = some l → (backToKw pos (keywordEach ks env)).all (·.1.isSome) = true ∧ (backToKw pos (keywordEach ks env)).filterMap (·.1) = l ∧ (backToKw pos (keywordEach ks env)).any (·.1.isNone) = false
  | [], _, _, l, h => by simp [kwN] at h; subst h; exact ⟨rfl, rfl, rfl⟩
  | k :: ks, env, pos, l, h => by
    obtain ⟨nm, e, kp⟩ := k
    unfold kwN at h
    rw [List.mapM_cons] at h
    cases nm with
    | none => simp at h
    | some x =>
      simp only [Option.pure_def, Option.bind_eq_bind, Option.bind_some, Option.bind_eq_some_iff, Option.some.injEq] at h
      obtain ⟨r, h1, h2⟩ := h
      subst h2
      obtain ⟨i1, i2, i3⟩ := kw_all (env := env) (pos := pos) (show kwN ks = some r from h1)
      refine ⟨?_, ?_, ?_⟩
      · show (true && (backToKw pos (keywordEach ks env)).all (·.1.isSome)) = true
        rw [i1]; rfl
      · show x :: (backToKw pos (keywordEach ks env)).filterMap (·.1) = _
        rw [i2]
      · show (false || (backToKw pos (keywordEach ks env)).any (·.1.isNone)) = false
        rw [i3]; rfl
theorem pk_of : ∀ {l : List Pr} {ks : List Keyword}, (∀ q ∈ l.zip ks, PE X q.2.value (Te C W q.1.2)) → l.length = ks.length → PK X ks (Tes C W l)
  | [], [], _, _ => pk_nil
  | [], _ :: _, _, h => by simp at h
  | _ :: _, [], _, h => by simp at h
  | q :: l, ⟨nm, p, kp⟩ :: ps, h, hl => pk_cons (h (q, ⟨nm, p, kp⟩) (by simp)) (pk_of (fun r hr => h r (by simp only [List.zip_cons_cons]; exact List.mem_cons_of_mem _ hr)) (by simpa using hl))
theorem kwN_len {ks : List Keyword} {l : List Str} (h : kwN ks = some l) : l.length = ks.length := by
  unfold kwN at h
  induction ks generalizing l with
  | nil => simp at h; subst h; rfl
  | cons k ks ih =>
    rw [List.mapM_cons] at h
    simp only [Option.pure_def, Option.bind_eq_bind, Option.bind_eq_some_iff, Option.some.injEq] at h
    obtain ⟨x, _, r, h1, rfl⟩ := h
    simp [ih h1]
theorem lay_rva : ∀ {pm : List Nat} {us : List V} {xs ys : List SV}, RVA C g us xs → layK pm xs = some ys → ∃ zs, layV pm us = some zs ∧ RVA C g zs ys
  | [], _, _, ys, _, e => by simp [layK] at e; subst e; exact ⟨[], rfl, .nil⟩
  | i :: pm, us, xs, ys, r, e => by
    simp only [layK, Option.bind_eq_some_iff, Option.map_eq_some_iff] at e
    obtain ⟨x, e1, r2, e2, rfl⟩ := e
    obtain ⟨v, h1, h2⟩ := r.get e1
    obtain ⟨zs, h3, h4⟩ := lay_rva r e2
    exact ⟨v :: zs, by simp [layV, h1, h3], .cons h2 h4⟩
theorem lay_vals : ∀ {pm : List Nat} {vs zs : List V} {us ws : List Value}, Vals vs us → layV pm vs = some zs → layV pm us = some ws → Vals zs ws
  | [], _, zs, _, ws, _, e, e' => by simp [layV] at e e'; subst e e'; exact .nil
  | i :: pm, vs, zs, us, ws, r, e, e' => by
    simp only [layV, Option.bind_eq_some_iff, Option.map_eq_some_iff] at e e'
    obtain ⟨x, e1, z1, e2, rfl⟩ := e
    obtain ⟨y, e3, z2, e4, rfl⟩ := e'
    obtain ⟨y', h1, h2⟩ := r.get e1
    obtain rfl : y' = y := by rw [h1] at e3; exact Option.some.inj e3
    exact .cons h2 (lay_vals r e2 e4)
theorem sim_kcall (ok : Ok C c G F n W X) {f : Nat} {x : Str} {prs ks : List Str} {pm : List Nat} {l k : List Pr} {es ek : List Ex} {ps : List Expr} {kws : List Keyword} {pp : Pos} (hf : c.M.fns[f]? = some (x, prs)) (hg : c.gl x = true) (hp : PA X ps (Tes C W l)) (hs : ∀ e ∈ ps, notStar e = true)
    (hk : PK X kws (Tes C W k)) (hkn : kwN kws = some ks) (hll : l.length = ps.length) (hkl : k.length = kws.length) (hkw : (f, l.length, ks, pm) ∈ c.M.kws) :
    Si C W X (.kcall f es ek pm) (fun s => (evs l s).bind fun vs s => (evs k s).bind fun ws s => (ofO (layK pm (vs ++ ws)) s).bind fun us s => ofRo (F f us s.dr) s) (.Call (.Name x pp) ps kws pos) := by
  obtain ⟨g1, g2, g3⟩ := ok.hgl hg
  obtain ⟨fa, fd, hfa, hm, hkeep, _, hkb, hlen, run⟩ := ok.calls.fn f x prs hf
  have hk' : PySem.W.keepIn X.K (.ref fa) = true := by rw [ok.eK]; exact hkeep
  obtain ⟨k1, k2, k3⟩ := kw_all (env := X.env) (pos := pos) hkn
  have s2 : (backTo pos (starEach ps X.env)).any (·.1) = false := star_any fun e he => hs e he
  have hlk := kwN_len hkn
  have lenA : ∀ {l : List Pr} {us : List V} {xs : List SV} {s s' : S}, evs l s = .ok xs s' → xs.length = l.length := by
    intro l
    induction l with
    | nil => intro us xs s s' e; simp only [evs, Out.ok.injEq] at e; rw [← e.1]; rfl
    | cons q l ih =>
      intro us xs s s' e
      simp only [evs] at e
      cases h1 : q.2 s with
      | bad => rw [h1] at e; cases e
      | exc _ _ => rw [h1] at e; cases e
      | ok y s1 =>
        rw [h1] at e
        simp only [Out.bind] at e
        cases h2 : evs l s1 with
        | bad => rw [h2] at e; cases e
        | exc _ _ => rw [h2] at e; cases e
        | ok ys s2 =>
          rw [h2] at e
          simp only [Out.ok.injEq] at e
          rw [← e.1]
          simp [ih (us := us) h2]
  refine Si.of ok.eK ⟨fun pins s σ H Q I hq => ?_⟩ fun _ z => nomatch z
  obtain ⟨Y, g, s0, G0, q⟩ := hq
  have tes : Tes C W l σ H fun vs H1 => vs.length = l.length ∧ Tes C W k σ H1 fun zs H2 => zs.length = k.length ∧ ∃ ys, layV pm (vs ++ zs) = some ys ∧ CallK C W Y F f σ ys H2 Q := by
    refine evs_run l G0 q.bind.self fun vs xs s' g' H' l' G' ⟨e1, q⟩ rv => ⟨by rw [rv.length]; exact lenA (us := vs) e1, ?_⟩
    refine evs_run k G' q.bind.self fun zs ys s2 g2 H2 l2 G2 ⟨e2, q⟩ rz => ⟨by rw [rz.length]; exact lenA (us := zs) e2, ?_⟩
    cases e3 : layK pm (xs ++ ys) with
    | none => rw [e3] at q; exact q.elim
    | some us =>
      rw [e3] at q
      obtain ⟨ts, h1, h2⟩ := lay_rva ((rv.le l2).append rz) e3
      exact ⟨ts, h1, g2, us, s2, G2, h2, q⟩
  have fin : ∀ {us ws : List Value} {vs zs : List V} {s2 : Shared} {H2 : Hp}, Vals vs us → vs.length = l.length → Vals zs ws → zs.length = k.length → Inv X pins σ H2 s2 → (∃ ys, layV pm (vs ++ zs) = some ys ∧ CallK C W Y F f σ ys H2 Q) →
      wpAny (model X.prog X.w) X.A (call (.ref fa) us (ks.zip ws)) (EP X pins σ Q) X.xe s2 := by
    intro us ws vs zs s2 H2 r hl r2 hl2 I2 ⟨ys, h1, q⟩
    obtain ⟨ts, h2, h3, h4⟩ := hkb _ hkw rfl us ws (by rw [← r.length]; exact hl) (by rw [← r2.length, hl2, hkl, hlk])
    exact run_end ok run h4 I2 (lay_vals (r.append r2) h1 h2) q
  refine wpAny_Call_Name_kw (ld_glob I g1 hm ?_ g2)
  cases ps with
  | nil =>
    have hl0 : l = [] := List.length_eq_zero_iff.mp hll
    subst hl0
    refine PySem.W.callWith_KW0 (h₀ := X.base) I.ok.mod.kin hk' k1 ?_ (by rw [k3]; rfl)
    refine thn (hk.run pos pins s σ H _ I tes.2) fun ws s2 ⟨zs, H2, I2, rz, l2, q2⟩ => ⟨I2.kIn, ?_⟩
    rw [k2]
    exact fin (vs := []) .nil rfl rz l2 I2 q2
  | cons e0 ps =>
    refine PySem.W.callWith_KW (h₀ := X.base) I.ok.mod.kin hk' k1 (thn (hp.run pos pins s σ H _ I tes) fun us s1 ⟨vs, H1, I1, r, l1, q⟩ => ?_) (by rw [k3, s2]; rfl) (star_cons (hs e0 List.mem_cons_self))
    refine thn (hk.run pos pins s1 σ H1 _ I1 q) fun ws s2 ⟨zs, H2, I2, rz, l2, q2⟩ => ⟨I2.kIn, ?_⟩
    rw [k2]
    exact fin r l1 rz l2 I2 q2

/-! ### an own list is changed -/
theorem own_at {i : Nat} {l : List D} (G0 : Good C Y g s σ H) (e : s.at i = .ow (.list l)) : ∃ a xs, σ[i]? = some (some (.ref a)) ∧ s.env[i]? = some (.ow (.list l)) ∧ H a = some (.lst xs) ∧ RpA C.K g.R xs l ∧ Loose Y g a := by
  have e1 := at_env e (by simp)
  have hi : i < σ.length := by rw [← G0.len]; exact (List.getElem?_eq_some_iff.mp e1).1
  obtain ⟨v, ev, a, xs, rfl, h1, h2, h3⟩ := G0.slot i _ _ e1 (List.getElem?_eq_getElem hi)
  exact ⟨a, xs, by rw [List.getElem?_eq_getElem hi, ev], e1, h1, h2, h3⟩
theorem Good.write {i : Nat} {l l' : List D} {xs' : List V} {a : Addr} (G0 : Good C Y g s σ H) (e1 : s.env[i]? = some (.ow (.list l))) (e2 : σ[i]? = some (some (.ref a))) (lo : Loose Y g a) (r : RpA C.K g.R xs' l') :
    Good C Y g (s.put i (.ow (.list l'))) σ (upd H a (.lst xs')) := by
  have hi : i < s.env.length := (List.getElem?_eq_some_iff.mp e1).1
  have ow : ∀ {j b}, Owns (s.put i (.ow (.list l'))) σ j b → Owns s σ j b := fun {j b} h => by
    obtain ⟨⟨d, h1⟩, h2⟩ := h
    by_cases hj : i = j
    · subst hj; exact ⟨⟨_, e1⟩, h2⟩
    · simp only [S.put, List.getElem?_set_ne hj] at h1
      exact ⟨⟨d, h1⟩, h2⟩
  refine ⟨fun b o e => ?_, fun b o k => ?_, fun b k => ⟨(G0.un b k).1, ?_⟩, by simpa [S.put] using G0.len, fun j e y h1 h2 => ?_, fun j k b h1 h2 => G0.apart j k b (ow h1) (ow h2), ?_, G0.ex.keep fun b o e hx => by
    have : b ≠ a := fun z => by
      obtain ⟨v, ev, q⟩ := G0.slot i _ _ e1 e2
      exact q.noX (Option.some.inj ev).symm o (z ▸ e) hx
    rw [upd_ne this]; exact e⟩
  · have : b ≠ a := fun z => by rw [z, lo.R] at e; cases e
    rw [upd_ne this]; exact G0.sub b o e
  · have : b ≠ a := fun z => lo.kp o (by rw [← z]; exact k)
    rw [upd_ne this]; exact G0.kp b o k
  · have : b ≠ a := fun z => lo.un (by rw [← z]; exact k)
    rw [upd_ne this]; exact (G0.un b k).2
  · by_cases hj : i = j
    · subst hj
      simp only [S.put, List.getElem?_set_self hi] at h1
      cases h1
      rw [e2] at h2
      cases h2
      exact ⟨_, rfl, a, xs', rfl, upd_same, r, lo⟩
    · simp only [S.put, List.getElem?_set_ne hj] at h1
      have q := G0.slot j e y h1 h2
      cases e with
      | un => trivial
      | va x => exact q
      | ow d =>
        obtain ⟨v, ev, q⟩ := q
        refine ⟨v, ev, q.keep fun b hb o ho => ?_⟩
        have : b ≠ a := fun z => by
          subst ev hb z
          exact hj (G0.apart i j b ⟨⟨_, e1⟩, e2⟩ ⟨⟨_, h1⟩, h2⟩)
        rw [upd_ne this]; exact ho
  · refine G0.dr.keep fun b o e hd => ?_
    have : b ≠ a := fun z => lo.dr (by rw [← z]; exact hd)
    rw [upd_ne this]; exact e
theorem sim_pop (ok : Ok C c G F n W X) {i : Nat} {x : Str} {apos cpos p1 : Pos} (hv : c.vis i x = true) (hl : (apos.endLine == cpos.line) = true) :
    Si C W X (.pop i) (fun s => match s.at i with
    | .ow (.list l) => match l.getLast? with
      | some x => .ok (.d x, false) (s.put i (.ow (.list l.dropLast)))
      | none => .bad
    | _ => .bad) (.Call (.Attribute (.Name x p1) "pop" apos) [] [] cpos) := by
  refine Si.of ok.eK (PE.weak (pe_bm0 PySem.F.plainAttrs_list PySem.F.slot_list_pop PySem.F.type_list_pop mt_pop (ok.var hv) (by rfl) hl) fun σ H Q ⟨Y, g, s, G0, q⟩ => ?_) fun _ z => nomatch z
  cases e : s.at i with
  | un => simp only [e] at q; exact q.elim
  | va x => simp only [e] at q; exact q.elim
  | ow d =>
    simp only [e] at q
    cases d with
    | list l =>
      simp only at q
      cases e2 : l.getLast? with
      | none => rw [e2] at q; exact q.elim
      | some y =>
        rw [e2] at q
        obtain ⟨a, xs, h1, h2, h3, h4, h5⟩ := own_at G0 e
        rw [List.getLast?_eq_getElem?] at e2
        obtain ⟨yv, h6, h7⟩ := h4.get e2
        refine ⟨_, h1, .inl ⟨rfl, xs, .inl (.inl h3)⟩, a, xs, yv, rfl, rfl, h3, ?_, ?_⟩
        · rw [h4.length]; exact h6
        · have G1 := G0.write (l' := l.dropLast) h2 h1 h5 h4.dropLast
          exact Af.ok (s := s.put i (.ow (.list l.dropLast))) q G1 yv (RF.data h7)
    | _ => exact q.elim

/-! ### stores -/
theorem Good.set {i : Nat} {x : SV} {b : Bool} (G0 : Good C Y g s σ H) (rf : RF C Y g s σ H v (x, b)) : Good C Y g (s.put i (mine x b)) (σ.set i (some v)) H := by
  have hlen : (s.env.set i (mine x b)).length = (σ.set i (some v)).length := by simpa using G0.len
  have main : (∀ d, mine x b = .ow d → OwnD C Y g H v d ∧ ∀ j a, v = .ref a → ¬ Owns s σ j a) ∧ SlotOk C Y g H (mine x b) (some v) := by
    unfold RF at rf
    cases b with
    | false =>
      have e : mine x false = .va x := by cases x <;> rfl
      rw [e]
      exact ⟨fun d z => (nomatch z), v, rfl, RV.rs rf⟩
    | true =>
      rw [if_pos rfl] at rf
      obtain ⟨d, rfl, o, n⟩ := rf
      exact ⟨fun d' z => by cases z; exact ⟨o, n⟩, v, rfl, o⟩
  have split : ∀ {j a}, Owns (s.put i (mine x b)) (σ.set i (some v)) j a → (j = i ∧ v = .ref a ∧ ∃ d, mine x b = .ow d) ∨ (j ≠ i ∧ Owns s σ j a) := fun {j a} ⟨⟨d, h1⟩, h2⟩ => by
    by_cases hj : i = j
    · subst hj
      have hi : i < σ.length := by
        have := (List.getElem?_eq_some_iff.mp h2).1
        simpa using this
      simp only [S.put, List.getElem?_set_self (show i < s.env.length by rw [G0.len]; exact hi)] at h1
      rw [List.getElem?_set_self hi] at h2
      cases h2
      exact .inl ⟨rfl, rfl, d, Option.some.inj h1⟩
    · simp only [S.put, List.getElem?_set_ne hj] at h1
      rw [List.getElem?_set_ne hj] at h2
      exact .inr ⟨fun z => hj z.symm, ⟨d, h1⟩, h2⟩
  refine ⟨G0.sub, G0.kp, G0.un, hlen, fun j e y h1 h2 => ?_, fun j k a h1 h2 => ?_, G0.dr, G0.ex⟩
  · by_cases hj : i = j
    · subst hj
      have hi : i < σ.length := by
        have := (List.getElem?_eq_some_iff.mp h2).1
        simpa using this
      simp only [S.put, List.getElem?_set_self (show i < s.env.length by rw [G0.len]; exact hi)] at h1
      rw [List.getElem?_set_self hi] at h2
      cases h1; cases h2
      exact main.2
    · simp only [S.put, List.getElem?_set_ne hj] at h1
      rw [List.getElem?_set_ne hj] at h2
      exact G0.slot j e y h1 h2
  · rcases split h1 with ⟨e1, e2, d, e3⟩ | ⟨e1, o1⟩ <;> rcases split h2 with ⟨f1, f2, d', f3⟩ | ⟨f1, o2⟩
    · rw [e1, f1]
    · exact absurd o2 ((main.1 d e3).2 k a e2)
    · exact absurd o1 ((main.1 d' f3).2 j a f2)
    · exact G0.apart j k a o1 o2
def gTg (C : Ct) : Tg → TG
  | .nm i => gName i
  | .tup l => gTup C.K l.length (l.foldr (fun i t => gCons (gName i) t) gNil)
theorem Ok.sto (ok : Ok C c G F n W X) {i : Nat} {p : Expr} (h : tgC1 c i p = true) : PG X p (gName i) := by
  cases p <;> first | (cases h; done) | skip
  rename_i x pos
  simp only [tgC1, Cc.sto, Bool.and_eq_true, decide_eq_true_eq] at h
  obtain ⟨h1, h2⟩ := h
  have hN : X.N[i]? = some x := by rw [ok.eN]; exact h1
  split at h2 <;> first | (cases h2; done) | skip
  · rename_i e
    have e' : X.env.scope.names.lookup x = some .local := by rw [ok.esc]; exact e
    exact pg_name ok.nd hN (.inl e') (.inr e')
  · rename_i e
    have e' : X.env.scope.names.lookup x = some .cell := by rw [ok.esc]; exact e
    exact pg_name ok.nd hN (.inr e') (.inl (by rw [ok.efn]; exact h2))
theorem tgs_name {l : List Nat} {es : List Expr} (h : tgsC c l es = true) : (assignEach es X.env).length = l.length ∧ (assignEach es X.env).findIdx? (·.1) = none := by
  induction l generalizing es with
  | nil => cases es with
    | nil => exact ⟨rfl, rfl⟩
    | cons e es => cases h
  | cons i l ih => cases es with
    | nil => cases h
    | cons e es =>
      simp only [tgsC, Bool.and_eq_true] at h
      obtain ⟨i1, i2⟩ := ih h.2
      have h1 := h.1
      cases e <;> first | (cases h1; done) | skip
      refine ⟨?_, ?_⟩
      · show (assignEach es X.env).length + 1 = _
        rw [i1]; rfl
      · show List.findIdx? _ ((false, _) :: assignEach es X.env) = none
        rw [List.findIdx?_cons]
        simp [i2]
theorem tgs_ok (ok : Ok C c G F n W X) {l : List Nat} {es : List Expr} (h : tgsC c l es = true) : PGs X es (l.foldr (fun i t => gCons (gName i) t) gNil) := by
  induction l generalizing es with
  | nil => cases es with
    | nil => exact pgs_nil
    | cons e es => cases h
  | cons i l ih => cases es with
    | nil => cases h
    | cons e es =>
      simp only [tgsC, Bool.and_eq_true] at h
      have h1 := h.1
      refine pgs_cons (ok.sto h1) (ih h.2) ?_
      cases e <;> first | (cases h1; done) | rfl
theorem tg_ok (ok : Ok C c G F n W X) {t : Tg} {p : Expr} (h : tgC c t p = true) : PG X p (gTg C t) := by
  cases t with
  | nm i => exact ok.sto h
  | tup l =>
    cases p <;> first | (cases h; done) | skip
    simp only [tgC] at h
    obtain ⟨h1, h2⟩ := tgs_name (X := X) h
    unfold gTg
    rw [← ok.eK]
    exact pg_tup ok.calm (tgs_ok ok h) h1 h2
/-- the slots that a store may touch -/
def SameBut (l : List Nat) (σ σ' : L2.St) : Prop := σ'.length = σ.length ∧ ∀ i, i ∉ l → σ'[i]? = σ[i]?
theorem fold_store : ∀ {l : List Nat} {vs : List V} {ds : List D} {s : S} {σ : L2.St} {Q : L2.St → Hp → Prop}, Good C Y g s σ H → RpA C.K g.R vs ds → l.length = ds.length →
    (∀ σ', SameBut l σ σ' → Good C Y g ((l.zip ds).foldl (fun s p => s.put p.1 (.va (.d p.2))) s) σ' H → Q σ' H) → (l.foldr (fun i t => gCons (gName i) t) gNil) vs σ H Q
  | [], vs, ds, s, σ, Q, G0, r, hl, hQ => by
    cases r with
    | nil => exact ⟨rfl, hQ σ ⟨rfl, fun _ _ => rfl⟩ G0⟩
    | cons _ _ => simp at hl
  | i :: l, vs, ds, s, σ, Q, G0, r, hl, hQ => by
    cases r with
    | nil => simp at hl
    | cons h r =>
      refine ⟨_, _, rfl, ?_⟩
      have G1 := G0.set (i := i) (RF.data (d := _) h)
      refine fold_store (s := s.put i (.va (.d _))) G1 r (by simpa using hl) fun σ' sb G2 => hQ σ' ⟨by rw [sb.1]; simp, fun j hj => ?_⟩ G2
      rw [sb.2 j fun z => hj (List.mem_cons_of_mem _ z), List.getElem?_set_ne fun z => hj (by rw [z]; exact List.mem_cons_self)]
theorem store_run {t : Tg} {x : SV} {b : Bool} {s1 : S} {Q : L2.St → Hp → Prop} (G0 : Good C Y g s σ H) (rf : RF C Y g s σ H v (x, b)) (e : store t x b s = some s1)
    (hQ : ∀ σ' g', GLe g g' → SameBut t.slots σ σ' → Good C Y g' s1 σ' H → Q σ' H) : gTg C t v σ H Q := by
  cases t with
  | nm i =>
    cases e
    refine hQ _ g (GLe.refl _) ⟨by simp, fun j hj => ?_⟩ (G0.set rf)
    rw [List.getElem?_set_ne fun z => hj (by rw [← z]; exact List.mem_singleton.mpr rfl)]
  | tup l =>
    obtain ⟨g2, l2, G2, rv⟩ := rf.share G0
    cases x with
    | drw => cases e
    | fn f => cases e
    | clo m cs => cases e
    | d d =>
      cases d <;> first | (cases e; done) | skip
      rename_i ds
      simp only [store] at e
      split at e <;> first | (cases e; done) | skip
      rename_i hl
      cases e
      have rp : Rp C.K g2.R v (.tuple ds) := rv
      cases rp with
      | tup h1 h2 => exact ⟨_, _, rfl, SqT.le h1 G2.le, by rw [h2.length, hl], fold_store G2 h2 hl fun σ' sb G3 => hQ σ' g2 l2 sb G3⟩
end
end Pv
set_option maxHeartbeats 200000
set_option maxHeartbeats 4000000
/-! Pv: walks, comprehensions. -/
namespace Pv
open PySem PySem.Spec PyProof.Rows L2

/-- a walk over trees -/
def WD (C : Ct) (g : Gh) (J : L2.It) (ds : List D) : Prop := ∃ Gd Yd, Walk J ds.length Gd Yd ∧ (∀ H, Le g.R H → Gd H) ∧
  ∀ (Y : Fx) (s : S) (σ : L2.St) (g' : Gh) (H : Hp) (i : Nat) (x : V) (H' : Hp), GLe g g' → Good C Y g' s σ H → Yd i H x H' → ∃ g2 d, GLe g' g2 ∧ Good C Y g2 s σ H' ∧ ds[i]? = some d ∧ Rp C.K g2.R x d
def Ti (C : Ct) (W : WX) (r : S → Out (List D)) : TI := fun σ H R => ∃ Y g s, Good C Y g s σ H ∧ Af C W Y g σ (r s) fun ds s' g' H' => ∀ J, WD C g' J ds → R J H'
def Tts (C : Ct) (W : WX) (l : List Pr) : TT := fun σ H Q => ∃ Y g s, Good C Y g s σ H ∧ Af C W Y g σ (tsts l s) fun b _ _ H' => Q b H'
abbrev noW : WX := fun _ _ _ _ => False

section
variable {C : Ct} {c : Cc} {G : List D} {F : CallF} {n : Nat} {W : WX} {X : Cx} {Y : Fx} {g g' : Gh} {s s' : S} {σ : L2.St} {H H' : Hp} {v u w : V} {p : Addr}
variable {a b d t : Ex} {pa pb pc pt : Expr} {pos : Pos} {ra rb rd rt : S → Out R}

theorem Af.okk {A : Type} {o : Out A} {x : A} {k : A → S → Gh → Hp → Prop} (e : o = .ok x s') (h : ∀ g' H', GLe g g' → Good C Y g' s' σ H' → k x s' g' H') : Af C W Y g σ o k := by rw [e]; exact h
theorem Te.ok {r : S → Out R} {x : R} {Q : VK} (G0 : Good C Y g s σ H) (e : r s = .ok x s') (h : ∀ g2 v H', GLe g g2 → Good C Y g2 s' σ H' → RV C g2 v x.1 → Q v H') : Te C W r σ H Q :=
  Te.shared G0 (Af.okk e fun g' H' l G' g2 v l2 G2 rv => h g2 v H' (l.trans l2) G2 rv)

/-! ### what is walked -/
theorem wd_list {a : Addr} {xs : List V} {ds : List D} (h : SqX C.K g.R a xs) (r : RpA C.K g.R xs ds) : WD C g (Itl C.K a) ds := by
  refine ⟨fun H => SqL C.K H a xs, YAt xs, by rw [← r.length]; exact walk_list, fun H l => (SqX.le h l).sq, fun Y s σ g' H i x H' l G0 y => ?_⟩
  obtain ⟨rfl, e⟩ := y
  obtain ⟨d, e2, rp⟩ := r.at e
  exact ⟨g', d, GLe.refl _, G0, e2, rp.le l.le⟩
theorem wd_tup {a : Addr} {xs : List V} {ds : List D} (h : SqT C.K g.R a xs) (r : RpA C.K g.R xs ds) : WD C g (Itt C.K a) ds := by
  refine ⟨fun H => SqT C.K H a xs, YAt xs, by rw [← r.length]; exact walk_tup, fun H l => SqT.le h l, fun Y s σ g' H i x H' l G0 y => ?_⟩
  obtain ⟨rfl, e⟩ := y
  obtain ⟨d, e2, rp⟩ := r.at e
  exact ⟨g', d, GLe.refl _, G0, e2, rp.le l.le⟩
theorem walk_len {J : L2.It} {n m : Nat} {Gd : Hp → Prop} {Yd : Nat → Hp → V → Hp → Prop} (w : Walk J n Gd Yd) (h : n = m) : Walk J m Gd Yd := h ▸ w
theorem rngI_len {i j : Int} : (rngI i j).length = (j - i).toNat := by simp [rngI]
theorem wd_range {i j : Int} : WD C g (Itr i (j - i).toNat) (rngI i j) := by
  refine ⟨fun _ => True, fun k H x H' => k < (j - i).toNat ∧ H' = H ∧ x = .int (i + k), ?_, fun _ _ => trivial, fun Y s σ g' H k x H' l G0 y => ?_⟩
  · rw [rngI_len]
    exact ⟨fun k H hk q => walk_range.goes k H hk trivial, fun H q => walk_range.stops H trivial, fun k H x H' hk q y => ⟨hk, walk_range.yields k H x H' hk trivial y⟩⟩
  · obtain ⟨hk, rfl, rfl⟩ := y
    refine ⟨g', .int (i + k), GLe.refl _, G0, ?_, .int _⟩
    simp [rngI, hk]
theorem enumD_get : ∀ {l : List D} {k i : Nat} {x : D}, l[i]? = some x → (enumD k l)[i]? = some (.tuple [.int ((k + i : Nat) : Int), x])
  | [], _, _, _, h => by simp at h
  | y :: l, k, 0, x, h => by simp at h; subst h; rfl
  | y :: l, k, i + 1, x, h => by
    have := enumD_get (l := l) (k := k + 1) (i := i) (x := x) (by simpa using h)
    show (enumD (k + 1) l)[i]? = _
    rw [this, show k + 1 + i = k + (i + 1) from by omega]
theorem enumD_len : ∀ {l : List D} {k : Nat}, (enumD k l).length = l.length
  | [], _ => rfl
  | _ :: l, k => by simp [enumD, enumD_len (l := l)]
theorem zipD_len : ∀ {l q : List D}, (zipD l q).length = min l.length q.length
  | [], q => by simp [zipD]
  | _ :: _, [] => by simp [zipD]
  | _ :: l, _ :: q => by simp [zipD, zipD_len (l := l) (q := q)]
theorem zipD_get : ∀ {l q : List D} {i : Nat} {x y : D}, l[i]? = some x → q[i]? = some y → (zipD l q)[i]? = some (.tuple [x, y])
  | [], _, _, _, _, h, _ => by simp at h
  | _ :: _, [], _, _, _, _, h => by simp at h
  | a :: l, b :: q, 0, x, y, h, h' => by simp at h h'; subst h h'; rfl
  | a :: l, b :: q, i + 1, x, y, h, h' => zipD_get (l := l) (q := q) (i := i) (by simpa using h) (by simpa using h')
theorem wd_pair {J : L2.It} {xs ys : Nat → Option V} {ds : List D} {Gd : Hp → Prop} (w : Walk J ds.length Gd (YPair xs ys)) (hG : ∀ H, Le g.R H → Gd H)
    (h : ∀ i x y, xs i = some x → ys i = some y → ∃ d e, ds[i]? = some (.tuple [d, e]) ∧ Rp C.K g.R x d ∧ Rp C.K g.R y e) : WD C g J ds := by
  refine ⟨_, _, w, hG, fun Y s σ g' H i x H' l G0 y => ?_⟩
  obtain ⟨T, x1, y1, rfl, hT, rfl, h1, h2⟩ := y
  obtain ⟨d, e, h3, h4, h5⟩ := h i x1 y1 h1 h2
  obtain ⟨g2, l2, G2, r2⟩ := new_tup G0 (.cons (h4.le l.le) (.cons (h5.le l.le) .nil)) hT
  exact ⟨g2, _, l2, G2, h3, r2⟩
theorem wd_enum {a : Addr} {xs : List V} {ds : List D} (h : SqX C.K g.R a xs) (r : RpA C.K g.R xs ds) : WD C g (Ite C.K a) (enumD 0 ds) := by
  refine wd_pair (walk_len (walk_enum (K := C.K) (a := a) (xs := xs)) (by rw [enumD_len, r.length])) (fun H l => (SqX.le h l).sq) fun i x y h1 h2 => ?_
  cases h1
  obtain ⟨d, e2, rp⟩ := r.at h2
  exact ⟨_, d, by rw [enumD_get e2]; exact congrArg _ (by simp), .int _, rp⟩
theorem wd_zip {a b : Addr} {xs ys : List V} {ds es : List D} (h : SqX C.K g.R a xs) (r : RpA C.K g.R xs ds) (h' : SqX C.K g.R b ys) (r' : RpA C.K g.R ys es) : WD C g (Itz C.K a b) (zipD ds es) := by
  refine wd_pair (walk_len (walk_zip (K := C.K) (a := a) (b := b) (xs := xs) (ys := ys) rfl) (by rw [zipD_len, r.length, r'.length])) (fun H l => ⟨(SqX.le h l).sq, (SqX.le h' l).sq⟩) fun i x y h1 h2 => ?_
  obtain ⟨d, e1, rp⟩ := r.at h1
  obtain ⟨e, e2, rp2⟩ := r'.at h2
  exact ⟨d, e, zipD_get e1 e2, rp, rp2⟩

/-! ### iterators -/
variable {tg : Expr} {pp : Pos}
theorem pi_seq (ok : Ok C c G F n W X) (ha : PE X pa (Te C W ra)) : PI X tg pa (Ti C W fun s => (ra s).bind fun x s => seqO x.1 s) := by
  refine ⟨fun pins s σ H R I ⟨Y, g, s0, G0, q⟩ => ?_⟩
  dsimp only at q
  cases e : ra s0 with
  | bad => rw [e] at q; exact q.elim
  | exc x s1 =>
    rw [e] at q
    exact (pi_list ha).run pins s σ H R I ⟨Y, g, s0, G0, by rw [e]; exact q⟩
  | ok x s1 =>
    rw [e] at q
    obtain ⟨x, fr⟩ := x
    cases x with
    | drw => exact q.elim
    | fn f => exact q.elim
    | clo m cs => exact q.elim
    | d x =>
      cases x <;> first | (exact q.elim; done) | skip
      · refine (pi_list ha).run pins s σ H R I (Te.ok G0 e fun g2 v H' l G2 rv => ?_)
        cases rv with
        | lst h1 h2 => exact ⟨_, rfl, ⟨_, by rw [ok.eK]; exact (SqX.le h1 G2.le).sq⟩, Af.ok (s := s1) (Af.le q l) G2 _ (by rw [ok.eK]; exact wd_list h1 h2)⟩
      · refine (pi_tup ha).run pins s σ H R I (Te.ok G0 e fun g2 v H' l G2 rv => ?_)
        cases rv with
        | tup h1 h2 => exact ⟨_, rfl, ⟨_, by rw [ok.eK]; exact SqT.le h1 G2.le⟩, Af.ok (s := s1) (Af.le q l) G2 _ (by rw [ok.eK]; exact wd_tup h1 h2)⟩
theorem rng_ok {i : Int} (h : rngOk i = true) : -(2 ^ 62) ≤ i ∧ i < 2 ^ 62 := by simpa [rngOk] using h
theorem pi_rng1 (ok : Ok C c G F n W X) (hg : c.gl "range" = true) (ha : PE X pa (To C W (a, ra))) (hs : notStar pa = true) :
    PI X tg (.Call (.Name "range" pp) [pa] [] pos) (Ti C W fun s => op1 (a, ra) s fun x s => match x with
    | .int j => if rngOk j then .ok (rngI 0 j) s else .bad
    | _ => .bad) := by
  obtain ⟨g1, g2, g3⟩ := ok.hgl hg
  refine ⟨fun pins s σ H R I ⟨Y, g, s0, G0, q⟩ => (pi_range1 g1 (ok.bn _ (by decide +kernel)) (pa_cons ha pa_nil (star_cons hs)) (star_cons hs)).run pins s σ H R I ?_⟩
  refine op1_run G0 q fun v x s' g' H' l G' pv q => ?_
  cases x <;> first | (exact q.elim; done) | skip
  rename_i j
  simp only at q
  split at q <;> first | (exact q.elim; done) | skip
  rename_i hj
  obtain ⟨h1, h2⟩ := rng_ok hj
  have wd := wd_range (C := C) (g := g') (i := 0) (j := j)
  rw [show (j - 0).toNat = j.toNat from by simp] at wd
  exact ⟨j, by rw [pv.int], h1, h2, Af.ok (s := s') q G' _ wd⟩
theorem pi_rng2 (ok : Ok C c G F n W X) (hg : c.gl "range" = true) (ha : PE X pa (To C W (a, ra))) (hs : notStar pa = true) (hb : PE X pb (To C W (b, rb))) (hs2 : notStar pb = true) :
    PI X tg (.Call (.Name "range" pp) [pa, pb] [] pos) (Ti C W fun s => op2 (a, ra) (b, rb) s fun x y s => match x, y with
    | .int i, .int j => if rngOk i && rngOk j then .ok (rngI i j) s else .bad
    | _, _ => .bad) := by
  obtain ⟨g1, g2, g3⟩ := ok.hgl hg
  refine ⟨fun pins s σ H R I ⟨Y, g, s0, G0, q⟩ => (pi_range2 g1 (ok.bn _ (by decide +kernel)) (pa_cons ha (pa_cons hb pa_nil (star_cons hs2)) (star_cons hs)) (by rw [star_cons hs, star_cons hs2]; rfl) (star_cons hs2)).run pins s σ H R I ?_⟩
  refine op2_run G0 q fun v u x y s' g' H' l G' pv pu q => ?_
  cases x <;> first | (exact q.elim; done) | skip
  cases y <;> first | (exact q.elim; done) | skip
  rename_i i j
  simp only at q
  split at q <;> first | (exact q.elim; done) | skip
  rename_i hj
  rw [Bool.and_eq_true] at hj
  obtain ⟨h1, h2⟩ := rng_ok hj.1
  obtain ⟨h3, h4⟩ := rng_ok hj.2
  exact ⟨i, j, by rw [pv.int, pu.int], ⟨h1, h2, h3, h4⟩, Af.ok (s := s') q G' _ wd_range⟩
theorem pi_enumD (ok : Ok C c G F n W X) {es : List Expr} {k : Nat} {tp : Pos} (hg : c.gl "enumerate" = true) (ha : PE X pa (Te C W ra)) (hs : notStar pa = true) :
    PI X (.Tuple es k tp) (.Call (.Name "enumerate" pp) [pa] [] pos) (Ti C W fun s => (ra s).bind fun x s => match x.1 with
    | .d (.list l) => .ok (enumD 0 l) s
    | _ => .bad) := by
  obtain ⟨g1, g2, g3⟩ := ok.hgl hg
  refine ⟨fun pins s σ H R I ⟨Y, g, s0, G0, q⟩ => (pi_enum g1 (ok.bn _ (by decide +kernel)) (pa_cons ha pa_nil (star_cons hs)) (star_cons hs)).run pins s σ H R I ?_⟩
  refine Te.shared G0 (q.bind.mono fun x s' g' H' l G' q g2 v l2 G2 rv => ?_)
  obtain ⟨x, fr⟩ := x
  cases x with
  | drw => exact q.elim
  | fn f => exact q.elim
  | clo m cs => exact q.elim
  | d x =>
    cases x <;> first | (exact q.elim; done) | skip
    cases rv with
    | lst h1 h2 => exact ⟨_, _, rfl, by rw [ok.eK]; exact (SqX.le h1 G2.le).sq, Af.ok (s := s') (Af.le q l2) G2 _ (by rw [ok.eK]; exact wd_enum h1 h2)⟩
theorem pi_zipD (ok : Ok C c G F n W X) {es : List Expr} {k : Nat} {tp : Pos} (hg : c.gl "zip" = true) (ha : PE X pa (Te C W ra)) (hs : notStar pa = true) (hb : PE X pb (Te C W rb)) (hs2 : notStar pb = true) :
    PI X (.Tuple es k tp) (.Call (.Name "zip" pp) [pa, pb] [] pos) (Ti C W fun s => (evs [(a, ra), (b, rb)] s).bind fun x s => match x with
    | [.d (.list l), .d (.list q)] => .ok (zipD l q) s
    | _ => .bad) := by
  obtain ⟨g1, g2, g3⟩ := ok.hgl hg
  refine ⟨fun pins s σ H R I ⟨Y, g, s0, G0, q⟩ => (pi_zip g1 (ok.bn _ (by decide +kernel)) (pa_cons ha (pa_cons hb pa_nil (star_cons hs2)) (star_cons hs)) (star_cons hs) (star_any fun e he => by rw [List.mem_singleton.mp he]; exact hs2)).run pins s σ H R I ?_⟩
  refine evs_run [(a, ra), (b, rb)] G0 q.bind fun vs xs s' g' H' l G' q rv => ?_
  split at q <;> first | (exact q.elim; done) | skip
  cases rv with
  | cons r1 rv => cases rv with
    | cons r2 rv =>
      cases rv
      cases r1 with
      | lst h1 h2 => cases r2 with
        | lst h3 h4 => exact ⟨_, _, _, _, rfl, by rw [ok.eK]; exact (SqX.le h1 G'.le).sq, by rw [ok.eK]; exact (SqX.le h3 G'.le).sq, Af.ok (s := s') q G' _ (by rw [ok.eK]; exact wd_zip h1 h2 h3 h4)⟩

/-! ### own names of a block -/
theorem hide_env : ∀ {own : List Nat} {s : S} {j : Nat}, (hideS own s).env[j]? = if j ∈ own then (s.env[j]?).map (fun _ => .un) else s.env[j]?
  | [], s, j => by simp [hideS]
  | i :: own, s, j => by
    have ih := hide_env (own := own) (s := s.put i .un) (j := j)
    show (hideS own (s.put i .un)).env[j]? = _
    rw [ih]
    by_cases hj : i = j
    · subst hj
      simp only [S.put, List.getElem?_set]
      by_cases hl : i < s.env.length <;> by_cases hm : i ∈ own <;> simp [hl, hm]
    · have hj' : j ≠ i := fun z => hj z.symm
      simp only [S.put, List.getElem?_set_ne hj, List.mem_cons, hj', false_or]
theorem hide_len : ∀ {own : List Nat} {s : S}, (hideS own s).env.length = s.env.length
  | [], s => rfl
  | i :: own, s => by
    show (hideS own (s.put i .un)).env.length = _
    rw [hide_len (own := own)]; simp [S.put]
theorem hide_dr : ∀ {own : List Nat} {s : S}, (hideS own s).dr = s.dr
  | [], s => rfl
  | i :: own, s => hide_dr (own := own) (s := s.put i .un)
theorem back_env : ∀ {own : List Nat} {s0 s : S} {j : Nat}, (backS own s0 s).env[j]? = if j ∈ own then (s.env[j]?).map (fun _ => s0.at j) else s.env[j]?
  | [], s0, s, j => by simp [backS]
  | i :: own, s0, s, j => by
    have ih := back_env (own := own) (s0 := s0) (s := s.put i (s0.at i)) (j := j)
    show (backS own s0 (s.put i (s0.at i))).env[j]? = _
    rw [ih]
    by_cases hj : i = j
    · subst hj
      simp only [S.put, List.getElem?_set]
      by_cases hl : i < s.env.length <;> by_cases hm : i ∈ own <;> simp [hl, hm]
    · have hj' : j ≠ i := fun z => hj z.symm
      simp only [S.put, List.getElem?_set_ne hj, List.mem_cons, hj', false_or]
theorem back_len : ∀ {own : List Nat} {s0 s : S}, (backS own s0 s).env.length = s.env.length
  | [], s0, s => rfl
  | i :: own, s0, s => by
    show (backS own s0 (s.put i (s0.at i))).env.length = _
    rw [back_len (own := own)]; simp [S.put]
theorem back_dr : ∀ {own : List Nat} {s0 s : S}, (backS own s0 s).dr = s.dr
  | [], s0, s => rfl
  | i :: own, s0, s => back_dr (own := own) (s0 := s0) (s := s.put i (s0.at i))
theorem Good.hide {own : List Nat} (G0 : Good C Y g s σ H) : Good C Y g (hideS own s) (wipe σ own) H := by
  have ow : ∀ {i b}, Owns (hideS own s) (wipe σ own) i b → Owns s σ i b := fun {i b} ⟨⟨d, h1⟩, h2⟩ => by
    rw [hide_env] at h1
    split at h1
    · cases q : s.env[i]? <;> rw [q] at h1 <;> cases h1
    · rename_i hm
      rw [wipe_out hm] at h2
      exact ⟨⟨d, h1⟩, h2⟩
  refine ⟨G0.sub, G0.kp, G0.un, by rw [hide_len, wipe_length]; exact G0.len, fun i e y h1 h2 => ?_, fun i j b h1 h2 => G0.apart i j b (ow h1) (ow h2), by rw [hide_dr]; exact G0.dr, G0.ex⟩
  rw [hide_env] at h1
  split at h1
  · cases q : s.env[i]? <;> rw [q] at h1 <;> cases h1
    trivial
  · rename_i hm
    rw [wipe_out hm] at h2
    exact G0.slot i e y h1 h2
theorem Good.back {own : List Nat} {s1 : S} {H1 : Hp} (G1 : Good C Y g s1 σ H1) (l : GLe g g') (hf : ownFree own s1 = true) (G2 : Good C Y g' s (wipe σ own) H) : Good C Y g' (backS own s1 s) σ H := by
  have fr : ∀ {i e}, i ∈ own → s1.at i = e → (e = .un ∨ ∃ x, e = .va x) := fun {i e} hm he => by
    have := List.all_eq_true.mp hf i hm
    rw [he] at this
    cases e with
    | un => exact .inl rfl
    | va x => exact .inr ⟨x, rfl⟩
    | ow d => cases this
  have ow : ∀ {i b}, Owns (backS own s1 s) σ i b → Owns s (wipe σ own) i b := fun {i b} ⟨⟨d, h1⟩, h2⟩ => by
    rw [back_env] at h1
    split at h1
    · rename_i hm
      cases q : s.env[i]? with
      | none => rw [q] at h1; cases h1
      | some e0 =>
        rw [q] at h1
        rcases fr hm (Option.some.inj h1) with z | ⟨x, z⟩ <;> cases z
    · rename_i hm
      exact ⟨⟨d, h1⟩, by rw [wipe_out hm]; exact h2⟩
  refine ⟨G2.sub, G2.kp, G2.un, by rw [back_len, G2.len, wipe_length], fun i e y h1 h2 => ?_, fun i j b h1 h2 => G2.apart i j b (ow h1) (ow h2), by rw [back_dr]; exact G2.dr, G2.ex⟩
  rw [back_env] at h1
  split at h1
  · rename_i hm
    cases q : s.env[i]? with
    | none => rw [q] at h1; cases h1
    | some e0 =>
      rw [q] at h1
      rcases fr hm (Option.some.inj h1) with z | ⟨x, z⟩
      · subst z; trivial
      · subst z
        have h3 := at_env (Option.some.inj h1) (by simp)
        obtain ⟨v, e1, q⟩ := G1.slot i _ y h3 h2
        exact ⟨v, e1, q.le l⟩
  · rename_i hm
    exact G2.slot i e y h1 (by rw [wipe_out hm]; exact h2)
theorem wipe_same {own : List Nat} {σ2 : L2.St} {l : List Nat} (sb : SameBut l (wipe σ own) σ2) (hs : ∀ i ∈ l, i ∈ own) : wipe σ2 own = wipe σ own := by
  have hl : ∀ {own : List Nat} {σ : L2.St} {i : Nat}, i ∈ own → i < σ.length → (wipe σ own)[i]? = some none := by
    intro own
    induction own with
    | nil => intro σ i h; cases h
    | cons j own ih =>
      intro σ i h hi
      unfold wipe
      by_cases hj : j = i
      · subst hj
        rw [List.getElem?_set_self (by rw [wipe_length]; exact hi)]
      · rw [List.getElem?_set_ne hj]
        rcases List.mem_cons.mp h with z | z
        · exact absurd z.symm hj
        · exact ih z hi
  have e1 : σ2.length = σ.length := by rw [sb.1, wipe_length]
  apply List.ext_getElem?
  intro i
  by_cases hm : i ∈ own
  · by_cases hi : i < σ.length
    · rw [hl hm (by rw [e1]; exact hi), hl hm hi]
    · rw [List.getElem?_eq_none (by rw [wipe_length, e1]; omega), List.getElem?_eq_none (by rw [wipe_length]; omega)]
  · rw [wipe_out hm, sb.2 i fun z => hm (hs i z)]

/-! ### the list that a comprehension makes -/
def Fx.acc (Y : Fx) (D : Addr) (vs : List V) : Fx := ⟨fun a o => Y.kp a o ∨ (a = D ∧ o = .lst vs), fun a => Y.un a ∨ a = D, fun a o h => by
  rcases h with h | ⟨h, _⟩
  · rcases Y.ku a o h with z | z
    · exact .inl (.inl z)
    · exact .inr z
  · exact .inl (.inr h), fun a o h => by
  rcases h with h | ⟨_, h⟩
  · exact Y.kn a o h
  · rw [h]; exact fun z => z⟩
theorem Loose.acc {a D : Addr} {vs : List V} (h : Loose Y g a) (hn : a ≠ D) : Loose (Y.acc D vs) g a := ⟨fun o z => z.elim (h.kp o) fun z => hn z.1, fun z => z.elim h.un hn, h.R, h.dr⟩
theorem Loose.unacc {a D : Addr} {vs : List V} (h : Loose (Y.acc D vs) g a) : a ≠ D ∧ Loose Y g a := ⟨fun z => h.un (.inr z), fun o z => h.kp o (.inl z), fun z => h.un (.inl z), h.R, h.dr⟩
theorem OwnD.to {X' : Fx} {x : D} (h : OwnD C Y g H v x) (hk : ∀ a o, v = .ref a → H a = some o → Loose Y g a → H' a = some o ∧ Loose X' g a) : OwnD C X' g H' v x := by
  cases x <;> first | exact h.elim | skip
  · obtain ⟨a, xs, e, h1, h2, h3⟩ := h
    obtain ⟨k1, k2⟩ := hk a _ e h1 h3
    exact ⟨a, xs, e, k1, h2, k2⟩
  · obtain ⟨a, xs, e, h1, h2, h3⟩ := h
    obtain ⟨k1, k2⟩ := hk a _ e h1 h3
    exact ⟨a, xs, e, k1, h2, k2⟩
theorem SlotOk.to {X' : Fx} {e : Slot} {y : Option V} (h : SlotOk C Y g H e y) (hk : ∀ a o, H a = some o → Loose Y g a → H' a = some o ∧ Loose X' g a) : SlotOk C X' g H' e y := by
  cases e with
  | un => trivial
  | va x => exact h
  | ow d =>
    obtain ⟨v, e1, q⟩ := h
    exact ⟨v, e1, q.to fun a o _ h1 h2 => hk a o h1 h2⟩
theorem DrOk.to {X' : Fx} {dr : Option Dr} (h : DrOk C Y g dr H) (hk : ∀ a o, H a = some o → g.isDr a → H' a = some o) (hx : ∀ a o, g.isDr a → (∃ o, H a = some o) → (∀ o, ¬ Y.kp a o) → ¬ X'.kp a o) : DrOk C X' g dr H' := by
  unfold DrOk at *
  cases e : g.dr with
  | none => rw [e] at h; cases dr <;> exact h
  | some p =>
    rw [e] at h
    cases dr with
    | none => exact h
    | some st =>
      obtain ⟨h1, h2, h3, h4, h5, h6, h7, h8⟩ := h
      exact ⟨hk _ _ h1 ⟨p, e, .inl rfl⟩, hk _ _ h2 ⟨p, e, .inr rfl⟩, h3, h4, h5, h6, fun o => hx _ o ⟨p, e, .inl rfl⟩ ⟨_, h1⟩ h7, fun o => hx _ o ⟨p, e, .inr rfl⟩ ⟨_, h2⟩ h8⟩
theorem Good.acc0 {D : Addr} {vs : List V} (G0 : Good C Y g s σ H) (hD : H D = none) : Good C (Y.acc D vs) g s σ (upd H D (.lst vs)) := by
  have ne : ∀ {a o}, H a = some o → a ≠ D := fun {a o} e z => by rw [z, hD] at e; cases e
  have lf := G0.fresh hD
  refine ⟨fun a o e => ?_, fun a o k => ?_, fun a k => ?_, G0.len, fun i e y h1 h2 => (G0.slot i e y h1 h2).to fun a o h3 h4 => ⟨by rw [upd_ne (ne h3)]; exact h3, h4.acc (ne h3)⟩, G0.apart, G0.dr.to (fun a o h3 _ => by rw [upd_ne (ne h3)]; exact h3) (fun a o _ ⟨o', h3⟩ h4 z => z.elim (h4 o) fun z => ne h3 z.1), G0.ex.keep fun a o h3 _ => by rw [upd_ne (ne h3)]; exact h3⟩
  · have h3 := G0.sub a o e
    rw [upd_ne (ne h3)]; exact h3
  · rcases k with k | ⟨k1, k2⟩
    · have h3 := G0.kp a o k
      rw [upd_ne (ne h3)]; exact h3
    · rw [k1, k2]; exact upd_same
  · rcases k with k | k
    · obtain ⟨h3, h4⟩ := G0.un a k
      have : a ≠ D := fun z => h4 (by rw [z]; exact hD)
      rw [upd_ne this]; exact ⟨h3, h4⟩
    · rw [k]; exact ⟨lf.R, by rw [upd_same]; simp⟩
theorem Good.acc1 {D : Addr} {vs ws : List V} (G0 : Good C (Y.acc D vs) g s σ H) (hn : ∀ o, ¬ Y.kp D o) : Good C (Y.acc D ws) g s σ (upd H D (.lst ws)) := by
  obtain ⟨hR, _⟩ := G0.un D (.inr rfl)
  refine ⟨fun a o e => ?_, fun a o k => ?_, fun a k => ⟨(G0.un a k).1, ?_⟩, G0.len, fun i e y h1 h2 => (G0.slot i e y h1 h2).to fun a o h3 h4 => ?_, G0.apart, G0.dr.to (fun a o h3 hd => ?_) (fun a o hd _ h4 z => z.elim (fun z => h4 o (.inl z)) fun z => h4 _ (.inr ⟨z.1, rfl⟩)), G0.ex.keep fun a o h3 hx => by
    have : a ≠ D := fun z => by
      have q := G0.kp D _ (.inr ⟨rfl, rfl⟩)
      rw [z, q] at h3; cases h3; exact hx
    rw [upd_ne this]; exact h3⟩
  · have : a ≠ D := fun z => by rw [z, hR] at e; cases e
    rw [upd_ne this]; exact G0.sub a o e
  · rcases k with k | ⟨k1, k2⟩
    · have : a ≠ D := fun z => hn o (by rw [← z]; exact k)
      rw [upd_ne this]; exact G0.kp a o (.inl k)
    · rw [k1, k2]; exact upd_same
  · by_cases hD : a = D
    · rw [hD, upd_same]; simp
    · rw [upd_ne hD]; exact (G0.un a k).2
  · obtain ⟨n1, n2⟩ := h4.unacc
    exact ⟨by rw [upd_ne n1]; exact h3, n2.acc n1⟩
  · have : a ≠ D := fun z => (G0.drn hd).1 (.lst vs) (.inr ⟨z, rfl⟩)
    rw [upd_ne this]; exact h3
theorem Good.acc2 {D : Addr} {vs : List V} (G0 : Good C (Y.acc D vs) g s σ H) : Good C Y g s σ H :=
  ⟨G0.sub, fun a o k => G0.kp a o (.inl k), fun a k => G0.un a (.inl k), G0.len, fun i e y h1 h2 => (G0.slot i e y h1 h2).to fun a o h3 h4 => ⟨h3, h4.unacc.2⟩, G0.apart, G0.dr.to (fun a o h3 _ => h3) (fun a o _ _ h4 z => h4 o (.inl z)), G0.ex⟩
theorem Good.accRF {D : Addr} {vs : List V} {ds : List PyData} (G0 : Good C (Y.acc D vs) g s σ H) (hn : ∀ o, ¬ Y.kp D o) (hu : ¬ Y.un D) (r : RpA C.K g.R vs ds) {s2 : S} {σ2 : L2.St} (hs : ∀ i b, Owns s2 σ2 i b → Owns s σ i b) :
    RF C Y g s2 σ2 H (.ref D) (.d (.list ds), true) := by
  unfold RF
  rw [if_pos rfl]
  refine ⟨_, rfl, ⟨D, vs, rfl, G0.kp D _ (.inr ⟨rfl, rfl⟩), r, hn, hu, (G0.un D (.inr rfl)).1, fun hd => (G0.drn hd).1 (.lst vs) (.inr ⟨rfl, rfl⟩)⟩, fun i b e o => ?_⟩
  cases e
  obtain ⟨⟨d, h1⟩, h2⟩ := hs i _ o
  obtain ⟨v, e1, q⟩ := G0.slot i _ _ h1 h2
  obtain ⟨b, e2, l, _⟩ := q.addr
  cases e1; cases e2
  exact l.un (.inr rfl)

/-! ### a comprehension -/
theorem Ok.blk (ok : Ok C c G F n W X) {scope : Scope} {s : Shared} {H : Hp} {A : Addr} {cl : List (Str × Addr)} {fp : List Addr} : Ok C (c.blk scope) G F n noW (X.blk s H scope (compEnvC scope cl A X.env) fp) where
  eK := ok.eK
  eN := ok.eN
  esc := by
    show relS scope X.env.scope = relS scope c.sc
    rw [ok.esc]
  efn := rfl
  nd := ok.nd
  calm := ok.calm
  room := ok.room
  gd := ok.gd
  tk := LamX.takes0
  bn := ok.bn
  gc := ok.gc
  calls := ok.calls
  clos := fun h => by cases h
  lams := fun _ _ _ _ _ h => by cases h
theorem lc_calm {turn : D → S → Out (Option D)} (h : ∀ x s y s', turn x s ≠ .exc y s') : ∀ {xs acc : List D} {s : S} {y : Xc} {s' : S}, lcL turn xs acc s ≠ .exc y s'
  | [], _, _, _, _ => fun z => nomatch z
  | x :: r, acc, s, y, s' => fun z => by
    simp only [lcL] at z
    cases e : turn x s with
    | bad => rw [e] at z; cases z
    | exc y s' => exact h _ _ _ _ e
    | ok o s1 =>
      rw [e] at z
      simp only [Out.bind] at z
      cases o with
      | none => exact lc_calm h z
      | some d =>
        simp only at z
        split at z
        · exact lc_calm h z
        · cases z
theorem sim_lc (ok : Ok C c G F n W X) {t : Tg} {own : List Nat} {ownp : List (Str × Nat)} {ifs : List Pr} {e : Ex} {re : S → Out R} {elt tg iter : Expr} {qs : List Expr} {scope : Scope} {rit : S → Out (List D)}
    (hi : PI X tg iter (Ti C W rit)) (bo : BlkOk X.N X.env.scope scope ownp) (hown : ownp.map (·.2) = own) (hts : ∀ i ∈ t.slots, i ∈ own)
    (hb : ∀ X' : Cx, Ok C (c.blk scope) G F n noW X' → PG X' tg (gTg C t) ∧ PTs X' qs (Tts C noW ifs) ∧ PE X' elt (Te C noW re)) (hf : ∀ x, foldedSetIterable iter X.env x = pure x) :
    PE X (.ListComp elt [⟨tg, iter, qs, 0⟩] scope pos) (tLc (Ti C W rit) (gTg C t) (Tts C noW ifs) (Te C noW re) own) ∧
    ∀ σ H Q, Te C W (fun s => (rit s).bind fun xs s => if ownFree own s then
      (lcL (fun x s => (lcTurn t own ifs (e, re) x s).calm) xs [] (hideS own s)).bind fun ys s' => .ok (.d (.list ys), true) (backS own s s')
      else .bad) σ H Q → tLc (Ti C W rit) (gTg C t) (Tts C noW ifs) (Te C noW re) own σ H Q := by
  subst hown
  refine ⟨pe_lc ok.calm ok.nd hi bo (fun s H A cl fp => (hb _ ok.blk).1) (fun s H A cl fp => (hb _ ok.blk).2.1) (fun s H A cl fp => (hb _ ok.blk).2.2) hf, fun σ H Q ⟨Y, g, s, G0, q⟩ => ?_⟩
  generalize ownp.map (·.2) = own at *
  refine ⟨Y, g, s, G0, q.bind.mono fun xs s1 g1 H1 l1 G1 q J wd D hD => ?_⟩
  split at q <;> first | (exact q.elim; done) | skip
  rename_i hfree
  obtain ⟨Gd, Yd, w, hG, hY⟩ := wd
  cases hL : lcL (fun x s => (lcTurn t own ifs (e, re) x s).calm) xs [] (hideS own s1) with
  | bad => rw [hL] at q; exact q.elim
  | exc y s2 => exact absurd hL (lc_calm fun x s y s' z => by cases h : lcTurn t own ifs (e, re) x s <;> rw [h] at z <;> cases z)
  | ok ys sf =>
    rw [hL] at q
    have hn : ∀ o, ¬ Y.kp D o := fun o k => by rw [G1.kp D o k] at hD; cases hD
    have hu : ¬ Y.un D := fun k => (G1.un D k).2 hD
    refine lc_it w (fun i H => ∃ g' s' acc vacc, GLe g1 g' ∧ Good C (Y.acc D vacc) g' s' (wipe σ own) H ∧ RpA C.K g'.R vacc acc ∧ lcL (fun x s => (lcTurn t own ifs (e, re) x s).calm) (xs.drop i) acc s' = .ok ys sf)
      ⟨g1, hideS own s1, [], [], GLe.refl _, (G1.acc0 hD).hide, .nil, by simpa using hL⟩ (fun i H _ ⟨g', s', acc, vacc, l, G', _⟩ => hG H (l.le.trans G'.le)) (fun i x H H' hi ⟨g', s', acc, vacc, l, G', r, hl⟩ y => ?_)
      (fun H ⟨g', s', acc, vacc, l, G', r, hl⟩ => ?_)
    · obtain ⟨g2, d, l2, G2, e1, rp⟩ := hY _ _ _ _ _ i x H' l G' y
      have hdrop : xs.drop i = d :: xs.drop (i + 1) := by
        obtain ⟨h1, h2⟩ := List.getElem?_eq_some_iff.mp e1
        rw [List.drop_eq_getElem_cons h1, h2]
      rw [hdrop] at hl
      simp only [lcL] at hl
      cases ht : lcTurn t own ifs (e, re) d s' with
      | bad => rw [ht] at hl; cases hl
      | exc _ _ => rw [ht] at hl; cases hl
      | ok o s3 =>
        rw [ht] at hl
        simp only [Out.calm, Out.bind] at hl
        unfold lcTurn at ht
        cases hst : store t (.d d) false s' with
        | none => rw [hst] at ht; cases ht
        | some s4 =>
          rw [hst] at ht
          simp only at ht
          refine store_run G2 (RF.data rp) hst fun σ2 g3 l3 sb G3 => ⟨wipe_same sb hts, ?_⟩
          have ew := wipe_same sb hts
          cases hq : tsts ifs s4 with
          | bad => rw [hq] at ht; cases ht
          | exc _ _ => rw [hq] at ht; cases ht
          | ok b s5 =>
            rw [hq] at ht
            simp only [Out.bind] at ht
            refine ⟨_, g3, s4, G3, Af.okk hq fun g4 H4 l4 G4 => ?_⟩
            cases b with
            | false =>
              rw [if_neg Bool.false_ne_true] at ht ⊢
              cases ht
              simp only at hl
              have G5 := G4.hide (own := own)
              rw [ew] at G5
              exact ⟨g4, _, acc, vacc, l.trans (l2.trans (l3.trans l4)), G5, r.le (l2.trans (l3.trans l4)).le, hl⟩
            | true =>
              rw [if_pos rfl] at ht ⊢
              cases hr : re s5 with
              | bad => simp only [hr] at ht; cases ht
              | exc _ _ => simp only [hr] at ht; cases ht
              | ok rr s6 =>
                simp only [hr] at ht
                obtain ⟨rx, fr⟩ := rr
                cases rx with
                | drw => cases ht
                | fn f => cases ht
                | clo m cs => cases ht
                | d z =>
                  cases ht
                  simp only at hl
                  refine Te.ok G4 hr fun g6 v H6 l6 G6 rv => ⟨vacc, G6.kp D _ (.inr ⟨rfl, rfl⟩), ?_⟩
                  split at hl <;> first | (cases hl; done) | skip
                  rename_i hz
                  have ll := l2.trans (l3.trans (l4.trans l6))
                  refine ⟨by rw [r.length]; exact hz, g6, _, acc ++ [z], vacc ++ [v], l.trans ll, ?_, (r.le ll.le).snoc rv, hl⟩
                  have G7 := (G6.acc1 (ws := vacc ++ [v]) hn).hide (own := own)
                  rw [ew] at G7
                  exact G7
    · rw [List.drop_length] at hl
      simp only [lcL, Out.ok.injEq] at hl
      obtain ⟨rfl, rfl⟩ := hl
      have Gb := G1.back l hfree G'.acc2
      refine q g' H l Gb (.ref D) (G'.accRF hn hu r fun i b o => ?_)
      obtain ⟨⟨d, h1⟩, h2⟩ := o
      rw [back_env] at h1
      split at h1
      · rename_i hm
        cases q2 : s'.env[i]? with
        | none => rw [q2] at h1; cases h1
        | some e0 =>
          rw [q2] at h1
          have := List.all_eq_true.mp hfree i hm
          rw [show s1.at i = .ow d from Option.some.inj h1] at this
          cases this
      · rename_i hm
        exact ⟨⟨d, h1⟩, by rw [wipe_out hm]; exact h2⟩
end
end Pv
set_option maxHeartbeats 200000
set_option maxHeartbeats 4000000
/-! Pv: what is new and held while other things run; a name lets go. -/
namespace Pv
open PySem PySem.Spec PyProof.Rows L2

def Fx.hold (Y : Fx) (D : Addr) (w : HO) : Fx := ⟨fun a o => Y.kp a o ∨ (a = D ∧ o = w ∧ ¬ isTbl o), fun a => Y.un a ∨ a = D, fun a o h => by
  rcases h with h | ⟨h, _⟩
  · rcases Y.ku a o h with z | z
    · exact .inl (.inl z)
    · exact .inr z
  · exact .inl (.inr h), fun a o h => h.elim (Y.kn a o) fun z => z.2.2⟩
section
variable {C : Ct} {c : Cc} {G : List D} {F : CallF} {n : Nat} {W : WX} {X : Cx} {Y : Fx} {g g' : Gh} {s s' : S} {σ σ' : L2.St} {H H' : Hp} {v u : V} {w : HO} {a b : Addr}
theorem Loose.hold (h : Loose Y g b) (hn : b ≠ a) : Loose (Y.hold a w) g b := ⟨fun o z => z.elim (h.kp o) fun z => hn z.1, fun z => z.elim h.un hn, h.R, h.dr⟩
theorem Loose.unhold (h : Loose (Y.hold a w) g b) : b ≠ a ∧ Loose Y g b := ⟨fun z => h.un (.inr z), fun o z => h.kp o (.inl z), fun z => h.un (.inl z), h.R, h.dr⟩
/-- something new is held -/
theorem Good.hold (G0 : Good C Y g s σ H) (l : Loose Y g a) (hw : H a = some w) (no : ∀ i, ¬ Owns s σ i a) : Good C (Y.hold a w) g s σ H := by
  refine ⟨G0.sub, fun b o k => ?_, fun b k => ?_, G0.len, fun i e y h1 h2 => ?_, G0.apart, G0.dr.to (fun b o h3 _ => h3) (fun b o hd ⟨o', h3⟩ h4 z => z.elim (h4 o) fun z => l.dr (by rw [← z.1]; exact hd)), G0.ex⟩
  · rcases k with k | ⟨k1, k2, _⟩
    · exact G0.kp b o k
    · rw [k1, k2]; exact hw
  · rcases k with k | k
    · exact G0.un b k
    · rw [k]; exact ⟨l.R, by rw [hw]; simp⟩
  · have q := G0.slot i e y h1 h2
    cases e with
    | un => trivial
    | va x => exact q
    | ow d =>
      obtain ⟨v, e1, q⟩ := q
      refine ⟨v, e1, q.to fun b o hb h3 h4 => ⟨h3, h4.hold fun z => ?_⟩⟩
      subst e1 hb z
      exact no i ⟨⟨d, h1⟩, h2⟩
theorem Good.unhold (G0 : Good C (Y.hold a w) g s σ H) : Good C Y g s σ H :=
  ⟨G0.sub, fun a o k => G0.kp a o (.inl k), fun a k => G0.un a (.inl k), G0.len, fun i e y h1 h2 => (G0.slot i e y h1 h2).to fun a o h3 h4 => ⟨h3, h4.unhold.2⟩, G0.apart, G0.dr.to (fun a o h3 _ => h3) (fun a o _ _ h4 z => h4 o (.inl z)), G0.ex⟩
theorem Good.held (hn : ¬ isTbl w) (G0 : Good C (Y.hold a w) g s σ H) (l : Loose Y g' a) : H a = some w ∧ Loose Y g a ∧ ∀ i, ¬ Owns s σ i a := by
  refine ⟨G0.kp a w (.inr ⟨rfl, rfl, hn⟩), ⟨l.kp, l.un, (G0.un a (.inr rfl)).1, fun hd => (G0.drn hd).1 w (.inr ⟨rfl, rfl, hn⟩)⟩, fun i o => ?_⟩
  obtain ⟨⟨d, h1⟩, h2⟩ := o
  obtain ⟨v, e1, q⟩ := G0.slot i _ _ h1 h2
  obtain ⟨b, e2, l, _⟩ := q.addr
  cases e1; cases e2
  exact l.un (.inr rfl)
theorem Af.hold {A : Type} {o : Out A} {k : A → S → Gh → Hp → Prop} (h : Af C W Y g σ o k) : Af C W (Y.hold a w) g σ o k := by
  cases o with
  | ok x s => exact fun g' H' l G' => h g' H' l G'.unhold
  | exc x s => exact fun g' H' c l G' => h g' H' c l G'.unhold
  | bad => exact h

end
theorem Good.let_go {C : Ct} {Y : Fx} {g : Gh} {s : S} {σ : L2.St} {H : Hp} {v : V} {d : D} {i : Nat} (G0 : Good C Y g s σ H) (e1 : s.env[i]? = some (.ow d)) (e2 : σ[i]? = some (some v)) :
    Good C Y g (s.put i .un) σ H ∧ ∀ j a, v = .ref a → ¬ Owns (s.put i .un) σ j a := by
  have hi : i < s.env.length := (List.getElem?_eq_some_iff.mp e1).1
  have f : ∀ {j b}, Owns (s.put i .un) σ j b → j ≠ i ∧ Owns s σ j b := fun {j b} h => by
    obtain ⟨⟨d, h1⟩, h2⟩ := h
    by_cases hj : i = j
    · subst hj
      simp only [S.put, List.getElem?_set_self hi] at h1
      cases h1
    · simp only [S.put, List.getElem?_set_ne hj] at h1
      exact ⟨fun z => hj z.symm, ⟨d, h1⟩, h2⟩
  refine ⟨⟨G0.sub, G0.kp, G0.un, by simpa [S.put] using G0.len, fun j e y h1 h2 => ?_, fun j k b h1 h2 => G0.apart j k b (f h1).2 (f h2).2, G0.dr, G0.ex⟩, fun j a e o => ?_⟩
  · by_cases hj : i = j
    · subst hj
      simp only [S.put, List.getElem?_set_self hi] at h1
      cases h1
      trivial
    · simp only [S.put, List.getElem?_set_ne hj] at h1
      exact G0.slot j e y h1 h2
  · obtain ⟨n, o⟩ := f o
    subst e
    exact n (G0.apart j i a o ⟨⟨d, e1⟩, e2⟩)
end Pv
set_option maxHeartbeats 200000
set_option maxHeartbeats 4000000
/-! Pv: the draws: a dict that is changed by all that hold it. -/
namespace Pv
open PySem PySem.Spec PyProof.Rows L2
section
variable {C : Ct} {c : Cc} {G : List D} {F : CallF} {n : Nat} {W : WX} {X : Cx} {Y : Fx} {g g' : Gh} {s s' : S} {σ : L2.St} {H H' : Hp} {v u w : V} {p : Addr}
variable {a b d t : Ex} {pa pb pc pt : Expr} {pos : Pos} {ra rb rd rt : S → Out R}

def drK (l c : Addr) (st : Dr) : List (Key × V) := [(.inr "large", .ref l), (.inr "rest", .int st.rest), (.inr "cells", .ref c), (.inr "turn", .int st.turn)]
theorem shaped_ints (l : List Int) : SeqAt.shaped (.list (l.map PyData.int)) = true := by
  have h1 : ∀ l : List Int, PyData.canLayAll0 (l.map PyData.int) = true := fun l => by
    induction l with
    | nil => rfl
    | cons z l ih => simpa [PyData.canLayAll0, PyData.canLay0] using ih
  have h2 : ∀ l : List Int, PyData.depthAll (l.map PyData.int) ≤ 1 := fun l => by
    induction l with
    | nil => simp [PyData.depthAll]
    | cons z l ih => simpa [PyData.depthAll, PyData.depth] using ih
  unfold SeqAt.shaped
  have h3 := h2 l
  have h4 : PyData.depth (.list (l.map PyData.int)) = PyData.depthAll (l.map PyData.int) + 1 := by first | rfl | (simp [PyData.depth]; omega)
  rw [Bool.and_eq_true]
  exact ⟨by rw [PyData.canLay0]; exact h1 l, decide_eq_true (by omega)⟩
structure DrAt (C : Ct) (Y : Fx) (g : Gh) (s : S) (σ : L2.St) (H : Hp) (i : Nat) (a l c : Addr) (st : Dr) : Prop where
  nm : σ[i]? = some (some (.ref a))
  gd : g.dr = some (a, l, c)
  sd : s.dr = some st
  hd : H a = some (.dK (drK l c st))
  hl : H l = some (.lst (st.large.map V.int))
  hc : SqX C.K g.R c (st.cells.map V.int)
  ra : g.R a = none
  rl : g.R l = none
  ne : a ≠ l
  ka : ∀ o, ¬ Y.kp a o
  kl : ∀ o, ¬ Y.kp l o
theorem dr_at (G0 : Good C Y g s σ H) (i : Nat) : (∃ a l c st, DrAt C Y g s σ H i a l c st ∧ ∀ {A : Type} (f : Dr → S → Out A), drO i s f = f st s) ∨ ∀ {A : Type} (f : Dr → S → Out A), drO i s f = .bad := by
  cases e : look i s with
  | none => exact .inr fun f => by unfold drO; rw [e]
  | some x =>
    cases x with
    | d x => exact .inr fun f => by unfold drO; rw [e]
    | fn x => exact .inr fun f => by unfold drO; rw [e]
    | clo m cs => exact .inr fun f => by unfold drO; rw [e]
    | drw =>
      cases e2 : s.dr with
      | none => exact .inr fun f => by unfold drO; rw [e, e2]
      | some st =>
        obtain ⟨v, hv, pk⟩ := G0.look e
        rcases pk with ⟨q, h1, rfl⟩ | ⟨d, z, _⟩
        · obtain ⟨a, l, c⟩ := q
          have d := G0.dr
          unfold DrOk at d
          rw [h1, e2] at d
          obtain ⟨k1, k2, k3, k4, k5, k6, k7, k8⟩ := d
          exact .inl ⟨a, l, c, st, ⟨hv, h1, e2, k1, k2, k3, k4, k5, k6, k7, k8⟩, fun f => by unfold drO; rw [e, e2]⟩
        · cases z
theorem nk1 : ¬ (Sum.inr (Str.ofString "large") : Key) = .inr (Str.ofString "rest") := by decide
theorem nk2 : ¬ (Sum.inr (Str.ofString "large") : Key) = .inr (Str.ofString "cells") := by decide
theorem nk3 : ¬ (Sum.inr (Str.ofString "large") : Key) = .inr (Str.ofString "turn") := by decide
theorem nk4 : ¬ (Sum.inr (Str.ofString "rest") : Key) = .inr (Str.ofString "cells") := by decide
theorem nk5 : ¬ (Sum.inr (Str.ofString "rest") : Key) = .inr (Str.ofString "turn") := by decide
theorem nk6 : ¬ (Sum.inr (Str.ofString "cells") : Key) = .inr (Str.ofString "turn") := by decide
theorem val_large {l c : Addr} {st : Dr} : valV (drK l c st) (.inr "large") = some (.ref l) := valV_pos rfl
theorem val_rest {l c : Addr} {st : Dr} : valV (drK l c st) (.inr "rest") = some (.int st.rest) := (valV_neg nk1).trans (valV_pos rfl)
theorem val_cells {l c : Addr} {st : Dr} : valV (drK l c st) (.inr "cells") = some (.ref c) := (valV_neg nk2).trans ((valV_neg nk4).trans (valV_pos rfl))
theorem val_turn {l c : Addr} {st : Dr} : valV (drK l c st) (.inr "turn") = some (.int st.turn) := (valV_neg nk3).trans ((valV_neg nk5).trans ((valV_neg nk6).trans (valV_pos rfl)))
theorem dget_of {a : Addr} {kvs : List (Key × V)} {k : Str} {v : V} (e : H a = some (.dK kvs)) (h : valV kvs (.inr k) = some v) : DGet H a (.str k) (some v) := by
  rw [← h]; exact DGet.k (k := .inr k) e
theorem Good.drX {b : Addr} (G0 : Good C Y g s σ H) (hb : g.isDr b) : ∀ o, H b = some o → ¬ isX o := by
  intro o e
  obtain ⟨p, e1, z⟩ := hb
  have d := G0.dr
  unfold DrOk at d
  rw [e1] at d
  cases q : s.dr with
  | none => rw [q] at d; exact d.elim
  | some st =>
    rw [q] at d
    obtain ⟨d1, d2, _⟩ := d
    rcases z with z | z
    · rw [z, d1] at e; cases e; exact fun z => z
    · rw [z, d2] at e; cases e; exact fun z => z
/-- a change of the draws -/
theorem Good.draws {b : Addr} {o : HO} {st : Dr} (G0 : Good C Y g s σ H) (hb : g.isDr b) (hd : DrOk C Y g (some st) (upd H b o)) : Good C Y g { s with dr := some st } σ (upd H b o) := by
  obtain ⟨n1, n2⟩ := G0.drn hb
  refine ⟨fun x o' e => ?_, fun x o' k => ?_, fun x k => ⟨(G0.un x k).1, ?_⟩, G0.len, fun i e y h1 h2 => (G0.slot i e y h1 h2).to fun x o' h3 h4 => ⟨?_, h4⟩, G0.apart, hd, G0.ex.keep fun x o' e hx => by
    have : x ≠ b := fun z => G0.drX hb o' (z ▸ e) hx
    rw [upd_ne this]; exact e⟩
  · have : x ≠ b := fun z => by rw [z, n2] at e; cases e
    rw [upd_ne this]; exact G0.sub x o' e
  · have : x ≠ b := fun z => n1 o' (by rw [← z]; exact k)
    rw [upd_ne this]; exact G0.kp x o' k
  · by_cases hx : x = b
    · rw [hx, upd_same]; simp
    · rw [upd_ne hx]; exact (G0.un x k).2
  · have : x ≠ b := fun z => h4.dr (by rw [z]; exact hb)
    rw [upd_ne this]; exact h3
theorem DrAt.ok {i : Nat} {a l c : Addr} {st st' : Dr} {H' : Hp} (h : DrAt C Y g s σ H i a l c st) (h1 : H' a = some (.dK (drK l c st'))) (h2 : H' l = some (.lst (st'.large.map V.int))) (h3 : st'.cells = st.cells) : DrOk C Y g (some st') H' := by
  unfold DrOk
  rw [h.gd]
  exact ⟨h1, h2, by rw [h3]; exact h.hc, h.ra, h.rl, h.ne, h.ka, h.kl⟩
theorem sim_dk (ok : Ok C c G F n W X) {i : Nat} {k : Dk} {x : Str} {p1 p2 : Pos} {j : Nat} (hv : c.vis i x = true) :
    Si C W X (.dk i k) (fun s => drO i s fun st s => .ok (.d (st.get k), false) s) (.Subscript (.Name x p1) (.Constant (.str (dkN k)) j p2) pos) := by
  have hu : X.A.units + 1 < cLine := by have := ok.room.un; omega
  refine Si.of ok.eK (PE.weak (pe_dget hu (ok.var hv) pe_str (fun _ _ => by rfl)) fun σ H Q ⟨Y, g, s, G0, q⟩ => ?_) fun _ z => nomatch z
  dsimp only at q
  rcases dr_at G0 i with ⟨a, l, cc, st, h, e⟩ | e
  · rw [e] at q
    have fin : ∀ v, RV C g v (.d (st.get k)) → Q v H := fun v r => Af.ok (s := s) q G0 v (RF.of r)
    refine ⟨.ref a, h.nm, a, ?_⟩
    cases k with
    | rest => exact ⟨_, rfl, dget_of h.hd val_rest, fin _ (.int _)⟩
    | turn => exact ⟨_, rfl, dget_of h.hd val_turn, fin _ (.int _)⟩
    | cells => exact ⟨_, rfl, dget_of h.hd val_cells, fin _ (.lst h.hc (RpA.of_ints _))⟩
  · rw [e] at q; exact q.elim
theorem sim_dle (ok : Ok C c G F n W X) {i : Nat} {x : Str} {p1 p2 p3 p4 : Pos} {j : Nat} (hv : c.vis i x = true) :
    Si C W X (.dle i) (fun s => drO i s fun st s => .ok (.d (.bool (!st.large.isEmpty)), false) s) (.Compare (.Subscript (.Name x p1) (.Constant (.str "large") j p2) p3) [.NotEq] [.List [] p4] pos) := by
  have hu : X.A.units + 65 < cLine := by have := ok.room.un; omega
  have left := pe_dget (pos := p3) (by omega : X.A.units + 1 < cLine) (ok.var (pos := p1) hv) (pe_str (x := "large") (j := j) (pos := p2)) (fun _ _ => by rfl)
  have right : PE X (.List [] p4) _ := pe_lst pa_nil
  have go : ∀ {σ : L2.St} {H : Hp} {Q : VK} {Y : Fx} {g : Gh} {s : S} {k : R → S → Gh → Hp → Prop}, Good C Y g s σ H → Af C W Y g σ (drO i s fun st s => .ok ((.d (.bool (!st.large.isEmpty)), false) : R) s) k →
      (∀ b g' H', GLe g g' → Good C Y g' s σ H' → k (.d (.bool b), false) s g' H' → Q (.bl b) H') → (tDGet (tVar i) (tC (.str "large"))) σ H fun v H1 => (tLst tNil) σ H1 fun u H2 => rC X.K .ne v u H2 Q := fun {σ H Q Y g s k} G0 q hQ => by
    rcases dr_at G0 i with ⟨a, l, cc, st, h, e⟩ | e
    · rw [e] at q
      refine ⟨.ref a, h.nm, a, _, rfl, dget_of h.hd val_large, Nat.zero_le _, fun p hp => .inr ?_⟩
      have hl : upd H p (.lst []) l = some (.lst (st.large.map V.int)) := by
        rw [upd_ne fun z => by have := h.hl; rw [z, hp] at this; cases this]; exact h.hl
      have G1 := G0.alloc (o := .lst []) hp
      refine ⟨.list (st.large.map PyData.int), .list [], .lst (.inl (.inl hl)) ?_, .lst (.inl (.inl upd_same)) .nil, ?_, rfl, ?_⟩
      · have : ∀ l : List Int, DpAll X.K (upd H p (.lst [])) (l.map V.int) (l.map PyData.int) := fun l => by
          induction l with
          | nil => exact .nil
          | cons z l ih => exact .cons (.int z) ih
        exact this _
      · exact shaped_ints _
      · have e3 : (!PyData.eqv (.list (st.large.map PyData.int)) (.list [])) = !st.large.isEmpty := by
          cases st.large <;> rfl
        rw [e3]
        exact hQ _ g _ (GLe.refl g) G1 (q g _ (GLe.refl g) G1)
    · rw [e] at q; exact q.elim
  have pe : PE X (.Compare (.Subscript (.Name x p1) (.Constant (.str "large") j p2) p3) [.NotEq] [.List [] p4] pos) (Te C W fun s => drO i s fun st s => .ok (.d (.bool (!st.large.isEmpty)), false) s) :=
    PE.weak (pe_cmpR (op_cmp hu .ne) left right rfl) fun σ H Q ⟨Y, g, s, G0, q⟩ => go G0 q fun b g' H' l G' q => q _ (RF.data (.bl _))
  refine ⟨pe, pe_to pe (fun _ z => nomatch z), PT.weak (pt_cmpR (op_cmp hu .ne) left right rfl) fun σ H Q ⟨Y, g, s, G0, q⟩ => ?_⟩
  rw [tst_eq (e := .dle i) (fun _ z => nomatch z)] at q
  rcases dr_at G0 i with ⟨a, l, cc, st, h, e⟩ | e
  · rw [e] at q
    refine go (k := fun x s' g' H' => ∃ b, x.1 = .d (.bool b) ∧ Q b H') G0 (by rw [e]; exact fun g' H' l G' => ⟨_, rfl, q g' H' l G'⟩) fun b g' H' l G' ⟨b', e', q⟩ => ?_
    cases e'
    exact ⟨b, rfl, q⟩
  · rw [e] at q; exact q.elim
theorem sim_dpop (ok : Ok C c G F n W X) {i : Nat} {x : Str} {p1 p2 p3 p4 apos cpos : Pos} {j j2 : Nat} (hv : c.vis i x = true) (hl : (apos.endLine == cpos.line) = true) :
    Si C W X (.dpop i) (fun s => drO i s fun st s => match st.large with
    | x :: r => .ok (.d (.int x), false) { s with dr := some { st with large := r } }
    | [] => .bad) (.Call (.Attribute (.Subscript (.Name x p1) (.Constant (.str "large") j p2) p3) "pop" apos) [.Constant (.int 0) j2 p4] [] cpos) := by
  have hu : X.A.units + 1 < cLine := by have := ok.room.un; omega
  have left := pe_dget (pos := p3) hu (ok.var (pos := p1) hv) (pe_str (x := "large") (j := j) (pos := p2)) (fun _ _ => by rfl)
  have pe := pe_bm (es := []) (cpos := cpos) (apos := apos) PySem.F.plainAttrs_list PySem.F.slot_list_pop PySem.F.type_list_pop mt_popAt left (pa_cons (pe_int (i := 0) (j := j2) (pos := p4)) pa_nil) rfl rfl hl rfl rfl
  refine Si.of ok.eK (PE.weak pe fun σ H Q ⟨Y, g, s, G0, q⟩ => ?_) fun _ z => nomatch z
  dsimp only at q
  rcases dr_at G0 i with ⟨a, l, cc, st, h, e⟩ | e
  · rw [e] at q
    cases hg : st.large with
    | nil => rw [hg] at q; exact q.elim
    | cons z r =>
      rw [hg] at q
      have hh := h.hl
      rw [hg] at hh
      refine ⟨.ref a, h.nm, a, _, rfl, dget_of h.hd val_large, .inl ⟨rfl, _, .inl (.inl hh)⟩, l, _, 0, 0, .int z, rfl, rfl, hh, by decide, by decide, by simp [seqIndex?], rfl, ?_⟩
      have G1 := G0.draws (b := l) (o := .lst (r.map V.int)) (st := { st with large := r }) ⟨_, h.gd, .inr rfl⟩ (h.ok (st' := { st with large := r }) (by rw [upd_ne h.ne]; exact h.hd) upd_same rfl)
      exact Af.ok (s := { s with dr := some { st with large := r } }) q G1 _ (RF.data (.int z))
  · rw [e] at q; exact q.elim
theorem mk_merge {l c : Addr} : mergeK [] [((.inr "large" : Key), V.ref l), (.inr "rest", .int 0), (.inr "cells", .ref c), (.inr "turn", .int 0)] = drK l c ⟨[], 0, [], 0⟩ := by
  have n1 : ¬ Str.ofString "large" = Str.ofString "rest" := by decide
  have n2 : ¬ Str.ofString "large" = Str.ofString "cells" := by decide
  have n3 : ¬ Str.ofString "large" = Str.ofString "turn" := by decide
  have n4 : ¬ Str.ofString "rest" = Str.ofString "cells" := by decide
  have n5 : ¬ Str.ofString "rest" = Str.ofString "turn" := by decide
  have n6 : ¬ Str.ofString "cells" = Str.ofString "turn" := by decide
  simp [mergeK, putK, drK, n1, n2, n3, n4, n5, n6]
theorem sim_dmk (ok : Ok C c G F n W X) {l : Nat} {e : Ex} {re : S → Out R} {x : Str} {pe : Expr} {q1 q2 q3 q4 q5 q6 q7 : Pos} {j1 j2 j3 j4 j5 j6 : Nat} (hv : c.vis l x = true) (he : Si C W X e re pe) :
    Si C W X (.dmk l e) (fun s => match s.at l with
    | .ow (.list _) => (re s).bind fun x s => mkO l x.1 s
    | _ => .bad) (.Dict [some (.Constant (.str "large") j1 q1), some (.Constant (.str "rest") j2 q2), some (.Constant (.str "cells") j3 q3), some (.Constant (.str "turn") j4 q4)] [.Name x q5, .Constant (.int 0) j5 q6, pe, .Constant (.int 0) j6 q7] pos) := by
  have pd := pe_disp (X := X) (pos := pos) (pps_cons (pe_str (x := "large") (j := j1) (pos := q1)) (ok.var (pos := q5) hv) (pps_cons (pe_str (x := "rest") (j := j2) (pos := q2)) (pe_int (i := 0) (j := j5) (pos := q6))
    (pps_cons (pe_str (x := "cells") (j := j3) (pos := q3)) he.pe (pps_cons (pe_str (x := "turn") (j := j4) (pos := q4)) (pe_int (i := 0) (j := j6) (pos := q7)) pps_nil)))) rfl rfl (by simp) (by simp)
  refine Si.of ok.eK (PE.weak pd fun σ H Q ⟨Y, g, s, G0, q⟩ => ?_) fun _ z => nomatch z
  dsimp only at q
  obtain ⟨l0, e0, q⟩ : ∃ l0, s.at l = .ow (.list l0) ∧ Af C W Y g σ ((re s).bind fun x s => mkO l x.1 s) fun x s' g' H' => ∀ v, RF C Y g' s' σ H' v x → Q v H' := by
    split at q
    · rename_i l0 e0; exact ⟨l0, e0, q⟩
    · exact q.elim
  obtain ⟨a0, xs0, ho, _, _, _⟩ := own_at G0 e0
  intro p hp
  have lo := G0.fresh hp
  have no : ∀ i, ¬ Owns s σ i p := fun i ⟨⟨d, h1⟩, h2⟩ => by
    obtain ⟨v, e1, z⟩ := G0.slot i _ _ h1 h2
    obtain ⟨b, e2, _, o, hb⟩ := z.addr
    cases e1; cases e2
    rw [hp] at hb; cases hb
  have G1 := (G0.alloc (o := .dK []) hp).hold (a := p) lo upd_same no
  refine ⟨.ref a0, ho, Te.shared G1 (q.bind.hold.mono fun y s3 g3 H3 l3 G3 q0 g4 v l4 G4 rv => ?_)⟩
  have q := q0.le l4
  obtain ⟨k1, k2, k3⟩ := G4.held (w := .dK []) (fun z => z) lo
  refine ⟨k1, ?_⟩
  unfold mkO at q
  cases e1 : s3.at l with
  | un => rw [e1] at q; exact q.elim
  | va z => rw [e1] at q; exact q.elim
  | ow z =>
    obtain ⟨yv, yf⟩ := y
    rw [e1] at q
    cases hdr : s3.dr with
    | some st => rw [hdr] at q; cases z <;> cases yv <;> first | (exact q.elim; done) | skip; rename_i d; cases d <;> exact q.elim
    | none =>
      rw [hdr] at q
      cases z with
      | list lg =>
        cases yv with
        | drw => exact q.elim
        | fn f => exact q.elim
        | clo m cs => exact q.elim
        | d yd =>
          cases yd <;> first | (exact q.elim; done) | skip
          rename_i cs
          simp only at q
          cases ea : asInts lg with
          | none => rw [ea] at q; exact q.elim
          | some ls =>
            cases eb : asInts cs with
            | none => rw [ea, eb] at q; exact q.elim
            | some ns =>
              rw [ea, eb] at q
              obtain ⟨a, xs, m1, m2, m3, m4, m5⟩ := own_at G4.unhold e1
              obtain rfl : a0 = a := by rw [ho] at m1; cases m1; rfl
              have hx := m4.ints ea
              have rv' : Rp C.K g4.R v (.list cs) := rv
              cases rv' with
              | lst h1 h2 =>
                rename_i cc ys
                have hy := h2.ints eb
                subst hx hy
                obtain ⟨G5, n5⟩ := G4.unhold.let_go m2 ho
                have gn : g4.dr = none := by
                  have d := G4.dr
                  unfold DrOk at d
                  rw [hdr] at d
                  cases z : g4.dr with
                  | none => rfl
                  | some _ => rw [z] at d; exact d.elim
                have hpa : p ≠ a0 := fun z => k3 l ⟨⟨_, m2⟩, by rw [z]; exact ho⟩
                refine ⟨[(.inr "large", .ref a0), (.inr "rest", .int 0), (.inr "cells", .ref cc), (.inr "turn", .int 0)], rfl, by simp, ?_⟩
                rw [mk_merge]
                let g6 : Gh := { g4 with dr := some (p, a0, cc) }
                have l6 : GLe g4 g6 := ⟨Le.refl _, fun q z => by rw [gn] at z; cases z⟩
                have G6 : Good C Y g6 { env := (s3.put l .un).env, dr := some ⟨ls, 0, ns, 0⟩ } σ (upd H3 p (.dK (drK a0 cc ⟨[], 0, [], 0⟩))) := by
                  refine ⟨fun b o z => ?_, fun b o z => ?_, fun b z => ⟨(G5.un b z).1, ?_⟩, G5.len, fun i e y z1 z2 => ?_, G5.apart, ?_, G5.ex.to l6 G5.ex.t.rt fun b o z hx => by
                    have : b ≠ p := fun z' => by rw [z', k1] at z; cases z; exact hx
                    rw [upd_ne this]; exact z⟩
                  · have : b ≠ p := fun z' => by rw [z'] at z; have := k2.R; rw [this] at z; cases z
                    rw [upd_ne this]; exact G5.sub b o z
                  · have : b ≠ p := fun z' => k2.kp o (by rw [← z']; exact z)
                    rw [upd_ne this]; exact G5.kp b o z
                  · have : b ≠ p := fun z' => k2.un (by rw [← z']; exact z)
                    rw [upd_ne this]; exact (G5.un b z).2
                  · have z3 := G5.slot i e y z1 z2
                    cases e with
                    | un => trivial
                    | va x => obtain ⟨v, e1, z3⟩ := z3; exact ⟨v, e1, z3.le l6⟩
                    | ow d =>
                      obtain ⟨v, e1, z3⟩ := z3
                      refine ⟨v, e1, ?_⟩
                      have nb : ∀ b, v = .ref b → b ≠ p ∧ b ≠ a0 := fun b eb => by
                        subst e1 eb
                        refine ⟨fun z' => ?_, fun z' => ?_⟩
                        · obtain ⟨b', e2, lb, _⟩ := z3.addr
                          have : Owns s3 σ i p := by
                            have hil : i ≠ l := fun zz => by
                              subst zz
                              simp only [S.put, List.getElem?_set_self ((List.getElem?_eq_some_iff.mp m2).1)] at z1
                              cases z1
                            simp only [S.put, List.getElem?_set_ne (Ne.symm hil)] at z1
                            exact ⟨⟨d, z1⟩, by rw [← z']; exact z2⟩
                          exact k3 i this
                        · exact n5 i a0 rfl ⟨⟨d, z1⟩, by rw [← z']; exact z2⟩
                      have z4 : OwnD C Y g6 (upd H3 p (.dK (drK a0 cc ⟨[], 0, [], 0⟩))) v d := by
                        cases d <;> first | exact z3.elim | skip
                        · obtain ⟨b, xs, w1, w2, w3, w4⟩ := z3
                          obtain ⟨b1, b2⟩ := nb b w1
                          exact ⟨b, xs, w1, by rw [upd_ne b1]; exact w2, w3, w4.kp, w4.un, w4.R, fun ⟨q, y1, y2⟩ => by cases y1; rcases y2 with y | y; exact b1 y; exact b2 y⟩
                        · obtain ⟨b, xs, w1, w2, w3, w4⟩ := z3
                          obtain ⟨b1, b2⟩ := nb b w1
                          exact ⟨b, xs, w1, by rw [upd_ne b1]; exact w2, w3, w4.kp, w4.un, w4.R, fun ⟨q, y1, y2⟩ => by cases y1; rcases y2 with y | y; exact b1 y; exact b2 y⟩
                      exact z4
                  · show DrOk C Y g6 (some ⟨ls, 0, ns, 0⟩) _
                    exact ⟨upd_same, by rw [upd_ne (Ne.symm hpa)]; exact m3, h1, k2.R, m5.R, hpa, k2.kp, m5.kp⟩
                exact q g6 _ l6 G6 (.ref p) (RF.of ⟨_, rfl, rfl⟩)
      | _ => exact q.elim
end
end Pv
set_option maxHeartbeats 200000
set_option maxHeartbeats 4000000
/-! Pv: every expression that is checked runs as the evaluator tells. -/
namespace Pv
open PySem PySem.Spec PyProof.Rows L2

def Sj (C : Ct) (W : WX) (X : Cx) (e : Ex) (r : S → Out R) (p : Expr) : Prop := Si C W X e r p ∧ ∀ op l pos, p = .BoolOp op l pos → PW X p (Tt C W (e, r))
section
variable {C : Ct} {c : Cc} {G : List D} {F : CallF} {n : Nat} {W : WX} {X : Cx} {e : Ex} {r : S → Out R} {p : Expr}
theorem Si.j (h : Si C W X e r p) (hn : ∀ op l pos, p ≠ .BoolOp op l pos) : Sj C W X e r p := ⟨h, fun op l pos z => absurd z (hn op l pos)⟩
theorem load_of (e : Ex) : ∀ i, e = .v i → ev G F e = load i := fun i z => by subst z; rfl
theorem fns_of {f : Nat} {x : Str} (h : (match c.M.fns[f]? with | some q => decide (q.1 = x) | none => false) = true) : ∃ prs, c.M.fns[f]? = some (x, prs) := by
  cases e : c.M.fns[f]? with
  | none => rw [e] at h; cases h
  | some q =>
    rw [e] at h
    simp only [decide_eq_true_eq] at h
    exact ⟨q.2, by rw [← h]⟩
def notSet : Expr → Bool
  | .Set .. => false
  | _ => true
theorem chk_set : ∀ {e : Ex} {p : Expr}, chk c e p = true → notSet p = true := fun {e p} h => by
  cases p <;> first | rfl | (exfalso; cases e <;> simp [chk] at h)
theorem nofold : ∀ {it : It} {tg p : Expr} {env : Env}, chkIt c it tg p = true → ∀ x, foldedSetIterable p env x = pure x := fun {it tg p env} h x => by
  cases p <;> first | rfl | skip
  exfalso
  cases it with
  | seq a => exact Bool.noConfusion (chk_set (show chk c a _ = true from h))
  | rng1 a => unfold chkIt at h; cases h
  | rng2 a b => unfold chkIt at h; cases h
  | enum a => unfold chkIt at h; cases tg <;> cases h
  | zip a b => unfold chkIt at h; cases tg <;> cases h
theorem each_len : ∀ {l : List Ex}, (evEach G F l).length = l.length
  | [] => rfl
  | _ :: l => by simp [evEach, each_len (l := l)]
theorem chk_gap {e : Ex} {p : Expr} (h : chk c e p = true) : True := trivial
theorem gap_ev : ∀ {e : Ex}, e.gap = true → ev G F e = fun s => .ok (.d .none, false) s := fun {e} h => by
  cases e <;> first | (cases h; done) | skip
  rename_i d
  cases d <;> first | (cases h; done) | rfl
theorem marks_of {q : Expr} {o : CmpOp} (h : chk c e q = true) : behindInMarks o q = false := by
  have := chk_set h
  cases q <;> first | rfl | cases this

variable {a b d t : Ex}
abbrev Hy (C : Ct) (c : Cc) (W : WX) (X : Cx) (G : List D) (F : CallF) (e : Ex) : Prop := ∀ p, chk c e p = true → Sj C W X e (ev G F e) p
theorem c_v (ok : Ok C c G F n W X) {i : Nat} (h : chk c (.v i) p = true) : Sj C W X (.v i) (ev G F (.v i)) p := by
  cases p <;> first | (exfalso; simp [chk] at h; done) | skip
  simp only [chk] at h
  exact (sim_v ok h).j fun _ _ _ z => nomatch z
theorem c_c (ok : Ok C c G F n W X) {x : D} (h : chk c (.c x) p = true) : Sj C W X (.c x) (ev G F (.c x)) p := by
  cases p <;> first | (exfalso; simp [chk] at h; done) | skip
  simp only [chk] at h
  exact (sim_c ok h).j fun _ _ _ z => nomatch z
theorem c_g (ok : Ok C c G F n W X) {i : Nat} (h : chk c (.g i) p = true) : Sj C W X (.g i) (ev G F (.g i)) p := by
  cases p <;> first | (exfalso; simp [chk] at h; done) | skip
  simp only [chk, Bool.and_eq_true, decide_eq_true_eq] at h
  exact (sim_g ok h.1 h.2).j fun _ _ _ z => nomatch z
theorem c_fn (ok : Ok C c G F n W X) {i : Nat} (h : chk c (.fn i) p = true) : Sj C W X (.fn i) (ev G F (.fn i)) p := by
  cases p <;> first | (exfalso; simp [chk] at h; done) | skip
  simp only [chk, Bool.and_eq_true] at h
  obtain ⟨prs, hf⟩ := fns_of h.1
  exact (sim_fn ok hf h.2).j fun _ _ _ z => nomatch z
theorem c_bin (ok : Ok C c G F n W X) {o : Bop} (ha : Hy C c W X G F a) (hb : Hy C c W X G F b) (h : chk c (.bin o a b) p = true) : Sj C W X (.bin o a b) (ev G F (.bin o a b)) p := by
  cases p <;> first | (exfalso; simp [chk] at h; done) | skip
  simp only [chk, Bool.and_eq_true, decide_eq_true_eq] at h
  obtain ⟨⟨rfl, h1⟩, h2⟩ := h
  exact (sim_bin ok (ha _ h1).1 (hb _ h2).1).j fun _ _ _ z => nomatch z
theorem c_neg (ok : Ok C c G F n W X) (ha : Hy C c W X G F a) (h : chk c (.neg a) p = true) : Sj C W X (.neg a) (ev G F (.neg a)) p := by
  cases p <;> first | (exfalso; simp [chk] at h; done) | skip
  rename_i o q pos
  cases o <;> first | (exfalso; simp [chk] at h; done) | skip
  simp only [chk] at h
  exact (sim_neg ok (ha _ h).1).j fun _ _ _ z => nomatch z
theorem c_no (ok : Ok C c G F n W X) (ha : Hy C c W X G F a) (h : chk c (.no a) p = true) : Sj C W X (.no a) (ev G F (.no a)) p := by
  cases p <;> first | (exfalso; simp [chk] at h; done) | skip
  rename_i o q pos
  cases o <;> first | (exfalso; simp [chk] at h; done) | skip
  simp only [chk] at h
  exact (sim_no ok (ha _ h).1).j fun _ _ _ z => nomatch z
theorem c_cmp (ok : Ok C c G F n W X) {o : Cop} (ha : Hy C c W X G F a) (hb : Hy C c W X G F b) (h : chk c (.cmp o a b) p = true) : Sj C W X (.cmp o a b) (ev G F (.cmp o a b)) p := by
  cases p <;> first | (exfalso; simp [chk] at h; done) | skip
  rename_i q os qs pos
  rcases os with _ | ⟨o1, _ | ⟨o2, os⟩⟩ <;> rcases qs with _ | ⟨q1, _ | ⟨q2, qs⟩⟩ <;> first | (exfalso; simp [chk] at h; done) | skip
  simp only [chk, Bool.and_eq_true, decide_eq_true_eq] at h
  obtain ⟨⟨rfl, h1⟩, h2⟩ := h
  exact (sim_cmp ok (ha _ h1).1 (hb _ h2).1 (marks_of h2)).j fun _ _ _ z => nomatch z
theorem c_chain (ok : Ok C c G F n W X) {o o' : Cop} (ha : Hy C c W X G F a) (hb : Hy C c W X G F b) (hd : Hy C c W X G F d) (h : chk c (.chain o o' a b d) p = true) : Sj C W X (.chain o o' a b d) (ev G F (.chain o o' a b d)) p := by
  cases p <;> first | (exfalso; simp [chk] at h; done) | skip
  rename_i q os qs pos
  rcases os with _ | ⟨o1, _ | ⟨o2, _ | ⟨o3, os⟩⟩⟩ <;> rcases qs with _ | ⟨q1, _ | ⟨q2, _ | ⟨q3, qs⟩⟩⟩ <;> first | (exfalso; simp [chk] at h; done) | skip
  simp only [chk, Bool.and_eq_true, decide_eq_true_eq] at h
  obtain ⟨⟨⟨⟨⟨⟨rfl, rfl⟩, _⟩, _⟩, h1⟩, h2⟩, h3⟩ := h
  exact (sim_chain ok (ha _ h1).1 (hb _ h2).1 (hd _ h3).1 (marks_of h3)).j fun _ _ _ z => nomatch z
theorem c_and (ok : Ok C c G F n W X) (ha : Hy C c W X G F a) (hb : Hy C c W X G F b) (h : chk c (.and a b) p = true) : Sj C W X (.and a b) (ev G F (.and a b)) p := by
  cases p <;> first | (exfalso; simp [chk] at h; done) | skip
  rename_i o l pos
  cases o <;> first | (exfalso; simp [chk] at h; done) | skip
  rcases l with _ | ⟨p1, _ | ⟨p2, _ | ⟨p3, l⟩⟩⟩ <;> first | (exfalso; simp [chk] at h; done) | skip
  · simp only [chk, Bool.and_eq_true] at h
    have h2 := (hb _ h.2).1
    have si := sim_and (pos := pos) ok (load_of a) (load_of b) (ha _ h.1).1 (pe_one h2.pe) (pw_and1 h2.pt)
    refine ⟨si, fun op l p' z => ?_⟩
    cases z
    exact sim_andW ok (load_of a) (load_of b) (ha _ h.1).1 (pw_and1 h2.pt)
  · simp only [chk, Bool.and_eq_true] at h
    have h2 := hb _ h.2
    refine ⟨sim_and ok (load_of a) (load_of b) (ha _ h.1).1 h2.1.pe (h2.2 _ _ _ rfl), fun op l p' z => ?_⟩
    cases z
    exact sim_andW ok (load_of a) (load_of b) (ha _ h.1).1 (h2.2 _ _ _ rfl)
theorem c_or (ok : Ok C c G F n W X) (ha : Hy C c W X G F a) (hb : Hy C c W X G F b) (h : chk c (.or a b) p = true) : Sj C W X (.or a b) (ev G F (.or a b)) p := by
  cases p <;> first | (exfalso; simp [chk] at h; done) | skip
  rename_i o l pos
  cases o <;> first | (exfalso; simp [chk] at h; done) | skip
  rcases l with _ | ⟨p1, _ | ⟨p2, _ | ⟨p3, l⟩⟩⟩ <;> first | (exfalso; simp [chk] at h; done) | skip
  · simp only [chk, Bool.and_eq_true] at h
    have h2 := (hb _ h.2).1
    have si := sim_or (pos := pos) ok (load_of a) (load_of b) (ha _ h.1).1 (pe_one h2.pe) (pw_or1 h2.pt)
    refine ⟨si, fun op l p' z => ?_⟩
    cases z
    exact sim_orW ok (load_of a) (load_of b) (ha _ h.1).1 (pw_or1 h2.pt)
  · simp only [chk, Bool.and_eq_true] at h
    have h2 := hb _ h.2
    refine ⟨sim_or ok (load_of a) (load_of b) (ha _ h.1).1 h2.1.pe (h2.2 _ _ _ rfl), fun op l p' z => ?_⟩
    cases z
    exact sim_orW ok (load_of a) (load_of b) (ha _ h.1).1 (h2.2 _ _ _ rfl)
theorem c_ite (ok : Ok C c G F n W X) (ht : Hy C c W X G F t) (ha : Hy C c W X G F a) (hb : Hy C c W X G F b) (h : chk c (.ite t a b) p = true) : Sj C W X (.ite t a b) (ev G F (.ite t a b)) p := by
  cases p <;> first | (exfalso; simp [chk] at h; done) | skip
  simp only [chk, Bool.and_eq_true] at h
  obtain ⟨⟨h0, h1⟩, h2⟩ := h
  exact (sim_ite ok (ht _ h0).1 (ha _ h1).1 (hb _ h2).1 (load_of a) (load_of b)).j fun _ _ _ z => nomatch z
abbrev Hys (C : Ct) (c : Cc) (W : WX) (X : Cx) (G : List D) (F : CallF) (l : List Ex) : Prop := ∀ ps, chks c l ps = true → ∀ q ∈ (evEach G F l).zip ps, Si C W X q.1.1 q.1.2 q.2
theorem args_of {l : List Ex} {ps : List Expr} (hl : Hys C c W X G F l) (h : chks c l ps = true) : PA X ps (Tes C W (evEach G F l)) :=
  pa_of (fun q hq => (hl ps h q hq).pe) (by rw [each_len]; exact chks_len h) (chks_star h)
theorem oprs_of {l : List Ex} {ps : List Expr} (hl : Hys C c W X G F l) (h : chks c l ps = true) : PA X ps (Tos C W (evEach G F l)) :=
  pao_of (fun q hq => (hl ps h q hq).to) (by rw [each_len]; exact chks_len h) (chks_star h)
theorem c_call (ok : Ok C c G F n W X) {f : Nat} {l : List Ex} (hl : Hys C c W X G F l) (h : chk c (.call f l) p = true) : Sj C W X (.call f l) (ev G F (.call f l)) p := by
  cases p <;> first | (exfalso; simp [chk] at h; done) | skip
  rename_i fe ps kw pos
  cases fe <;> cases kw <;> first | (exfalso; simp [chk] at h; done) | skip
  simp only [chk, Bool.and_eq_true] at h
  obtain ⟨⟨h1, h2⟩, h3⟩ := h
  obtain ⟨prs, hf⟩ := fns_of h1
  cases ps with
  | nil =>
    cases l with
    | nil => exact (sim_call0 ok hf h2).j fun _ _ _ z => nomatch z
    | cons _ _ => simp [chks] at h3
  | cons q ps => exact (sim_call ok hf h2 (args_of hl h3) (chks_star h3)).j fun _ _ _ z => nomatch z
theorem zip_vals : ∀ {l : List Pr} {ks : List Keyword}, ∀ q ∈ l.zip ks, (q.1, q.2.value) ∈ l.zip (ks.map (·.value))
  | [], _, q, hq => by simp at hq
  | _ :: _, [], q, hq => by simp at hq
  | a :: l, k :: ks, q, hq => by
    simp only [List.zip_cons_cons, List.map_cons, List.mem_cons] at hq ⊢
    rcases hq with rfl | hq
    · exact .inl rfl
    · exact .inr (zip_vals q hq)
theorem c_kcall (ok : Ok C c G F n W X) {f : Nat} {l k : List Ex} {pm : List Nat} (hl : Hys C c W X G F l) (hk : Hys C c W X G F k) (h : chk c (.kcall f l k pm) p = true) : Sj C W X (.kcall f l k pm) (ev G F (.kcall f l k pm)) p := by
  cases p <;> first | (exfalso; simp [chk] at h; done) | skip
  rename_i fe ps kw pos
  cases fe <;> cases kw <;> first | (exfalso; simp [chk] at h; done) | skip
  rename_i x xp kw kws
  simp only [chk, Bool.and_eq_true] at h
  obtain ⟨⟨⟨⟨h1, h2⟩, h3⟩, h4⟩, h5⟩ := h
  obtain ⟨prs, hf⟩ := fns_of h1
  cases e : kwN (kw :: kws) with
  | none => rw [e] at h5; cases h5
  | some ks =>
    rw [e] at h5
    simp only [decide_eq_true_eq] at h5
    exact (sim_kcall ok hf h2 (args_of hl h3) (chks_star h3) (pk_of (fun q hq => (hk _ h4 _ (zip_vals q hq)).pe) (by rw [each_len, chks_len h4]; simp)) e
      (by rw [each_len]; exact chks_len h3) (by rw [each_len, chks_len h4]; simp) (by rw [each_len]; exact h5)).j fun _ _ _ z => nomatch z
theorem c_bi (ok : Ok C c G F n W X) {o : Bi} {l : List Ex} (hl : Hys C c W X G F l) (h : chk c (.bi o l) p = true) : Sj C W X (.bi o l) (ev G F (.bi o l)) p := by
  cases p <;> first | (exfalso; simp [chk] at h; done) | skip
  rename_i fe ps kw pos
  cases fe <;> cases ps <;> cases kw <;> first | (exfalso; simp [chk] at h; done) | skip
  simp only [chk, Bool.and_eq_true, decide_eq_true_eq] at h
  obtain ⟨⟨rfl, h2⟩, h3⟩ := h
  exact (sim_bi ok (oprs_of hl h3) h2 (chks_star h3)).j fun _ _ _ z => nomatch z
theorem one_of {x : Str} {q : Expr} (h : one1 c x q = true) : ∃ pos, q = .Name x pos ∧ c.gl x = true := by
  cases q <;> first | (cases h; done) | skip
  simp only [one1, Bool.and_eq_true, decide_eq_true_eq] at h
  obtain ⟨rfl, h⟩ := h
  exact ⟨_, rfl, h⟩
theorem c_isi (ok : Ok C c G F n W X) {l : List Ty} (ha : Hy C c W X G F a) (h : chk c (.isi a l) p = true) : Sj C W X (.isi a l) (ev G F (.isi a l)) p := by
  cases p <;> first | (exfalso; simp [chk] at h; done) | skip
  rename_i fe ps kw pos
  rcases ps with _ | ⟨p1, _ | ⟨p2, _ | ⟨p3, ps⟩⟩⟩ <;> cases fe <;> cases kw <;> first | (exfalso; simp [chk] at h; done) | skip
  simp only [chk, Bool.and_eq_true, decide_eq_true_eq] at h
  obtain ⟨⟨⟨rfl, h2⟩, h3⟩, h4⟩ := h
  rcases l with _ | ⟨t, _ | ⟨t2, l⟩⟩
  · cases h4
  · have hn : ∀ i, t ≠ .err i := fun i z => by subst z; cases h4
    have h5 : one1 c (Str.ofString (tyN t)) p2 = true := by cases t <;> first | exact h4 | exact absurd rfl (hn _)
    obtain ⟨p', rfl, h6⟩ := one_of h5
    exact (sim_isi ok hn (ha _ h3).1 h2 h6 (chk_star h3)).j fun _ _ _ z => nomatch z
  · split at h4 <;> rename_i z <;> first | (cases h4; done) | (cases z; done) | skip
    all_goals cases z
theorem c_ix (ok : Ok C c G F n W X) (ha : Hy C c W X G F a) (hb : Hy C c W X G F b) (h : chk c (.ix a b) p = true) : Sj C W X (.ix a b) (ev G F (.ix a b)) p := by
  cases p <;> first | (exfalso; simp [chk] at h; done) | skip
  simp only [chk, Bool.and_eq_true] at h
  obtain ⟨⟨h0, h1⟩, h2⟩ := h
  exact (sim_ix ok (ha _ h1).1 (hb _ h2).1 h0).j fun _ _ _ z => nomatch z
theorem c_sl (ok : Ok C c G F n W X) (ha : Hy C c W X G F a) (hb : Hy C c W X G F b) (hd : Hy C c W X G F d) (h : chk c (.sl a b d) p = true) : Sj C W X (.sl a b d) (ev G F (.sl a b d)) p := by
  cases p <;> first | (exfalso; simp [chk] at h; done) | skip
  rename_i q i pos
  cases i <;> first | (exfalso; simp [chk] at h; done) | skip
  rename_i lo hi st pos2
  cases st <;> first | (exfalso; simp [chk] at h; done) | skip
  simp only [chk, Bool.and_eq_true] at h
  obtain ⟨⟨h0, h1⟩, h2⟩ := h
  refine (sim_sl (rb := ev G F b) (rd := ev G F d) (b := b) (d := d) ok (ha _ h0).1 ?_ ?_ (fun z => gap_ev z) (fun z => gap_ev z)).j fun _ _ _ z => nomatch z
  · cases lo with
    | none => exact h1
    | some l =>
      simp only [Bool.and_eq_true, Bool.not_eq_true'] at h1
      exact ⟨h1.1, (hb _ h1.2).1⟩
  · cases hi with
    | none => exact h2
    | some l =>
      simp only [Bool.and_eq_true, Bool.not_eq_true'] at h2
      exact ⟨h2.1, (hd _ h2.2).1⟩
theorem c_rev (ok : Ok C c G F n W X) (ha : Hy C c W X G F a) (h : chk c (.rev a) p = true) : Sj C W X (.rev a) (ev G F (.rev a)) p := by
  unfold chk at h
  split at h <;> rename_i z <;> first | (cases z; done) | (cases h; done) | skip
  cases z
  exact (sim_rev ok (ha _ h).1).j fun _ _ _ z => nomatch z
theorem c_tup (ok : Ok C c G F n W X) {l : List Ex} (hl : Hys C c W X G F l) (h : chk c (.tup l) p = true) : Sj C W X (.tup l) (ev G F (.tup l)) p := by
  cases p <;> first | (exfalso; simp [chk] at h; done) | skip
  simp only [chk] at h
  exact (sim_tup ok (args_of hl h)).j fun _ _ _ z => nomatch z
theorem c_lst (ok : Ok C c G F n W X) {l : List Ex} (hl : Hys C c W X G F l) (h : chk c (.lst l) p = true) : Sj C W X (.lst l) (ev G F (.lst l)) p := by
  cases p <;> first | (exfalso; simp [chk] at h; done) | skip
  simp only [chk] at h
  exact (sim_lst ok (args_of hl h)).j fun _ _ _ z => nomatch z
theorem c_pop (ok : Ok C c G F n W X) {i : Nat} (h : chk c (.pop i) p = true) : Sj C W X (.pop i) (ev G F (.pop i)) p := by
  unfold chk at h
  split at h <;> rename_i z <;> first | (cases z; done) | (cases h; done) | skip
  cases z
  simp only [Bool.and_eq_true, decide_eq_true_eq] at h
  obtain ⟨⟨rfl, h1⟩, h2⟩ := h
  exact (sim_pop ok h1 h2).j fun _ _ _ z => nomatch z
theorem c_dk (ok : Ok C c G F n W X) {i : Nat} {k : Dk} (h : chk c (.dk i k) p = true) : Sj C W X (.dk i k) (ev G F (.dk i k)) p := by
  unfold chk at h
  split at h <;> rename_i z <;> first | (cases z; done) | (cases h; done) | skip
  cases z
  simp only [Bool.and_eq_true, decide_eq_true_eq] at h
  obtain ⟨h1, rfl⟩ := h
  exact (sim_dk ok h1).j fun _ _ _ z => nomatch z
theorem c_dle (ok : Ok C c G F n W X) {i : Nat} (h : chk c (.dle i) p = true) : Sj C W X (.dle i) (ev G F (.dle i)) p := by
  unfold chk at h
  split at h <;> rename_i z <;> first | (cases z; done) | (cases h; done) | skip
  cases z
  simp only [Bool.and_eq_true, decide_eq_true_eq] at h
  obtain ⟨h1, rfl⟩ := h
  exact (sim_dle ok h1).j fun _ _ _ z => nomatch z
theorem c_dpop (ok : Ok C c G F n W X) {i : Nat} (h : chk c (.dpop i) p = true) : Sj C W X (.dpop i) (ev G F (.dpop i)) p := by
  unfold chk at h
  split at h <;> rename_i z <;> first | (cases z; done) | (cases h; done) | skip
  cases z
  simp only [Bool.and_eq_true, decide_eq_true_eq] at h
  obtain ⟨⟨⟨⟨h1, rfl⟩, rfl⟩, rfl⟩, h2⟩ := h
  exact (sim_dpop ok h1 h2).j fun _ _ _ z => nomatch z
theorem c_dmk (ok : Ok C c G F n W X) {l : Nat} {e : Ex} (he : Hy C c W X G F e) (h : chk c (.dmk l e) p = true) : Sj C W X (.dmk l e) (ev G F (.dmk l e)) p := by
  unfold chk at h
  split at h <;> rename_i z <;> first | (cases z; done) | (cases h; done) | skip
  cases z
  simp only [Bool.and_eq_true, decide_eq_true_eq] at h
  obtain ⟨⟨⟨⟨⟨⟨⟨h1, rfl⟩, rfl⟩, rfl⟩, rfl⟩, rfl⟩, rfl⟩, h2⟩ := h
  exact (sim_dmk ok h1 (he _ h2).1).j fun _ _ _ z => nomatch z
end
end Pv
set_option maxHeartbeats 200000
set_option maxHeartbeats 4000000
/-! Pv: lambdas handed to a def as its last argument; calls of what a name holds. -/
namespace Pv
open PySem PySem.Spec PyProof.Rows L2
section
variable {X : Cx} {pins : List (Addr × Obj)} {σ : L2.St} {H : Hp} {s : Shared}
/-- a lambda's object just made is known from now on -/
theorem inv_lam {L : Lm} {t' : Nat} {pm ctv : Value} (I : Inv X pins σ H s) :
    Inv X pins σ (upd H s.heap.objs.size (LamO s.heap.objs.size L)) { s with heap := s.heap.push (PySem.W.kla_obj "<lambda>" L.qual L.params L.body L.scope L.cl pm L.c ctv), toks := t' } := by
  refine I.laid (a := s.heap.objs.size) (fun _ _ at9 => Heap.get?_push_of_some _ at9) (Nat.le_refl _) ?_
  have e : (s.heap.push (PySem.W.kla_obj "<lambda>" L.qual L.params L.body L.scope L.cl pm L.c ctv)).get? s.heap.objs.size = some (PySem.W.kla_obj "<lambda>" L.qual L.params L.body L.scope L.cl pm L.c ctv) := Heap.get?_push_size _ rfl
  exact ⟨⟨pm, ctv, e⟩, ⟨_, e⟩, fun h1 h2 ⟨p, t, z⟩ st => ⟨p, t, st _ z⟩⟩
/-- the lambda's reading: its object and its code object are known -/
def tLamV (T : List (Addr × Str)) (params : Arguments) (body : Expr) (scope : Scope) (q : Str) (cl : List (Str × Addr)) : TE := fun σ H Q => LamX.Tabs T H ∧ ∀ (f c' : Addr) (H1 : Hp), LamX.ExtN H H1 → (∀ b, H1 b = Option.none → H b = Option.none) → LamX.Tabs T H1 → H f = none →
  H1 f = some (LamO f ⟨params, body, scope, q, cl, c'⟩) → H1 c' = some (LamX.CodeO c' q) → Q (.ref f) H1
theorem pe_lamV {T : List (Addr × Str)} {c P : Addr} {params : Arguments} {body : Expr} {scope : Scope} {pos : Pos} (TB : LamX.TabB X.base X.mg c P) (hcode : X.env.code = .ref c)
    (hm : (P, X.env.qual ++ "<lambda>") ∈ T) (hu : ∀ p ∈ T, p.1 = P → p.2 = X.env.qual ++ "<lambda>") (hdef : defaultsOf params X.env = ([], [])) (hfr : ∀ y ∈ scope.names, y.2 = .free → X.env.scope.names.lookup y.1 = some .cell ∨ X.env.scope.names.lookup y.1 = some .free) :
    PE X (.Lambda params body scope pos) (tLamV T params body scope (X.env.qual ++ "<lambda>") (cloFrom X.env.cells scope.names [])) := by
  refine ⟨fun pins s σ H Q I h => ?_⟩
  obtain ⟨hT, h⟩ := h
  have hfree : ∀ y ∈ scope.names, y.2 = .free → ∃ c, X.env.cells.lookup y.1 = some c := fun y hy e => (hfr y hy e).elim (fun z => I.ok.has _ (.inl z)) fun z => I.ok.has _ (.inr z)
  obtain ⟨tb, tabH, tri, all9⟩ := hT _ hm
  refine PySem.W.kla_eval hdef ?_
  have bltP : s.heap.BuiltinsAt X.mg P := TB.bm.keeps I.bk
  have tabAt : s.heap.get? P = some { cls := .none, data := .fields tb } := I.hok P _ tabH
  cases find : codeAmong pos tb.toList with
  | none =>
    refine PySem.W.kla_makeFunction (mg := X.mg) (c := c) (P := P) (ps := tb) (closure_ok hfree) I.ok.glob (I.mod.glob.keeps I.bk) hcode (TB.code.keeps I.bk) tabAt tri find TB.gP bltP fun c' ctv h' tk kept geq ltq recd tabNow => ?_
    obtain ⟨c2, oc, vs, t, q2, objC, datC, nameC⟩ := recd
    cases q2
    have newC : H c' = none := I.hok.fresh geq
    have J1 := LamX.inv_table (t' := tk) (more := #[rawInt pos.line, rawInt pos.col, .ref c']) (h' := h') I tabH (fun b o hb e => kept b o hb e) tabNow geq ⟨oc, vs, t, objC, datC, nameC⟩
    have grow : LamX.ExtN H (upd (upd H P (.tbl (tb ++ #[rawInt pos.line, rawInt pos.col, .ref c']))) c' (LamX.CodeO c' (X.env.qual ++ "<lambda>"))) := fun b o e n => by
      rw [upd_ne (ne_of_none e newC), upd_ne (fun z => n tb (Option.some.inj (e.symm.trans (by rw [z]; exact tabH))))]
      exact e
    have tailEq : (tb ++ #[rawInt pos.line, rawInt pos.col, .ref c']).toList = tb.toList ++ [rawInt pos.line, rawInt pos.col, .ref c'] := by simp
    have T1 : LamX.Tabs T (upd (upd H P (.tbl (tb ++ #[rawInt pos.line, rawInt pos.col, .ref c']))) c' (LamX.CodeO c' (X.env.qual ++ "<lambda>"))) := fun p hp => by
      by_cases hb : p.1 = P
      · rw [hu p hp hb, hb]
        refine ⟨_, by rw [upd_ne (ne_of_none tabH newC), upd_same], by rw [tailEq]; exact PySem.TriplesOk_snoc _ _ _ _ tri, fun p' cv among => ?_⟩
        rw [tailEq] at among
        rcases LamX.among_app _ tri among with z | z
        · obtain ⟨c0, q1, q2⟩ := all9 p' cv z
          exact ⟨c0, q1, grow _ _ q2 LamX.codeO_ne⟩
        · exact ⟨c', z, upd_same⟩
      · obtain ⟨tb', t1, t2, t3⟩ := hT p hp
        refine ⟨tb', by rw [upd_ne (ne_of_none t1 newC), upd_ne hb]; exact t1, t2, fun p' cv among => ?_⟩
        obtain ⟨c0, q1, q2⟩ := t3 p' cv among
        exact ⟨c0, q1, grow _ _ q2 LamX.codeO_ne⟩
    have newF := J1.hok.fresh (Nat.le_refl _)
    have J2 := inv_lam (L := ⟨params, body, scope, X.env.qual ++ "<lambda>", cloFrom X.env.cells scope.names [], c'⟩) (t' := tk) (pm := (X.mg "__name__").getD .none) (ctv := ctv) J1
    refine ⟨.ref h'.objs.size, _, J2, rfl, h h'.objs.size c' _ (fun b o e n => ?_) (fun b e => NdefX.upd_none (NdefX.upd_none (NdefX.upd_none e))) (T1.ext fun b o e => ?_) (I.hok.fresh (Nat.le_trans geq (Nat.le_of_lt ltq))) upd_same ?_⟩
    · have q1 := grow b o e n
      exact (upd_ne (ne_of_none q1 newF)).trans q1
    · exact (upd_ne (ne_of_none e newF)).trans e
    · exact (upd_ne (Nat.ne_of_lt ltq)).trans upd_same
  | some cv =>
    obtain ⟨c', e, codeC⟩ := all9 pos cv find
    subst e
    refine PySem.W.kla_makeFunctionHit (mg := X.mg) (c := c) (P := P) (ps := tb) (closure_ok hfree) I.ok.glob (I.mod.glob.keeps I.bk) hcode (TB.code.keeps I.bk) tabAt tri find bltP fun ctv h' tk kept hsz => ?_
    have J1 : Inv X pins σ H { s with heap := h', toks := tk } := I.kept kept
    have newF : H h'.objs.size = none := J1.hok.fresh (Nat.le_refl _)
    have J2 := inv_lam (L := ⟨params, body, scope, X.env.qual ++ "<lambda>", cloFrom X.env.cells scope.names [], c'⟩) (t' := tk) (pm := (X.mg "__name__").getD .none) (ctv := ctv) J1
    refine ⟨.ref h'.objs.size, _, J2, rfl, h h'.objs.size c' _ (fun b o e n => ?_) (fun b e => NdefX.upd_none e) (hT.ext fun b o e => ?_) newF upd_same ?_⟩
    · exact (upd_ne (ne_of_none e newF)).trans e
    · exact (upd_ne (ne_of_none e newF)).trans e
    · exact (upd_ne (ne_of_none codeC newF)).trans codeC
end
section
variable {C : Ct} {c : Cc} {G : List D} {F : CallF} {n : Nat} {W : WX} {X : Cx} {Y : Fx} {g g' : Gh} {s s' : S} {σ : L2.St} {H H' H1 : Hp} {v u w : V}
theorem Good.extN (G0 : Good C Y g s σ H) (e : LamX.ExtN H H1) (nn : ∀ b, H1 b = Option.none → H b = Option.none) (T1 : LamX.Tabs C.tabs H1) : Good C Y g s σ H1 := by
  have k1 : ∀ {a : Addr} {o : HO}, H a = some o → ¬ isTbl o → H1 a = some o := fun {a o} h1 h2 => e a o h1 fun ps z => h2 (by rw [z]; trivial)
  refine ⟨fun a o h => k1 (G0.sub a o h) fun z => G0.ex.t.rt a o h (by cases o <;> first | exact z.elim | trivial), fun a o h => k1 (G0.kp a o h) (Y.kn a o h), fun a h => ⟨(G0.un a h).1, fun z => (G0.un a h).2 (nn a z)⟩, G0.len, fun i e y h1 h2 => ?_, G0.apart, G0.dr.keep fun a o h hd => k1 h fun z => G0.drX hd o h (by cases o <;> first | exact z.elim | trivial), ?_⟩
  · have q := G0.slot i e y h1 h2
    cases e with
    | un => trivial
    | va x => exact q
    | ow d =>
      obtain ⟨v, e1, q⟩ := q
      exact ⟨v, e1, q.keep fun a ea o ho => k1 ho fun z => q.noX ea o ho (by cases o <;> first | exact z.elim | trivial)⟩
  · refine ⟨⟨G0.ex.t.rt, T1⟩, fun a k h => ?_⟩
    have q := G0.ex.cl a k h
    exact ⟨k1 q.f fun z => z, k1 q.c fun z => z, q.ws⟩
theorem RVA.of_data : ∀ {vs : List V} {ds : List D}, RpA C.K g.R vs ds → RVA C g vs (ds.map .d)
  | _, _, .nil => .nil
  | _, _, .cons h q => .cons h (RVA.of_data q)
theorem lam_at {a : Addr} {L : Lm} {pins : List (Addr × Obj)} {sh : Shared} (I : Inv X pins σ H sh) (e : H a = some (LamO a L)) : PySem.W.FnAt a sh.heap := by
  obtain ⟨⟨pm, ctv, ho⟩, _⟩ := I.hok a _ e
  exact ⟨_, _, _, _, ho⟩
/-- x(..), x a name that holds a def, or a lambda that the frame got -/
theorem sim_callv (ok : Ok C c G F n W X) (hcv : c.cv = true) {i : Nat} {x : Str} {l : List Pr} {es : List Ex} {pa : Expr} {ps : List Expr} {pp pos : Pos} (hv : c.vis i x = true) (hp : PA X (pa :: ps) (Tes C W l)) (hs : ∀ e ∈ pa :: ps, notStar e = true) :
    Si C W X (.callv i es) (fun s => match s.at i with
    | .va (.fn f) => (evs l s).bind fun vs s => ofRo (F f vs s.dr) s
    | .va (.clo m cs) => (evs l s).bind fun vs s => ofRo (F m (vs ++ cs.map .d) s.dr) s
    | _ => .bad) (.Call (.Name x pp) (pa :: ps) [] pos) := by
  have s1 := star_cons (es := ps) (env := X.env) (hs pa List.mem_cons_self)
  have s2 : (backTo pos (starEach ps X.env)).any (·.1) = false := star_any fun e he => hs e (List.mem_cons_of_mem _ he)
  refine Si.of ok.eK ⟨fun pins s σ H Q I hq => ?_⟩ fun _ z => nomatch z
  obtain ⟨Y, g, s0, G0, q⟩ := hq
  dsimp only at q
  cases e : s0.at i with
  | un => rw [e] at q; exact q.elim
  | ow d => rw [e] at q; exact q.elim
  | va y =>
    rw [e] at q
    have e1 := at_env e (by simp)
    have hi : i < σ.length := by rw [← G0.len]; exact (List.getElem?_eq_some_iff.mp e1).1
    obtain ⟨v, ev, r0⟩ := G0.slot i _ _ e1 (List.getElem?_eq_getElem hi)
    have hσ : σ[i]? = some (some v) := by rw [List.getElem?_eq_getElem hi, ev]
    cases y with
    | d x => exact q.elim
    | drw => exact q.elim
    | fn f =>
      obtain ⟨a, hfa, rfl⟩ := r0
      obtain ⟨⟨nm, prs⟩, hf⟩ := ok.calls.fas f a hfa
      obtain ⟨fa, fd, hfa', hm, hk, hb, _, hlen, run⟩ := ok.calls.fn f nm prs hf
      obtain rfl : a = fa := by rw [hfa] at hfa'; exact Option.some.inj hfa'
      have hk' : PySem.W.keepIn X.K (.ref a) = true := by rw [ok.eK]; exact hk
      refine wpAny_Call_Name_kw (thn ((ok.var hv (pos := pp)).run pins s σ H (fun v H1 => v = .ref a ∧ H1 = H) I ⟨.ref a, hσ, rfl, rfl⟩) fun u sh ⟨v, H1, I1, r1, q1⟩ => ?_)
      obtain ⟨ev2, eH⟩ := q1
      subst ev2
      rw [eH] at I1
      obtain rfl : u = Value.ref a := r1
      have tes : Tes C W l σ H fun vs H1 => CallK C W Y F f σ vs H1 Q := by
        refine evs_run l G0 q.bind fun vs xs s' g' H' l' G' q rv => ⟨g', xs, s', G', rv, q⟩
      refine PySem.W.callWith_K (h₀ := X.base) I.ok.mod.kin hk' (thn (hp.run pos pins sh σ H _ I1 tes) fun us sh ⟨vs, H1, I1, r, q⟩ => ⟨I1.kIn, ?_⟩) s1 s2
      have hl : us.length = prs.length := by
        rw [← r.length]
        obtain ⟨g1, xs, s2, _, rv, af⟩ := q
        rw [rv.length]
        refine hlen xs s2.dr fun e => ?_
        rw [e] at af
        exact af
      refine wpAny_call (codeAny_mono (run_call ok run (hb us hl) I1 r q.sp) fun r s' h => ?_)
      cases r with
      | error e => exact h
      | ok fl =>
        cases fl with
        | ret u => exact h
        | next => exact h.elim
        | brk => exact h.elim
        | cont => exact h.elim
    | clo m cs =>
      obtain ⟨a, k, rfl, hk, rfl, rfl⟩ := r0
      refine wpAny_Call_Name_kw (thn ((ok.var hv (pos := pp)).run pins s σ H (fun v H1 => v = .ref a ∧ H1 = H) I ⟨.ref a, hσ, rfl, rfl⟩) fun u sh ⟨v, H1, I1, r1, q1⟩ => ?_)
      obtain ⟨ev2, eH⟩ := q1
      subst ev2
      rw [eH] at I1
      obtain rfl : u = Value.ref a := r1
      have tes : Tes C W l σ H fun vs H1 => (H1 a = some (LamO a k.L) ∧ H1 k.L.c = some (LamX.CodeO k.L.c k.L.qual)) ∧ CallK C W Y F k.m σ (vs ++ k.ws) H1 Q := by
        refine evs_run l G0 q.bind fun vs xs s' g' H' l' G' q rv => ⟨⟨(G'.ex.cl a k hk).f, (G'.ex.cl a k hk).c⟩, g', xs ++ k.cs.map .d, s', G', rv.append (RVA.of_data (G'.ex.cl a k hk).ws), q⟩
      refine PySem.W.callWith_F (first := []) (lam_at I1 (G0.ex.cl a k hk).f) (thn (hp.run pos pins sh σ H _ I1 tes) fun us s2 ⟨vs, H2, I2, r, ⟨h1, h2⟩, q⟩ => ⟨lam_at I2 h1, ?_⟩) s1 s2
      show wpAny _ _ (call (.ref a) us) _ _ _
      refine wpAny_call (codeAny_mono (ok.clos hcv a k hk pins σ H2 s2 us vs Q I2 h1 h2 r q.sp) fun r s' h => ?_)
      cases r with
      | error e => exact h
      | ok fl =>
        cases fl with
        | ret u => exact h
        | next => exact h.elim
        | brk => exact h.elim
        | cont => exact h.elim

/-! ### a def that gets a lambda -/
def TesL (C : Ct) (W : WX) (tl : TE) : List Pr → TA
  | [] => tCons tl tNil
  | p :: r => tCons (Te C W p.2) (TesL C W tl r)
theorem evsL_run {tl : TE} : ∀ (ps : List Pr) {s : S} {g : Gh} {H : Hp} {k : List SV → S → Gh → Hp → Prop} {Q : List V → Hp → Prop}, Good C Y g s σ H → Af C W Y g σ (evs ps s) k →
    (∀ vs xs s' g' H', GLe g g' → Good C Y g' s' σ H' → k xs s' g' H' → RVA C g' vs xs → tl σ H' fun v H2 => Q (vs ++ [v]) H2) → TesL C W tl ps σ H Q
  | [], s, g, H, k, Q, G, h, hQ => by
    have h' : k [] s g H := Af.ok (show Af C W Y g σ (.ok [] s) k from h) G
    exact hQ [] [] s g H (GLe.refl g) G h' .nil
  | p :: ps, s, g, H, k, Q, G, h, hQ => by
    have h2 : Af C W Y g σ ((p.2 s).bind fun x s' => (evs ps s').bind fun xs s'' => .ok (x.1 :: xs) s'') k := h
    refine Te.shared G (h2.bind.mono fun x s1 g1 H1 l1 G1 q g2 v l2 G2 rv => ?_)
    refine evsL_run ps G2 (q.le l2).bind fun vs xs s3 g3 H3 l3 G3 q3 pk => ?_
    exact hQ (v :: vs) (x.1 :: xs) s3 g3 H3 (l1.trans (l2.trans l3)) G3 (Af.ok q3 G3) (.cons (rv.le l3) pk)
theorem paL_of {tl : TE} {lam : Expr} (hl : PE X lam tl) (hn : notStar lam = true) : ∀ {l : List Pr} {ps : List Expr}, (∀ q ∈ l.zip ps, PE X q.2 (Te C W q.1.2)) → l.length = ps.length → (∀ e ∈ ps, notStar e = true) → PA X (ps ++ [lam]) (TesL C W tl l)
  | [], [], _, _, _ => pa_cons hl pa_nil (star_cons hn)
  | p :: l, e :: ps, h, hlen, hs => pa_cons (h _ List.mem_cons_self) (paL_of hl hn (fun q hq => h q (List.mem_cons_of_mem _ hq)) (by simpa using hlen) fun e he => hs e (List.mem_cons_of_mem _ he)) (star_cons (hs e List.mem_cons_self))
theorem caps_run (G0 : Good C Y g s σ H) : ∀ {l : List Nat} {cs : List D}, capsOf l s = some cs → ∃ ws : List V, l.map (NdefX.slotAt σ) = ws.map some ∧ RpA C.K g.R ws cs
  | [], cs, e => by
    simp [capsOf] at e; subst e
    exact ⟨[], rfl, .nil⟩
  | i :: l, cs, e => by
    unfold capsOf at e
    cases e1 : s.at i with
    | un => rw [e1] at e; cases e
    | ow d => rw [e1] at e; cases e
    | va y =>
      rw [e1] at e
      cases y with
      | drw => cases e
      | fn f => cases e
      | clo m cs => cases e
      | d x =>
        simp only [Option.map_eq_some_iff] at e
        obtain ⟨r, e2, rfl⟩ := e
        obtain ⟨ws, h1, h2⟩ := caps_run G0 e2
        have e3 := at_env e1 (by simp)
        have hi : i < σ.length := by rw [← G0.len]; exact (List.getElem?_eq_some_iff.mp e3).1
        obtain ⟨v, ev, r0⟩ := G0.slot i _ _ e3 (List.getElem?_eq_getElem hi)
        have hσ : σ[i]? = some (some v) := by rw [List.getElem?_eq_getElem hi, ev]
        exact ⟨v :: ws, by rw [List.map_cons, List.map_cons, h1, NdefX.slotAt_of hσ], .cons r0 h2⟩
/-- x(.., lambda ..: ..) -/
theorem sim_lcall (ok : Ok C c G F n W X) {f m : Nat} {caps : List Nat} {x : Str} {prs : List Str} {l : List Pr} {es : List Ex} {pa : Expr} {ps qs : List Expr} {params : Arguments} {body : Expr} {scope : Scope} {pp pos lpos : Pos} (hf : c.M.fns[f]? = some (x, prs)) (hg : c.gl x = true) (hlam : c.lam m caps params body scope = true)
    (hqs : pa :: ps = qs ++ [.Lambda params body scope lpos]) (hq : ∀ q ∈ l.zip qs, PE X q.2 (Te C W q.1.2)) (hlen' : l.length = qs.length) (hsq : ∀ e ∈ qs, notStar e = true) :
    Si C W X (.lcall f es m caps) (fun s => (evs l s).bind fun vs s => (ofO (capsOf caps s) s).bind fun cs s => ofRo (F f (vs ++ [.clo m cs]) s.dr).keep s) (.Call (.Name x pp) (pa :: ps) [] pos) := by
  obtain ⟨lps, fr, cc, P, hls, hcode, TB, hmT, hu, hdef, hfree, hfr, hjs⟩ := ok.lams m caps params body scope hlam
  obtain ⟨g1, g2, g3⟩ := ok.hgl hg
  obtain ⟨fa, _, hfa, _, _, _, _, _, _⟩ := ok.calls.fn f x prs hf
  obtain ⟨fd, hm, hk, hb, hlen, run⟩ := ok.calls.fnL f x prs hf fa hfa
  have hs : ∀ e ∈ pa :: ps, notStar e = true := fun e he => by
    rw [hqs] at he
    rcases List.mem_append.mp he with he | he
    · exact hsq e he
    · simp at he; subst he; rfl
  have s1 := star_cons (es := ps) (env := X.env) (hs pa List.mem_cons_self)
  have s2 : (backTo pos (starEach ps X.env)).any (·.1) = false := star_any fun e he => hs e (List.mem_cons_of_mem _ he)
  have hk' : PySem.W.keepIn X.K (.ref fa) = true := by rw [ok.eK]; exact hk
  have hp : PA X (pa :: ps) (TesL C W (tLamV C.tabs params body scope (X.env.qual ++ "<lambda>") (cloFrom X.env.cells scope.names [])) l) := by
    rw [hqs]
    exact paL_of (pe_lamV TB hcode hmT hu hdef hfree) rfl hq hlen' hsq
  refine Si.of ok.eK ⟨fun pins s σ H Q I hq => ?_⟩ fun _ z => nomatch z
  obtain ⟨Y, g, s0, G0, q⟩ := hq
  have tes : TesL C W (tLamV C.tabs params body scope (X.env.qual ++ "<lambda>") (cloFrom X.env.cells scope.names [])) l σ H fun vs H1 => ∃ (la c' : Addr) (us ws : List V) (cs : List D) (g' : Gh) (xs : List SV) (s' : S), vs = us ++ [.ref la] ∧ Good C Y g' s' σ H1 ∧ RVA C g' us xs ∧
      H1 la = some (LamO la ⟨params, body, scope, X.env.qual ++ "<lambda>", cloFrom X.env.cells scope.names [], c'⟩) ∧ H1 c' = some (LamX.CodeO c' (X.env.qual ++ "<lambda>")) ∧ RpA C.K g'.R ws cs ∧ caps.map (NdefX.slotAt σ) = ws.map some ∧
      Af C W Y g' σ (ofRo (F f (xs ++ [.clo m cs]) s'.dr).keep s') fun x s' g' H' => ∀ v, RF C Y g' s' σ H' v x → Q v H' := by
    refine evsL_run l G0 q.bind fun vs xs s' g' H' l' G' q rv => ?_
    obtain ⟨cs, hcs, q⟩ := Af.ofO q.bind G'
    obtain ⟨ws, w1, w2⟩ := caps_run G' hcs
    refine ⟨G'.ex.t.tb, fun la c' H1 eN nn T1 hn hf1 hc1 => ?_⟩
    exact ⟨la, c', vs, ws, cs, g', xs, s', rfl, G'.extN eN nn T1, rv, hf1, hc1, w2, w1, q⟩
  refine wpAny_Call_Name_kw (ld_glob I g1 hm ?_ g2)
  refine PySem.W.callWith_K (h₀ := X.base) I.ok.mod.kin hk' (thn (hp.run pos pins s σ H _ I tes) fun us sh ⟨vs, H1, I1, r, q⟩ => ⟨I1.kIn, ?_⟩) s1 s2
  obtain ⟨la, c', us', ws, cs, g', xs, s', rfl, G1, rv, hf1, hc1, w2, w1, af⟩ := q
  have k : Clo := ⟨m, cs, ws, ⟨params, body, scope, X.env.qual ++ "<lambda>", cloFrom X.env.cells scope.names [], c'⟩, lps, fr⟩
  have cells := NdefX.cells_of I1 (NdefX.Caps.made (scope := scope) I1.ok hfree hfr hjs)
  rw [w1] at cells
  have hl : us.length = prs.length := by
    rw [← r.length, List.length_append, rv.length]
    have := hlen (xs ++ [.clo m cs]) s'.dr fun e => by
      rw [e] at af
      exact af
    simpa using this
  have e0 := I1.env0
  rw [ok.eK] at e0
  refine wpAny_call (codeAny_mono (run X.A X.stack sh H1 ⟨us, []⟩ us _ Q (fun cls d H' => W cls d σ H') la ⟨m, cs, ws, ⟨params, body, scope, X.env.qual ++ "<lambda>", cloFrom X.env.cells scope.names [], c'⟩, lps, fr⟩ ok.room ok.gd e0 (.of_eq (hb us hl)) r ⟨hls, cells⟩ ⟨g', xs, us', s'.dr, rfl, G1.gg, rv, ⟨hf1, hc1, w2⟩, ?_⟩) fun r s' hq => ?_)
  · show match (F f (xs ++ [.clo m cs]) s'.dr).keep with | .ok x fr dr' => _ | .exc x dr' => _ | .bad => _
    cases e : (F f (xs ++ [.clo m cs]) s'.dr).keep with
    | bad => rw [e] at af; exact af.elim
    | ok x fr dr' =>
      rw [e] at af
      exact fun v g' H' ex gg r => af g' H' ex.le (G1.after ex gg) v (RR.rf G1 ex r)
    | exc x dr' =>
      rw [e] at af
      exact fun g' H' cc ex gg hc => af g' H' cc ex.le (G1.after ex gg) hc
  · cases r with
    | error e => exact ok.tk e s' (XE.of_call I1 (fun _ _ _ q => q) hq)
    | ok fl =>
      cases fl with
      | ret u => exact I1.after hq
      | next => exact False.elim hq
      | brk => exact False.elim hq
      | cont => exact False.elim hq
end
end Pv
set_option maxHeartbeats 200000
set_option maxHeartbeats 4000000
/-! Pv: all expressions. -/
namespace Pv
open PySem PySem.Spec PyProof.Rows L2
section
variable {C : Ct} {c : Cc} {G : List D} {F : CallF} {n : Nat} {W : WX} {X : Cx} {e a b d t : Ex} {p : Expr}
theorem pts_of (ok : Ok C c G F n W X) {l : List Ex} {qs : List Expr} (hl : Hys C c W X G F l) (h : chks c l qs = true) (h1 : l.length ≤ 1) : PTs X qs (Tts C W (evEach G F l)) := by
  rcases l with _ | ⟨e, _ | ⟨e2, l⟩⟩
  · cases qs with
    | nil => exact ⟨fun pins s σ H Q I ⟨Y, g, s0, G0, q⟩ => pts_nil.run pins s σ H Q I (Af.ok (s := s0) q G0)⟩
    | cons _ _ => simp [chks] at h
  · rcases qs with _ | ⟨q1, _ | ⟨q2, qs⟩⟩
    · simp [chks] at h
    · have hq := hl [q1] h (((e, ev G F e), q1)) (by simp [evEach])
      refine ⟨fun pins s σ H Q I ⟨Y, g, s0, G0, q⟩ => (pts_one hq.pt).run pins s σ H Q I ⟨Y, g, s0, G0, ?_⟩⟩
      have q' : Af C W Y g σ ((tst (e, ev G F e) s0).bind fun b s => if b then .ok true s else .ok false s) fun b _ _ H' => Q b H' := q
      refine q'.bind.mono fun b s1 g1 H1 l1 G1 q => ?_
      cases b with
      | true => exact Af.ok (s := s1) q G1
      | false => exact Af.ok (s := s1) q G1
    · simp [chks] at h
  · simp at h1
/-- what a comprehension's parts give -/
theorem lc_of (ok : Ok C c G F n W X) {tg : Tg} {it : It} {ifs : List Ex} {own : List Nat} {elt te iter : Expr} {qs : List Expr} {scope : Scope} {pos : Pos}
    (he : ∀ X', Ok C (c.blk scope) G F n noW X' → Hy C (c.blk scope) noW X' G F e) (hi : ∀ tg p, chkIt c it tg p = true → PI X tg p (Ti C W (evIt G F it)))
    (hf : ∀ X', Ok C (c.blk scope) G F n noW X' → Hys C (c.blk scope) noW X' G F ifs)
    (h : (chkIt c it te iter && blkC c.N c.sc scope (own.filterMap fun i => (c.N[i]?).map fun x => (x, i)) && decide ((own.filterMap fun i => (c.N[i]?).map fun x => (x, i)).map (·.2) = own) &&
      decide (∀ i ∈ tg.slots, i ∈ own) && tgC (c.blk scope) tg te && decide (ifs.length ≤ 1) && chks (c.blk scope) ifs qs && chk (c.blk scope) e elt) = true) :
    PE X (.ListComp elt [⟨te, iter, qs, 0⟩] scope pos) (Te C W (ev G F (.lc e tg it ifs own))) ∧
    (∀ {i : Nat} {y : Str} {py spos : Pos}, X.N[i]? = some y → X.env.scope.names.lookup y = some .local → swapsWith (.ListComp elt [⟨te, iter, qs, 0⟩] scope pos) (some (.Name y py)) spos.line X.env = pure true →
      PS X (.Assign [.Name y py] (.ListComp elt [⟨te, iter, qs, 0⟩] scope pos) spos) (tAsg (Te C W (ev G F (.lc e tg it ifs own))) (gName i))) := by
  simp only [Bool.and_eq_true, decide_eq_true_eq] at h
  obtain ⟨⟨⟨⟨⟨⟨⟨h1, h2⟩, h3⟩, h4⟩, h5⟩, h6⟩, h7⟩, h8⟩ := h
  have bo : BlkOk X.N X.env.scope scope (own.filterMap fun i => (c.N[i]?).map fun x => (x, i)) := by rw [ok.eN, ok.esc]; exact blkOk_by h2
  have hb : ∀ X' : Cx, Ok C (c.blk scope) G F n noW X' → PG X' te (gTg C tg) ∧ PTs X' qs (Tts C noW (evEach G F ifs)) ∧ PE X' elt (Te C noW (ev G F e)) := fun X' ok' =>
    ⟨tg_ok ok' h5, pts_of ok' (hf X' ok') h7 h6, (he X' ok' _ h8).1.pe⟩
  have s := sim_lc (e := e) (pos := pos) ok (hi te iter h1) bo h3 h4 hb (nofold h1)
  refine ⟨PE.weak s.1 s.2, fun {i y py spos} hy hyl hsw => ?_⟩
  have hown := h3
  refine PS.weak (ps_setLc (i := i) ok.calm ok.nd hy hyl hsw (hi te iter h1) bo (fun s H A cl fp => (hb _ ok.blk).1) (fun s H A cl fp => (hb _ ok.blk).2.1) (fun s H A cl fp => (hb _ ok.blk).2.2) (nofold h1)) fun D σ H q => ?_
  rw [h3]
  exact s.2 _ _ _ q
theorem lc_shape {tg : Tg} {it : It} {ifs : List Ex} {own : List Nat} (h : chk c (.lc e tg it ifs own) p = true) : ∃ elt te iter qs scope pos, p = .ListComp elt [⟨te, iter, qs, 0⟩] scope pos ∧
    (chkIt c it te iter && blkC c.N c.sc scope (own.filterMap fun i => (c.N[i]?).map fun x => (x, i)) && decide ((own.filterMap fun i => (c.N[i]?).map fun x => (x, i)).map (·.2) = own) &&
      decide (∀ i ∈ tg.slots, i ∈ own) && tgC (c.blk scope) tg te && decide (ifs.length ≤ 1) && chks (c.blk scope) ifs qs && chk (c.blk scope) e elt) = true := by
  unfold chk at h
  split at h <;> rename_i z <;> first | (cases z; done) | (cases h; done) | skip
  cases z
  exact ⟨_, _, _, _, _, _, rfl, h⟩
theorem it_rng1 (ok : Ok C c G F n W X) {tg : Expr} (ha : Hy C c W X G F a) (h : chkIt c (.rng1 a) tg p = true) : PI X tg p (Ti C W (evIt G F (.rng1 a))) := by
  unfold chkIt at h
  split at h <;> rename_i z <;> first | (cases z; done) | (cases h; done) | skip
  cases z
  simp only [Bool.and_eq_true, decide_eq_true_eq] at h
  obtain ⟨⟨rfl, h1⟩, h2⟩ := h
  exact pi_rng1 ok h1 (ha _ h2).1.to (chk_star h2)
theorem it_rng2 (ok : Ok C c G F n W X) {tg : Expr} (ha : Hy C c W X G F a) (hb : Hy C c W X G F b) (h : chkIt c (.rng2 a b) tg p = true) : PI X tg p (Ti C W (evIt G F (.rng2 a b))) := by
  unfold chkIt at h
  split at h <;> rename_i z <;> first | (cases z; done) | (cases h; done) | skip
  cases z
  simp only [Bool.and_eq_true, decide_eq_true_eq] at h
  obtain ⟨⟨⟨rfl, h1⟩, h2⟩, h3⟩ := h
  exact pi_rng2 ok h1 (ha _ h2).1.to (chk_star h2) (hb _ h3).1.to (chk_star h3)
theorem it_enum (ok : Ok C c G F n W X) {tg : Expr} (ha : Hy C c W X G F a) (h : chkIt c (.enum a) tg p = true) : PI X tg p (Ti C W (evIt G F (.enum a))) := by
  cases tg <;> first | (exfalso; unfold chkIt at h; cases h; done) | skip
  unfold chkIt at h
  split at h <;> rename_i z z2 <;> first | (cases z; done) | (cases z2; done) | (cases h; done) | skip
  cases z; cases z2
  simp only [Bool.and_eq_true, decide_eq_true_eq] at h
  obtain ⟨⟨rfl, h1⟩, h2⟩ := h
  exact pi_enumD ok h1 (ha _ h2).1.pe (chk_star h2)
theorem it_zip (ok : Ok C c G F n W X) {tg : Expr} (ha : Hy C c W X G F a) (hb : Hy C c W X G F b) (h : chkIt c (.zip a b) tg p = true) : PI X tg p (Ti C W (evIt G F (.zip a b))) := by
  cases tg <;> first | (exfalso; unfold chkIt at h; cases h; done) | skip
  unfold chkIt at h
  split at h <;> rename_i z z2 <;> first | (cases z; done) | (cases z2; done) | (cases h; done) | skip
  cases z; cases z2
  simp only [Bool.and_eq_true, decide_eq_true_eq] at h
  obtain ⟨⟨⟨rfl, h1⟩, h2⟩, h3⟩ := h
  exact pi_zipD ok h1 (ha _ h2).1.pe (chk_star h2) (hb _ h3).1.pe (chk_star h3)
theorem c_callv (ok : Ok C c G F n W X) {i : Nat} {l : List Ex} (hl : Hys C c W X G F l) (h : chk c (.callv i l) p = true) : Sj C W X (.callv i l) (ev G F (.callv i l)) p := by
  cases p <;> first | (exfalso; simp [chk] at h; done) | skip
  rename_i fe ps kw pos
  cases fe <;> cases kw <;> first | (exfalso; simp [chk] at h; done) | skip
  cases ps with
  | nil => simp [chk] at h
  | cons pa ps =>
    simp only [chk, Bool.and_eq_true] at h
    obtain ⟨⟨h1, h2⟩, h3⟩ := h
    exact (sim_callv ok h1 h2 (args_of hl h3) (chks_star h3)).j fun _ _ _ z => nomatch z
theorem chkl_split {m : Nat} {caps : List Nat} : ∀ {l : List Ex} {ps : List Expr}, chkl c m caps l ps = true → ∃ qs params body scope lpos, ps = qs ++ [.Lambda params body scope lpos] ∧ chks c l qs = true ∧ c.lam m caps params body scope = true
  | [], [], h => by simp [chkl] at h
  | [], [p], h => by
    cases p <;> first | (exfalso; simp [chkl] at h; done) | skip
    simp only [chkl] at h
    exact ⟨[], _, _, _, _, rfl, by simp [chks], h⟩
  | [], p :: q :: r, h => by simp [chkl] at h
  | e :: es, [], h => by simp [chkl] at h
  | e :: es, p :: ps, h => by
    simp only [chkl, Bool.and_eq_true] at h
    obtain ⟨qs, a, b, s, lp, e1, e2, e3⟩ := chkl_split h.2
    exact ⟨p :: qs, a, b, s, lp, by rw [e1]; rfl, by simp only [chks, Bool.and_eq_true]; exact ⟨h.1, e2⟩, e3⟩
theorem c_lcall (ok : Ok C c G F n W X) {f m : Nat} {caps : List Nat} {l : List Ex} (hl : Hys C c W X G F l) (h : chk c (.lcall f l m caps) p = true) : Sj C W X (.lcall f l m caps) (ev G F (.lcall f l m caps)) p := by
  cases p <;> first | (exfalso; simp [chk] at h; done) | skip
  rename_i fe ps kw pos
  cases fe <;> cases kw <;> first | (exfalso; simp [chk] at h; done) | skip
  cases ps with
  | nil => simp [chk] at h
  | cons pa ps =>
    simp only [chk, Bool.and_eq_true] at h
    obtain ⟨⟨h1, h2⟩, h3⟩ := h
    obtain ⟨prs, hf⟩ := fns_of h1
    obtain ⟨qs, params, body, scope, lpos, e1, e2, e3⟩ := chkl_split h3
    exact (sim_lcall ok hf h2 e3 e1 (fun q hq => (hl qs e2 q hq).pe) (by rw [each_len]; exact chks_len e2) (chks_star e2)).j fun _ _ _ z => nomatch z
end

mutual
theorem sim {C : Ct} {G : List D} {F : CallF} {n : Nat} : ∀ (e : Ex) {c : Cc} {W : WX} {X : Cx} {p : Expr}, Ok C c G F n W X → chk c e p = true → Sj C W X e (ev G F e) p
  | .v i, _, _, _, _, ok, h => c_v ok h
  | .c d, _, _, _, _, ok, h => c_c ok h
  | .g i, _, _, _, _, ok, h => c_g ok h
  | .fn i, _, _, _, _, ok, h => c_fn ok h
  | .bin o a b, _, _, _, _, ok, h => c_bin ok (fun _ h => sim a ok h) (fun _ h => sim b ok h) h
  | .neg a, _, _, _, _, ok, h => c_neg ok (fun _ h => sim a ok h) h
  | .no a, _, _, _, _, ok, h => c_no ok (fun _ h => sim a ok h) h
  | .cmp o a b, _, _, _, _, ok, h => c_cmp ok (fun _ h => sim a ok h) (fun _ h => sim b ok h) h
  | .chain o o' a b d, _, _, _, _, ok, h => c_chain ok (fun _ h => sim a ok h) (fun _ h => sim b ok h) (fun _ h => sim d ok h) h
  | .and a b, _, _, _, _, ok, h => c_and ok (fun _ h => sim a ok h) (fun _ h => sim b ok h) h
  | .or a b, _, _, _, _, ok, h => c_or ok (fun _ h => sim a ok h) (fun _ h => sim b ok h) h
  | .ite t a b, _, _, _, _, ok, h => c_ite ok (fun _ h => sim t ok h) (fun _ h => sim a ok h) (fun _ h => sim b ok h) h
  | .call f l, _, _, _, _, ok, h => c_call ok (fun _ h => sims l ok h) h
  | .callv i l, _, _, _, _, ok, h => c_callv ok (fun _ h => sims l ok h) h
  | .lcall f l m caps, _, _, _, _, ok, h => c_lcall ok (fun _ h => sims l ok h) h
  | .kcall f l k pm, _, _, _, _, ok, h => c_kcall ok (fun _ h => sims l ok h) (fun _ h => sims k ok h) h
  | .bi o l, _, _, _, _, ok, h => c_bi ok (fun _ h => sims l ok h) h
  | .isi a l, _, _, _, _, ok, h => c_isi ok (fun _ h => sim a ok h) h
  | .ix a b, _, _, _, _, ok, h => c_ix ok (fun _ h => sim a ok h) (fun _ h => sim b ok h) h
  | .sl a b d, _, _, _, _, ok, h => c_sl ok (fun _ h => sim a ok h) (fun _ h => sim b ok h) (fun _ h => sim d ok h) h
  | .rev a, _, _, _, _, ok, h => c_rev ok (fun _ h => sim a ok h) h
  | .tup l, _, _, _, _, ok, h => c_tup ok (fun _ h => sims l ok h) h
  | .lst l, _, _, _, _, ok, h => c_lst ok (fun _ h => sims l ok h) h
  | .dct k l, _, _, _, _, ok, h => by unfold chk at h; cases h
  | .lc e t it ifs own, c, _, X, _, ok, h => by
    obtain ⟨elt, te, iter, qs, scope, pos, rfl, h⟩ := lc_shape h
    have s := lc_of (pos := pos) (tg := t) (own := own) ok (fun X' ok' _ h => sim e ok' h) (fun tg p h => simIt it ok h) (fun X' ok' _ h => sims ifs ok' h) h
    exact (Si.of ok.eK s.1 (fun _ z => Ex.noConfusion z)).j fun _ _ _ z => Expr.noConfusion z
  | .pop i, _, _, _, _, ok, h => c_pop ok h
  | .dk i k, _, _, _, _, ok, h => c_dk ok h
  | .dle i, _, _, _, _, ok, h => c_dle ok h
  | .dpop i, _, _, _, _, ok, h => c_dpop ok h
  | .dmk l e, _, _, _, _, ok, h => c_dmk ok (fun _ h => sim e ok h) h
theorem sims {C : Ct} {G : List D} {F : CallF} {n : Nat} : ∀ (l : List Ex) {c : Cc} {W : WX} {X : Cx} {ps : List Expr}, Ok C c G F n W X → chks c l ps = true → ∀ q ∈ (evEach G F l).zip ps, Si C W X q.1.1 q.1.2 q.2
  | [], _, _, _, _, _, _ => fun q hq => by simp [evEach] at hq
  | e :: l, c, W, X, ps, ok, h => fun q hq => by
    cases ps with
    | nil => simp at hq
    | cons p ps =>
      simp only [chks, Bool.and_eq_true] at h
      simp only [evEach, List.zip_cons_cons, List.mem_cons] at hq
      rcases hq with hq | hq
      · rw [hq]; exact (sim e ok h.1).1
      · exact sims l ok h.2 q hq
theorem simIt {C : Ct} {G : List D} {F : CallF} {n : Nat} : ∀ (it : It) {c : Cc} {W : WX} {X : Cx} {tg p : Expr}, Ok C c G F n W X → chkIt c it tg p = true → PI X tg p (Ti C W (evIt G F it))
  | .seq a, _, _, _, _, _, ok, h => pi_seq ok (sim a ok (show chk _ a _ = true from by unfold chkIt at h; exact h)).1.pe
  | .rng1 a, _, _, _, _, _, ok, h => it_rng1 ok (fun _ h => sim a ok h) h
  | .rng2 a b, _, _, _, _, _, ok, h => it_rng2 ok (fun _ h => sim a ok h) (fun _ h => sim b ok h) h
  | .enum a, _, _, _, _, _, ok, h => it_enum ok (fun _ h => sim a ok h) h
  | .zip a b, _, _, _, _, _, ok, h => it_zip ok (fun _ h => sim a ok h) (fun _ h => sim b ok h) h
end
end Pv
set_option maxHeartbeats 200000
set_option maxHeartbeats 4000000
/-! Pv: which stores the compiler exchanges; is a Pv text the text of a statement? -/
namespace Pv
open PySem PySem.Spec PyProof.Rows L2

def isStar : Expr → Bool
  | .Starred .. => true
  | _ => false
def locNm (c : Cc) (line : Nat) : Expr → Option Str
  | .Name id pos => if c.sc.names.lookup id == some .local && pos.line == line then some id else none
  | _ => none
def swapP (c : Cc) (ts vs : List Expr) : Option (Option (List Str)) :=
  if !(ts.length == 2 || ts.length == 3) || vs.length != ts.length then some none
  else if vs.any isStar then some none
  else
    let names := ts.filterMap (locNm c ((ts.head?.map (·.pos.line)).getD 0))
    if names.length != ts.length || names.eraseDups.length != names.length then some none
    else if vs.all (foldedForSure 8) then some none
    else if vs.all (constantsAlone 8) then none
    else some (some names)
theorem swap_eq {c : Cc} {env : Env} {ts vs : List Expr} {k k2 : Nat} {p p2 : Pos} {r : Option (List Str)} (hs : env.scope = c.sc) (hk : env.scope.kind = .function) (h : swapP c ts vs = some r) :
    swappedStores [.Tuple ts k p] (.Tuple vs k2 p2) env = pure r := by
  have hb : env.blockKind = .function := by unfold Env.blockKind; rw [hk]; rfl
  unfold swappedStores
  simp only [hb]
  unfold swapP at h
  have hb2 : ((.function : ScopeKind) != .function) = false := by decide
  rw [hb2, Bool.or_false]
  generalize hA : vs.any _ = A
  generalize hN : List.filterMap _ ts = N
  have eA : vs.any isStar = A := by
    rw [← hA]; congr 1
  have eN : ts.filterMap (locNm c ((ts.head?.map (·.pos.line)).getD 0)) = N := by
    rw [← hN]; congr 1; funext x; cases x <;> first | rfl | (unfold locNm; rw [← hs]; rfl)
  rw [eA] at h
  simp only [eN] at h
  split at h
  · rename_i h1
    rw [if_pos h1]
    cases h; rfl
  · rename_i h1
    rw [if_neg h1]
    split at h
    · rename_i h2
      rw [if_pos h2]
      cases h; rfl
    · rename_i h2
      rw [if_neg h2]
      split at h
      · rename_i h3
        rw [if_pos h3]
        cases h; rfl
      · rename_i h3
        rw [if_neg h3]
        split at h
        · rename_i h4
          rw [if_pos h4]
          cases h; rfl
        · rename_i h4
          rw [if_neg h4]
          split at h
          · cases h
          · rename_i h5
            rw [if_neg h5]
            cases h; rfl
def isComp : Expr → Bool
  | .ListComp .. => true
  | .SetComp .. => true
  | .DictComp .. => true
  | _ => false
theorem noswap {e : Expr} {t : Option Expr} {l : Nat} {env : Env} (h : isComp e = false) : swapsWith e t l env = pure false := by
  cases e <;> first | rfl | cases h
def parOk (c : Cc) (l : List Nat) (ts vs : List Expr) : Bool := match swapP c ts vs with
  | none => false
  | some none => true
  | some (some ns) => match ts, vs, l with
    | [.Name x _, .Name y _], [_, _], [i, j] => decide (ns = [x, y]) && decide (c.N[i]? = some x) && decide (c.N[j]? = some y) && decide (c.sc.names.lookup x = some .local) && decide (c.sc.names.lookup y = some .local) && decide (i ≠ j)
    | [.Name x _, .Name y _, .Name z _], [_, _, _], [i, j, k] => decide (ns = [x, y, z]) && decide (c.N[i]? = some x) && decide (c.N[j]? = some y) && decide (c.N[k]? = some z) && decide (c.sc.names.lookup x = some .local) &&
        decide (c.sc.names.lookup y = some .local) && decide (c.sc.names.lookup z = some .local) && decide (i ≠ j) && decide (i ≠ k) && decide (j ≠ k)
    | _, _, _ => false
def asgOk : Expr → Expr → Bool
  | .Tuple .., .Tuple .. => false
  | .Tuple .., v => true
  | .Name .., v => true
  | _, _ => false

mutual
def chkS (c : Cc) : Sm → Stmt → Bool
  | .asg t e, .Assign [tg] v _ => tgC c t tg && chk c e v && asgOk tg v
  | .par l k, .Assign [.Tuple ts _ _] (.Tuple vs _ _) _ => tgsC c l ts && chks c k vs && decide (l.length ≤ 16) && parOk c l ts vs
  | .setix i k e, .Assign [.Subscript (.Name x _) q _] v _ => c.vis i x && chk c k q && notSlice q && chk c e v && !isComp v
  | .app i e, .Expr (.Call (.Attribute (.Name x _) m apos) [p] [] cpos) _ => decide (m = "append") && c.vis i x && chk c e p && notStar p && (apos.endLine == cpos.line)
  | .dset i k e, .Assign [.Subscript (.Name x _) (.Constant (.str n) _ _) _] v _ => c.vis i x && decide (n = dkN k) && chk c e v && !isComp v
  | .expr e, .Expr p _ => chk c e p && !isComp p
  | .ifs t a b, .If p q r _ => chk c t p && chkB c a q && chkB c b r
  | .loop t b, .While p q [] _ => chk c t p && chkB c b q
  | .each t it b, .For tg p q [] _ => chkIt c it tg p && tgC c t tg && chkB c b q
  | .ret e, .Return (some p) _ => chk c e p
  | .raise k m, .Raise (some (.Call (.Name x _) [.Constant (.str s) _ _] [] _)) none _ => decide (c.M.ens[k]? = some x) && c.gl x
  | _, _ => false
def chkB (c : Cc) : List Sm → List Stmt → Bool
  | [], [] => true
  | s :: r, t :: q => chkS c s t && chkB c r q
  | _, _ => false
end
end Pv
set_option maxHeartbeats 200000
set_option maxHeartbeats 4000000
/-! Pv: what is new and not yet named; ends of statements. -/
namespace Pv
open PySem PySem.Spec PyProof.Rows L2

section
variable {C : Ct} {c : Cc} {G : List D} {F : CallF} {n : Nat} {W : WX} {X : Cx} {Y : Fx} {g g' : Gh} {s s' : S} {σ σ' : L2.St} {H H' : Hp} {v u : V} {w : HO} {a b : Addr}
/-- values as they come, in a row: shared, or new, each its own -/
inductive RFA (C : Ct) (Y : Fx) (g : Gh) (s : S) (σ : L2.St) (H : Hp) : List V → List R → Prop
  | nil : RFA C Y g s σ H [] []
  | cons {v : V} {vs : List V} {x : R} {xs : List R} : RF C Y g s σ H v x → (x.2 = true → ∀ q ∈ vs.zip xs, q.2.2 = true → v ≠ q.1) → RFA C Y g s σ H vs xs → RFA C Y g s σ H (v :: vs) (x :: xs)
theorem RFA.length {vs : List V} {xs : List R} (h : RFA C Y g s σ H vs xs) : vs.length = xs.length := by
  induction h with
  | nil => rfl
  | cons _ _ _ ih => simp [ih]
theorem RFA.unhold {vs : List V} {xs : List R} (h : RFA C (Y.hold a w) g s σ H vs xs) : RFA C Y g s σ H vs xs ∧ ∀ q ∈ vs.zip xs, q.2.2 = true → V.ref a ≠ q.1 := by
  induction h with
  | nil => exact ⟨.nil, fun q hq => by simp at hq⟩
  | cons rf hd r0 ih =>
    rename_i v vs x xs
    have key : RF C Y g s σ H v x ∧ (x.2 = true → V.ref a ≠ v) := by
      unfold RF at rf ⊢
      by_cases hx : x.2 = true
      · rw [if_pos hx] at rf ⊢
        obtain ⟨d, e, o, no⟩ := rf
        obtain ⟨b, eb, l, _⟩ := o.addr
        refine ⟨⟨d, e, o.to fun c o _ h3 h4 => ⟨h3, h4.unhold.2⟩, no⟩, fun _ z => ?_⟩
        rw [eb] at z
        exact l.unhold.1 (V.ref.inj z).symm
      · rw [if_neg hx] at rf ⊢
        exact ⟨rf, fun z => absurd z hx⟩
    refine ⟨.cons key.1 hd ih.1, fun q hq hf => ?_⟩
    simp only [List.zip_cons_cons, List.mem_cons] at hq
    rcases hq with rfl | hq
    · exact key.2 hf
    · exact ih.2 q hq hf
theorem evF_run : ∀ (ps : List Pr) {Y : Fx} {s : S} {g : Gh} {H : Hp} {k : List R → S → Gh → Hp → Prop} {Q : List V → Hp → Prop}, Good C Y g s σ H → Af C W Y g σ (evF ps s) k →
    (∀ vs xs s' g' H', GLe g g' → Good C Y g' s' σ H' → k xs s' g' H' → RFA C Y g' s' σ H' vs xs → Q vs H') → Tes C W ps σ H Q
  | [], Y, s, g, H, k, Q, G0, h, hQ => by
    have h' : k [] s g H := Af.ok (show Af C W Y g σ (.ok [] s) k from h) G0
    exact hQ [] [] s g H (GLe.refl g) G0 h' .nil
  | p :: ps, Y, s, g, H, k, Q, G0, h, hQ => by
    have h2 : Af C W Y g σ ((p.2 s).bind fun x s' => (evF ps s').bind fun xs s'' => .ok (x :: xs) s'') k := h
    refine Te.intro G0 (h2.bind.mono fun x s1 g1 H1 l1 G1 q v rf => ?_)
    by_cases hx : x.2 = true
    · have rf0 := rf
      unfold RF at rf
      rw [if_pos hx] at rf
      obtain ⟨d, e, o, no⟩ := rf
      obtain ⟨a, ea, l, w, hw⟩ := o.addr
      have G2 := G1.hold l hw fun i => no i a ea
      refine evF_run ps G2 q.hold.bind fun vs xs s3 g3 H3 l3 G3 q3 rfa => ?_
      obtain ⟨r1, r2⟩ := rfa.unhold
      obtain ⟨k1, k2, k3⟩ := G3.held (fun z => o.noX ea w hw (by cases w <;> first | exact z.elim | trivial)) l
      refine hQ (v :: vs) (x :: xs) s3 g3 H3 (l1.trans l3) G3.unhold (Af.ok q3 G3) (.cons ?_ (fun _ q hq hf z => r2 q hq hf (by rw [← ea]; exact z)) r1)
      unfold RF
      rw [if_pos hx]
      refine ⟨d, e, ?_, fun i b eb ow => k3 i (by rw [ea] at eb; cases eb; exact ow)⟩
      cases d <;> first | exact o.elim | skip
      · obtain ⟨b, xs, e1, e2, e3, _⟩ := o
        obtain rfl : a = b := V.ref.inj (ea.symm.trans e1)
        rw [hw] at e2; cases e2
        exact ⟨a, xs, ea, k1, e3.le l3.le, k2⟩
      · obtain ⟨b, xs, e1, e2, e3, _⟩ := o
        obtain rfl : a = b := V.ref.inj (ea.symm.trans e1)
        rw [hw] at e2; cases e2
        exact ⟨a, xs, ea, k1, RpK.le l3.le e3, k2⟩
    · have rv : RV C g1 v x.1 := by unfold RF at rf; rw [if_neg hx] at rf; exact rf
      refine evF_run ps G1 q.bind fun vs xs s3 g3 H3 l3 G3 q3 rfa => ?_
      refine hQ (v :: vs) (x :: xs) s3 g3 H3 (l1.trans l3) G3 (Af.ok q3 G3) (.cons ?_ (fun z => absurd z hx) rfa)
      unfold RF
      rw [if_neg hx]
      exact rv.le l3
/-- one is stored, the others stand -/
theorem RFA.set {vs : List V} {xs : List R} {i : Nat} {x : R} (h : RFA C Y g s σ H vs xs) (rf : RF C Y g s σ H v x) (hd : x.2 = true → ∀ q ∈ vs.zip xs, q.2.2 = true → v ≠ q.1) : RFA C Y g (s.put i (mine x.1 x.2)) (σ.set i (some v)) H vs xs := by
  induction h with
  | nil => exact .nil
  | cons rf1 hd1 r0 ih =>
    rename_i v1 vs x1 xs
    refine .cons ?_ hd1 (ih fun hx q hq => hd hx q (by simp only [List.zip_cons_cons]; exact List.mem_cons_of_mem _ hq))
    unfold RF at rf1 ⊢
    by_cases h1 : x1.2 = true
    · rw [if_pos h1] at rf1 ⊢
      obtain ⟨d, e, o, no⟩ := rf1
      refine ⟨d, e, o, fun j a ea ow => ?_⟩
      obtain ⟨⟨d2, k1⟩, k2⟩ := ow
      by_cases hj : i = j
      · subst hj
        have hi : i < σ.length := by have := (List.getElem?_eq_some_iff.mp k2).1; simpa using this
        have hi2 : i < s.env.length := by have := (List.getElem?_eq_some_iff.mp k1).1; simpa [S.put] using this
        simp only [S.put, List.getElem?_set_self hi2] at k1
        rw [List.getElem?_set_self hi] at k2
        cases k2
        have hx : x.2 = true := by
          cases hx : x.2 with
          | true => rfl
          | false =>
            rw [hx] at k1
            cases hz : x.1 <;> rw [hz] at k1 <;> cases k1
        exact hd hx (v1, x1) (by simp) h1 ea.symm
      · simp only [S.put, List.getElem?_set_ne hj] at k1
        rw [List.getElem?_set_ne hj] at k2
        exact no j a ea ⟨⟨d2, k1⟩, k2⟩
    · rw [if_neg h1] at rf1 ⊢
      exact rf1
theorem fold_set : ∀ {l : List Nat} {vs : List V} {xs : List R} {s : S} {σ : L2.St}, Good C Y g s σ H → RFA C Y g s σ H vs xs → l.length = xs.length →
    Good C Y g ((l.zip xs).foldl (fun s p => s.put p.1 (mine p.2.1 p.2.2)) s) ((l.zip vs).foldl (fun σ p => σ.set p.1 (some p.2)) σ) H
  | [], _, _, _, _, G0, _, _ => G0
  | i :: l, _, _, _, _, G0, .nil, hl => by simp at hl
  | i :: l, _, _, _, _, G0, .cons rf hd r, hl => fold_set (l := l) (G0.set rf) (r.set rf hd) (by simpa using hl)
theorem fold_tup : ∀ {l : List Nat} {vs : List V} {σ : L2.St} {Q : L2.St → Hp → Prop}, l.length = vs.length → Q ((l.zip vs).foldl (fun σ p => σ.set p.1 (some p.2)) σ) H → (l.foldr (fun i t => gCons (gName i) t) gNil) vs σ H Q
  | [], [], _, _, _, h => ⟨rfl, h⟩
  | [], _ :: _, _, _, hl, _ => by simp at hl
  | _ :: _, [], _, _, hl, _ => by simp at hl
  | i :: l, v :: vs, σ, Q, hl, h => ⟨v, vs, rfl, fold_tup (l := l) (by simpa using hl) h⟩
theorem RFA.alloc {vs : List V} {xs : List R} {o : HO} (h : RFA C Y g s σ H vs xs) (hp : H b = none) : RFA C Y g s σ (upd H b o) vs xs := by
  induction h with
  | nil => exact .nil
  | cons rf hd r0 ih =>
    rename_i v vs x xs
    refine .cons ?_ hd ih
    unfold RF at rf ⊢
    by_cases hx : x.2 = true
    · rw [if_pos hx] at rf ⊢
      obtain ⟨d, e, o1, no⟩ := rf
      exact ⟨d, e, o1.keep fun a _ u ha => by rw [upd_ne fun z => by rw [z, hp] at ha; cases ha]; exact ha, no⟩
    · rw [if_neg hx] at rf ⊢
      exact rf

/-! ### ends -/
def Fin (C : Ct) (W : WX) (Y : Fx) (g : Gh) (o : Out Fl) (E : Ends) : Prop := match o with
  | .ok .nx s => ∀ g' σ H, GLe g g' → Good C Y g' s σ H → E.nx σ H
  | .ok (.rt x fr) s => ∀ g' σ H v, GLe g g' → Good C Y g' s σ H → RF C Y g' s σ H v (x, fr) → E.rt v H
  | .exc x s => ∀ g' σ H c, GLe g g' → Good C Y g' s σ H → C.ea x.cls = some c → W (.ref c) none σ H
  | .bad => False
def Ts (C : Ct) (W : WX) (r : S → Out Fl) : TS := fun E σ H => ∃ Y g s, Good C Y g s σ H ∧ Fin C W Y g (r s) E
theorem Fin.le {o : Out Fl} {E : Ends} (h : Fin C W Y g o E) (l : GLe g g') : Fin C W Y g' o E := by
  cases o with
  | ok f s => cases f with
    | nx => exact fun g2 σ H l2 => h g2 σ H (l.trans l2)
    | rt x fr => exact fun g2 σ H v l2 => h g2 σ H v (l.trans l2)
  | exc x s => exact fun g2 σ H c l2 => h g2 σ H c (l.trans l2)
  | bad => exact h
/-- an expression ahead -/
theorem Fin.bind {A : Type} {o : Out A} {f : A → S → Out Fl} {E : Ends} (h : Fin C W Y g (o.bind f) E) : Af C W Y g σ o fun a s' g' _ => Fin C W Y g' (f a s') E := by
  cases o with
  | ok a s => exact fun g2 H2 l2 _ => Fin.le h l2
  | exc x s => exact fun g2 H2 c l2 G2 e => h g2 σ H2 c l2 G2 e
  | bad => exact h
/-- a statement ahead -/
def thenF (h : S → Out Fl) (f : Fl) (s : S) : Out Fl := match f with
  | .nx => h s
  | .rt a fr => .ok (.rt a fr) s
theorem Fin.seq {o : Out Fl} {h : S → Out Fl} {E E' : Ends} (q : Fin C W Y g (o.bind (thenF h)) E) (hr : E'.rt = E.rt) (hn : ∀ g' s' σ H, GLe g g' → Good C Y g' s' σ H → Fin C W Y g' (h s') E → E'.nx σ H) : Fin C W Y g o E' := by
  cases o with
  | ok f s => cases f with
    | nx => exact fun g2 σ H l2 G2 => hn g2 s σ H l2 G2 (Fin.le (show Fin C W Y g (h s) E from q) l2)
    | rt x fr => exact fun g2 σ H v l2 G2 rf => by rw [hr]; exact q g2 σ H v l2 G2 rf
  | exc x s => exact q
  | bad => exact q
theorem Fin.nx {E : Ends} (h : Fin C W Y g (.ok .nx s) E) (G0 : Good C Y g s σ H) : E.nx σ H := h g σ H (GLe.refl _) G0
end
end Pv
set_option maxHeartbeats 200000
set_option maxHeartbeats 4000000
/-! Pv: every statement that is checked runs as the evaluator tells. -/
namespace Pv
open PySem PySem.Spec PyProof.Rows L2

structure OkS (C : Ct) (c : Cc) (G : List D) (F : CallF) (n : Nat) (W : WX) (X : Cx) : Prop where
  ok : Ok C c G F n W X
  own : PassesOwn (model X.prog X.w) X.A X.env X.xe
  kind : X.env.scope.kind = .function
  en : ∀ (i : Nat) (x : Str), c.M.ens[i]? = some x → Gl X x → (x == ("__debug__" : Str)) = false → ∀ (m : Str) (j : Nat) (p p2 pos : Pos),
    PMk X (.Call (.Name x p) [.Constant (.str m) j p2] [] pos) (fun _ H Q => ∀ a, C.ea i = some a → Q (.ref a) none H)
  enx : ∀ (i : Nat) (x : Str), c.M.ens[i]? = some x → ∃ a, C.ea i = some a
section
variable {C : Ct} {c : Cc} {G : List D} {F : CallF} {n : Nat} {W : WX} {X : Cx} {Y : Fx} {g g' : Gh} {s s' : S} {σ σ' : L2.St} {H H' : Hp} {v u : V}
abbrev Hs (C : Ct) (c : Cc) (W : WX) (X : Cx) (G : List D) (F : CallF) (x : Sm) : Prop := ∀ st, chkS c x st = true → PS X st (Ts C W (evS G F x))
abbrev Hb (C : Ct) (c : Cc) (W : WX) (X : Cx) (G : List D) (F : CallF) (l : List Sm) : Prop := ∀ sts, chkB c l sts = true → PSs X sts (Ts C W (evB G F l))
theorem PSs.weak {sts : List Stmt} {t t' : TS} (h : PSs X sts t) (hw : ∀ D σ H, t' D σ H → t D σ H) : PSs X sts t' := ⟨fun pins s σ H D I q => h.run pins s σ H D I (hw D σ H q)⟩

theorem s_asg (ok : OkS C c G F n W X) {t : Tg} {e : Ex} {st : Stmt} (h : chkS c (.asg t e) st = true) : PS X st (Ts C W (evS G F (.asg t e))) := by
  unfold chkS at h
  split at h <;> rename_i z <;> first | (cases z; done) | (cases h; done) | skip
  cases z
  rename_i tg v pos
  simp only [Bool.and_eq_true] at h
  obtain ⟨⟨h1, h2⟩, h3⟩ := h
  have pe := (sim e ok.ok h2).1.pe
  have main : ∀ E σ H, Ts C W (evS G F (.asg t e)) E σ H → tAsg (Te C W (ev G F e)) (gTg C t) E σ H := fun E σ H ⟨Y, g, s, G0, q⟩ => by
    have q' : Fin C W Y g ((ev G F e s).bind fun x s => match store t x.1 x.2 s with | some s' => .ok .nx s' | none => .bad) E := q
    refine Te.intro G0 (q'.bind.mono fun x s' g' H' l G' q v rf => ?_)
    cases hs : store t x.1 x.2 s' with
    | none => rw [hs] at q; exact q.elim
    | some s2 =>
      rw [hs] at q
      exact store_run G' rf hs fun σ' g2 l2 sb G2 => (q.le l2).nx G2
  have b1 : (assignEach [tg] X.env).map (·.2) = [assign tg X.env] := by cases tg <;> first | rfl | cases h3
  cases tg <;> first | (cases h3; done) | skip
  · rename_i x py
    have hw : swappedStores [.Name x py] v X.env = pure none := rfl
    cases t with
    | tup l => cases h1
    | nm i =>
      by_cases hc : isComp v = false
      · exact PS.weak (ps_asg pe (tg_ok ok.ok h1) (by unfold swapsWithSole; exact noswap hc) hw b1) main
      · cases v <;> first | (exact absurd rfl hc; done) | skip
        · -- a comprehension
          rename_i elt gens scope vp
          obtain ⟨e1, t1, it1, ifs1, own1, rfl⟩ : ∃ e1 t1 it1 ifs1 own1, e = .lc e1 t1 it1 ifs1 own1 := by
            cases e <;> first | (exfalso; simp [chk] at h2; done) | exact ⟨_, _, _, _, _, rfl⟩
          obtain ⟨elt', te, iter, qs, scope', pos', e3, h4⟩ := lc_shape h2
          cases e3
          have hsto := h1
          simp only [tgC, tgC1, Cc.sto, Bool.and_eq_true, decide_eq_true_eq] at hsto
          have hN : X.N[i]? = some x := by rw [ok.ok.eN]; exact hsto.1
          cases hb : (X.env.scope.names.lookup x == some .local && py.line == vp.line && !(scope.names.any fun (n, k) => n == x && (k == .local || k == .cell))) with
          | false =>
            refine PS.weak (ps_asg pe (tg_ok ok.ok h1) ?_ hw b1) main
            unfold swapsWithSole
            have kb : X.env.blockKind = .function := by unfold Env.blockKind; rw [ok.kind]; rfl
            unfold swapsWith
            simp only [kb]
            show pure (true && X.env.scope.names.lookup x == some .local && py.line == vp.line && !(scope.names.any fun (n, k) => n == x && (k == .local || k == .cell))) = _
            rw [Bool.true_and, hb]
          | true =>
            have hs : swapsWith (.ListComp elt [⟨te, iter, qs, 0⟩] scope vp) (some (.Name x py)) pos.line X.env = pure true := by
              have kb : X.env.blockKind = .function := by unfold Env.blockKind; rw [ok.kind]; rfl
              unfold swapsWith
              simp only [kb]
              show pure (true && X.env.scope.names.lookup x == some .local && py.line == vp.line && !(scope.names.any fun (n, k) => n == x && (k == .local || k == .cell))) = _
              rw [Bool.true_and, hb]
            simp only [Bool.and_eq_true, beq_iff_eq] at hb
            have r := lc_of (pos := vp) (tg := t1) (own := own1) ok.ok (fun X' ok' _ h => sim e1 ok' h) (fun tg p h => simIt it1 ok.ok h) (fun X' ok' _ h => sims ifs1 ok' h) h4
            exact PS.weak (r.2 hN hb.1.1 hs) main
        · exfalso; cases e <;> simp [chk] at h2
        · exfalso; cases e <;> simp [chk] at h2
  · rename_i ts kt pt
    have hw : swappedStores [.Tuple ts kt pt] v X.env = pure none := by cases v <;> first | rfl | cases h3
    have hs : swapsWith v (some (.Tuple ts kt pt)) pos.line X.env = pure false := by cases v <;> rfl
    exact PS.weak (ps_asg pe (tg_ok ok.ok h1) hs hw b1) main

theorem looked {i : Nat} {k : S → Out Fl} {E : Ends} (G0 : Good C Y g s σ H) (q : Fin C W Y g (match look i s with | none => .bad | some _ => k s) E) : ∃ v, σ[i]? = some (some v) ∧ Fin C W Y g (k s) E := by
  cases e : look i s with
  | none => rw [e] at q; exact q.elim
  | some x =>
    rw [e] at q
    obtain ⟨v, hv, _⟩ := G0.look e
    exact ⟨v, hv, q⟩
theorem s_setix (ok : OkS C c G F n W X) {i : Nat} {k e : Ex} {st : Stmt} (h : chkS c (.setix i k e) st = true) : PS X st (Ts C W (evS G F (.setix i k e))) := by
  unfold chkS at h
  split at h <;> rename_i z <;> first | (cases z; done) | (cases h; done) | skip
  cases z
  simp only [Bool.and_eq_true, Bool.not_eq_true'] at h
  obtain ⟨⟨⟨⟨h1, h2⟩, h3⟩, h4⟩, h5⟩ := h
  rename_i x p1 q p2 v pos
  have hs : swapsWithSole [.Subscript (.Name x p1) q p2] v pos.line X.env = pure false := by unfold swapsWithSole; exact noswap h5
  have ps := ps_asg (pos := pos) (sim e ok.ok h4).1.pe (pg_sub (pos := p2) (ok.ok.var (pos := p1) h1) (sim k ok.ok h2).1.pe set_list (by intro v; cases q <;> first | rfl | cases h3)) hs rfl rfl
  refine PS.weak ps fun E σ H ⟨Y, g, s, G0, q⟩ => ?_
  have q' : Fin C W Y g ((ev G F e s).bind fun x s => match look i s with | none => .bad | some _ => (ev G F k s).bind fun y s => setO i x.1 y.1 s) E := q
  refine Te.shared G0 (q'.bind.mono fun x1 s1 g1 H1 l1 G1 q g2 v l2 G2 rv => ?_)
  obtain ⟨o, ho, q⟩ := looked (k := fun s => (ev G F k s).bind fun y s => setO i x1.1 y.1 s) G2 (q.le l2)
  refine ⟨o, ho, Te.shared G2 (q.bind.mono fun y s3 g3 H3 l3 G3 q0 g4 iv l4 G4 ri => ?_)⟩
  have q := q0.le l4
  unfold setO at q
  cases e1 : s3.at i with
  | un => rw [e1] at q; exact q.elim
  | va z => rw [e1] at q; exact q.elim
  | ow z =>
    rw [e1] at q
    cases z with
    | list l =>
      obtain ⟨x1v, x1f⟩ := x1
      obtain ⟨yv, yf⟩ := y
      cases x1v with
      | drw => exact q.elim
      | fn f => exact q.elim
      | clo m cs => exact q.elim
      | d x =>
        cases yv with
        | drw => exact q.elim
        | fn f => exact q.elim
        | clo m cs => exact q.elim
        | d yd =>
          cases yd <;> first | (exact q.elim; done) | skip
          rename_i j
          simp only at q
          cases e2 : L2.ixN l.length j with
          | none => rw [e2] at q; exact q.elim
          | some m =>
            rw [e2] at q
            obtain ⟨a, xs, k1, k2, k3, k4, k5⟩ := own_at G4 e1
            rw [k1] at ho
            cases ho
            cases ri
            refine ⟨a, xs, j, m, rfl, rfl, k3, by rw [k4.length]; exact e2, ?_⟩
            exact Fin.nx (s := s3.put i (.ow (.list (l.set m x)))) q (G4.write k2 k1 k5 (k4.set m (show Rp C.K g4.R v x from rv.le (l3.trans l4))))
    | _ => exact q.elim
theorem s_app (ok : OkS C c G F n W X) {i : Nat} {e : Ex} {st : Stmt} (h : chkS c (.app i e) st = true) : PS X st (Ts C W (evS G F (.app i e))) := by
  unfold chkS at h
  split at h <;> rename_i z <;> first | (cases z; done) | (cases h; done) | skip
  cases z
  simp only [Bool.and_eq_true, decide_eq_true_eq] at h
  obtain ⟨⟨⟨⟨rfl, h1⟩, h2⟩, h3⟩, h4⟩ := h
  rename_i x p1 apos p cpos pos
  have hst : starEach [p] X.env = (false, eval p X.env) :: starEach [] X.env := star_cons h3
  have pe := pe_bm (es := []) (cpos := cpos) (apos := apos) PySem.F.plainAttrs_list PySem.F.slot_list_append PySem.F.type_list_append mt_append (ok.ok.var (pos := p1) h1) (pa_cons (sim e ok.ok h2).1.pe pa_nil hst) rfl (by rw [hst]; rfl) h4 hst rfl
  refine PS.weak (ps_expr pe rfl) fun E σ H ⟨Y, g, s, G0, q⟩ => ?_
  have q' : Fin C W Y g (match s.at i with | .ow (.list _) => (ev G F e s).bind fun x s => appO i x.1 s | _ => .bad) E := q
  obtain ⟨l0, e0, q⟩ : ∃ l, s.at i = .ow (.list l) ∧ Fin C W Y g ((ev G F e s).bind fun x s => appO i x.1 s) E := by
    split at q'
    · rename_i l e0; exact ⟨l, e0, q'⟩
    · exact q'.elim
  obtain ⟨a0, xs0, ho, _, h6, _⟩ := own_at G0 e0
  have hown : ∃ a, σ[i]? = some (some (.ref a)) ∧ ∃ xs, SqL X.K H a xs := ⟨a0, ho, xs0, .inl (.inl h6)⟩
  refine ⟨.ref a0, ho, ?_, Te.shared G0 (q.bind.mono fun x s3 g3 H3 l3 G3 q0 g4 v l4 G4 rv => ?_)⟩
  · obtain ⟨a, h5, h6⟩ := hown
    rw [h5] at ho
    cases ho
    exact .inl ⟨rfl, h6⟩
  · have q := q0.le l4
    unfold appO at q
    cases e1 : s3.at i with
    | un => rw [e1] at q; exact q.elim
    | va z => rw [e1] at q; exact q.elim
    | ow z =>
      rw [e1] at q
      cases z with
      | list l =>
        obtain ⟨xv, xf⟩ := x
        cases xv with
        | drw => exact q.elim
        | fn f => exact q.elim
        | clo m cs => exact q.elim
        | d xd =>
          simp only at q
          split at q <;> first | (exact q.elim; done) | skip
          rename_i hz
          obtain ⟨a, xs, k1, k2, k3, k4, k5⟩ := own_at G4 e1
          rw [k1] at ho
          cases ho
          exact ⟨_, xs, v, rfl, rfl, k3, by rw [k4.length]; exact hz, Fin.nx (s := s3.put i (.ow (.list (l ++ [xd])))) q (G4.write k2 k1 k5 (k4.snoc rv))⟩
      | _ => exact q.elim
theorem s_dset (ok : OkS C c G F n W X) {i : Nat} {k : Dk} {e : Ex} {st : Stmt} (h : chkS c (.dset i k e) st = true) : PS X st (Ts C W (evS G F (.dset i k e))) := by
  unfold chkS at h
  split at h <;> rename_i z <;> first | (cases z; done) | (cases h; done) | skip
  cases z
  simp only [Bool.and_eq_true, Bool.not_eq_true', decide_eq_true_eq] at h
  obtain ⟨⟨⟨h1, rfl⟩, h3⟩, h4⟩ := h
  rename_i x p1 j p2 p3 v pos
  have hu : X.A.units + 1 < cLine := by have := ok.ok.room.un; omega
  refine PS.weak (ps_dput hu (ok.ok.var (pos := p1) h1) pe_str (sim e ok.ok h3).1.pe (noswap h4)) fun E σ H ⟨Y, g, s, G0, q⟩ => ?_
  have q' : Fin C W Y g ((ev G F e s).bind fun x s => drO i s fun st s => match x.1 with
    | .d (.int n) => match st.set k n with
      | some st => .ok .nx { s with dr := some st }
      | none => .bad
    | _ => .bad) E := q
  refine Te.shared G0 (q'.bind.mono fun x1 s1 g1 H1 l1 G1 q0 g2 v l2 G2 rv => ?_)
  have q := q0.le l2
  obtain ⟨xv, xf⟩ := x1
  rcases dr_at G2 i with ⟨a, l, cc, st, h, e⟩ | e
  · rw [e] at q
    cases xv with
    | drw => exact q.elim
    | fn f => exact q.elim
    | clo m cs => exact q.elim
    | d xd =>
      cases xd <;> first | (exact q.elim; done) | skip
      rename_i m
      cases rv
      simp only at q
      cases hs : st.set k m with
      | none => rw [hs] at q; exact q.elim
      | some st' =>
        rw [hs] at q
        have hlen : (drK l cc st).length < sizeLine := by rw [sizeLine_eq]; simp [drK]
        have key : putK (drK l cc st) (.inr (dkN k)) (.int m) = drK l cc st' ∧ st'.large = st.large ∧ st'.cells = st.cells := by
          cases k with
          | cells => cases hs
          | rest =>
            cases hs
            have n1 : ¬ Str.ofString "large" = Str.ofString "rest" := by decide
            have n2 : ¬ Str.ofString "cells" = Str.ofString "rest" := by decide
            have n3 : ¬ Str.ofString "turn" = Str.ofString "rest" := by decide
            exact ⟨by simp [putK, drK, dkN, n1, n2, n3], rfl, rfl⟩
          | turn =>
            cases hs
            have n1 : ¬ Str.ofString "large" = Str.ofString "turn" := by decide
            have n2 : ¬ Str.ofString "rest" = Str.ofString "turn" := by decide
            have n3 : ¬ Str.ofString "cells" = Str.ofString "turn" := by decide
            exact ⟨by simp [putK, drK, dkN, n1, n2, n3], rfl, rfl⟩
        refine ⟨.ref a, h.nm, a, _, rfl, .inl ⟨drK l cc st, .inr (dkN k), h.hd, rfl, hlen, rfl⟩, ?_⟩
        rw [key.1]
        have G3 := G2.draws (b := a) (o := .dK (drK l cc st')) (st := st') ⟨_, h.gd, .inl rfl⟩ (h.ok upd_same (by rw [upd_ne (Ne.symm h.ne), key.2.1]; exact h.hl) key.2.2)
        exact Fin.nx (s := { s1 with dr := some st' }) q G3
  · rw [e] at q; exact q.elim
theorem s_expr (ok : OkS C c G F n W X) {e : Ex} {st : Stmt} (h : chkS c (.expr e) st = true) : PS X st (Ts C W (evS G F (.expr e))) := by
  unfold chkS at h
  split at h <;> rename_i z <;> first | (cases z; done) | (cases h; done) | skip
  cases z
  simp only [Bool.and_eq_true, Bool.not_eq_true'] at h
  refine PS.weak (ps_expr (sim e ok.ok h.1).1.pe (noswap h.2)) fun E σ H ⟨Y, g, s, G0, q⟩ => ?_
  have q' : Fin C W Y g ((ev G F e s).bind fun _ s => .ok .nx s) E := q
  exact Te.shared G0 (q'.bind.mono fun x s3 g3 H3 l3 G3 q g4 v l4 G4 rv => Fin.nx (s := s3) (q.le l4) G4)
theorem s_ifs (ok : OkS C c G F n W X) {t : Ex} {a b : List Sm} (ha : Hb C c W X G F a) (hb : Hb C c W X G F b) {st : Stmt} (h : chkS c (.ifs t a b) st = true) : PS X st (Ts C W (evS G F (.ifs t a b))) := by
  unfold chkS at h
  split at h <;> rename_i z <;> first | (cases z; done) | (cases h; done) | skip
  cases z
  simp only [Bool.and_eq_true] at h
  refine PS.weak (ps_if (sim t ok.ok h.1.1).1.pt (ha _ h.1.2) (hb _ h.2)) fun E σ H ⟨Y, g, s, G0, q⟩ => ?_
  have q' : Fin C W Y g ((tst (t, ev G F t) s).bind fun k s => if k then evB G F a s else evB G F b s) E := q
  refine ⟨Y, g, s, G0, q'.bind.mono fun k s' g' H' l G' q => ?_⟩
  cases k with
  | true => exact ⟨Y, g', s', G', q⟩
  | false => exact ⟨Y, g', s', G', q⟩
theorem s_loop (ok : OkS C c G F n W X) {t : Ex} {b : List Sm} (hb : Hb C c W X G F b) {st : Stmt} (h : chkS c (.loop t b) st = true) : PS X st (Ts C W (evS G F (.loop t b))) := by
  unfold chkS at h
  split at h <;> rename_i z <;> first | (cases z; done) | (cases h; done) | skip
  cases z
  simp only [Bool.and_eq_true] at h
  refine PS.weak (ps_while ok.own (sim t ok.ok h.1).1.pt (hb _ h.2)) fun E σ H ⟨Y, g, s, G0, q⟩ => ?_
  have q' : Fin C W Y g (whL (tst (t, ev G F t)) (evB G F b) turns s) E := q
  refine ⟨fun m σ H => ∃ g' s', Good C Y g' s' σ H ∧ Fin C W Y g' (whL (tst (t, ev G F t)) (evB G F b) m s') E, ⟨turns, g, s, G0, q'⟩, ?_⟩
  rintro m σ H ⟨g1, s1, G1, q1⟩
  cases m with
  | zero => exact q1.elim
  | succ m =>
    have q2 : Fin C W Y g1 ((tst (t, ev G F t) s1).bind fun k s' => if k then (evB G F b s').bind (thenF (whL (tst (t, ev G F t)) (evB G F b) m)) else .ok .nx s') E := q1
    refine ⟨Y, g1, s1, G1, q2.bind.mono fun k s' g' H' l G' q => ?_⟩
    cases k with
    | false => exact Fin.nx (s := s') q G'
    | true =>
      rw [if_pos rfl] at q ⊢
      refine ⟨fun σ H => ∃ g' s', Good C Y g' s' σ H ∧ Fin C W Y g' (whL (tst (t, ev G F t)) (evB G F b) m s') E, fun σ' H' w => ⟨m, Nat.lt_succ_self m, w⟩, Y, g', s', G', ?_⟩
      exact q.seq rfl fun g2 s2 σ2 H2 l2 G2 q2 => ⟨g2, s2, G2, q2⟩
theorem s_each (ok : OkS C c G F n W X) {t : Tg} {it : It} {b : List Sm} (hb : Hb C c W X G F b) {st : Stmt} (h : chkS c (.each t it b) st = true) : PS X st (Ts C W (evS G F (.each t it b))) := by
  unfold chkS at h
  split at h <;> rename_i z <;> first | (cases z; done) | (cases h; done) | skip
  cases z
  simp only [Bool.and_eq_true] at h
  refine PS.weak (ps_for ok.own ok.ok.calm (simIt it ok.ok h.1.1) (tg_ok ok.ok h.1.2) (hb _ h.2) (nofold h.1.1)) fun E σ H ⟨Y, g, s, G0, q⟩ => ?_
  have q' : Fin C W Y g ((evIt G F it s).bind fun xs s => forL (fun x s => match store t (.d x) false s with | some s' => evB G F b s' | none => .bad) xs s) E := q
  refine ⟨Y, g, s, G0, q'.bind.mono fun xs s1 g1 H1 l1 G1 q J wd => ?_⟩
  obtain ⟨Gd, Yd, w, hG, hY⟩ := wd
  refine for_it w (fun i σ H => ∃ g' s', GLe g1 g' ∧ Good C Y g' s' σ H ∧ Fin C W Y g' (forL (fun x s => match store t (.d x) false s with | some s' => evB G F b s' | none => .bad) (xs.drop i) s') E)
    ⟨g1, s1, GLe.refl _, G1, by simpa using q⟩ (fun i σ H _ ⟨g', s', l, G', _⟩ => hG H (l.le.trans G'.le)) (fun i x σ H H' hi ⟨g', s', l, G', q⟩ y => ?_) (fun σ H ⟨g', s', l, G', q⟩ => ?_)
  · obtain ⟨g2, d, l2, G2, e1, rp⟩ := hY _ _ _ _ _ i x H' l G' y
    have hdrop : xs.drop i = d :: xs.drop (i + 1) := by
      obtain ⟨h1, h2⟩ := List.getElem?_eq_some_iff.mp e1
      rw [List.drop_eq_getElem_cons h1, h2]
    rw [hdrop] at q
    have q1 : Fin C W Y g' ((match store t (.d d) false s' with | some s' => evB G F b s' | none => .bad).bind (thenF (forL (fun x s => match store t (.d x) false s with | some s' => evB G F b s' | none => .bad) (xs.drop (i + 1))))) E := q
    cases hs : store t (.d d) false s' with
    | none => rw [hs] at q1; exact q1.elim
    | some s2 =>
      rw [hs] at q1
      refine store_run G2 (RF.data rp) hs fun σ2 g3 l3 sb G3 => ⟨Y, g3, s2, G3, ?_⟩
      exact (q1.le (l2.trans l3)).seq rfl fun g4 s4 σ4 H4 l4 G4 q4 => ⟨g4, s4, l.trans (l2.trans (l3.trans l4)), G4, q4⟩
  · rw [List.drop_length] at q
    exact Fin.nx (s := s') q G'
theorem s_ret (ok : OkS C c G F n W X) {e : Ex} {st : Stmt} (h : chkS c (.ret e) st = true) : PS X st (Ts C W (evS G F (.ret e))) := by
  unfold chkS at h
  split at h <;> rename_i z <;> first | (cases z; done) | (cases h; done) | skip
  cases z
  rename_i p pos
  by_cases hv : ∃ i, e = .v i
  · obtain ⟨i, rfl⟩ := hv
    have pv : PE X p (tVar i) := (sim (.v i) ok.ok h).1.to
    refine PS.weak (ps_ret pv) fun E σ H ⟨Y, g, s, G0, q⟩ => ?_
    have q' : Fin C W Y g (match s.at i with
      | .un => .bad
      | .va (.d x) => .ok (.rt (.d x) false) s
      | .va .drw => .ok (.rt .drw false) s
      | .va (.fn f) => .ok (.rt (.fn f) false) s
      | .va (.clo _ _) => .bad
      | .ow d => .ok (.rt (.d d) true) (s.put i .un)) E := q
    cases e : s.at i with
    | un => rw [e] at q'; exact q'.elim
    | va x =>
      rw [e] at q'
      have e1 := at_env e (by simp)
      have hi : i < σ.length := by rw [← G0.len]; exact (List.getElem?_eq_some_iff.mp e1).1
      obtain ⟨v, ev, r⟩ := G0.slot i _ _ e1 (List.getElem?_eq_getElem hi)
      have ev' : σ[i]? = some (some v) := by rw [List.getElem?_eq_getElem hi, ev]
      cases x with
      | d x => exact ⟨v, ev', q' g σ H v (GLe.refl _) G0 (RF.of r)⟩
      | drw => exact ⟨v, ev', q' g σ H v (GLe.refl _) G0 (RF.of r)⟩
      | fn f => exact ⟨v, ev', q' g σ H v (GLe.refl _) G0 (RF.of r)⟩
      | clo m cs => exact q'.elim
    | ow d =>
      rw [e] at q'
      have e1 := at_env e (by simp)
      have hi : i < σ.length := by rw [← G0.len]; exact (List.getElem?_eq_some_iff.mp e1).1
      obtain ⟨v, ev, o⟩ := G0.slot i _ _ e1 (List.getElem?_eq_getElem hi)
      have e2 : σ[i]? = some (some v) := by rw [List.getElem?_eq_getElem hi, ev]
      obtain ⟨G1, no⟩ := G0.let_go e1 e2
      refine ⟨v, e2, q' g σ H v (GLe.refl _) G1 ?_⟩
      unfold RF
      rw [if_pos rfl]
      exact ⟨d, rfl, o, no⟩
  · have e1 : evS G F (.ret e) = fun s => (ev G F e s).bind fun x s => .ok (.rt x.1 x.2) s := by
      funext s
      cases e <;> first | rfl | exact absurd ⟨_, rfl⟩ hv
    rw [e1]
    refine PS.weak (ps_ret (sim e ok.ok h).1.pe) fun E σ H ⟨Y, g, s, G0, q⟩ => ?_
    exact Te.intro G0 (q.bind.mono fun x s' g' H' l G' q v rf => q g' σ H' v (GLe.refl _) G' rf)
theorem s_raise (ok : OkS C c G F n W X) {k : Nat} {m : Str} {st : Stmt} (h : chkS c (.raise k m) st = true) : PS X st (Ts C W (evS G F (.raise k m))) := by
  unfold chkS at h
  split at h <;> rename_i z <;> first | (cases z; done) | (cases h; done) | skip
  cases z
  simp only [Bool.and_eq_true, decide_eq_true_eq] at h
  obtain ⟨g1, g2, g3⟩ := ok.ok.hgl h.2
  refine PS.weak (ps_raise ok.ok.calm ok.ok.tk (ok.en k _ h.1 g1 g2 _ _ _ _ _)) fun E σ H ⟨Y, g, s, G0, q⟩ => ?_
  exact fun a ha => q g σ H a (GLe.refl _) G0 ha
theorem s_par (ok : OkS C c G F n W X) {l : List Nat} {k : List Ex} {st : Stmt} (h : chkS c (.par l k) st = true) : PS X st (Ts C W (evS G F (.par l k))) := by
  unfold chkS at h
  split at h <;> rename_i z <;> first | (cases z; done) | (cases h; done) | skip
  cases z
  simp only [Bool.and_eq_true, decide_eq_true_eq] at h
  obtain ⟨⟨⟨h1, h2⟩, h3⟩, h4⟩ := h
  rename_i ts kt pt vs k2 pt2 pos
  have pa : PA X vs (Tes C W (evEach G F k)) := args_of (fun _ h => sims k ok.ok h) h2
  have run : ∀ {E : Ends} {σ : L2.St} {H : Hp} {Q : List V → Hp → Prop}, Ts C W (evS G F (.par l k)) E σ H →
      (∀ vs H, l.length = vs.length → (∃ Y g s xs, Good C Y g s σ H ∧ RFA C Y g s σ H vs xs ∧ ∀ σ' H', Good C Y g ((l.zip xs).foldl (fun s p => s.put p.1 (mine p.2.1 p.2.2)) s) σ' H' → E.nx σ' H') → Q vs H) →
      Tes C W (evEach G F k) σ H Q := fun {E σ H Q} ⟨Y, g, s, G0, q⟩ hQ => by
    have q' : Fin C W Y g ((evF (evEach G F k) s).bind fun vs s => if vs.length = l.length then .ok .nx ((l.zip vs).foldl (fun s p => s.put p.1 (mine p.2.1 p.2.2)) s) else .bad) E := q
    refine evF_run _ G0 (q'.bind) fun vs xs s' g' H' l' G' q rfa => ?_
    split at q <;> first | (exact q.elim; done) | skip
    rename_i hl
    exact hQ vs H' (by rw [rfa.length, hl]) ⟨Y, g', s', xs, G', rfa, fun σ' H2 G2 => Fin.nx (s := (l.zip xs).foldl (fun s p => s.put p.1 (mine p.2.1 p.2.2)) s') q G2⟩
  have hs : swapsWithSole [.Tuple ts kt pt] (.Tuple vs k2 pt2) pos.line X.env = pure false := by unfold swapsWithSole; rfl
  unfold parOk at h4
  cases hp : swapP c ts vs with
  | none => rw [hp] at h4; cases h4
  | some r =>
    rw [hp] at h4
    have hw := fun k k2 p p2 => swap_eq (env := X.env) (k := k) (k2 := k2) (p := p) (p2 := p2) ok.ok.esc ok.kind hp
    cases r with
    | none =>
      -- a tuple is made and taken apart
      refine PS.weak (ps_asg (pe_tup pa) (tg_ok (t := .tup l) ok.ok h1) hs (hw _ _ _ _) rfl) fun E σ H q => ?_
      refine run q fun us H hl ⟨Y, g, s, xs, G0, rfa, q⟩ => ?_
      refine ⟨by rw [← hl, sizeLine_eq]; omega, fun p hp => ⟨p, us, rfl, .inl (.inl upd_same), hl.symm, fold_tup hl ?_⟩⟩
      exact q _ _ (fold_set (G0.alloc hp) (rfa.alloc hp) (by rw [hl, rfa.length]))
    | some ns =>
      simp only at h4
      split at h4
      · simp only [Bool.and_eq_true, decide_eq_true_eq] at h4
        obtain ⟨⟨⟨⟨⟨rfl, k1⟩, k2⟩, k3⟩, k4⟩, k5⟩ := h4
        refine PS.weak (ps_par ok.ok.calm ok.ok.nd (by rw [ok.ok.eN]; exact k1) (by rw [ok.ok.eN]; exact k2) k5 (by rw [ok.ok.esc]; exact k3) (by rw [ok.ok.esc]; exact k4) pa (hw _ _ _ _) hs) fun E σ H q => ?_
        refine run q fun us H hl ⟨Y, g, s, xs, G0, rfa, q⟩ => ?_
        rcases us with _ | ⟨u1, _ | ⟨u2, _ | ⟨u3, us⟩⟩⟩ <;> first | (cases hl; done) | skip
        exact ⟨u1, u2, rfl, q _ _ (fold_set G0 rfa (by rw [hl, rfa.length]))⟩
      · simp only [Bool.and_eq_true, decide_eq_true_eq] at h4
        obtain ⟨⟨⟨⟨⟨⟨⟨⟨⟨rfl, k1⟩, k2⟩, k3⟩, k4⟩, k5⟩, k6⟩, k7⟩, k8⟩, k9⟩ := h4
        refine PS.weak (ps_par3 ok.ok.calm ok.ok.nd (by rw [ok.ok.eN]; exact k1) (by rw [ok.ok.eN]; exact k2) (by rw [ok.ok.eN]; exact k3) k7 k8 k9 (by rw [ok.ok.esc]; exact k4) (by rw [ok.ok.esc]; exact k5) (by rw [ok.ok.esc]; exact k6) pa (hw _ _ _ _) hs) fun E σ H q => ?_
        refine run q fun us H hl ⟨Y, g, s, xs, G0, rfa, q⟩ => ?_
        rcases us with _ | ⟨u1, _ | ⟨u2, _ | ⟨u3, _ | ⟨u4, us⟩⟩⟩⟩ <;> first | (cases hl; done) | skip
        exact ⟨u1, u2, u3, rfl, q _ _ (fold_set G0 rfa (by rw [hl, rfa.length]))⟩
      · cases h4
end

mutual
theorem simS {C : Ct} {G : List D} {F : CallF} {n : Nat} : ∀ (x : Sm) {c : Cc} {W : WX} {X : Cx} {st : Stmt}, OkS C c G F n W X → chkS c x st = true → PS X st (Ts C W (evS G F x))
  | .asg t e, _, _, _, _, ok, h => s_asg ok h
  | .par l k, _, _, _, _, ok, h => s_par ok h
  | .setix i k e, _, _, _, _, ok, h => s_setix ok h
  | .app i e, _, _, _, _, ok, h => s_app ok h
  | .expr e, _, _, _, _, ok, h => s_expr ok h
  | .dset i k e, _, _, _, _, ok, h => s_dset ok h
  | .ifs t a b, _, _, _, _, ok, h => s_ifs ok (fun _ h => simB a ok h) (fun _ h => simB b ok h) h
  | .loop t b, _, _, _, _, ok, h => s_loop ok (fun _ h => simB b ok h) h
  | .each t it b, _, _, _, _, ok, h => s_each ok (fun _ h => simB b ok h) h
  | .ret e, _, _, _, _, ok, h => s_ret ok h
  | .raise k m, _, _, _, _, ok, h => s_raise ok h
theorem simB {C : Ct} {G : List D} {F : CallF} {n : Nat} : ∀ (l : List Sm) {c : Cc} {W : WX} {X : Cx} {sts : List Stmt}, OkS C c G F n W X → chkB c l sts = true → PSs X sts (Ts C W (evB G F l))
  | [], c, W, X, sts, ok, h => by
    cases sts with
    | nil => exact PSs.weak pss_nil fun E σ H ⟨Y, g, s, G0, q⟩ => Fin.nx (s := s) q G0
    | cons _ _ => simp [chkB] at h
  | x :: r, c, W, X, sts, ok, h => by
    cases sts with
    | nil => simp [chkB] at h
    | cons st sts =>
      simp only [chkB, Bool.and_eq_true] at h
      refine PSs.weak (pss_cons (simS x ok h.1) (simB r ok h.2)) fun E σ H ⟨Y, g, s, G0, q⟩ => ?_
      have q' : Fin C W Y g ((evS G F x s).bind (thenF (evB G F r))) E := q
      exact ⟨Y, g, s, G0, q'.seq rfl fun g2 s2 σ2 H2 l2 G2 q2 => ⟨Y, g2, s2, G2, q2⟩⟩
end
end Pv
set_option maxHeartbeats 200000
set_option maxHeartbeats 4000000
/-! Pv: defs keep their promises. -/
namespace Pv
open PySem PySem.Spec PyProof.Rows L2

def sArgs : Stmt → Arguments
  | .FunctionDef (args := z) .. => z
  | _ => ⟨[], [], none, [], [], none, []⟩
def sBody : Stmt → List Stmt
  | .FunctionDef (body := z) .. => z
  | _ => []
def sScope : Stmt → Scope
  | .FunctionDef (scope := z) .. => z
  | _ => ⟨.function, [], false, false, []⟩
/-- a def without defaults, behind the top -/
structure Fd (K : PySem.W.Frag) (x : Str) (st : Stmt) (a : Addr) (cd : Value) (fd : FuncData) : Prop where
  eq : ∃ kV doc pm an ct, fd = PySem.W.fnOf x x (sArgs st) (sBody st) (sScope st) .none kV doc pm an cd ct
  lk : ∃ oc od osl, K.lookup a = some ⟨oc, od, .func fd, osl⟩
  code : PySem.W.codeIn K cd x = true
  keep : PySem.W.keepIn K (.ref a) = true
def posArgs (z : Arguments) : Bool := z.posonlyargs.isEmpty && z.vararg.isNone && z.kwonlyargs.isEmpty && z.kwarg.isNone
theorem look_zip : ∀ {ps : List Str} {us : List Value} {x : Str}, us.length = ps.length → x ∈ ps → ((ps.zip us).lookup x).isSome = true
  | [], _, _, _, h => by simp at h
  | _ :: _, [], _, h, _ => by simp at h
  | p :: ps, u :: us, x, h, hx => by
    rw [List.zip_cons_cons, List.lookup_cons]
    by_cases e : x == p
    · simp [e]
    · simp only [e]
      rcases List.mem_cons.mp hx with rfl | hx
      · simp at e
      · exact look_zip (by simpa using h) hx
theorem List.filterMap_congr' {A B : Type} {f g : A → Option B} : ∀ {l : List A}, (∀ x ∈ l, f x = g x) → l.filterMap f = l.filterMap g
  | [], _ => rfl
  | a :: l, h => by rw [List.filterMap_cons, List.filterMap_cons, h a List.mem_cons_self, List.filterMap_congr' fun x hx => h x (List.mem_cons_of_mem _ hx)]
theorem zip_back : ∀ {ps : List Str} {us : List Value}, us.length = ps.length → ps.Nodup → (ps.filterMap fun x => ((ps.zip us).lookup x).map (x, ·)) = ps.zip us
  | [], _, _, _ => by simp
  | _ :: _, [], h, _ => by simp at h
  | p :: ps, u :: us, h, nd => by
    rw [List.zip_cons_cons, List.filterMap_cons]
    simp only [List.lookup_cons, BEq.rfl]
    rw [Option.map_some]
    simp only [List.cons.injEq, true_and]
    refine Eq.trans (List.filterMap_congr' fun x hx => ?_) (zip_back (ps := ps) (us := us) (by simpa using h) (List.nodup_cons.mp nd).2)
    have : (x == p) = false := by
      simp only [beq_eq_false_iff_ne]
      rintro rfl
      exact (List.nodup_cons.mp nd).1 hx
    rw [this]
theorem bind_pos {fd : FuncData} {ps : List Str} (h : posArgs fd.params = true) (hd : fd.defaults = .none) (hp : fd.params.args.map (·.arg) = ps) (nd : ps.Nodup) (us : List Value) (hl : us.length = ps.length) : bindArgs fd ⟨us, []⟩ = pure (ps.zip us) := by
  unfold posArgs at h
  simp only [Bool.and_eq_true, List.isEmpty_iff, Option.isNone_iff_eq_none] at h
  obtain ⟨⟨⟨h1, h2⟩, h3⟩, h4⟩ := h
  have e1 : (ps.take ps.length).filter (fun n => ((ps.zip us).lookup n).isNone) = [] := by
    rw [List.take_length, List.filter_eq_nil_iff]
    intro x hx
    have := look_zip hl hx
    cases e : (ps.zip us).lookup x with
    | none => rw [e] at this; cases this
    | some v => simp
  unfold bindArgs
  simp only [h1, h2, h3, h4, hd, hp, List.map_nil, List.nil_append, List.append_nil]
  have e2 : (seqItems? Value.none : Sem (Option (Array Value))) = pure none := rfl
  rw [e2]
  have pb : ∀ {A B : Type} (a : A) (f : A → Sem B), (pure a >>= f) = f a := fun a f => rfl
  simp only [List.forIn_nil, pb]
  have e3 : (none.getD #[] : Array Value).toList = [] := rfl
  have e4 : ¬ (decide (us.length > ps.length) && (none : Option Arg).isNone) = true := by
    rw [hl]; simp
  rw [if_neg e4]
  simp only [e3, List.drop_nil, List.length_nil, Nat.sub_zero, e1, List.isEmpty_nil, Bool.not_true, List.zip_nil_right, List.forIn_nil, pb]
  rw [if_neg Bool.false_ne_true]
  rw [if_neg Bool.false_ne_true]
  rw [zip_back hl nd]

/-- a call of a def, from its body's run -/
theorem run_def {P : Program} {w : World} {K : PySem.W.Frag} {mg : Str → Option Value} {base : Heap} {m : Nat} {x : Str} {st : Stmt} {a : Addr} {cd : Value} {fd : FuncData} {N ps : List Str} {A : Around} {outer : List Env} {s : Shared} {H : Hp} {args : Args}
    {us : List Value} {vs : List V} {Q : VK} {E : XK} {t : TS} (f : Fd K x st a cd fd) (S : FnScope N ps (sScope st)) (hl : vs.length = ps.length) (hr : Room (m + 1) A) (e0 : Env0 P w K mg base A outer s H) (hb : BindsTo s fd args (ps.zip us)) (r : Vals vs us)
    (ht : PSs (cxOf (L2.CX P w) P w K mg base N x (sScope st) a cd A outer s H E) (sBody st) t) (hq : t { nx := fun _ H' => Q .non H', rt := Q } (start N vs) H) : codeAny (model P w) A (.call (.ref a) args) (CR (L2.CX P w) outer P w H s Q E) s := by
  obtain ⟨⟨kV, doc, pm, an, ct, rfl⟩, ⟨oc, od, osl, lk⟩, hcode, _⟩ := f
  have inK : K.In s.heap := e0.mod.kin.keeps fun b o z => (e0.bs b o z).1
  have kinds : ∀ y ∈ ps.zip us, (sScope st).names.lookup y.1 = some .local ∨ ((sScope st).names.lookup y.1 = some .cell ∧ ((cellsFrom (s.heap.objs.size + 1) (sScope st).names []).lookup y.1).isSome = true) := by
    rintro ⟨z, u⟩ hz
    exact (S.par z (List.of_mem_zip hz).1).imp id fun q => ⟨q, PySem.W.cellsFrom_some _ _ _ (.inl q)⟩
  refine codeAny_call_function hr.depth (inK _ _ lk) rfl S.co S.gen rfl (PySem.W.codeRec_of inK hcode) (hb _ _ _ _ ?_)
  refine wpAny_newFunctionEnv_cells S.kind kinds fun env he s1 hx => ?_
  subst he
  have lim := e0.mod.nolimit.keeps fun b o z => (e0.bs b o z).1
  refine ⟨lim.keeps hx.toInCall.keep, codeAny_func ?_⟩
  have I := inv_start (CX := L2.CX P w) (N := N) (qual := x) (scope := sScope st) (f := a) (cd := cd) (E := E) S hr.hd e0 hl r hx
  refine wpAny_mono (ht.run [] s1 _ H _ I hq) (fun fl s' z => ?_) fun _ _ z => z
  cases fl with
  | brk => exact z.elim fun _ h => h.elim fun _ h => h.2.elim
  | cont => exact z.elim fun _ h => h.elim fun _ h => h.2.elim
  | next =>
    obtain ⟨σ2, H2, J, q⟩ := z
    exact ⟨V.non, H2, J.os, J.bare, J.base, J.hok, rfl, q⟩
  | ret u =>
    obtain ⟨v, σ2, H2, J, rv, q⟩ := z
    exact ⟨v, H2, J.os, J.bare, J.base, J.hok, rv, q⟩

/-! ### a def's frame -/
/-- the frame's surroundings: all that lies there, but what is shared and the draws -/
def fxC (g : Gh) (H : Hp) : Fx := ⟨fun a o => H a = some o ∧ ¬ g.isDr a ∧ ¬ isTbl o ∧ (g.R a = none ∨ isFrz o), fun a => H a ≠ none ∧ g.R a = none, fun a o h => by
  rcases h.2.2.2 with z | z
  · exact .inl ⟨by rw [h.1]; simp, z⟩
  · exact .inr z, fun a o h => h.2.2.1⟩
section
variable {C : Ct} {g g' : Gh} {H H' : Hp} {s : S} {σ : L2.St} {v : V} {dr : Option Dr}
/-- values as a frame gets them -/
inductive RSA (C : Ct) (g : Gh) : List V → List SV → Prop
  | nil : RSA C g [] []
  | cons {v : V} {vs : List V} {x : SV} {xs : List SV} : RS C g v x → RSA C g vs xs → RSA C g (v :: vs) (x :: xs)
theorem RSA.length : ∀ {vs : List V} {xs : List SV}, RSA C g vs xs → vs.length = xs.length
  | _, _, .nil => rfl
  | _, _, .cons _ q => congrArg (· + 1) (RSA.length q)
theorem RSA.get : ∀ {vs : List V} {xs : List SV} {i : Nat} {x : SV}, RSA C g vs xs → xs[i]? = some x → ∃ v, vs[i]? = some v ∧ RS C g v x
  | _, _, _, _, .nil, h => by simp at h
  | _, _, 0, _, .cons h _, e => by simp at e; subst e; exact ⟨_, rfl, h⟩
  | _, _, i + 1, _, .cons _ q, e => by
    obtain ⟨y, h1, h2⟩ := RSA.get (i := i) q (by simpa using e)
    exact ⟨y, by simpa using h1, h2⟩
theorem RVA.rsa : ∀ {vs : List V} {xs : List SV}, RVA C g vs xs → RSA C g vs xs
  | _, _, .nil => .nil
  | _, _, .cons h q => .cons (RV.rs h) (RVA.rsa q)
theorem RSA.snoc : ∀ {vs : List V} {xs : List SV} {v : V} {x : SV}, RSA C g vs xs → RS C g v x → RSA C g (vs ++ [v]) (xs ++ [x])
  | _, _, _, _, .nil, h => .cons h .nil
  | _, _, _, _, .cons h q, r => .cons h (RSA.snoc q r)
theorem enter {N : List Str} {vs : List V} {xs : List SV} {np nn : Nat} (gg : GG C g dr H) (hcl : ∀ a k, C.cl a = some k → ClOk C g H a k) (r : RSA C g vs xs) (hn : nn = N.length) (hp : np = xs.length) (hle : np ≤ nn) :
    Good C (fxC g H) g ⟨xs.map .va ++ List.replicate (nn - np) .un, dr⟩ (L2.start N vs) H := by
  have hv := r.length
  refine ⟨gg.sub, fun a o k => k.1, fun a k => ⟨k.2, k.1⟩, ?_, fun i e y h1 h2 => ?_, fun i j a h1 h2 => ?_, ?_, ⟨gg.tb, hcl⟩⟩
  · unfold L2.start
    simp only [List.length_append, List.length_map, List.length_replicate]
    omega
  · by_cases hi : i < xs.length
    · have h1' : (xs.map Slot.va)[i]? = some e := by rw [← h1]; exact (List.getElem?_append_left (by simpa using hi)).symm
      rw [List.getElem?_map] at h1'
      unfold L2.start at h2
      rw [List.getElem?_append_left (by simp; omega), List.getElem?_map] at h2
      cases e1 : xs[i]? with
      | none => rw [e1] at h1'; cases h1'
      | some x =>
        rw [e1] at h1'
        cases h1'
        obtain ⟨u, e2, rv⟩ := r.get e1
        rw [e2] at h2
        cases h2
        exact ⟨u, rfl, rv⟩
    · have h1' : (List.replicate (nn - np) Slot.un)[i - xs.length]? = some e := by
        rw [← h1, List.getElem?_append_right (by simp; omega)]
        simp
      rw [List.getElem?_replicate] at h1'
      split at h1' <;> cases h1'
      trivial
  · obtain ⟨⟨d, h1⟩, _⟩ := h1
    exfalso
    have : Slot.ow d ∈ xs.map Slot.va ++ List.replicate (nn - np) Slot.un := List.mem_of_getElem? h1
    simp at this
  · have d := gg.dr
    show DrOk C (fxC g H) g dr H
    refine d.to (fun a o h _ => h) fun a o hd _ _ k => k.2.1 hd
theorem leave {dr0 : Option Dr} (gg : GG C g dr0 H) (l : GLe g g') (G : Good C (fxC g H) g' s σ H') : Ext g g' H H' ∧ GG C g' s.dr H' := by
  refine ⟨⟨l, fun a o h1 h2 h3 h4 => G.kp a o ⟨h1, h2, h3, h4⟩, fun a h1 h2 => (G.un a ⟨h1, h2⟩).1, fun a h => ?_, fun e a hd o h => Classical.byContradiction fun ht => ?_⟩, G.gg⟩
  · cases e : g.R a with
    | none => exact (G.un a ⟨h, e⟩).2
    | some o =>
      obtain ⟨o', e', _⟩ := l.le a o e
      rw [G.sub a o' e']; simp
  · obtain ⟨n1, n2⟩ := G.drn hd
    have nd : ¬ g.isDr a := fun ⟨p, z, _⟩ => by rw [e] at z; cases z
    cases q : g.R a with
    | none => exact n1 o ⟨h, nd, ht, .inl q⟩
    | some o' =>
      obtain ⟨o2, z, _⟩ := l.le a o' q
      rw [n2] at z; cases z
theorem leaveR {x : SV} {fr : Bool} (l : GLe g g') (rf : RF C (fxC g H) g' s σ H' v (x, fr)) : RR C g' H H' v x fr := by
  unfold RF at rf
  unfold RR
  cases fr with
  | false => exact rf
  | true =>
    rw [if_pos rfl] at rf ⊢
    obtain ⟨d, e, o, _⟩ := rf
    obtain ⟨a, ea, lo, w, hw⟩ := o.addr
    refine ⟨d, a, e, ea, ?_, lo.R, lo.dr, o.to fun b o _ h1 h2 => ⟨h1, fun _ z => z, fun z => z, h2.R, h2.dr⟩⟩
    cases h : H a with
    | none => rfl
    | some o =>
      exfalso
      cases q : g.R a with
      | none => exact lo.un ⟨by rw [h]; simp, q⟩
      | some o' =>
        obtain ⟨o2, z, _⟩ := l.le a o' q
        rw [lo.R] at z; cases z
/-- a body's end is the call's end -/
theorem fin_sp {W : WX} {F : CallF} {f : Nat} {vs : List V} {xs : List SV} {Q : VK} {E : XK} {o : Out Fl} (gg : GG C g dr H) (he : F f xs dr = retOf o) (hW : W = fun cls d _ H' => E cls d H')
    (h : match F f xs dr with
      | .ok x fr dr' => ∀ v g' H', Ext g g' H H' → GG C g' dr' H' → RR C g' H H' v x fr → Q v H'
      | .exc x dr' => ∀ g' H' c, Ext g g' H H' → GG C g' dr' H' → C.ea x.cls = some c → E (.ref c) none H'
      | .bad => False) : Fin C W (fxC g H) g o { nx := fun _ H' => Q .non H', rt := Q } := by
  rw [he] at h
  subst hW
  cases o with
  | bad => exact h
  | exc x s =>
    intro g' σ H' c l G' hc
    obtain ⟨ex, gg'⟩ := leave gg l G'
    exact h g' H' c ex gg' hc
  | ok f s =>
    cases f with
    | nx =>
      intro g' σ H' l G'
      obtain ⟨ex, gg'⟩ := leave gg l G'
      exact h .non g' H' ex gg' (show RV C g' .non (.d .none) from .non)
    | rt x fr =>
      intro g' σ H' v l G' rf
      obtain ⟨ex, gg'⟩ := leave gg l G'
      exact h v g' H' ex gg' (leaveR l rf)
end
end Pv
set_option maxHeartbeats 200000
set_option maxHeartbeats 4000000
/-! Pv: all defs of a text keep their promises, however deep. -/
namespace Pv
open PySem PySem.Spec PyProof.Rows L2

def Ct.nc (C : Ct) : Ct := { C with cl := fun _ => none }
def Ct.wc (C : Ct) (a : Addr) (k : Clo) : Ct := { C with cl := fun b => if b = a then some k else none }
def noLam : Nat → List Nat → Arguments → Expr → Scope → Bool := fun _ _ _ _ _ => false
def isV : Ex → Bool
  | .v _ => true
  | _ => false
/-- a lambda's text -/
structure LamSt (M : Nm) (T : List Df) (m : Nat) (params : Arguments) (body : Expr) (scope : Scope) (ps fr : List Str) : Prop where
  S : NdefX.NScope (ps ++ fr) ps fr scope
  pos : posArgs params = true
  par : params.args.map (·.arg) = ps
  tx : ∃ e, isV e = false ∧ T[m]? = some (.fn (ps.length + fr.length) (ps.length + fr.length) [.ret e]) ∧ chk ⟨M, ps ++ fr, scope, fun _ => false, false, noLam⟩ e body = true
/-- is it that text, made in a def with these names -/
def lamC (M : Nm) (T : List Df) (N : List Str) (sc : Scope) (m : Nat) (caps : List Nat) (params : Arguments) (body : Expr) (scope : Scope) : Bool := match T[m]? with
  | some (.fn np nn [.ret e]) => posArgs params && params.defaults.isEmpty && params.kw_defaults.isEmpty && decide (np = (params.args.map (·.arg)).length + (caps.filterMap (N[·]?)).length) && decide (nn = np) && !isV e &&
      NdefX.nscB (params.args.map (·.arg) ++ caps.filterMap (N[·]?)) (params.args.map (·.arg)) (caps.filterMap (N[·]?)) scope &&
      decide (caps.map (fun j => N[j]?) = (caps.filterMap (N[·]?)).map some) &&
      scope.names.all (fun y => !decide (y.2 = .free) || decide (sc.names.lookup y.1 = some .cell) || decide (sc.names.lookup y.1 = some .free)) &&
      (caps.filterMap (N[·]?)).all (fun y => decide ((y, NameKind.free) ∈ scope.names)) &&
      chk ⟨M, params.args.map (·.arg) ++ caps.filterMap (N[·]?), scope, fun _ => false, false, noLam⟩ e body
  | _ => false
/-- what is known of a def -/
structure DefOk (C : Ct) (M : Nm) (G : List D) (T : List Df) (P : Program) (w : World) (mg : Str → Option Value) (base : Heap) (f : Nat) (nm : Str) (ps : List Str) (a : Addr) (cd : Value) (fd : FuncData) (st : Stmt) : Prop where
  fa : C.fa f = some a
  at_ : mg nm = some (.ref a)
  fdk : Fd C.K nm st a cd fd
  pos : posArgs (sArgs st) = true
  par : (sArgs st).args.map (·.arg) = ps
  nd : ps.Nodup
  kw : ∀ p ∈ M.kws, p.1 = f → ∀ us ws : List Value, us.length = p.2.1 → ws.length = p.2.2.1.length → ∃ zs, layV p.2.2.2 (us ++ ws) = some zs ∧ zs.length = ps.length ∧ bindArgs fd ⟨us, p.2.2.1.zip ws⟩ = pure (ps.zip zs)
  body : match T[f]? with
    | some (.fn np nn b) => ∃ N mk, FnScope N ps (sScope st) ∧ np = ps.length ∧ nn = N.length ∧ np ≤ nn ∧ chkB ⟨M, N, sScope st, fun _ => true, true, if mk = true then lamC M T N (sScope st) else noLam⟩ b (sBody st) = true ∧
        (mk = true → ∃ cc Pt, cd = .ref cc ∧ LamX.TabB base mg cc Pt ∧ (Pt, nm ++ ".<locals>." ++ "<lambda>") ∈ C.tabs ∧ ∀ p ∈ C.tabs, p.1 = Pt → p.2 = nm ++ ".<locals>." ++ "<lambda>")
    | none => False
structure ErrOk (C : Ct) (mg : Str → Option Value) (i : Nat) (x : Str) (a : Addr) : Prop where
  ea : C.ea i = some a
  exc : PySem.W.excIn C.K a [.type "ValueError", .type "Exception", .type "BaseException", .type "object"] "ValueError.__new__" = true
  at_ : mg x = some (.ref a)
  keep : PySem.W.keepIn C.K (.ref a) = true
  sub : PySem.W.subIn C.K (.ref a) (.type "BaseException") = some true
  ty : PySem.W.typeIn C.K (.ref a) = some (.type "type")
structure Mo (C : Ct) (M : Nm) (G : List D) (T : List Df) (P : Program) (w : World) (mg : Str → Option Value) (base : Heap) : Prop where
  bn : ∀ x ∈ bnames, mg x = none
  gc : ∀ (i : Nat) (nm : Str) (d : D), M.gns[i]? = some nm → G[i]? = some d → ∃ v u, mg nm = some u ∧ RelV v u ∧ Rp C.K (fun _ => none) v d
  en : ∀ (i : Nat) (x : Str), M.ens[i]? = some x → ∃ a, ErrOk C mg i x a
  fn : ∀ (f : Nat) (nm : Str) (ps : List Str), M.fns[f]? = some (nm, ps) → ∃ a cd fd st, DefOk C M G T P w mg base f nm ps a cd fd st
  fas : ∀ f a, C.fa f = some a → ∃ p, M.fns[f]? = some p
  ls : C.ls = LamSt M T
section
variable {C : Ct} {M : Nm} {G : List D} {T : List Df} {P : Program} {w : World} {mg : Str → Option Value} {base : Heap} {f n : Nat} {nm : Str} {ps : List Str} {a : Addr} {cd : Value} {fd : FuncData} {st : Stmt} {F : CallF}
theorem run_fn {np nn k : Nat} {b : List Sm} {vs : List SV} {dr : Option Dr} (h : T[f]? = some (.fn np nn b)) : run G T (k + 1) f vs dr = if vs.length = np then retOf (evB G (run G T k) b ⟨vs.map .va ++ List.replicate (nn - np) .un, dr⟩) else .bad := by
  show (match T[f]? with | some (.fn np nn b) => _ | none => _) = _
  rw [h]
/-- but for the lambdas at hand the same -/
def Ct.alike (C C' : Ct) : Prop := ∃ cl, C' = { C with cl := cl }
theorem Ct.alike.symm {C C' : Ct} (h : C.alike C') : C'.alike C := by
  obtain ⟨cl, rfl⟩ := h
  exact ⟨C.cl, rfl⟩
section
variable {C' : Ct} {g g' : Gh} {H H' : Hp} {dr : Option Dr}
theorem GG.al (e : C.alike C') (h : GG C g dr H) : GG C' g dr H := by
  obtain ⟨cl, rfl⟩ := e
  exact ⟨h.sub, h.dr, ⟨h.tb.rt, h.tb.tb⟩⟩
theorem RV.al (e : C.alike C') {v : V} {x : SV} (h : RV C g v x) : RV C' g v x := by
  obtain ⟨cl, rfl⟩ := e
  cases x <;> exact h
theorem RVA.al (e : C.alike C') : ∀ {vs : List V} {xs : List SV}, RVA C g vs xs → RVA C' g vs xs
  | _, _, .nil => .nil
  | _, _, .cons h q => .cons (RV.al e h) (RVA.al e q)
theorem RR.al (e : C.alike C') {v : V} {x : SV} {fr : Bool} (h : RR C g' H H' v x fr) : RR C' g' H H' v x fr := by
  unfold RR at *
  cases fr with
  | false => exact RV.al e h
  | true =>
    obtain ⟨cl, rfl⟩ := e
    rw [if_pos rfl] at *
    obtain ⟨d, a, h1, h2, h3, h4, h5, h6⟩ := h
    exact ⟨d, a, h1, h2, h3, h4, h5, by cases d <;> exact h6⟩
theorem ClOk.al (e : C.alike C') {a : Addr} {k : Clo} (h : ClOk C g H a k) : ClOk C' g H a k := by
  obtain ⟨cl, rfl⟩ := e
  exact ⟨h.f, h.c, h.ws⟩
theorem ea_al (e : C.alike C') : C'.ea = C.ea := by obtain ⟨cl, rfl⟩ := e; rfl
theorem fa_al (e : C.alike C') : C'.fa = C.fa := by obtain ⟨cl, rfl⟩ := e; rfl
theorem K_al (e : C.alike C') : C'.K = C.K := by obtain ⟨cl, rfl⟩ := e; rfl
theorem SpF.al (e : C.alike C') {f : Nat} {vs : List V} {Q : VK} {E : XK} (h : SpF C F f vs H Q E) : SpF C' F f vs H Q E := by
  obtain ⟨g, xs, dr, gg, rv, q⟩ := h
  refine ⟨g, xs, dr, gg.al e, rv.al e, ?_⟩
  cases o : F f xs dr with
  | bad => rw [o] at q; exact q
  | ok x fr dr' => rw [o] at q; exact fun v g' H' ex gg' r => q v g' H' ex (gg'.al e.symm) (r.al e.symm)
  | exc x dr' => rw [o] at q; exact fun g' H' c ex gg' hc => q g' H' c ex (gg'.al e.symm) (by rw [← ea_al e]; exact hc)
theorem SpL.al (e : C.alike C') {f : Nat} {a : Addr} {k : Clo} {vs : List V} {Q : VK} {E : XK} (h : SpL C F f a k vs H Q E) : SpL C' F f a k vs H Q E := by
  obtain ⟨g, xs, us, dr, hv, gg, rv, cl, q⟩ := h
  refine ⟨g, xs, us, dr, hv, gg.al e, rv.al e, cl.al e, ?_⟩
  cases o : (F f (xs ++ [.clo k.m k.cs]) dr).keep with
  | bad => rw [o] at q; exact q
  | ok x fr dr' => rw [o] at q; exact fun v g' H' ex gg' r => q v g' H' ex (gg'.al e.symm) (r.al e.symm)
  | exc x dr' => rw [o] at q; exact fun g' H' c ex gg' hc => q g' H' c ex (gg'.al e.symm) (by rw [← ea_al e]; exact hc)
theorem LamAt.al (e : C.alike C') {s : Shared} {k : Clo} (h : LamAt C s H k) : LamAt C' s H k := by
  obtain ⟨cl, rfl⟩ := e
  exact ⟨h.ls, h.cells⟩
theorem Calls.of_eq (h : Calls C M P w mg base n F) (e : C.alike C') : Calls C' M P w mg base n F := by
  refine ⟨fun f nm ps hf => ?_, fun f a hf => h.fas f a (by rw [← fa_al e]; exact hf), fun f nm ps hf a ha => ?_⟩
  · obtain ⟨a, fd, h1, h2, h3, h4, h5, h6, h7⟩ := h.fn f nm ps hf
    exact ⟨a, fd, by rw [fa_al e]; exact h1, h2, by rw [K_al e]; exact h3, h4, h5, h6, fun A outer s H args us vs Q E hr hg e0 bt r sp => h7 A outer s H args us vs Q E hr hg (by rw [← K_al e]; exact e0) bt r (sp.al e.symm)⟩
  · obtain ⟨fd, h2, h3, h4, h6, h7⟩ := h.fnL f nm ps hf a (by rw [← fa_al e]; exact ha)
    exact ⟨fd, h2, by rw [K_al e]; exact h3, h4, h6, fun A outer s H args us vs Q E la k hr hg e0 bt r lat sp => h7 A outer s H args us vs Q E la k hr hg (by rw [← K_al e]; exact e0) bt r (lat.al e.symm) (sp.al e.symm)⟩
end

/-! ### a lambda's call -/
def Lm.nf (L : Lm) : NdefX.NF := ⟨"<lambda>", L.qual, L.params, [], L.scope, L.cl, L.c⟩
theorem run_lam {K : PySem.W.Frag} {N fr : List Str} {L : Lm} {la : Addr} {A : Around} {outer : List Env} {s : Shared} {H : Hp} {us : List Value} {vs : List V} {ws : List (Option V)} {Q : VK} {E : XK} {t : TE} (S : NdefX.NScope N ps fr L.scope)
    (hb : ∀ (pm ctv : Value) (us : List Value), us.length = ps.length → bindArgs (PySem.W.kla_fn "<lambda>" L.qual L.params L.body L.scope L.cl pm (.ref L.c) ctv) ⟨us, []⟩ = pure (ps.zip us)) (hr : Room (n + 1) A) (e0 : Env0 P w K mg base A outer s H)
    (hf : H la = some (LamO la L)) (hc : H L.c = some (LamX.CodeO L.c L.qual)) (C : NdefX.CellsAt L.cl fr ws s.heap H) (r : Vals vs us) (hl : vs.length = ps.length)
    (ht : PE (NdefX.ncx (L2.CX P w) P w K mg base N L.nf la A outer s H E) L.body t) (hq : t (NdefX.startF N vs ws) H Q) : codeAny (model P w) A (.call (.ref la) ⟨us, []⟩) (CR (L2.CX P w) outer P w H s Q E) s := by
  have nl9 : s.heap.NoLimit := e0.mod.nolimit.keeps fun b o e => (e0.bs b o e).1
  obtain ⟨⟨pm, ctv, ho⟩, _⟩ := e0.hok la _ hf
  obtain ⟨⟨oc, vs', tq, hoc, hdc, hvc⟩, _⟩ := e0.hok _ _ hc
  refine PySem.W.kla_callFunE hr.depth ho rfl S.co S.gen rfl ⟨L.c, oc, vs', tq, rfl, hoc, hdc, hvc⟩ ?_
  rw [hb pm ctv us (by rw [← r.length]; exact hl)]
  refine wpAny_pure (wpAny_newFunctionEnv S.nocell (fun ⟨n, _⟩ hy => S.par n (List.of_mem_zip hy).1) (fun h9 ns9 sb9 => ⟨nl9.fresh _ sb9, ?_⟩) S.kind)
  show codeAny _ _ (.expr L.body (NdefX.envF L.nf la s.heap.objs.size)) _ _
  have keep9 : ∀ b o, s.heap.get? b = some o → h9.get? b = some o := fun b o e => sb9.extBut b o (Nat.ne_of_lt (Heap.lt_size e)) (Heap.get?_push_of_some _ e)
  have I : Inv (NdefX.ncx (L2.CX P w) P w K mg base N L.nf la A outer s H E) [] (NdefX.startF N vs ws) H { s with heap := h9, toks := s.toks + (ps.zip us).length } := NdefX.inv_startN S hr.hd e0 hl r C ns9 keep9
  refine PySem.W.kla_codeExpr (wpAny_mono (ht.run [] _ _ H Q I hq) (fun v s' hq => ?_) fun e s' hq => hq)
  obtain ⟨u9, H9, J9, rv, q⟩ := hq
  exact ⟨u9, H9, J9.os, J9.bare, J9.base, J9.hok, rv, q⟩
theorem start_eq {N : List Str} {vs ws : List V} : NdefX.startF N vs (ws.map some) = L2.start N (vs ++ ws) := by
  unfold NdefX.startF L2.start
  rw [List.map_append, List.append_assoc, List.length_map, List.length_append, Nat.sub_sub]
theorem lam_runs (mo : Mo C M G T P w mg base) (ih : ∀ j, j < n → Calls C M P w mg base j (run G T j)) {k : Clo} {la : Addr} {A : Around} {outer : List Env} {s : Shared} {H : Hp} {us : List Value} {vs : List V} {Q : VK} {E : XK} (hr : Room n A) (hg : A.guards = some []) (e0 : Env0 P w C.K mg base A outer s H)
    (hf : H la = some (LamO la k.L)) (hc : H k.L.c = some (LamX.CodeO k.L.c k.L.qual)) (hls : C.ls k.m k.L.params k.L.body k.L.scope k.ps k.fr) (cells : NdefX.CellsAt k.L.cl k.fr (k.ws.map some) s.heap H) (r : Vals vs us) (sp : SpF C (run G T n) k.m (vs ++ k.ws) H Q E) :
    codeAny (model P w) A (.call (.ref la) ⟨us, []⟩) (CR (L2.CX P w) outer P w H s Q E) s := by
  cases n with
  | zero =>
    obtain ⟨g, xs, dr, _, _, q⟩ := sp
    exact q.elim
  | succ n =>
    rw [mo.ls] at hls
    obtain ⟨e, hv, ht, hk⟩ := hls.tx
    obtain ⟨g, xs, dr, gg, rv, q⟩ := sp
    by_cases hx : xs.length = k.ps.length + k.fr.length
    · have hw : k.ws.length = k.fr.length := by have := cells.len; simpa using this
      have hl : vs.length = k.ps.length := by
        have := rv.length
        rw [List.length_append] at this
        omega
      rw [run_fn ht, if_pos hx] at q
      have al : C.alike C.nc := ⟨_, rfl⟩
      have ok : Ok C.nc ⟨M, k.ps ++ k.fr, k.L.scope, fun _ => false, false, noLam⟩ G (run G T n) n (fun cls d _ H' => E cls d H') (NdefX.ncx (L2.CX P w) P w C.K mg base (k.ps ++ k.fr) k.L.nf la A outer s H E) :=
        ⟨rfl, rfl, rfl, rfl, hls.S.nd, rfl, hr.deeper _, hg, takes_of rfl rfl rfl rfl, mo.bn, mo.gc, (ih n (Nat.lt_succ_self n)).of_eq al, fun h => (nomatch h), fun _ _ _ _ _ h => (nomatch h)⟩
      refine run_lam (N := k.ps ++ k.fr) (ps := k.ps) (fr := k.fr) (ws := k.ws.map some) (t := Te C.nc (fun cls d _ H' => E cls d H') (ev G (run G T n) e)) hls.S (fun pm ctv us hl => bind_pos hls.pos rfl hls.par (List.nodup_append.mp hls.S.nd).1 us hl) hr e0 hf hc cells r hl (sim e ok hk).1.pe ?_
      rw [start_eq]
      refine ⟨fxC g H, g, ⟨xs.map .va ++ List.replicate (k.ps.length + k.fr.length - (k.ps.length + k.fr.length)) .un, dr⟩, enter (C := C.nc) (gg.al al) (fun a k h => by cases h) (RVA.rsa (rv.al al)) (by rw [List.length_append]) hx.symm (Nat.le_refl _), ?_⟩
      generalize hs0 : (⟨xs.map Slot.va ++ List.replicate (k.ps.length + k.fr.length - (k.ps.length + k.fr.length)) Slot.un, dr⟩ : S) = s0 at q
      have eb : evB G (run G T n) [.ret e] s0 = (ev G (run G T n) e s0).bind fun x s => .ok (.rt x.1 x.2) s := by
        have e1 : evS G (run G T n) (.ret e) s0 = (ev G (run G T n) e s0).bind fun x s => .ok (.rt x.1 x.2) s := by
          cases e <;> first | rfl | cases hv
        show (evS G (run G T n) (.ret e) s0).bind _ = _
        rw [e1, bind_assoc]; rfl
      rw [eb] at q
      cases eo : ev G (run G T n) e s0 with
      | bad => rw [eo] at q; exact q.elim
      | exc x s1 =>
        rw [eo] at q
        intro g' H' c l G' hcc
        obtain ⟨ex, gg'⟩ := leave (C := C.nc) (gg.al al) l G'
        exact q g' H' c ex (gg'.al al.symm) hcc
      | ok x s1 =>
        rw [eo] at q
        intro g' H' l G' v rf
        obtain ⟨ex, gg'⟩ := leave (C := C.nc) (gg.al al) l G'
        exact q v g' H' ex (gg'.al al.symm) ((leaveR (C := C.nc) l rf).al al.symm)
    · exfalso
      rw [run_fn ht, if_neg hx] at q
      exact q
end
end Pv
set_option maxHeartbeats 200000
set_option maxHeartbeats 4000000
/-! Pv: all defs of a text keep their promises, however deep. -/
namespace Pv
open PySem PySem.Spec PyProof.Rows L2
def RunsAt (C : Ct) (P : Program) (w : World) (mg : Str → Option Value) (base : Heap) (F : CallF) (n f : Nat) (a : Addr) (fd : FuncData) (ps : List Str) : Prop :=
  ∀ (A : Around) (outer : List Env) (s : Shared) (H : Hp) (args : Args) (us : List Value) (vs : List V) (Q : VK) (E : XK), Room n A → A.guards = some [] → Env0 P w C.K mg base A outer s H → BindsTo s fd args (ps.zip us) → Vals vs us → SpF C F f vs H Q E →
      codeAny (model P w) A (.call (.ref a) args) (CR (L2.CX P w) outer P w H s Q E) s
def RunsLAt (C : Ct) (P : Program) (w : World) (mg : Str → Option Value) (base : Heap) (F : CallF) (n f : Nat) (a : Addr) (fd : FuncData) (ps : List Str) : Prop :=
  ∀ (A : Around) (outer : List Env) (s : Shared) (H : Hp) (args : Args) (us : List Value) (vs : List V) (Q : VK) (E : XK) (la : Addr) (k : Clo), Room n A → A.guards = some [] → Env0 P w C.K mg base A outer s H → BindsTo s fd args (ps.zip us) → Vals vs us → LamAt C s H k → SpL C F f la k vs H Q E →
      codeAny (model P w) A (.call (.ref a) args) (CR (L2.CX P w) outer P w H s Q E) s
section
variable {C : Ct} {M : Nm} {G : List D} {T : List Df} {P : Program} {w : World} {mg : Str → Option Value} {base : Heap} {f n : Nat} {nm : Str} {ps : List Str} {a : Addr} {cd : Value} {fd : FuncData} {st : Stmt} {F : CallF}
/-- what cells held at the entry they hold still -/
theorem cells_later {X : Cx} {pins : List (Addr × Obj)} {σ : L2.St} {H : Hp} {s : Shared} {cl : List (Str × Addr)} {fr : List Str} {ws : List (Option V)} (K : NdefX.CellsAt cl fr ws X.s_0.heap X.H_0) (hx : X.ex = []) (I : Inv X pins σ H s) : NdefX.CellsAt cl fr ws s.heap H := by
  have nx : ∀ c : Addr, c ∉ X.ex := fun c z => by rw [hx] at z; cases z
  have kp : ∀ y c, cl.lookup y = some c → ∀ v, X.s_0.heap.IsCell c v → s.heap.IsCell c v := fun y c e v ⟨o, ho, hd⟩ => by
    obtain ⟨sl, q⟩ := I.base.any ho (K.all y c e).1 (nx c)
    exact ⟨_, q, hd⟩
  refine ⟨K.len, fun y c e => ?_, K.inj, fun i y e => ?_⟩
  · obtain ⟨n, v, z⟩ := K.all y c e
    refine ⟨?_, v, kp y c e v z⟩
    obtain ⟨o, ho, _⟩ := z
    exact I.base.free c o ho n (nx c)
  · obtain ⟨c, hc, hv⟩ := K.has i y e
    refine ⟨c, hc, fun v ev => ?_⟩
    obtain ⟨u, r, z⟩ := hv v ev
    exact ⟨u, r, kp y c hc _ z⟩
theorem lams_of {C' : Ct} (mo : Mo C M G T P w mg base) (al : C.alike C') {N : List Str} {mk : Bool} {CXt : CXT} {A : Around} {outer : List Env} {s : Shared} {H : Hp} {E : XK} {sc : Scope}
    (htab : mk = true → ∃ cc Pt, cd = .ref cc ∧ LamX.TabB base mg cc Pt ∧ (Pt, nm ++ ".<locals>." ++ "<lambda>") ∈ C.tabs ∧ ∀ p ∈ C.tabs, p.1 = Pt → p.2 = nm ++ ".<locals>." ++ "<lambda>") :
    ∀ m caps params body scope, (if mk = true then lamC M T N sc else noLam) m caps params body scope = true → ∃ (ps fr : List Str) (cc Pt : Addr), C'.ls m params body scope ps fr ∧ (cxOf CXt P w C.K mg base N nm sc a cd A outer s H E).env.code = .ref cc ∧ LamX.TabB base mg cc Pt ∧
      (Pt, (cxOf CXt P w C.K mg base N nm sc a cd A outer s H E).env.qual ++ "<lambda>") ∈ C'.tabs ∧ (∀ p ∈ C'.tabs, p.1 = Pt → p.2 = (cxOf CXt P w C.K mg base N nm sc a cd A outer s H E).env.qual ++ "<lambda>") ∧
      defaultsOf params (cxOf CXt P w C.K mg base N nm sc a cd A outer s H E).env = ([], []) ∧ (∀ y ∈ scope.names, y.2 = .free → sc.names.lookup y.1 = some .cell ∨ sc.names.lookup y.1 = some .free) ∧ (∀ y ∈ fr, (y, NameKind.free) ∈ scope.names) ∧ caps.map (fun j => N[j]?) = fr.map some := by
  obtain ⟨cl, rfl⟩ := al
  intro m caps params body scope h
  cases mk with
  | false => simp [noLam] at h
  | true =>
    obtain ⟨cc, Pt, h1, h2, h3, h4⟩ := htab rfl
    rw [if_pos rfl] at h
    unfold lamC at h
    split at h
    · rename_i np nn e ht
      simp only [Bool.and_eq_true, decide_eq_true_eq, List.all_eq_true, Bool.or_eq_true, Bool.not_eq_true', decide_eq_false_iff_not, List.isEmpty_iff] at h
      obtain ⟨⟨⟨⟨⟨⟨⟨⟨⟨⟨k1, k2⟩, k3⟩, k4⟩, k5⟩, k6⟩, k7⟩, k8⟩, k9⟩, k10⟩, k11⟩ := h
      refine ⟨params.args.map (·.arg), caps.filterMap (N[·]?), cc, Pt, ?_, h1, h2, h3, h4, ?_, fun y hy e => ?_, k10, k8⟩
      · show C.ls m params body scope _ _
        rw [mo.ls]
        exact ⟨NdefX.nscope_by k7, k1, rfl, e, k6, by rw [ht, k5, k4], k11⟩
      · cases params
        simp only at k2 k3
        subst k2 k3
        rfl
      · rcases k9 y hy with (z | z) | z
        · exact absurd e z
        · exact .inl z
        · exact .inr z
    · cases h
theorem DefOk.runs (mo : Mo C M G T P w mg base) (h : DefOk C M G T P w mg base f nm ps a cd fd st) (ih : Calls C M P w mg base n (run G T n)) : RunsAt C P w mg base (run G T (n + 1)) (n + 1) f a fd ps ∧ ∀ xs dr, run G T (n + 1) f xs dr ≠ .bad → xs.length = ps.length := by
  have hb := h.body
  have al : C.alike C.nc := ⟨_, rfl⟩
  cases e : T[f]? with
  | none => rw [e] at hb; exact hb.elim
  | some df =>
    rw [e] at hb
    cases df with
    | fn np nn b =>
      obtain ⟨N, mk, S, h1, h2, h3, h4, htab⟩ := hb
      refine ⟨fun A outer s H args us vs Q E hr hg e0 bt r sp => ?_, fun xs dr hn => ?_⟩
      · obtain ⟨g, xs, dr, gg, rv, q⟩ := sp.al al
        by_cases hx : xs.length = np
        · refine run_def (t := Ts C.nc (fun cls d _ H' => E cls d H') (evB G (run G T n) b)) h.fdk S (by rw [rv.length, hx, h1]) hr e0 bt r ?_
            ⟨fxC g H, g, ⟨xs.map .va ++ List.replicate (nn - np) .un, dr⟩, enter gg (fun a k h => by cases h) (RVA.rsa rv) h2 hx.symm h3, fin_sp (vs := vs) gg (by rw [run_fn e, if_pos hx]) rfl q⟩
          refine simB (n := n) (c := ⟨M, N, sScope st, fun _ => true, true, if mk = true then lamC M T N (sScope st) else noLam⟩) (W := fun cls d _ H' => E cls d H') b ⟨⟨rfl, rfl, rfl, rfl, S.nd, rfl, hr.deeper _, hg, takes_of rfl rfl rfl rfl, mo.bn, mo.gc, ih.of_eq al, (fun _ a k z => by cases z), lams_of mo al htab⟩, passes_of rfl, S.kind, fun i x hi hgl hdb m j p p2 pos => ?_, fun i x hi => ?_⟩ h4
          · obtain ⟨ca, er⟩ := mo.en i x hi
            intro pins s' σ' H' Q' I' h'
            exact pmk_own PySem.F.excBase_ValueError er.exc er.at_ er.keep (raises_own er.sub er.ty) hgl hdb pins s' σ' H' Q' I' (h' ca er.ea)
          · obtain ⟨ca, er⟩ := mo.en i x hi
            exact ⟨ca, er.ea⟩
        · exfalso
          rw [run_fn e, if_neg hx] at q
          exact q
      · rw [run_fn e] at hn
        split at hn
        · rename_i hx; rw [hx, h1]
        · exact absurd rfl hn
/-- a body's end, where a lambda may not leave -/
theorem fin_spK {g : Gh} {H : Hp} {dr : Option Dr} {W : WX} {vs : List V} {xs : List SV} {Q : VK} {E : XK} {o : Out Fl} (gg : GG C g dr H) (he : F f xs dr = retOf o) (hW : W = fun cls d _ H' => E cls d H')
    (h : match (F f xs dr).keep with
      | .ok x fr dr' => ∀ v g' H', Ext g g' H H' → GG C g' dr' H' → RR C g' H H' v x fr → Q v H'
      | .exc x dr' => ∀ g' H' c, Ext g g' H H' → GG C g' dr' H' → C.ea x.cls = some c → E (.ref c) none H'
      | .bad => False) : Fin C W (fxC g H) g o { nx := fun _ H' => Q .non H', rt := Q } := by
  refine fin_sp (F := F) (f := f) (vs := vs) (xs := xs) gg he hW ?_
  cases e : F f xs dr with
  | bad => rw [e] at h; exact h
  | exc x d => rw [e] at h; exact h
  | ok x fr d =>
    rw [e] at h
    cases x <;> first | exact h | exact h.elim
theorem DefOk.runsL (mo : Mo C M G T P w mg base) (h : DefOk C M G T P w mg base f nm ps a cd fd st) (ih : ∀ j, j ≤ n → Calls C M P w mg base j (run G T j)) : RunsLAt C P w mg base (run G T (n + 1)) (n + 1) f a fd ps := by
  have hb := h.body
  cases e : T[f]? with
  | none => rw [e] at hb; exact hb.elim
  | some df =>
    rw [e] at hb
    cases df with
    | fn np nn b =>
      obtain ⟨N, mk, S, h1, h2, h3, h4, htab⟩ := hb
      intro A outer s H args us vs Q E la k hr hg e0 bt r lat sp
      have al : C.alike (C.wc la k) := ⟨_, rfl⟩
      obtain ⟨g, xs, us', dr, rfl, gg, rv, cl, q⟩ := sp.al al
      by_cases hx : (xs ++ [SV.clo k.m k.cs]).length = np
      · have hcl : ∀ b' k', (C.wc la k).cl b' = some k' → ClOk (C.wc la k) g H b' k' := fun b' k' z => by
          have z : (if b' = la then some k else none) = some k' := z
          split at z
          · rename_i hb'; cases z; subst hb'; exact cl
          · cases z
        have rs : RSA (C.wc la k) g (us' ++ [.ref la]) (xs ++ [.clo k.m k.cs]) := (RVA.rsa rv).snoc ⟨la, k, rfl, if_pos rfl, rfl, rfl⟩
        refine run_def (t := Ts (C.wc la k) (fun cls d _ H' => E cls d H') (evB G (run G T n) b)) h.fdk S (by rw [rs.length, hx, h1]) hr e0 bt r ?_
          ⟨fxC g H, g, ⟨(xs ++ [SV.clo k.m k.cs]).map .va ++ List.replicate (nn - np) .un, dr⟩, enter gg hcl rs h2 hx.symm h3, fin_spK (vs := us' ++ [.ref la]) gg (by rw [run_fn e, if_pos hx]) rfl q⟩
        refine simB (n := n) (c := ⟨M, N, sScope st, fun _ => true, true, if mk = true then lamC M T N (sScope st) else noLam⟩) (W := fun cls d _ H' => E cls d H') b ⟨⟨rfl, rfl, rfl, rfl, S.nd, rfl, hr.deeper _, hg, takes_of rfl rfl rfl rfl, mo.bn, mo.gc, (ih n (Nat.le_refl n)).of_eq al, (fun _ b' k' z => ?_), lams_of mo al htab⟩, passes_of rfl, S.kind, fun i x hi hgl hdb m j p p2 pos => ?_, fun i x hi => ?_⟩ h4
        · have z : (if b' = la then some k else none) = some k' := z
          split at z
          · rename_i hb'
            cases z
            subst hb'
            intro pins σ H2 s2 us2 vs2 Q2 I2 hf2 hc2 r2 sp2
            have e2 := I2.env0
            have cells := cells_later lat.cells rfl I2
            refine codeAny_mono (lam_runs (C := C) mo (fun j hj => ih j (Nat.le_of_lt hj)) (hr.deeper _) hg e2 hf2 hc2 lat.ls cells r2 (sp2.al al.symm)) fun r s' hq => ?_
            cases r with
            | error e => exact (takes_of rfl rfl rfl rfl) e s' (XE.of_call I2 (fun _ _ _ q => q) hq)
            | ok fl =>
              cases fl with
              | ret u => exact I2.after hq
              | next => exact False.elim hq
              | brk => exact False.elim hq
              | cont => exact False.elim hq
          · cases z
        · obtain ⟨ca, er⟩ := mo.en i x hi
          intro pins s' σ' H' Q' I' h'
          exact pmk_own PySem.F.excBase_ValueError er.exc er.at_ er.keep (raises_own er.sub er.ty) hgl hdb pins s' σ' H' Q' I' (h' ca er.ea)
        · obtain ⟨ca, er⟩ := mo.en i x hi
          exact ⟨ca, er.ea⟩
      · exfalso
        rw [run_fn e, if_neg hx] at q
        exact q
theorem calls_upto (mo : Mo C M G T P w mg base) : ∀ n, ∀ j, j ≤ n → Calls C M P w mg base j (run G T j)
  | 0, j, hj => by
    obtain rfl : j = 0 := by omega
    refine ⟨fun f nm ps hf => ?_, mo.fas, fun f nm ps hf a0 ha => ?_⟩
    · obtain ⟨a, cd, fd, st, h⟩ := mo.fn f nm ps hf
      obtain ⟨kV, doc, pm, an, ct, e⟩ := h.fdk.eq
      refine ⟨a, fd, h.fa, h.at_, h.fdk.keep, fun us hl => bind_pos (by rw [e]; exact h.pos) (by rw [e]) (by rw [e]; exact h.par) h.nd us hl, h.kw, fun xs dr hn => absurd rfl hn, fun A outer s H args us vs Q E _ _ _ _ _ sp => ?_⟩
      obtain ⟨g, xs, dr, _, _, q⟩ := sp
      exact q.elim
    · obtain ⟨a, cd, fd, st, h⟩ := mo.fn f nm ps hf
      obtain ⟨kV, doc, pm, an, ct, e⟩ := h.fdk.eq
      obtain rfl : a0 = a := by have := h.fa; rw [ha] at this; exact Option.some.inj this
      refine ⟨fd, h.at_, h.fdk.keep, fun us hl => bind_pos (by rw [e]; exact h.pos) (by rw [e]) (by rw [e]; exact h.par) h.nd us hl, fun xs dr hn => absurd rfl hn, fun A outer s H args us vs Q E la k _ _ _ _ _ _ sp => ?_⟩
      obtain ⟨g, xs, us, dr, _, _, _, _, q⟩ := sp
      exact q.elim
  | n + 1, j, hj => by
    have ih := calls_upto mo n
    by_cases hlt : j ≤ n
    · exact ih j hlt
    · obtain rfl : j = n + 1 := by omega
      refine ⟨fun f nm ps hf => ?_, mo.fas, fun f nm ps hf a0 ha => ?_⟩
      · obtain ⟨a, cd, fd, st, h⟩ := mo.fn f nm ps hf
        obtain ⟨kV, doc, pm, an, ct, e⟩ := h.fdk.eq
        obtain ⟨r1, r2⟩ := h.runs mo (ih n (Nat.le_refl n))
        exact ⟨a, fd, h.fa, h.at_, h.fdk.keep, fun us hl => bind_pos (by rw [e]; exact h.pos) (by rw [e]) (by rw [e]; exact h.par) h.nd us hl, h.kw, r2, r1⟩
      · obtain ⟨a, cd, fd, st, h⟩ := mo.fn f nm ps hf
        obtain ⟨kV, doc, pm, an, ct, e⟩ := h.fdk.eq
        obtain rfl : a0 = a := by have := h.fa; rw [ha] at this; exact Option.some.inj this
        obtain ⟨r1, r2⟩ := h.runs mo (ih n (Nat.le_refl n))
        exact ⟨fd, h.at_, h.fdk.keep, fun us hl => bind_pos (by rw [e]; exact h.pos) (by rw [e]) (by rw [e]; exact h.par) h.nd us hl, r2, h.runsL mo ih⟩
theorem calls_all (mo : Mo C M G T P w mg base) (n : Nat) : Calls C M P w mg base n (run G T n) := calls_upto mo n n (Nat.le_refl n)
end
end Pv
set_option maxHeartbeats 200000
set_option maxHeartbeats 4000000
/-! Pv: the law's end: what the checker asks, from the evaluator's word. -/
namespace Pv
open PySem PySem.Spec PyProof.Rows L2

/-- the layer's heap for a script list at a -/
def scriptHp (a : Addr) (vs : List Value) (ns : List Int) : Hp := fun b => if b = a then some (.frz { cls := .type "list", data := .seq vs.toArray } (.lst (ns.map V.int))) else none
/-- cs: code objects of defs that make lambdas, and their tables, which are empty yet -/
structure Stands (K : PySem.W.Frag) (mg : Str → Option Value) (s : Shared) (a : Addr) (vs : List Value) (ns : List Int) (cs : List (Addr × Addr)) : Prop where
  kin : K.In s.heap
  main : s.heap.Ns mainGlobals mg
  blt : ∃ mb, s.heap.Ns builtinsNs mb ∧ ∀ x : Str, x ≠ "__name__" → mb x = bootBuiltins x
  lim : s.heap.NoLimit
  gens : s.gens = #[]
  list : s.heap.get? a = some { cls := .type "list", data := .seq vs.toArray }
  nums : IntsAre vs ns
  short : ns.length ≤ sizeLine
  tab : ∀ p ∈ cs, s.heap.get? p.2 = some { cls := .none, data := .fields #[] }
  ntab : ∀ p ∈ cs, K.lookup p.2 = none
  code : ∀ p ∈ cs, PySem.W.CodeHd s.heap p.1 p.2
  bm : ∃ (b : Addr) (ob : Obj), mg "__builtins__" = some (.ref b) ∧ b ≠ builtinsNs ∧ s.heap.get? b = some ob ∧ ob.cls = .type "module" ∧ ob.dict = some builtinsNs ∧ ob.data = .plain
def isTab (cs : List (Addr × Addr)) (b : Addr) : Prop := ∃ p ∈ cs, p.2 = b
instance (cs : List (Addr × Addr)) (b : Addr) : Decidable (isTab cs b) := by unfold isTab; exact inferInstance
/-- a layer's heap that tracks the script, where it is not of the written part, and the tables -/
structure Tracks (K : PySem.W.Frag) (a : Addr) (vs : List Value) (ns : List Int) (cs : List (Addr × Addr)) (H : Hp) : Prop where
  at_ : SqX K H a (ns.map V.int)
  some_ : ∀ b u, H b = some u → (b = a ∧ K.lookup a = none ∧ u = .frz { cls := .type "list", data := .seq vs.toArray } (.lst (ns.map V.int))) ∨ (isTab cs b ∧ u = .tbl #[])
  tabs : ∀ p ∈ cs, H p.2 = some (.tbl #[])
section
variable {K : PySem.W.Frag} {mg : Str → Option Value} {s : Shared} {a : Addr} {vs : List Value} {ns : List Int} {cs : List (Addr × Addr)} {H : Hp} {P : Program} {w : World}
theorem vals_of : ∀ {vs : List Value} {ns : List Int}, IntsAre vs ns → Vals (ns.map V.int) vs
  | _, _, .nil => .nil
  | _, _, .cons _ t h => .cons ⟨t, rfl⟩ (vals_of h)
theorem Stands.notab (st : Stands K mg s a vs ns cs) : ¬ isTab cs a := fun ⟨p, hp, e⟩ => by
  have h := st.tab p hp
  rw [e, st.list] at h
  have z : Data.seq vs.toArray _ = Data.fields #[] := congrArg Obj.data (Option.some.inj h)
  cases z
theorem Stands.tracks (st : Stands K mg s a vs ns cs) : ∃ H, Tracks K a vs ns cs H := by
  have hl : vs.length = ns.length := st.nums.length
  have na := st.notab
  cases e : K.lookup a with
  | none =>
    refine ⟨fun b => if isTab cs b then some (.tbl #[]) else scriptHp a vs ns b, .inl (.inr ⟨{ cls := .type "list", data := .seq vs.toArray }, ?_⟩), fun b u h => ?_, fun p hp => if_pos ⟨p, hp, rfl⟩⟩
    · show (if isTab cs a then _ else _) = _
      rw [if_neg na]
      exact if_pos rfl
    · split at h
      · rename_i ht
        exact .inr ⟨ht, (Option.some.inj h).symm⟩
      · unfold scriptHp at h
        split at h
        · rename_i hb
          exact .inl ⟨hb, e, (Option.some.inj h).symm⟩
        · cases h
  | some o =>
    have h1 := st.kin a o e
    rw [st.list] at h1
    cases h1
    refine ⟨fun b => if isTab cs b then some (.tbl #[]) else none, .inr ⟨vs.toArray, _, e, ?_, ?_⟩, fun b u h => ?_, fun p hp => if_pos ⟨p, hp, rfl⟩⟩
    · rw [List.size_toArray, hl]; exact st.short
    · exact vals_of st.nums
    · split at h
      · rename_i ht
        exact .inr ⟨ht, (Option.some.inj h).symm⟩
      · cases h
theorem Tracks.base (st : Stands K mg s a vs ns cs) (t : Tracks K a vs ns cs H) : Env0 P w K mg (hidT s.heap H) callerA [] s H ∧ K.In (hidT s.heap H) ∧ (hidT s.heap H).Ns mainGlobals mg ∧ ∀ p ∈ cs, LamX.TabB (hidT s.heap H) mg p.1 p.2 := by
  have free : ∀ {b o}, s.heap.get? b = some o → (∀ (z : Array Value) (m : Nat), o.data ≠ .seq z m) → o.data ≠ .fields #[] → H b = none := fun {b o} e hn hn2 => by
    cases h : H b with
    | none => rfl
    | some u =>
      rcases t.some_ b u h with ⟨rfl, _, _⟩ | ⟨⟨p, hp, rfl⟩, _⟩
      · rw [st.list] at e
        cases e
        exact absurd rfl (hn _ _)
      · rw [st.tab p hp] at e
        cases e
        exact absurd rfl hn2
  have dicts : ∀ {b : Addr} {m : Str → Option Value}, s.heap.Ns b m → (hidT s.heap H).Ns b m := by
    rintro b m ⟨o, es, ep, e, d, r⟩
    refine ⟨o, es, ep, hidT_get e (free e (fun z m => ?_) ?_), d, r⟩
    · rw [d]
      exact fun q => nomatch q
    · rw [d]
      exact fun q => nomatch q
  have kin : K.In (hidT s.heap H) := fun b o e => hidT_get (st.kin b o e) (by
    cases h : H b with
    | none => rfl
    | some u =>
      rcases t.some_ b u h with ⟨rfl, hk, _⟩ | ⟨⟨p, hp, rfl⟩, _⟩
      · rw [e] at hk; cases hk
      · rw [st.ntab p hp] at e; cases e)
  have ns1 := dicts st.main
  obtain ⟨mb, hb1, hb2⟩ := st.blt
  obtain ⟨mc, hl1, hl2⟩ := st.lim
  obtain ⟨bm, ob, b1, b2, b3, b4, b5, b6⟩ := st.bm
  have mainD : ∀ {x : Addr} {o : Obj}, s.heap.get? x = some o → (∀ es ep, o.data ≠ .dict es ep) → x ≠ mainGlobals := fun {x o} e hn z => by
    obtain ⟨o2, es, ep, e2, d, _⟩ := st.main
    rw [z, e2] at e
    cases e
    exact hn _ _ d
  refine ⟨⟨rfl, ⟨kin, ns1, ⟨mb, dicts hb1, hb2⟩, mc, dicts hl1, hl2⟩, fun b o e => of_hidT e, Nat.le_of_eq (hidT_size _ _), trivial, fun b hb => ?_, fun b u h => ?_, .of_eq st.gens⟩, kin, ns1, fun p hp => ⟨?_, ?_, fun z => ?_⟩⟩
  · simp [frs] at hb
  · rcases t.some_ b u h with ⟨rfl, _, rfl⟩ | ⟨⟨p, hp, rfl⟩, rfl⟩
    · refine ⟨st.list, ?_, vs, _, vals_of st.nums, st.list⟩
      rw [List.length_map]
      exact st.short
    · exact st.tab p hp
  · obtain ⟨o, us, file, tf, flags, tg, inF, text, tt, e1, r1, r2, r3, r⟩ := st.code p hp
    refine ⟨o, us, file, tf, flags, tg, inF, text, tt, hidT_get e1 (free e1 (fun z m => ?_) ?_), r1, r2, r3, r⟩
    · rw [r2]
      exact fun q => nomatch q
    · rw [r2]
      intro q
      cases q
      simp at r3
  · refine ⟨bm, ob, b1, b2, mainD b3 fun es ep q => ?_, fun q => ?_, hidT_get b3 (free b3 (fun z m => ?_) ?_), b4, b5, b6⟩
    · rw [b6] at q; cases q
    · rw [q, st.tab p hp] at b3
      cases b3
      cases b6
    · rw [b6]
      exact fun q => nomatch q
    · rw [b6]
      exact fun q => nomatch q
  · exact mainD (st.tab p hp) (fun es ep q => nomatch q) z.symm
/-- THE END: the law's def answers True -/
theorem law_end {C : Ct} {F0 : CallF} {n f : Nat} {fa : Addr} {x : Str} {dr : Option Dr} (hK : C.K = K) (htabs : ∀ q ∈ C.tabs, ∃ p ∈ cs, p.2 = q.1) (st : Stands K mg s a vs ns cs) (hr : Room n callerA)
    (hrun : ∀ base : Heap, K.In base → base.Ns mainGlobals mg → (∀ p ∈ cs, LamX.TabB base mg p.1 p.2) → ∃ fd : FuncData, (∀ (s : Shared) (u : Value), BindsTo s fd ⟨[u], []⟩ [(x, u)]) ∧ RunsAt C P w mg base F0 n f fa fd [x])
    (law : F0 f [.d (.list (ns.map PyData.int))] none = .ok (.d (.bool true)) false dr) :
    codeAny (model P w) callerA (.call (.ref fa) ⟨[.ref a], []⟩) (fun r s' => r = .ok (.ret (.bool true)) ∧ OldK s.heap s'.heap ∧ s'.os = s.os ∧ AllBare s'.gens) s := by
  subst hK
  obtain ⟨H, t⟩ := st.tracks
  obtain ⟨e0, kin, ns1, tb⟩ := t.base (P := P) (w := w) st
  let R : Hp := fun b => if isTab cs b then none else H b
  have R1 : ∀ b u, R b = some u → H b = some u ∧ ¬ isTab cs b := fun b u h => by
    have h : (if isTab cs b then none else H b) = some u := h
    split at h
    · cases h
    · rename_i hn; exact ⟨h, hn⟩
  have R2 : ∀ b u, R b = some u → u = .frz { cls := .type "list", data := .seq vs.toArray } (.lst (ns.map V.int)) := fun b u h => by
    obtain ⟨h1, h2⟩ := R1 b u h
    rcases t.some_ b u h1 with ⟨_, _, e⟩ | ⟨z, _⟩
    · exact e
    · exact absurd z h2
  have atR : SqX C.K R a (ns.map V.int) := by
    have hR : ∀ u, H a = some u → R a = some u := fun u h => by
      show (if isTab cs a then none else H a) = some u
      rw [if_neg st.notab]; exact h
    rcases t.at_ with (h | ⟨o, h⟩) | h
    · exact .inl (.inl (hR _ h))
    · exact .inl (.inr ⟨o, hR _ h⟩)
    · exact .inr h
  have sp : SpF C F0 f [.ref a] H (fun v H' => v = .bl true ∧ ∀ b u, R b = some u → H' b = some u) fun _ _ _ => False := by
    refine ⟨⟨R, none⟩, [.d (.list (ns.map PyData.int))], none, ⟨fun b u h => (R1 b u h).1, trivial, fun b u h => ?_, fun q hq => ?_⟩, .cons (show Rp C.K R (.ref a) (.list (ns.map PyData.int)) from .lst atR (RpA.of_ints ns)) .nil, ?_⟩
    · rw [R2 b u h]
      exact fun z => z
    · obtain ⟨p, hp, e⟩ := htabs q hq
      exact LamX.TabS.nil (by rw [← e]; exact t.tabs p hp)
    rw [law]
    intro v g' H' ex gg rr
    have rp : Rp C.K g'.R v (.bool true) := rr
    refine ⟨by cases rp; rfl, fun b u h => ?_⟩
    have e := R2 b u h
    subst e
    exact ex.kp b _ (R1 b _ h).1 (fun ⟨p, z, _⟩ => nomatch z) (fun z => z) (.inr trivial)
  obtain ⟨fd, hbind, hrun⟩ := hrun _ kin ns1 tb
  refine codeAny_mono (hrun callerA [] s H ⟨[.ref a], []⟩ [.ref a] [.ref a] _ _ hr rfl e0 (hbind s (.ref a)) (.cons rfl .nil) sp) fun r s' h => ?_
  cases r with
  | error e =>
    obtain ⟨_, _, _, _, _, _, _, _, _, _, _, _, z⟩ := h
    exact z.elim
  | ok fl =>
    cases fl with
    | next => exact h.elim
    | brk => exact h.elim
    | cont => exact h.elim
    | ret u =>
      obtain ⟨v, H', os, bare, un, hok, r', rfl, keep⟩ := h
      have e : u = .bool true := r'
      have same : ∀ b o, ¬ isTab cs b → s.heap.get? b = some o → s'.heap.get? b = some o := fun b o nt hb => by
        cases q : H b with
        | none => exact un.keep b o hb q (fun z => by simp [frs] at z) (by simp)
        | some w =>
          rcases t.some_ b w q with ⟨rfl, _, rfl⟩ | ⟨z, _⟩
          · rw [st.list] at hb
            cases hb
            have hR : R b = some (.frz { cls := .type "list", data := .seq vs.toArray } (.lst (ns.map V.int))) := by
              show (if isTab cs b then none else H b) = _
              rw [if_neg nt]; exact q
            exact (hok b _ (keep b _ hR)).1
          · exact absurd z nt
      have more : ∀ p ∈ cs, ∃ m : Array Value, s'.heap.get? p.2 = some { cls := .none, data := .fields m } := fun p hp => by
        obtain ⟨m, z⟩ := un.tbls p.2 #[] (t.tabs p hp)
        exact ⟨_, hok p.2 _ z⟩
      refine ⟨by rw [e], ⟨fun b o hb => ?_, fun b o hb => ?_⟩, os, bare⟩
      · by_cases nt : isTab cs b
        · obtain ⟨p, hp, rfl⟩ := nt
          obtain ⟨m, hm⟩ := more p hp
          rw [st.tab p hp] at hb
          cases hb
          exact .inr (.inl ⟨((st.code p hp).tab (st.tab p hp)).isCodeTable, rfl, #[], m, rfl, by rw [Array.empty_append]; exact hm⟩)
        · exact .inl (same b o nt hb)
      · by_cases nt : isTab cs b
        · obtain ⟨p, hp, rfl⟩ := nt
          obtain ⟨m, hm⟩ := more p hp
          exact ⟨_, hm⟩
        · exact ⟨o, same b o nt hb⟩
end
end Pv
set_option maxHeartbeats 200000
set_option maxHeartbeats 4000000
/-! Pv: from the written part of a text to its defs' promises; the row's end. -/
namespace Pv
open PySem PySem.Spec PyProof.Rows L2

def refOf (K : PySem.W.Frag) (x : Str) : Option Addr := match PySem.W.nsIn K mainGlobals x with
  | some (some (.ref z)) => some z
  | _ => none
def lamN (x : Str) : Str := x ++ ".<locals>." ++ "<lambda>"
/-- the code objects of the defs named, with their tables -/
def csOf (K : PySem.W.Frag) (mks : List Str) : List (Addr × Addr) := mks.filterMap (PySem.W.tabIn K)
def tabsOf (K : PySem.W.Frag) (mks : List Str) : List (Addr × Str) := mks.filterMap fun x => (PySem.W.tabIn K x).map fun p => (p.2, lamN x)
def ctOf (K : PySem.W.Frag) (M : Nm) (T : List Df) (mks : List Str) : Ct := ⟨K, fun f => (M.fns[f]?).bind fun p => refOf K p.1, fun i => (M.ens[i]?).bind (refOf K), tabsOf K mks, LamSt M T, fun _ => none⟩
/-- the defs named have code objects and tables of their own -/
inductive MkL (K : PySem.W.Frag) : List Str → List (Addr × Addr) → Prop
  | nil : MkL K [] []
  | cons {x : Str} {l : List Str} {c P : Addr} {r : List (Addr × Addr)} : PySem.W.tabIn K x = some (c, P) → MkL K l r → MkL K (x :: l) ((c, P) :: r)
theorem MkL.tab {K : PySem.W.Frag} : ∀ {l : List Str} {r : List (Addr × Addr)} {x : Str}, MkL K l r → x ∈ l → ∃ c P, PySem.W.tabIn K x = some (c, P) ∧ (c, P) ∈ r
  | _, _, x, .cons h t, hx => by
    rcases List.mem_cons.mp hx with rfl | hx
    · exact ⟨_, _, h, List.mem_cons_self⟩
    · obtain ⟨c, P, h1, h2⟩ := t.tab hx
      exact ⟨c, P, h1, List.mem_cons_of_mem _ h2⟩
theorem MkL.one {K : PySem.W.Frag} : ∀ {l : List Str} {r : List (Addr × Addr)}, MkL K l r → (r.map (·.2)).Nodup → ∀ x ∈ l, ∀ y ∈ l, ∀ c P c', PySem.W.tabIn K x = some (c, P) → PySem.W.tabIn K y = some (c', P) → x = y
  | _, _, .nil, _, x, hx, _, _, _, _, _, _, _ => by simp at hx
  | x0 :: l, (c0, P0) :: r, .cons h t, nd, x, hx, y, hy, c, P, c', h1, h2 => by
    rw [List.map_cons, List.nodup_cons] at nd
    have no : ∀ {z : Str} {c P : Addr}, z ∈ l → PySem.W.tabIn K z = some (c, P) → P ∈ r.map (·.2) := fun {z c P} hz hp => by
      obtain ⟨c2, P2, e1, e2⟩ := t.tab hz
      rw [hp] at e1; cases e1
      exact List.mem_map.mpr ⟨_, e2, rfl⟩
    by_cases ex : x = x0
    · by_cases ey : y = x0
      · rw [ex, ey]
      · rw [ex, h] at h1; cases h1
        exact absurd (no ((List.mem_cons.mp hy).resolve_left ey) h2) nd.1
    · by_cases ey : y = x0
      · rw [ey, h] at h2; cases h2
        exact absurd (no ((List.mem_cons.mp hx).resolve_left ex) h1) nd.1
      · exact t.one nd.2 x ((List.mem_cons.mp hx).resolve_left ex) y ((List.mem_cons.mp hy).resolve_left ey) c P c' h1 h2
theorem tab_code {K : PySem.W.Frag} {x : Str} {a c P : Addr} {oc : Value} {od : Option Addr} {fd : FuncData} {osl : Array (Option Value)} (h1 : PySem.W.nsIn K mainGlobals x = some (some (.ref a))) (lk : K.lookup a = some ⟨oc, od, .func fd, osl⟩) (ht : PySem.W.tabIn K x = some (c, P)) : fd.code = .ref c := by
  unfold PySem.W.tabIn at ht
  rw [h1] at ht
  simp only [lk] at ht
  split at ht
  · rename_i c2 hc
    split at ht
    · split at ht
      · cases ht; exact hc
      · cases ht
    · cases ht
  · cases ht
theorem tab_at {K : PySem.W.Frag} {x : Str} {f c P : Addr} {a1 b1 : Value} {a2 b2 : Option Addr} {a3 b3 : Array (Option Value)} {fd : FuncData} {vs : Array Value} (h1 : PySem.W.nsIn K mainGlobals x = some (some (.ref f))) (h2 : K.lookup f = some ⟨a1, a2, .func fd, a3⟩) (h3 : fd.code = .ref c)
    (h4 : K.lookup c = some ⟨b1, b2, .fields vs, b3⟩) (h5 : (vs[11]? : Option Value) = some (.ref P)) : PySem.W.tabIn K x = some (c, P) := by
  unfold PySem.W.tabIn
  rw [h1]
  simp only [h2, h3, h4, h5]
/-- a def where it stands -/
structure DefAt (K : PySem.W.Frag) (x : Str) (st : Stmt) : Prop where
  ex : ∃ a cd fd, PySem.W.nsIn K mainGlobals x = some (some (.ref a)) ∧ Fd K x st a cd fd
theorem def_at {K : PySem.W.Frag} {x : Str} {st : Stmt} {a : Addr} {oc kV doc pm cd ct : Value} {od an : Option Addr} {osl : Array (Option Value)} (h1 : PySem.W.nsIn K mainGlobals x = some (some (.ref a)))
    (h2 : K.lookup a = some ⟨oc, od, .func (PySem.W.fnOf x x (sArgs st) (sBody st) (sScope st) .none kV doc pm an cd ct), osl⟩) (h3 : PySem.W.codeIn K cd x = true) (h4 : PySem.W.keepIn K (.ref a) = true) : DefAt K x st :=
  ⟨a, cd, _, h1, ⟨kV, doc, pm, an, ct, rfl⟩, ⟨oc, od, osl, h2⟩, h3, h4⟩
structure ErrAt (K : PySem.W.Frag) (x : Str) : Prop where
  ex : ∃ a, PySem.W.nsIn K mainGlobals x = some (some (.ref a)) ∧ PySem.W.excIn K a [.type "ValueError", .type "Exception", .type "BaseException", .type "object"] "ValueError.__new__" = true ∧ PySem.W.keepIn K (.ref a) = true ∧ PySem.W.subIn K (.ref a) (.type "BaseException") = some true ∧
    PySem.W.typeIn K (.ref a) = some (.type "type")
theorem err_at {K : PySem.W.Frag} {x : Str} {a : Addr} (h1 : PySem.W.nsIn K mainGlobals x = some (some (.ref a))) (h2 : PySem.W.excIn K a [.type "ValueError", .type "Exception", .type "BaseException", .type "object"] "ValueError.__new__" = true) (h3 : PySem.W.keepIn K (.ref a) = true)
    (h4 : PySem.W.subIn K (.ref a) (.type "BaseException") = some true) (h5 : PySem.W.typeIn K (.ref a) = some (.type "type")) : ErrAt K x := ⟨a, h1, h2, h3, h4, h5⟩

/-- a look at a def's names -/
def scB (N ps : List Str) (sc : Scope) : Bool := (match sc.kind with | .function => true | _ => false) && !sc.isCoroutine && !sc.isGenerator && decide N.Nodup && decide (N.take ps.length = ps) &&
  (ps.all fun x => match sc.names.lookup x with | some .local => true | some .cell => true | _ => false) && (sc.names.all fun y => match y.2 with | .free => false | _ => true)
theorem sc_of {N ps : List Str} {sc : Scope} (h : scB N ps sc = true) : FnScope N ps sc := by
  unfold scB at h
  simp only [Bool.and_eq_true, Bool.not_eq_true', decide_eq_true_eq, List.all_eq_true] at h
  obtain ⟨⟨⟨⟨⟨⟨h1, h2⟩, h3⟩, h4⟩, h5⟩, h6⟩, h7⟩ := h
  refine ⟨?_, h2, h3, h4, h5, fun x hx => ?_, fun y hy e => ?_⟩
  · cases e : sc.kind <;> rw [e] at h1 <;> first | rfl | cases h1
  · have := h6 x hx
    split at this <;> first | exact .inl (by assumption) | exact .inr (by assumption) | cases this
  · have := h7 y hy
    rw [e] at this
    cases this
/-- a row of the text: name, parameters, names, the def, its Pv text -/
structure Row where
  nm : Str
  ps : List Str
  N : List Str
  st : Stmt
  df : Df
  /-- does it make lambdas -/
  lam : Bool
def okRow (M : Nm) (T : List Df) (r : Row) : Bool := scB r.N r.ps (sScope r.st) && posArgs (sArgs r.st) && decide ((sArgs r.st).args.map (·.arg) = r.ps) && decide r.ps.Nodup && match r.df with
  | .fn np nn b => decide (np = r.ps.length) && decide (nn = r.N.length) && decide (np ≤ nn) && chkB ⟨M, r.N, sScope r.st, fun _ => true, true, if r.lam = true then lamC M T r.N (sScope r.st) else noLam⟩ b (sBody r.st)
def KwOk (r : Row) (p : Nat × Nat × List Str × List Nat) : Prop := ∀ (kV doc pm : Value) (an : Option Addr) (cd ct : Value) (us ws : List Value), us.length = p.2.1 → ws.length = p.2.2.1.length →
  ∃ zs, layV p.2.2.2 (us ++ ws) = some zs ∧ zs.length = r.ps.length ∧ bindArgs (PySem.W.fnOf r.nm r.nm (sArgs r.st) (sBody r.st) (sScope r.st) .none kV doc pm an cd ct) ⟨us, p.2.2.1.zip ws⟩ = pure (r.ps.zip zs)
section
variable {K : PySem.W.Frag} {M : Nm} {G : List D} {P : Program} {w : World} {mg : Str → Option Value} {base : Heap} {rows : List Row} {lams : List Df} {mks : List Str}
theorem mo_of (kin : K.In base) (ns : base.Ns mainGlobals mg) (hM : M.fns = rows.map fun r => (r.nm, r.ps)) (hd : ∀ r ∈ rows, DefAt K r.nm r.st) (hk : ∀ r ∈ rows, okRow M (rows.map (·.df) ++ lams) r = true)
    (hw : ∀ p ∈ M.kws, ∀ r, rows[p.1]? = some r → KwOk r p) (he : ∀ x ∈ M.ens, ErrAt K x) (hb : ∀ x ∈ bnames, PySem.W.nsIn K mainGlobals x = some none)
    (hg : ∀ (i : Nat) (nm : Str) (d : D), M.gns[i]? = some nm → G[i]? = some d → ∃ v u, mg nm = some u ∧ RelV v u ∧ Rp K (fun _ => none) v d)
    (hmk : ∀ r ∈ rows, r.lam = true → r.nm ∈ mks) (hl : ∃ r, MkL K mks r ∧ (r.map (·.2)).Nodup) (tb : ∀ p ∈ csOf K mks, LamX.TabB base mg p.1 p.2) : Mo (ctOf K M (rows.map (·.df) ++ lams) mks) M G (rows.map (·.df) ++ lams) P w mg base where
  ls := rfl
  fas := fun f a h => by
    have h : (M.fns[f]?).bind (fun p => refOf K p.1) = some a := h
    cases e : M.fns[f]? with
    | none => rw [e] at h; cases h
    | some p => exact ⟨p, rfl⟩
  bn := fun x hx => PySem.W.mg_none_of kin ns (hb x hx)
  gc := hg
  en := fun i x hx => by
    obtain ⟨a, h1, h2, h3, h4, h5⟩ := he x (List.mem_of_getElem? hx)
    refine ⟨a, ?_, h2, PySem.W.mg_of kin ns h1, h3, h4, h5⟩
    show (M.ens[i]?).bind (refOf K) = some a
    rw [hx]
    show refOf K x = some a
    unfold refOf
    rw [h1]
  fn := fun f nm ps hf => by
    rw [hM, List.getElem?_map] at hf
    cases hr : rows[f]? with
    | none => rw [hr] at hf; cases hf
    | some r =>
      rw [hr] at hf
      cases hf
      have hm := List.mem_of_getElem? hr
      obtain ⟨a, cd, fd, h1, h2⟩ := hd r hm
      have ho := hk r hm
      unfold okRow at ho
      simp only [Bool.and_eq_true, decide_eq_true_eq] at ho
      obtain ⟨⟨⟨⟨o1, o2⟩, o3⟩, o4⟩, o5⟩ := ho
      refine ⟨a, cd, fd, r.st, ?_, PySem.W.mg_of kin ns h1, h2, o2, o3, o4, fun p hp e => ?_, ?_⟩
      · show (M.fns[f]?).bind (fun p => refOf K p.1) = some a
        rw [hM, List.getElem?_map, hr]
        show refOf K r.nm = some a
        unfold refOf
        rw [h1]
      · subst e
        obtain ⟨kV, doc, pm, an, ct, e⟩ := h2.eq
        intro us ws h3 h4
        rw [e]
        exact hw p hp r hr kV doc pm an cd ct us ws h3 h4
      · have hlen : f < (rows.map (·.df)).length := by rw [List.length_map]; exact (List.getElem?_eq_some_iff.mp hr).1
        rw [List.getElem?_append_left hlen, List.getElem?_map, hr]
        have hmr := hmk r hm
        obtain ⟨nm, ps, N, st, df, mk⟩ := r
        cases df with
        | fn np nn b =>
          obtain ⟨⟨⟨p1, p2⟩, p3⟩, p4⟩ := o5
          refine ⟨N, mk, sc_of o1, p1, p2, p3, p4, fun hmk' => ?_⟩
          have hx := hmr hmk'
          obtain ⟨l, hl1, hl2⟩ := hl
          obtain ⟨c, Pt, ht, _⟩ := hl1.tab hx
          obtain ⟨oc, od, osl, lk⟩ := h2.lk
          have hcd : cd = .ref c := by
            have q := tab_code h1 lk ht
            obtain ⟨kV, doc, pm, an, ct, e⟩ := h2.eq
            rw [e] at q
            exact q
          refine ⟨c, Pt, hcd, tb (c, Pt) (List.mem_filterMap.mpr ⟨nm, hx, ht⟩), List.mem_filterMap.mpr ⟨nm, hx, by rw [ht]; rfl⟩, fun p hp e => ?_⟩
          obtain ⟨y, hy, hp⟩ := List.mem_filterMap.mp hp
          cases hty : PySem.W.tabIn K y with
          | none => rw [hty] at hp; cases hp
          | some q =>
            rw [hty] at hp
            cases hp
            obtain ⟨c', P'⟩ := q
            have e : P' = Pt := e
            subst e
            have := hl1.one hl2 y hy nm hx _ _ _ hty ht
            rw [this]; rfl
end

theorem gc_int {K : PySem.W.Frag} {base : Heap} {mg : Str → Option Value} {x : Str} {i : Int} {t : Tok} (kin : K.In base) (ns : base.Ns mainGlobals mg) (h : PySem.W.nsIn K mainGlobals x = some (some (.int i t))) :
    ∃ v u, mg x = some u ∧ RelV v u ∧ Rp K (fun _ => none) v (.int i) := ⟨.int i, .int i t, PySem.W.mg_of kin ns h, ⟨t, rfl⟩, .int i⟩
theorem gc_str {K : PySem.W.Frag} {base : Heap} {mg : Str → Option Value} {x z : Str} {t : Tok} (kin : K.In base) (ns : base.Ns mainGlobals mg) (h : PySem.W.nsIn K mainGlobals x = some (some (.str z t))) :
    ∃ v u, mg x = some u ∧ RelV v u ∧ Rp K (fun _ => none) v (.str z) := ⟨.str z, .str z t, PySem.W.mg_of kin ns h, ⟨t, rfl⟩, .str z⟩
/-- a number that the row tells of the top -/
theorem gc_loose {K : PySem.W.Frag} {mg : Str → Option Value} {h : Heap} {lv : List (Str × PySem.W.WData)} {x : Str} {i : Int} (L : PySem.W.LooseAre lv mg h) (hm : (x, PySem.W.WData.int i) ∈ lv) :
    ∃ v u, mg x = some u ∧ RelV v u ∧ Rp K (fun _ => none) v (.int i) := by
  obtain ⟨v, h1, h2⟩ := L.val _ hm
  cases h2 with
  | int _ t => exact ⟨.int i, .int i t, h1, ⟨t, rfl⟩, .int i⟩

theorem no_tab {K : PySem.W.Frag} {h : Heap} {P : Addr} (X : K.In h) (hK : PySem.W.noTabs K = true) (hP : h.get? P = some { cls := .none, data := .fields #[] }) : K.lookup P = none := by
  cases e : K.lookup P with
  | none => rfl
  | some o =>
    exfalso
    have h1 := X P o e
    rw [hP] at h1
    cases h1
    have h2 := List.all_eq_true.mp hK _ (PySem.W.mem_of_lookupK e)
    exact Bool.false_ne_true h2
/-- THE ROW: the law's def answers True at every script, by the evaluator -/
theorem row_end {l : PySem.W.OpenLaw} {m deep fl : Nat} {pq : Program} {lo : List Str} {xp : (Str → Option Value) → Heap → Prop} {yp : World → Heap → Prop} {de : DefRec} {K : Params → PySem.W.Frag} {M : Nm} {G : List D} {rows : List Row} {lams : List Df} {mks : List Str} {x : Str}
    (hm : l.most = some m) (hm2 : m ≤ sizeLine) (hde : de.params.defaults = []) (hr : Room deep callerA)
    (hy : ∀ (w : World) (h : Heap), yp w h → (K w.params).In h) (hf : M.fns[fl]? = some (de.name, [x]))
    (hrec : mks.all (fun x => ((recsOf pq).find? fun e => e.name == x).isSome) = true) (hnt : mks = [] ∨ ∀ w : World, PySem.W.noTabs (K w.params) = true) (hmkl : ∀ w : World, ∃ r, MkL (K w.params) mks r ∧ (r.map (·.2)).Nodup)
    (hmo : ∀ (w : World) (mg : Str → Option Value) (h base : Heap), xp mg h → (K w.params).In base → base.Ns mainGlobals mg → (∀ p ∈ csOf (K w.params) mks, LamX.TabB base mg p.1 p.2) → (∃ r, MkL (K w.params) mks r ∧ (r.map (·.2)).Nodup) →
      Mo (ctOf (K w.params) M (rows.map (·.df) ++ lams) mks) M G (rows.map (·.df) ++ lams) l.prog w mg base)
    (law : ∀ ns : List Int, ns.length ≤ m → ∃ dr, run G (rows.map (·.df) ++ lams) deep fl [.d (.list (ns.map PyData.int))] none = .ok (.d (.bool true)) false dr) :
    PySem.W.WalkO pq lo xp yp l.row.toRowW de [] (fun f vs => PySem.call f vs) := by
  refine Att.attach_call hm hde fun w s₀ s₁ mg mb z o pm cd doc a vs ns Gr Yp ho hd hcd hmg hobj hnum hlen hgen => ?_
  have kin := hy w _ Yp
  have tabs : ∀ p ∈ csOf (K w.params) mks, PySem.W.CodeHd s₁.heap p.1 p.2 ∧ s₁.heap.get? p.2 = some { cls := .none, data := .fields #[] } := fun p hp => by
    obtain ⟨y, hy, ht⟩ := List.mem_filterMap.mp hp
    have h1 := List.all_eq_true.mp hrec y hy
    obtain ⟨dd, hdd⟩ := Option.isSome_iff_exists.mp h1
    obtain ⟨c, P⟩ := p
    exact PySem.W.tab_of Gr.T kin hdd ht
  have ntab : ∀ p ∈ csOf (K w.params) mks, (K w.params).lookup p.2 = none := fun p hp => by
    rcases hnt with e | e
    · subst e; cases hp
    · exact no_tab kin (e w) (tabs p hp).2
  have st : Stands (K w.params) mg s₁ a vs ns (csOf (K w.params) mks) := ⟨kin, Gr.T.g, ⟨mb, Gr.T.b, Gr.T.builtins⟩, Gr.T.nolimit, hgen, hobj, hnum, Nat.le_trans hlen hm2, fun p hp => (tabs p hp).2, ntab, fun p hp => (tabs p hp).1, Gr.T.bmain⟩
  obtain ⟨dr, hl⟩ := law ns hlen
  refine law_end (C := ctOf (K w.params) M (rows.map (·.df) ++ lams) mks) (x := x) rfl (fun q hq => ?_) st hr (fun base k1 k2 k3 => ?_) hl
  · obtain ⟨y, hy, ht⟩ := List.mem_filterMap.mp hq
    cases e : PySem.W.tabIn (K w.params) y with
    | none => rw [e] at ht; cases ht
    | some p =>
      rw [e] at ht
      cases ht
      exact ⟨p, List.mem_filterMap.mpr ⟨y, hy, e⟩, rfl⟩
  · obtain ⟨a1, fd1, _, h2, h3, h4, _, _, h5⟩ := (calls_all (hmo w mg _ base Gr.X k1 k2 k3 (hmkl w)) deep).fn fl _ _ hf
    rw [hmg] at h2
    cases h2
    exact ⟨fd1, fun s u => .of_eq (h4 [u] rfl), h5⟩
end Pv
set_option maxHeartbeats 200000
/-! The program and the law as Pv texts, printed by gen.py out of the linked text. -/
namespace K85
open PySem Pv
/-- 0: power(many); slots 0 many -/
def d_power : Df := .fn 1 1 [.ret (.bin .shl (.c (.int 1)) (.v 0))]
/-- 1: is_number(thing); slots 0 thing -/
def d_is_number : Df := .fn 1 1 [.ret (.and (.isi (.v 0) [.int]) (.no (.isi (.v 0) [.bool])))]
/-- 2: is_from_to(thing, least, most); slots 0 thing 1 least 2 most -/
def d_is_from_to : Df := .fn 3 3 [.ret (.and (.call 1 [.v 0]) (.chain .le .le (.v 1) (.v 0) (.v 2)))]
/-- 3: need_width(width); slots 0 width -/
def d_need_width : Df := .fn 1 1 [.ifs (.no (.call 2 [.v 0, .c (.int 1), .g 0])) [.raise 2 "no width from 1 to 400"] []]
/-- 4: need_number(thing, least, most); slots 0 thing 1 least 2 most -/
def d_need_number : Df := .fn 3 3 [.ifs (.no (.call 2 [.v 0, .v 1, .v 2])) [.raise 1 "no number within the bounds"] []]
/-- 5: need_divisor(divisor); slots 0 divisor -/
def d_need_divisor : Df := .fn 1 1 [.expr (.call 4 [.v 0, .c (.int 1), .call 0 [.g 2]])]
/-- 6: need_three(divisor, many, drop); slots 0 divisor 1 many 2 drop -/
def d_need_three : Df := .fn 3 3 [.expr (.call 5 [.v 0]), .expr (.call 4 [.v 1, .c (.int 0), .call 0 [.g 1]]), .expr (.call 4 [.v 2, .c (.int 0), .g 1])]
/-- 7: divided_up(one, other); slots 0 one 1 other -/
def d_divided_up : Df := .fn 2 2 [.ret (.neg (.bin .fdiv (.neg (.v 0)) (.v 1)))]
/-- 8: unlike_in(divisor, many, drop); slots 0 divisor 1 many 2 drop 3 over 4 least -/
def t8_0 : List Sm := [.ret (.ite (.cmp .lt (.v 3) (.c (.int 0))) (.v 0) (.c .none))]
def t8_1 : List Sm := [.ret (.call 7 [.call 0 [.v 2], .v 1])]
def t8_2 : List Sm := [.ret (.bin .add (.v 4) (.bin .mod (.bin .sub (.bin .sub (.v 0) (.c (.int 1))) (.v 4)) (.v 0)))]
def t8_3 : List Sm := (.asg (.nm 4) (.call 7 [.call 0 [.v 2], .v 3])) :: t8_2
def t8_4 : List Sm := (.ifs (.cmp .ge (.bin .mul (.v 3) (.bin .sub (.v 0) (.c (.int 1)))) (.call 0 [.v 2])) t8_1 []) :: t8_3
def t8_5 : List Sm := (.ifs (.cmp .le (.v 3) (.c (.int 0))) t8_0 []) :: t8_4
def t8_6 : List Sm := (.asg (.nm 3) (.bin .sub (.bin .mul (.v 1) (.v 0)) (.call 0 [.v 2]))) :: t8_5
def d_unlike_in : Df := .fn 3 5 t8_6
/-- 9: first_unlike(divisor, many, drop); slots 0 divisor 1 many 2 drop -/
def d_first_unlike : Df := .fn 3 3 [.expr (.call 6 [.v 0, .v 1, .v 2]), .ret (.call 8 [.v 0, .v 1, .v 2])]
/-- 10: unlike_below(divisor, many, drop); slots 0 divisor 1 many 2 drop 3 over 4 least -/
def t10_0 : List Sm := [.ret (.c (.int 1))]
def t10_1 : List Sm := [.ret (.v 0)]
def t10_2 : List Sm := [.ret (.bin .add (.bin .fdiv (.call 0 [.v 2]) (.v 1)) (.c (.int 1)))]
def t10_3 : List Sm := [.ret (.bin .add (.v 4) (.bin .mod (.bin .sub (.bin .sub (.v 0) (.c (.int 1))) (.v 4)) (.v 0)))]
def t10_4 : List Sm := (.asg (.nm 4) (.bin .add (.bin .fdiv (.call 0 [.v 2]) (.v 3)) (.c (.int 1)))) :: t10_3
def t10_5 : List Sm := (.ifs (.cmp .gt (.bin .mul (.v 3) (.bin .sub (.v 0) (.c (.int 1)))) (.call 0 [.v 2])) t10_2 []) :: t10_4
def t10_6 : List Sm := (.ifs (.cmp .le (.v 3) (.c (.int 0))) t10_1 []) :: t10_5
def t10_7 : List Sm := (.ifs (.cmp .eq (.v 1) (.c (.int 0))) t10_0 []) :: t10_6
def t10_8 : List Sm := (.asg (.nm 3) (.bin .sub (.bin .mul (.v 1) (.v 0)) (.call 0 [.v 2]))) :: t10_7
def d_unlike_below : Df := .fn 3 5 t10_8
/-- 11: first_unlike_below(divisor, many, drop); slots 0 divisor 1 many 2 drop -/
def d_first_unlike_below : Df := .fn 3 3 [.expr (.call 6 [.v 0, .v 1, .v 2]), .ret (.call 10 [.v 0, .v 1, .v 2])]
/-- 12: does_signed(width, divisor, many, drop); slots 0 width 1 divisor 2 many 3 drop 4 found 5 half -/
def d_does_signed : Df := .fn 4 6 [.par [4, 5] [.call 8 [.v 1, .v 2, .v 3], .call 0 [.bin .sub (.v 0) (.c (.int 1))]], .ret (.and (.or (.cmp .is (.v 4) (.c .none)) (.cmp .ge (.v 4) (.v 5))) (.cmp .gt (.call 10 [.v 1, .v 2, .v 3]) (.v 5)))]
/-- 13: is_signed_multiplier(width, divisor, many, drop); slots 0 width 1 divisor 2 many 3 drop -/
def d_is_signed_multiplier : Df := .fn 4 4 [.expr (.call 3 [.v 0]), .expr (.call 6 [.v 1, .v 2, .v 3]), .ret (.call 12 [.v 0, .v 1, .v 2, .v 3])]
/-- 14: signed_multiplier(width, divisor); slots 0 width 1 divisor 2 drop -/
def t14_0 : List Sm := [.ret (.tup [.c (.int 1), .bin .sub (.v 0) (.c (.int 1))])]
def t14_1 : List Sm := [.asg (.nm 2) (.bin .add (.v 2) (.c (.int 1)))]
def t14_2 : List Sm := [.ret (.tup [.bin .add (.bin .fdiv (.call 0 [.v 2]) (.v 1)) (.c (.int 1)), .v 2])]
def t14_3 : List Sm := (.loop (.no (.call 12 [.v 0, .v 1, .bin .add (.bin .fdiv (.call 0 [.v 2]) (.v 1)) (.c (.int 1)), .v 2])) t14_1) :: t14_2
def t14_4 : List Sm := (.asg (.nm 2) (.c (.int 0))) :: t14_3
def t14_5 : List Sm := (.ifs (.cmp .gt (.v 1) (.call 0 [.bin .sub (.v 0) (.c (.int 1))])) t14_0 []) :: t14_4
def t14_6 : List Sm := (.expr (.call 5 [.v 1])) :: t14_5
def t14_7 : List Sm := (.expr (.call 3 [.v 0])) :: t14_6
def d_signed_multiplier : Df := .fn 2 3 t14_7
/-- 15: _law_says(told_here, due); slots 0 told_here 1 due -/
def d_law_says : Df := .fn 2 2 [.ret (.cmp .eq (.bi .repr [.v 0]) (.bi .repr [.v 1]))]
/-- 16: _law_divisor(draw); slots 0 draw 1 way 2 bits -/
def t16_0 : List Sm := [.ret (.bin .add (.c (.int 1)) (.call 24 [.v 0, .ix (.lst [.c (.int 12), .c (.int 70), .c (.int 4000)]) (.v 1)]))]
def t16_1 : List Sm := [.ret (.bi .max [.c (.int 1), .ite (.cmp .lt (.v 2) (.c (.int 399))) (.bin .sub (.bin .add (.bin .shl (.c (.int 1)) (.v 2)) (.call 24 [.v 0, .c (.int 7)])) (.c (.int 3))) (.bin .shl (.c (.int 1)) (.c (.int 400)))])]
def t16_2 : List Sm := [.ret (.bin .add (.c (.int 1)) (.call 24 [.v 0, .bin .shl (.c (.int 1)) (.call 25 [.v 0, .lst [.v 2, .c (.int 20), .c (.int 64)]])]))]
def t16_3 : List Sm := (.ifs (.cmp .eq (.v 1) (.c (.int 3))) t16_1 []) :: t16_2
def t16_4 : List Sm := (.asg (.nm 2) (.bin .add (.c (.int 1)) (.call 24 [.v 0, .c (.int 399)]))) :: t16_3
def t16_5 : List Sm := (.ifs (.cmp .lt (.v 1) (.c (.int 3))) t16_0 []) :: t16_4
def t16_6 : List Sm := (.asg (.nm 1) (.call 24 [.v 0, .c (.int 6)])) :: t16_5
def d_law_divisor : Df := .fn 1 3 t16_6
/-- 17: _law_wide(draw); slots 0 draw -/
def d_law_wide : Df := .fn 1 1 [.ret (.call 25 [.v 0, .lst [.c (.int 1), .c (.int 2), .c (.int 3), .c (.int 4), .c (.int 5), .c (.int 7), .c (.int 8), .c (.int 12), .c (.int 16), .c (.int 31), .c (.int 32), .c (.int 33), .c (.int 53), .c (.int 64), .c (.int 100), .c (.int 127), .c (.int 256), .c (.int 399), .c (.int 400), .bin .add (.c (.int 1)) (.call 24 [.v 0, .c (.int 400)])]])]
/-- 18: _law_halved(low, high, is_on); slots 0 low 1 high 2 is_on 3 middle -/
def t18_0 : List Sm := [.asg (.nm 1) (.v 3)]
def t18_1 : List Sm := [.asg (.nm 0) (.v 3)]
def t18_2 : List Sm := [.ifs (.callv 2 [.v 3]) t18_0 t18_1]
def t18_3 : List Sm := (.asg (.nm 3) (.bin .fdiv (.bin .add (.v 0) (.v 1)) (.c (.int 2)))) :: t18_2
def t18_4 : List Sm := [.ret (.v 1)]
def t18_5 : List Sm := (.loop (.cmp .gt (.bin .sub (.v 1) (.v 0)) (.c (.int 1))) t18_3) :: t18_4
def d_law_halved : Df := .fn 3 4 t18_5
/-- 19: _law_wrong(divisor, many, drop, number); slots 0 divisor 1 many 2 drop 3 number -/
def d_law_wrong : Df := .fn 4 4 [.ret (.cmp .ne (.bin .shr (.bin .mul (.v 1) (.v 3)) (.v 2)) (.bin .fdiv (.v 3) (.v 0)))]
/-- 20: _law_first_wrong(divisor, many, drop); slots 0 divisor 1 many 2 drop 3 over 4 high 5 turns 6 top -/
def t20_0 : List Sm := [.ret (.c .none)]
def t20_1 : List Sm := [.ret (.lcall 18 [.neg (.c (.int 1)), .v 6] 32 [0, 1, 2])]
def t20_2 : List Sm := (.asg (.nm 6) (.ite (.cmp .lt (.v 3) (.c (.int 0))) (.v 0) (.bin .sub (.v 0) (.c (.int 1))))) :: t20_1
def t20_3 : List Sm := [.ret (.bin .sub (.bin .add (.bin .mul (.v 5) (.v 0)) (.v 0)) (.c (.int 1)))]
def t20_4 : List Sm := (.asg (.nm 5) (.lcall 18 [.neg (.c (.int 1)), .v 4] 33 [0, 1, 2])) :: t20_3
def t20_5 : List Sm := (.asg (.nm 4) (.bin .add (.bin .fdiv (.bin .shl (.c (.int 1)) (.v 2)) (.v 3)) (.c (.int 2)))) :: t20_4
def t20_6 : List Sm := (.ifs (.or (.cmp .lt (.v 3) (.c (.int 0))) (.call 19 [.v 0, .v 1, .v 2, .bin .sub (.v 0) (.c (.int 1))])) t20_2 []) :: t20_5
def t20_7 : List Sm := (.ifs (.cmp .eq (.v 3) (.c (.int 0))) t20_0 []) :: t20_6
def t20_8 : List Sm := (.asg (.nm 3) (.bin .sub (.bin .mul (.v 1) (.v 0)) (.bin .shl (.c (.int 1)) (.v 2)))) :: t20_7
def d_law_first_wrong : Df := .fn 3 7 t20_8
/-- 21: _law_bit_length(number); slots 0 number 1 found -/
def d_law_bit_length : Df := .fn 1 2 [.asg (.nm 1) (.c (.int 0)), .loop (.cmp .gt (.bin .shr (.v 0) (.v 1)) (.c (.int 0))) [.asg (.nm 1) (.bin .add (.v 1) (.c (.int 1)))], .ret (.v 1)]
/-- 22: _law_begun(script); slots 0 script 1 large 2 cell -/
def d_law_begun : Df := .fn 1 3 [.asg (.nm 1) (.lc (.bin .sub (.bi .abs [.v 2]) (.bin .pow (.c (.int 10)) (.c (.int 18)))) (.nm 2) (.seq (.v 0)) [.cmp .ge (.bi .abs [.v 2]) (.bin .pow (.c (.int 10)) (.c (.int 18)))] [2]), .ret (.dmk 1 (.lc (.bi .abs [.v 2]) (.nm 2) (.seq (.v 0)) [] [2]))]
/-- 23: _law_mixed(draw); slots 0 draw 1 great 2 turn 3 found 4 blend 5 cell -/
def t23_0 : List Sm := [.asg (.nm 4) (.bin .mod (.bin .add (.bin .add (.bin .mul (.v 4) (.c (.int 69621))) (.bi .int [.v 5])) (.v 2)) (.v 1))]
def t23_1 : List Sm := [.asg (.nm 3) (.bin .add (.bin .mul (.v 3) (.c (.int 2147483659))) (.bin .mod (.bin .pow (.v 4) (.c (.int 5))) (.v 1)))]
def t23_2 : List Sm := (.each (.nm 5) (.seq (.dk 0 .cells)) t23_0) :: t23_1
def t23_3 : List Sm := (.asg (.nm 4) (.bin .mod (.bin .add (.bin .mul (.v 2) (.c (.int 48271))) (.bin .fdiv (.v 1) (.c (.int 11)))) (.v 1))) :: t23_2
def t23_4 : List Sm := [.ret (.v 3)]
def t23_5 : List Sm := (.each (.nm 1) (.seq (.lst [.c (.int 2147483647), .c (.int 2147483629), .c (.int 2147483587)])) t23_3) :: t23_4
def t23_6 : List Sm := (.par [2, 3] [.bi .int [.dk 0 .turn], .c (.int 0)]) :: t23_5
def t23_7 : List Sm := (.dset 0 .turn (.bin .add (.dk 0 .turn) (.c (.int 1)))) :: t23_6
def d_law_mixed : Df := .fn 1 6 t23_7
/-- 24: _law_take(draw, amount); slots 0 draw 1 amount 2 found -/
def t24_0 : List Sm := [.dset 0 .rest (.ite (.dle 0) (.dpop 0) (.call 23 [.v 0]))]
def t24_1 : List Sm := [.ret (.v 2)]
def t24_2 : List Sm := (.dset 0 .rest (.bin .fdiv (.bi .int [.dk 0 .rest]) (.v 1))) :: t24_1
def t24_3 : List Sm := (.asg (.nm 2) (.bin .mod (.bi .int [.dk 0 .rest]) (.v 1))) :: t24_2
def t24_4 : List Sm := (.ifs (.cmp .eq (.dk 0 .rest) (.c (.int 0))) t24_0 []) :: t24_3
def d_law_take : Df := .fn 2 3 t24_4
/-- 25: _law_pick(draw, some); slots 0 draw 1 some -/
def d_law_pick : Df := .fn 2 2 [.ret (.ix (.v 1) (.call 24 [.v 0, .bi .len [.v 1]]))]
/-- 26: _law_off(divisor, many, drop, number); slots 0 divisor 1 many 2 drop 3 number -/
def d_law_off : Df := .fn 4 4 [.ret (.cmp .ne (.bin .add (.bin .shr (.bin .sub (.c (.int 0)) (.bin .mul (.v 1) (.v 3))) (.v 2)) (.c (.int 1))) (.bin .sub (.c (.int 0)) (.bin .fdiv (.v 3) (.v 0))))]
/-- 27: _law_first_off(divisor, many, drop); slots 0 divisor 1 many 2 drop 3 over 4 high 5 turn -/
def t27_0 : List Sm := [.ret (.c (.int 1))]
def t27_1 : List Sm := [.ret (.v 0)]
def t27_2 : List Sm := [.ret (.lcall 18 [.c (.int 1), .bin .sub (.v 0) (.c (.int 1))] 34 [0, 1, 2])]
def t27_3 : List Sm := [.ret (.bin .sub (.bin .add (.bin .mul (.v 5) (.v 0)) (.v 0)) (.c (.int 1)))]
def t27_4 : List Sm := (.asg (.nm 5) (.lcall 18 [.ite (.cmp .eq (.v 0) (.c (.int 1))) (.c (.int 0)) (.neg (.c (.int 1))), .v 4] 35 [0, 1, 2])) :: t27_3
def t27_5 : List Sm := (.asg (.nm 4) (.bin .add (.bin .fdiv (.bin .shl (.c (.int 1)) (.v 2)) (.v 3)) (.c (.int 2)))) :: t27_4
def t27_6 : List Sm := (.ifs (.and (.cmp .gt (.v 0) (.c (.int 1))) (.call 26 [.v 0, .v 1, .v 2, .bin .sub (.v 0) (.c (.int 1))])) t27_2 []) :: t27_5
def t27_7 : List Sm := (.ifs (.cmp .le (.v 3) (.c (.int 0))) t27_1 []) :: t27_6
def t27_8 : List Sm := (.asg (.nm 3) (.bin .sub (.bin .mul (.v 1) (.v 0)) (.bin .shl (.c (.int 1)) (.v 2)))) :: t27_7
def t27_9 : List Sm := (.ifs (.call 26 [.v 0, .v 1, .v 2, .c (.int 1)]) t27_0 []) :: t27_8
def d_law_first_off : Df := .fn 3 6 t27_9
/-- 28: _law_signed_does(width, divisor, many, drop); slots 0 width 1 divisor 2 many 3 drop 4 up 5 down -/
def d_law_signed_does : Df := .fn 4 6 [.par [4, 5] [.call 20 [.v 1, .v 2, .v 3], .call 27 [.v 1, .v 2, .v 3]], .ret (.and (.or (.cmp .is (.v 4) (.c .none)) (.cmp .ge (.v 4) (.bin .shl (.c (.int 1)) (.bin .sub (.v 0) (.c (.int 1)))))) (.cmp .gt (.v 5) (.bin .shl (.c (.int 1)) (.bin .sub (.v 0) (.c (.int 1))))))]
/-- 29: _law_small_right(draw); slots 0 draw 1 width 2 drop 3 divisor 4 due 5 many 6 bad 7 number -/
def t29_0 : List Sm := [.ret (.c (.bool false))]
def t29_1 : List Sm := [.asg (.nm 4) (.ite (.and (.cmp .is (.v 4) (.c .none)) (.cmp .eq (.v 6) (.lst []))) (.tup [.v 5, .v 2]) (.v 4))]
def t29_2 : List Sm := (.ifs (.no (.call 15 [.kcall 13 [.v 1, .v 3, .v 5] [.v 2] [0, 1, 2, 3], .cmp .eq (.v 6) (.lst [])])) t29_0 []) :: t29_1
def t29_3 : List Sm := (.asg (.nm 6) (.bin .add (.v 6) (.lc (.v 7) (.nm 7) (.rng2 (.c (.int 1)) (.bin .add (.bin .shl (.c (.int 1)) (.bin .sub (.v 1) (.c (.int 1)))) (.c (.int 1)))) [.call 26 [.v 3, .v 5, .v 2, .v 7]] [7]))) :: t29_2
def t29_4 : List Sm := (.asg (.nm 6) (.lc (.v 7) (.nm 7) (.rng1 (.bin .shl (.c (.int 1)) (.bin .sub (.v 1) (.c (.int 1))))) [.cmp .ne (.bin .shr (.bin .mul (.v 5) (.v 7)) (.v 2)) (.bin .fdiv (.v 7) (.v 3))] [7])) :: t29_3
def t29_5 : List Sm := [.ret (.call 15 [.call 14 [.v 1, .v 3], .v 4])]
def t29_6 : List Sm := [.ifs (.cmp .nis (.v 4) (.c .none)) t29_5 []]
def t29_7 : List Sm := (.each (.nm 5) (.rng1 (.bin .add (.bin .shl (.c (.int 1)) (.v 1)) (.c (.int 2)))) t29_4) :: t29_6
def t29_8 : List Sm := [.ret (.c (.bool false))]
def t29_9 : List Sm := (.each (.nm 2) (.rng1 (.bin .add (.v 1) (.c (.int 4)))) t29_7) :: t29_8
def t29_10 : List Sm := (.par [3, 4] [.bin .add (.c (.int 1)) (.call 24 [.v 0, .bin .add (.bin .shl (.c (.int 1)) (.v 1)) (.c (.int 2))]), .c .none]) :: t29_9
def t29_11 : List Sm := (.asg (.nm 1) (.bin .add (.c (.int 1)) (.call 24 [.v 0, .c (.int 5)]))) :: t29_10
def d_law_small_right : Df := .fn 1 8 t29_11
/-- 30: _law_great_right(draw); slots 0 draw 1 some 2 width 3 divisor 4 many 5 drop 6 near 7 one 8 less 9 more -/
def t30_0 : List Sm := [.ret (.c (.bool false))]
def t30_1 : List Sm := [.asg (.nm 1) (.bin .add (.v 1) (.lc (.tup [.bi .max [.c (.int 0), .bin .add (.v 6) (.v 9)], .bin .sub (.v 5) (.c (.int 1))]) (.nm 9) (.rng2 (.neg (.c (.int 1))) (.c (.int 3))) [] [9]))]
def t30_2 : List Sm := (.asg (.nm 6) (.bin .fdiv (.bin .shl (.c (.int 1)) (.bin .sub (.v 5) (.c (.int 1)))) (.v 3))) :: t30_1
def t30_3 : List Sm := [.ret (.c (.bool false))]
def t30_4 : List Sm := [.ifs (.or (.call 28 [.v 2, .v 3, .v 7, .v 8]) (.cmp .nis (.call 13 [.v 2, .v 3, .v 7, .v 8]) (.c (.bool false)))) t30_3 []]
def t30_5 : List Sm := [.ret (.c (.bool true))]
def t30_6 : List Sm := (.each (.tup [7, 8]) (.seq (.v 1)) t30_4) :: t30_5
def t30_7 : List Sm := (.ifs (.cmp .gt (.v 5) (.c (.int 0))) t30_2 []) :: t30_6
def t30_8 : List Sm := (.asg (.nm 1) (.ite (.cmp .gt (.v 4) (.c (.int 0))) (.lst [.tup [.bin .sub (.v 4) (.c (.int 1)), .v 5]]) (.lst []))) :: t30_7
def t30_9 : List Sm := (.ifs (.or (.cmp .gt (.v 4) (.bin .shl (.c (.int 1)) (.v 2))) (.or (.no (.call 28 [.v 2, .v 3, .v 4, .v 5])) (.cmp .nis (.call 13 [.v 2, .v 3, .v 4, .v 5]) (.c (.bool true))))) t30_0 []) :: t30_8
def t30_10 : List Sm := (.asg (.tup [4, 5]) (.kcall 14 [] [.v 2, .v 3] [0, 1])) :: t30_9
def t30_11 : List Sm := (.par [2, 3] [.call 17 [.v 0], .call 16 [.v 0]]) :: t30_10
def d_law_great_right : Df := .fn 1 10 t30_11
/-- 31: law(script); slots 0 script 1 draw 2 turn 3 many 4 tried 5 told 6 width 7 divisor 8 drop 9 up 10 down 11 due 12 number -/
def t31_0 : List Sm := [.ret (.c (.bool false))]
def t31_1 : List Sm := [.ret (.c (.bool false))]
def t31_2 : List Sm := [.ret (.c (.bool false))]
def t31_3 : List Sm := [.ifs (.no (.call 15 [.call 13 [.v 6, .v 7, .v 3, .v 8], .v 11])) t31_2 []]
def t31_4 : List Sm := (.asg (.nm 11) (.and (.or (.cmp .is (.v 9) (.c .none)) (.cmp .ge (.v 9) (.bin .shl (.c (.int 1)) (.bin .sub (.v 6) (.c (.int 1)))))) (.cmp .gt (.v 10) (.bin .shl (.c (.int 1)) (.bin .sub (.v 6) (.c (.int 1))))))) :: t31_3
def t31_5 : List Sm := [.ret (.c (.bool false))]
def t31_6 : List Sm := [.ifs (.or (.no (.call 29 [.v 1])) (.no (.call 30 [.v 1]))) t31_5 []]
def t31_7 : List Sm := (.each (.nm 6) (.seq (.lst [.c (.int 1), .c (.int 400), .bi .min [.c (.int 400), .call 21 [.v 10]], .bi .min [.c (.int 400), .bin .add (.call 21 [.v 10]) (.c (.int 1))]])) t31_4) :: t31_6
def t31_8 : List Sm := (.par [9, 10] [.call 9 [.v 7, .v 3, .v 8], .call 11 [.v 7, .v 3, .v 8]]) :: t31_7
def t31_9 : List Sm := (.ifs (.cmp .ne (.kcall 11 [.v 7] [.v 3, .v 8] [0, 1, 2]) (.call 27 [.v 7, .v 3, .v 8])) t31_1 []) :: t31_8
def t31_10 : List Sm := (.asg (.nm 3) (.bi .min [.bin .shl (.c (.int 1)) (.c (.int 900)), .bi .max [.c (.int 0), .bin .sub (.bin .add (.bin .fdiv (.bin .shl (.c (.int 1)) (.v 8)) (.v 7)) (.call 24 [.v 1, .c (.int 5)])) (.c (.int 2))]])) :: t31_9
def t31_11 : List Sm := (.par [7, 8] [.call 16 [.v 1], .call 24 [.v 1, .c (.int 901)]]) :: t31_10
def t31_12 : List Sm := (.ifs (.or (.cmp .ne (.v 5) (.call 27 [.v 7, .v 3, .v 8])) (.or (.and (.cmp .ne (.v 4) (.lst [])) (.cmp .ne (.v 5) (.ix (.v 4) (.c (.int 0))))) (.and (.cmp .eq (.v 4) (.lst [])) (.cmp .lt (.v 5) (.c (.int 600)))))) t31_0 []) :: t31_11
def t31_13 : List Sm := (.asg (.nm 5) (.call 11 [.v 7, .v 3, .v 8])) :: t31_12
def t31_14 : List Sm := (.asg (.nm 4) (.sl (.lc (.v 12) (.nm 12) (.rng2 (.c (.int 1)) (.c (.int 600))) [.call 26 [.v 7, .v 3, .v 8, .v 12]] [12]) (.c .none) (.c (.int 1)))) :: t31_13
def t31_15 : List Sm := (.asg (.nm 3) (.ite (.cmp .gt (.call 24 [.v 1, .c (.int 4)]) (.c (.int 0))) (.bi .max [.c (.int 0), .bin .sub (.bin .add (.bin .fdiv (.bin .shl (.c (.int 1)) (.v 8)) (.v 7)) (.call 24 [.v 1, .c (.int 5)])) (.c (.int 2))]) (.call 24 [.v 1, .bin .shl (.c (.int 2)) (.v 8)]))) :: t31_14
def t31_16 : List Sm := (.par [7, 8] [.bin .add (.c (.int 1)) (.call 24 [.v 1, .c (.int 30)]), .call 24 [.v 1, .c (.int 10)]]) :: t31_15
def t31_17 : List Sm := [.ret (.c (.bool true))]
def t31_18 : List Sm := (.each (.nm 2) (.rng1 (.bin .add (.c (.int 3)) (.bi .min [.bi .len [.v 0], .c (.int 3)]))) t31_16) :: t31_17
def t31_19 : List Sm := (.asg (.nm 1) (.call 22 [.v 0])) :: t31_18
def d_law : Df := .fn 1 13 t31_19
/-- 32: a lambda of _law_first_wrong: parameters, then what it captures: 0 number 1 divisor 2 many 3 drop -/
def l_0 : Df := .fn 4 4 [.ret (.call 19 [.v 1, .v 2, .v 3, .v 0])]
/-- 33: a lambda of _law_first_wrong: parameters, then what it captures: 0 turn 1 divisor 2 many 3 drop -/
def l_1 : Df := .fn 4 4 [.ret (.call 19 [.v 1, .v 2, .v 3, .bin .sub (.bin .add (.bin .mul (.v 0) (.v 1)) (.v 1)) (.c (.int 1))])]
/-- 34: a lambda of _law_first_off: parameters, then what it captures: 0 number 1 divisor 2 many 3 drop -/
def l_2 : Df := .fn 4 4 [.ret (.call 26 [.v 1, .v 2, .v 3, .v 0])]
/-- 35: a lambda of _law_first_off: parameters, then what it captures: 0 turn 1 divisor 2 many 3 drop -/
def l_3 : Df := .fn 4 4 [.ret (.call 26 [.v 1, .v 2, .v 3, .bin .sub (.bin .add (.bin .mul (.v 0) (.v 1)) (.v 1)) (.c (.int 1))])]
def lams : List Df := [l_0, l_1, l_2, l_3]
def T : List Df := [d_power, d_is_number, d_is_from_to, d_need_width, d_need_number, d_need_divisor, d_need_three, d_divided_up, d_unlike_in, d_first_unlike, d_unlike_below, d_first_unlike_below, d_does_signed, d_is_signed_multiplier, d_signed_multiplier, d_law_says, d_law_divisor, d_law_wide, d_law_halved, d_law_wrong, d_law_first_wrong, d_law_bit_length, d_law_begun, d_law_mixed, d_law_take, d_law_pick, d_law_off, d_law_first_off, d_law_signed_does, d_law_small_right, d_law_great_right, d_law, l_0, l_1, l_2, l_3]
def G : List D := [(.int 400), (.int 900), (.int 400)]
def fnames : List (Str × List Str) := [(("power", ["many"]) : Str × List Str), (("is_number", ["thing"]) : Str × List Str), (("is_from_to", ["thing", "least", "most"]) : Str × List Str), (("need_width", ["width"]) : Str × List Str), (("need_number", ["thing", "least", "most"]) : Str × List Str), (("need_divisor", ["divisor"]) : Str × List Str), (("need_three", ["divisor", "many", "drop"]) : Str × List Str), (("divided_up", ["one", "other"]) : Str × List Str), (("unlike_in", ["divisor", "many", "drop"]) : Str × List Str), (("first_unlike", ["divisor", "many", "drop"]) : Str × List Str), (("unlike_below", ["divisor", "many", "drop"]) : Str × List Str), (("first_unlike_below", ["divisor", "many", "drop"]) : Str × List Str), (("does_signed", ["width", "divisor", "many", "drop"]) : Str × List Str), (("is_signed_multiplier", ["width", "divisor", "many", "drop"]) : Str × List Str), (("signed_multiplier", ["width", "divisor"]) : Str × List Str), (("_law_says", ["told_here", "due"]) : Str × List Str), (("_law_divisor", ["draw"]) : Str × List Str), (("_law_wide", ["draw"]) : Str × List Str), (("_law_halved", ["low", "high", "is_on"]) : Str × List Str), (("_law_wrong", ["divisor", "many", "drop", "number"]) : Str × List Str), (("_law_first_wrong", ["divisor", "many", "drop"]) : Str × List Str), (("_law_bit_length", ["number"]) : Str × List Str), (("_law_begun", ["script"]) : Str × List Str), (("_law_mixed", ["draw"]) : Str × List Str), (("_law_take", ["draw", "amount"]) : Str × List Str), (("_law_pick", ["draw", "some"]) : Str × List Str), (("_law_off", ["divisor", "many", "drop", "number"]) : Str × List Str), (("_law_first_off", ["divisor", "many", "drop"]) : Str × List Str), (("_law_signed_does", ["width", "divisor", "many", "drop"]) : Str × List Str), (("_law_small_right", ["draw"]) : Str × List Str), (("_law_great_right", ["draw"]) : Str × List Str), (("law", ["script"]) : Str × List Str)]
def gnames : List Str := ["MOST_WIDTH", "MOST_DROP", "MOST_BITS"]
def enames : List Str := ["WidthError", "BadNumber", "BadWidth"]
end K85
/-! Pv: large numbers within the evaluator's limits. -/
namespace Pv
open PySem
theorem log_lt {n k : Nat} (h : n < 2 ^ k) (hk : 0 < k) : n.log2 < k := by
  by_cases h0 : n = 0
  · subst h0; simpa using hk
  · exact (Nat.log2_lt h0).mpr h
/-- a number that is not too long -/
def Fit (i : Int) : Prop := i.natAbs < 2 ^ 4000
theorem mulOk_fit {i j : Int} (hi : Fit i) (hj : Fit j) : mulOk i j = true := by
  have h1 := log_lt hi (by decide)
  have h2 := log_lt hj (by decide)
  unfold mulOk
  rw [Bool.or_eq_true]
  exact .inr (decide_eq_true (by omega))
theorem divOk_fit {j : Int} (h : 0 < j) (hj : Fit j) : divOk j = true := by
  have h2 := log_lt hj (by decide)
  unfold divOk
  rw [Bool.and_eq_true, Bool.or_eq_true, Bool.and_eq_true]
  exact ⟨decide_eq_true (by omega), .inr ⟨decide_eq_true h, decide_eq_true (by omega)⟩⟩
theorem bits_one : Builtin.Int.intBits 1 = 1 := by decide
theorem shlOk_one {j : Int} (h0 : 0 ≤ j) (h1 : j ≤ 1000000) : shlOk 1 j = true := by
  unfold shlOk
  rw [bits_one, Bool.and_eq_true]
  exact ⟨decide_eq_true h0, decide_eq_true (by omega)⟩
theorem shlOk_fit {i j : Int} (hi : Fit i) (h0 : 0 ≤ j) (h1 : j ≤ 1000000) : shlOk i j = true := by
  have h := log_lt hi (by decide)
  have hb : Builtin.Int.intBits i ≤ 4000 := by
    unfold Builtin.Int.intBits
    split <;> omega
  unfold shlOk
  rw [Bool.and_eq_true]
  exact ⟨decide_eq_true h0, decide_eq_true (by omega)⟩
theorem fit_small {a : Int} (h : a.natAbs < 2 ^ 60) : Fit a := Nat.lt_of_lt_of_le h (Nat.pow_le_pow_right (by decide) (by decide))
theorem fit_le {a : Int} {n : Nat} (k : Nat) (h : a = (n : Int)) (h2 : n ≤ 2 ^ k) (hk : k < 4000) : Fit a := by
  subst h
  exact Nat.lt_of_le_of_lt h2 (Nat.pow_lt_pow_right (by decide) hk)
theorem fit_abs {a : Int} {n : Nat} (k : Nat) (h : a.natAbs ≤ n) (h2 : n ≤ 2 ^ k) (hk : k < 4000) : Fit a :=
  Nat.lt_of_le_of_lt (Nat.le_trans h h2) (Nat.pow_lt_pow_right (by decide) hk)
theorem mul_pow_le {a b x y : Nat} (h1 : a ≤ 2 ^ x) (h2 : b ≤ 2 ^ y) : a * b ≤ 2 ^ (x + y) := by
  rw [Nat.pow_add]; exact Nat.mul_le_mul h1 h2
theorem pow_le_pow {r k : Nat} (h : r ≤ k) : 2 ^ r ≤ 2 ^ k := Nat.pow_le_pow_right (by decide) h
/-- none or a number -/
def optD : Option Nat → D
  | none => .none
  | some n => .int n
end Pv
/-! Pv: the numbers of a range, one by one. -/
namespace Pv
open PySem
def nats (i n : Nat) : List D := (List.range' i n).map fun x : Nat => PyData.int (x : Int)
theorem rngI_nats (j : Int) : rngI 0 j = nats 0 j.toNat := by
  unfold rngI nats
  rw [← List.range_eq_range', Int.sub_zero]
  refine List.map_congr_left fun a _ => ?_
  rw [Int.zero_add]
theorem nats_cons {i n : Nat} {x : D} {r : List D} (h : x :: r = nats i n) : ∃ n', n = n' + 1 ∧ x = .int (i : Int) ∧ r = nats (i + 1) n' := by
  cases n with
  | zero => cases h
  | succ n =>
    unfold nats at h
    rw [List.range'_succ, List.map_cons] at h
    cases h
    exact ⟨n, rfl, rfl, rfl⟩
theorem nats_nil {i n : Nat} (h : [] = nats i n) : n = 0 := by
  cases n with
  | zero => rfl
  | succ n => unfold nats at h; rw [List.range'_succ] at h; cases h
theorem nats_mem {i n : Nat} {x : D} (h : x ∈ nats i n) : ∃ j : Nat, x = .int (j : Int) ∧ i ≤ j ∧ j < i + n := by
  unfold nats at h
  obtain ⟨j, hj, rfl⟩ := List.mem_map.mp h
  have := List.mem_range'_1.mp hj
  exact ⟨j, rfl, this.1, this.2⟩
theorem nats_len (i n : Nat) : (nats i n).length = n := by
  unfold nats
  rw [List.length_map, List.length_range']
theorem rngOk_small {i : Int} (h0 : 0 ≤ i) (h1 : i ≤ 1000000) : rngOk i = true := by
  unfold rngOk
  rw [Bool.and_eq_true]
  exact ⟨decide_eq_true (by omega), decide_eq_true (by omega)⟩
end Pv
/-! Pv: repr of rows of great numbers has room. -/
namespace Pv
open PySem
structure Leaf (d : D) : Prop where
  a : PyData.showable d = true
  b : PyData.hasDict d = false
  c : PyData.depth d = 0
  e : (PyData.shown d).length ≤ 700
theorem pow_600 : (2 : Int) ^ 1900 ≤ 10 ^ 600 := by decide +kernel
theorem leaf_int {i : Int} (h0 : 0 ≤ i) (h1 : i < 2 ^ 1900) : Leaf (.int i) := by
  refine ⟨?_, rfl, rfl, ?_⟩
  · refine decide_eq_true ?_
    by_cases h : i.natAbs = 0
    · rw [h]; decide
    · refine (Nat.log2_lt h).mpr ?_
      have e : (2 : Int) ^ 1900 = ((2 ^ 1900 : Nat) : Int) := by rw [Int.natCast_pow]; rfl
      have e2 : 2 ^ 1900 ≤ 2 ^ 1920 := Nat.pow_le_pow_right (by decide) (by decide)
      rw [e] at h1
      generalize 2 ^ 1900 = z at *
      generalize 2 ^ 1920 = z2 at *
      omega
  · have := PyProof.Rows.toString_length_le h0 (k := 600) (by decide) (Int.lt_of_lt_of_le h1 pow_600)
    show (Str.ofString (toString i)).length ≤ 700
    omega
theorem leaf_none : Leaf .none := ⟨rfl, rfl, rfl, by decide +kernel⟩
theorem rep_leaf {d : D} (h : Leaf d) : RepOk d := by
  refine ⟨h.a, h.b, by rw [h.c]; exact Nat.zero_le _, ?_⟩
  have := h.e
  have : sizeLine = 16777216 := by decide
  omega
theorem leaves : ∀ {ds : List D}, (∀ d ∈ ds, Leaf d) → PyData.showableAll ds = true ∧ PyData.hasDictAll ds = false ∧ PyData.depthAll ds ≤ 1 ∧ ((PyData.shownAll ds).map (·.length)).sum ≤ 700 * ds.length ∧ (PyData.shownAll ds).length = ds.length
  | [], _ => ⟨rfl, rfl, Nat.zero_le _, Nat.le_refl _, rfl⟩
  | d :: r, h => by
    obtain ⟨h1, h2, h3, h4, h5⟩ := leaves (ds := r) fun x hx => h x (List.mem_cons_of_mem _ hx)
    obtain ⟨a, b, c, e⟩ := h d List.mem_cons_self
    refine ⟨?_, ?_, ?_, ?_, ?_⟩
    · show (PyData.showable d && PyData.showableAll r) = true
      rw [a, h1]; rfl
    · show (PyData.hasDict d || PyData.hasDictAll r) = false
      rw [b, h2]; rfl
    · show max (PyData.depth d) (PyData.depthAll r) ≤ 1
      omega
    · show (((PyData.shown d).length :: (PyData.shownAll r).map (·.length)).sum) ≤ 700 * (r.length + 1)
      rw [List.sum_cons]; omega
    · show (PyData.shownAll r).length + 1 = r.length + 1
      rw [h5]
theorem rep_tup {ds : List D} (h : ∀ d ∈ ds, Leaf d) (hl : ds.length ≤ 1000) : RepOk (.tuple ds) := by
  obtain ⟨h1, h2, h3, h4, h5⟩ := leaves h
  refine ⟨h1, h2, ?_, ?_⟩
  · rw [PyData.depth]; omega
  · have e : sizeLine = 16777216 := by decide
    have := tupleText_len_le (PyData.shownAll ds)
    rw [PyData.shown]
    omega
theorem rep_i2 {a b : Int} (a0 : 0 ≤ a) (a1 : a < 2 ^ 1900) (b0 : 0 ≤ b) (b1 : b < 2 ^ 1900) : RepOk (.tuple [.int a, .int b]) :=
  rep_tup (by
    intro d hd
    simp only [List.mem_cons, List.not_mem_nil, or_false] at hd
    rcases hd with rfl | rfl
    · exact leaf_int a0 a1
    · exact leaf_int b0 b1) (show 2 ≤ 1000 by decide)
end Pv
/-! Pv: comprehensions that keep the numbers of a range that pass a test. -/
namespace Pv
open PySem
theorem rngI_nats2 {i : Nat} {I j : Int} (hI : I = (i : Int)) : rngI I j = nats i (j - I).toNat := by
  subst hI
  unfold rngI nats
  rw [List.range'_eq_map_range, List.map_map]
  rfl
def natsL (i n : Nat) (c : Nat → Bool) : List Int := ((List.range' i n).filter c).map fun x : Nat => (x : Int)
theorem natsL_nil {i n : Nat} {c : Nat → Bool} : natsL i n c = [] ↔ ∀ j, i ≤ j → j < i + n → c j = false := by
  unfold natsL
  rw [List.map_eq_nil_iff, List.filter_eq_nil_iff]
  constructor
  · intro h j a b
    have := h j (List.mem_range'_1.mpr ⟨a, b⟩)
    simpa using this
  · intro h j hj
    have := List.mem_range'_1.mp hj
    rw [h j this.1 this.2]; decide
theorem natsL_len (i n : Nat) (c : Nat → Bool) : (natsL i n c).length ≤ n := by
  unfold natsL
  rw [List.length_map]
  have := List.length_filter_le c (List.range' i n)
  rw [List.length_range'] at this
  exact this
theorem natsL_mem {i n : Nat} {c : Nat → Bool} {X : Int} : X ∈ natsL i n c ↔ ∃ j : Nat, X = (j : Int) ∧ i ≤ j ∧ j < i + n ∧ c j = true := by
  unfold natsL
  rw [List.mem_map]
  constructor
  · rintro ⟨j, hj, rfl⟩
    have := List.mem_filter.mp hj
    have h := List.mem_range'_1.mp this.1
    exact ⟨j, rfl, h.1, h.2, this.2⟩
  · rintro ⟨j, rfl, a, b, h⟩
    exact ⟨j, List.mem_filter.mpr ⟨List.mem_range'_1.mpr ⟨a, b⟩, h⟩, rfl⟩
/-- the first one -/
theorem natsL_cons {c : Nat → Bool} : ∀ {n i : Nat} {X : Int} {r : List Int}, natsL i n c = X :: r → ∃ j : Nat, X = (j : Int) ∧ i ≤ j ∧ j < i + n ∧ c j = true ∧ ∀ j', i ≤ j' → j' < j → c j' = false
  | 0, i, X, r, h => by cases h
  | n + 1, i, X, r, h => by
    by_cases ci : c i = true
    · have : natsL i (n + 1) c = (i : Int) :: natsL (i + 1) n c := by
        unfold natsL; rw [List.range'_succ, List.filter_cons, if_pos ci, List.map_cons]
      rw [this] at h
      cases h
      exact ⟨i, rfl, Nat.le_refl _, by omega, ci, fun j' a b => by omega⟩
    · have : natsL i (n + 1) c = natsL (i + 1) n c := by
        unfold natsL; rw [List.range'_succ, List.filter_cons, if_neg ci]
      rw [this] at h
      obtain ⟨j, e, a, b, hj, l⟩ := natsL_cons h
      refine ⟨j, e, by omega, by omega, hj, fun j' x y => ?_⟩
      by_cases z : j' = i
      · rw [z]; simpa using ci
      · exact l j' (by omega) y
theorem eqv_ile (l : List Int) : PyData.eqv (.list (l.map PyData.int)) (.list []) = decide (l = []) := by
  cases l <;> rfl
def gK (c : Nat → Bool) : D → Option D
  | .int X => if c X.toNat then some (.int X) else none
  | _ => none
theorem gK_nats (c : Nat → Bool) : ∀ (n i : Nat), (nats i n).filterMap (gK c) = (natsL i n c).map PyData.int
  | 0, i => rfl
  | n + 1, i => by
    have e : nats i (n + 1) = PyData.int (i : Int) :: nats (i + 1) n := by
      unfold nats; rw [List.range'_succ, List.map_cons]
    have g : gK c (.int (i : Int)) = if c i then some (.int (i : Int)) else none := rfl
    rw [e, List.filterMap_cons, g]
    unfold natsL
    rw [List.range'_succ, List.filter_cons]
    cases ci : c i with
    | true =>
      rw [if_pos rfl, if_pos rfl, gK_nats c n (i + 1)]; rfl
    | false =>
      rw [if_neg (by decide), if_neg (by decide), gK_nats c n (i + 1)]; rfl
theorem put_put (s : S) (j : Nat) (x y : Slot) : (s.put j x).put j y = s.put j y := by
  unfold S.put
  simp
/-- [j for j in numbers if t] -/
theorem ev_lcN {G : List D} {F : CallF} {it : It} {t : Ex} {s : S} (j i n : Nat) (c : Nat → Bool) (hn : n ≤ 100000) (hit : evIt G F it s = .ok (nats i n) s) (hu : s.at j = .un) (hj : j < s.env.length)
    (ht : ∀ (x : Nat) (X : Int), X = (x : Int) → i ≤ x → x < i + n → tst (t, ev G F t) (s.put j (.va (.d (.int X)))) = .ok (c x) (s.put j (.va (.d (.int X))))) :
    ev G F (.lc (.v j) (.nm j) it [t] [j]) s = .ok (.d (.list ((natsL i n c).map PyData.int)), true) s := by
  have hp : s.put j .un = s := by
    unfold S.put
    unfold S.at at hu
    have : s.env.set j .un = s.env := by
      refine List.ext_getElem (by simp) fun m h1 h2 => ?_
      rw [List.getElem_set]
      split
      · rename_i h
        subst h
        rw [List.getD_eq_getElem?_getD, List.getElem?_eq_getElem hj] at hu
        exact hu.symm
      · rfl
    rw [this]
  have hat : ∀ x, (s.put j x).at j = x := fun x => by
    unfold S.put S.at
    simp [hj]
  refine ow_out (ow_lc (gK c) ?_)
  rw [hit]
  refine .mk ⟨?_, ?_, ?_, ?_⟩
  · unfold ownFree
    simp only [List.all_cons, List.all_nil, hu]; rfl
  · intro x hx
    obtain ⟨m, rfl, a, b⟩ := nats_mem hx
    obtain ⟨X, hX⟩ : ∃ X : Int, X = (m : Int) := ⟨_, rfl⟩
    rw [← hX]
    have hgi : gK c (.int X) = if c m then some (.int X) else none := by
      show (if c X.toNat then _ else _) = _
      rw [hX, Int.toNat_natCast]
    have h := ht m X hX a b
    have hh : hideS [j] s = s := hp
    have hl : load j (s.put j (.va (.d (.int X)))) = .ok (.d (.int X), false) (s.put j (.va (.d (.int X)))) := by
      unfold load
      rw [hat]
    rw [hh, hgi]
    show ((tsts [(t, ev G F t)] (s.put j (.va (.d (.int X))))).bind fun b s2 => if b then ((ev G F (.v j)) s2).bind fun r s3 => (match r.1 with
      | .d y => .ok (some y) (hideS [j] s3)
      | _ => .bad)
    else .ok none (hideS [j] s2)) = _
    have ts : tsts [(t, ev G F t)] (s.put j (.va (.d (.int X)))) = .ok (c m) (s.put j (.va (.d (.int X)))) := by
      show ((tst (t, ev G F t) (s.put j (.va (.d (.int X))))).bind fun b s => if b then tsts [] s else .ok false s) = _
      rw [h, bind_ok]
      cases c m <;> rfl
    rw [ts, bind_ok]
    have hback : hideS [j] (s.put j (.va (.d (.int X)))) = s := by
      show (s.put j (.va (.d (.int X)))).put j .un = s
      rw [put_put, hp]
    cases c m with
    | false => simp only [Bool.false_eq_true, if_false]; rw [hback]
    | true =>
      simp only [if_true]
      rw [ev_v]
      rw [hl, bind_ok]
      show Out.ok (some (PyData.int X)) (hideS [j] (s.put j (.va (.d (.int X))))) = _
      rw [hback]
  · rw [nats_len]; exact small_len hn
  · refine ⟨?_, ?_⟩
    · rw [gK_nats]
    · show (hideS [j] s).put j (s.at j) = s
      rw [hu]
      show (s.put j .un).put j .un = s
      rw [hp, hp]
end Pv
namespace Pv
open PySem
theorem cut1 (l : List D) : cutD l none (some 1) = l.take 1 := by
  cases l with
  | nil => rfl
  | cons x l =>
    show ((x :: l).drop 0).take (min 1 (l.length + 1) - 0) = _
    rw [show min 1 (l.length + 1) = 1 by omega]
    rfl
end Pv
set_option maxHeartbeats 1000000
/-! the draws -/
namespace K85
open PySem Pv
def gAbs : D → Option D
  | .int i => some (.int (if i < 0 then -i else i))
  | _ => none
def gLarge : D → Option D
  | .int i => if 10 ^ 18 ≤ (if i < 0 then -i else i) then some (.int ((if i < 0 then -i else i) - 10 ^ 18)) else none
  | _ => none
theorem gAbs_p (i : Int) : (gAbs ∘ PyData.int) i = some (PyData.int (if i < 0 then -i else i)) := rfl
theorem asInts_fm {A : Type} {f : A → Option D} : ∀ {l : List A}, (∀ x ∈ l, ∀ y, f x = some y → ∃ i, y = .int i) → ∃ r, asInts (l.filterMap f) = some r
  | [], _ => ⟨[], rfl⟩
  | a :: l, h => by
    obtain ⟨r, hr⟩ := asInts_fm (f := f) (l := l) fun x hx => h x (List.mem_cons_of_mem _ hx)
    rw [List.filterMap_cons]
    cases e : f a with
    | none => exact ⟨r, hr⟩
    | some y =>
      obtain ⟨i, rfl⟩ := h a List.mem_cons_self y e
      exact ⟨i :: r, by simp [asInts, hr]⟩
section
variable (k : Nat)
theorem run_mixed (st : Dr) : Rw (run G T (k + 1) 23 [.drw] (some st)) fun a fr dr => (∃ v : Int, a = .d (.int v)) ∧ fr = false ∧ dr.isSome = true := by
  rw [run_fn' (f := 23) (np := 1) (nn := 6) rfl rfl]
  refine rw_ret ?_
  refine ow_cons ?_
  simp [evS, ev_v, ev_c, ev_g, ev_fn, ev_bin, ev_neg, ev_no, ev_cmp, ev_chain, ev_and, ev_or, ev_ite, ev_call, ev_kcall, ev_bi, ev_isi, ev_ix, ev_sl, ev_rev, ev_tup, ev_lst, ev_pop, ev_dk, ev_dle, ev_dpop, ev_dmk, evEach, evIt, evs, evF, ops, op1, op2, opA, tst, tsts, truD, Pv.load, look, S.at, S.put, mine, store, setO, appO, drO, mkO, sliceO, seqO, ofRo_ok, lcTurn, Out.calm, hideS, backS, ownFree, bind_ok, bind_bad, bind_exc, ow_ok, ow_bad, ow_exc, ofO, dsOf, lstD, tupD, binop, cmpop, deq, Pv.truthy, builtin, item, item.atI, slice, Pv.bound, Ex.gap, isTy, asInt, Option.map_some, Option.map_none, Option.bind_some, Option.bind_none, List.map_cons, List.map_nil, List.replicate, List.cons_append, List.nil_append, List.append_nil, List.getD_cons_zero, List.getD_cons_succ, List.getD_nil, List.set_cons_zero, List.set_cons_succ, List.set_nil, List.zip_cons_cons, List.zip_nil_left, List.zip_nil_right, List.foldl_cons, List.foldl_nil, List.length_cons, List.length_nil, List.any_cons, List.any_nil, List.all_cons, List.all_nil, if_true, if_false, ite_true, ite_false, Bool.false_eq_true, Bool.true_eq_false, Bool.or_false, Bool.or_true, Bool.and_true, Bool.and_false, Bool.true_and, Bool.false_and, Bool.not_true, Bool.not_false, decide_true, decide_false, Nat.reduceAdd, Nat.reduceSub, Nat.zero_add, reduceIte, reduceCtorEq, sz0, sz1, sz2, sz3, sz4, sz5, sz6, sz7, sz8, sz9, sz10, sz11, sz12, sz13, sz14, sz15, sz16, seqOf, ev_callv, ev_lcall, keep_d, capsOf, Dr.get, Dr.set]
  refine ow_cons ?_
  simp [evS, ev_v, ev_c, ev_g, ev_fn, ev_bin, ev_neg, ev_no, ev_cmp, ev_chain, ev_and, ev_or, ev_ite, ev_call, ev_kcall, ev_bi, ev_isi, ev_ix, ev_sl, ev_rev, ev_tup, ev_lst, ev_pop, ev_dk, ev_dle, ev_dpop, ev_dmk, evEach, evIt, evs, evF, ops, op1, op2, opA, tst, tsts, truD, Pv.load, look, S.at, S.put, mine, store, setO, appO, drO, mkO, sliceO, seqO, ofRo_ok, lcTurn, Out.calm, hideS, backS, ownFree, bind_ok, bind_bad, bind_exc, ow_ok, ow_bad, ow_exc, ofO, dsOf, lstD, tupD, binop, cmpop, deq, Pv.truthy, builtin, item, item.atI, slice, Pv.bound, Ex.gap, isTy, asInt, Option.map_some, Option.map_none, Option.bind_some, Option.bind_none, List.map_cons, List.map_nil, List.replicate, List.cons_append, List.nil_append, List.append_nil, List.getD_cons_zero, List.getD_cons_succ, List.getD_nil, List.set_cons_zero, List.set_cons_succ, List.set_nil, List.zip_cons_cons, List.zip_nil_left, List.zip_nil_right, List.foldl_cons, List.foldl_nil, List.length_cons, List.length_nil, List.any_cons, List.any_nil, List.all_cons, List.all_nil, if_true, if_false, ite_true, ite_false, Bool.false_eq_true, Bool.true_eq_false, Bool.or_false, Bool.or_true, Bool.and_true, Bool.and_false, Bool.true_and, Bool.false_and, Bool.not_true, Bool.not_false, decide_true, decide_false, Nat.reduceAdd, Nat.reduceSub, Nat.zero_add, reduceIte, reduceCtorEq, sz0, sz1, sz2, sz3, sz4, sz5, sz6, sz7, sz8, sz9, sz10, sz11, sz12, sz13, sz14, sz15, sz16, seqOf, ev_callv, ev_lcall, keep_d, capsOf, Dr.get, Dr.set]
  refine ow_cons ?_
  refine ow_each (fun l s => (∀ x ∈ l, x = .int 2147483647 ∨ x = .int 2147483629 ∨ x = .int 2147483587) ∧ ∃ (st : Dr) (t f : Int) (g b c : Pv.Slot), s = ⟨[.va .drw, g, .va (.d (.int t)), .va (.d (.int f)), b, c], some st⟩) ?_ ?_ ?_
  · simp [evS, ev_v, ev_c, ev_g, ev_fn, ev_bin, ev_neg, ev_no, ev_cmp, ev_chain, ev_and, ev_or, ev_ite, ev_call, ev_kcall, ev_bi, ev_isi, ev_ix, ev_sl, ev_rev, ev_tup, ev_lst, ev_pop, ev_dk, ev_dle, ev_dpop, ev_dmk, evEach, evIt, evs, evF, ops, op1, op2, opA, tst, tsts, truD, Pv.load, look, S.at, S.put, mine, store, setO, appO, drO, mkO, sliceO, seqO, ofRo_ok, lcTurn, Out.calm, hideS, backS, ownFree, bind_ok, bind_bad, bind_exc, ow_ok, ow_bad, ow_exc, ofO, dsOf, lstD, tupD, binop, cmpop, deq, Pv.truthy, builtin, item, item.atI, slice, Pv.bound, Ex.gap, isTy, asInt, Option.map_some, Option.map_none, Option.bind_some, Option.bind_none, List.map_cons, List.map_nil, List.replicate, List.cons_append, List.nil_append, List.append_nil, List.getD_cons_zero, List.getD_cons_succ, List.getD_nil, List.set_cons_zero, List.set_cons_succ, List.set_nil, List.zip_cons_cons, List.zip_nil_left, List.zip_nil_right, List.foldl_cons, List.foldl_nil, List.length_cons, List.length_nil, List.any_cons, List.any_nil, List.all_cons, List.all_nil, if_true, if_false, ite_true, ite_false, Bool.false_eq_true, Bool.true_eq_false, Bool.or_false, Bool.or_true, Bool.and_true, Bool.and_false, Bool.true_and, Bool.false_and, Bool.not_true, Bool.not_false, decide_true, decide_false, Nat.reduceAdd, Nat.reduceSub, Nat.zero_add, reduceIte, reduceCtorEq, sz0, sz1, sz2, sz3, sz4, sz5, sz6, sz7, sz8, sz9, sz10, sz11, sz12, sz13, sz14, sz15, sz16, seqOf, ev_callv, ev_lcall, keep_d, capsOf]
  · rintro x r s ⟨hx, st, t, f, g, b, c, rfl⟩
    have hr : ∀ y ∈ r, y = PyData.int 2147483647 ∨ y = .int 2147483629 ∨ y = .int 2147483587 := fun y hy => hx y (List.mem_cons_of_mem _ hy)
    obtain ⟨great, rfl, h0, h1⟩ : ∃ great : Int, x = .int great ∧ 0 < great ∧ great < 2 ^ 31 := by
      rcases hx x List.mem_cons_self with h | h | h <;> exact ⟨_, h, by decide, by decide⟩
    have hm : ∀ a : Int, 0 ≤ a % great ∧ a % great < 2147483648 := fun a => ⟨Int.emod_nonneg _ (by omega), by have := Int.emod_lt_of_pos a h0; omega⟩
    simp [evS, ev_v, ev_c, ev_g, ev_fn, ev_bin, ev_neg, ev_no, ev_cmp, ev_chain, ev_and, ev_or, ev_ite, ev_call, ev_kcall, ev_bi, ev_isi, ev_ix, ev_sl, ev_rev, ev_tup, ev_lst, ev_pop, ev_dk, ev_dle, ev_dpop, ev_dmk, evEach, evIt, evs, evF, ops, op1, op2, opA, tst, tsts, truD, Pv.load, look, S.at, S.put, mine, store, setO, appO, drO, mkO, sliceO, seqO, ofRo_ok, lcTurn, Out.calm, hideS, backS, ownFree, bind_ok, bind_bad, bind_exc, ow_ok, ow_bad, ow_exc, ofO, dsOf, lstD, tupD, binop, cmpop, deq, Pv.truthy, builtin, item, item.atI, slice, Pv.bound, Ex.gap, isTy, asInt, Option.map_some, Option.map_none, Option.bind_some, Option.bind_none, List.map_cons, List.map_nil, List.replicate, List.cons_append, List.nil_append, List.append_nil, List.getD_cons_zero, List.getD_cons_succ, List.getD_nil, List.set_cons_zero, List.set_cons_succ, List.set_nil, List.zip_cons_cons, List.zip_nil_left, List.zip_nil_right, List.foldl_cons, List.foldl_nil, List.length_cons, List.length_nil, List.any_cons, List.any_nil, List.all_cons, List.all_nil, if_true, if_false, ite_true, ite_false, Bool.false_eq_true, Bool.true_eq_false, Bool.or_false, Bool.or_true, Bool.and_true, Bool.and_false, Bool.true_and, Bool.false_and, Bool.not_true, Bool.not_false, decide_true, decide_false, Nat.reduceAdd, Nat.reduceSub, Nat.zero_add, reduceIte, reduceCtorEq, sz0, sz1, sz2, sz3, sz4, sz5, sz6, sz7, sz8, sz9, sz10, sz11, sz12, sz13, sz14, sz15, sz16, seqOf, ev_callv, ev_lcall, keep_d, capsOf]
    refine ow_cons ?_
    simp [evS, ev_v, ev_c, ev_g, ev_fn, ev_bin, ev_neg, ev_no, ev_cmp, ev_chain, ev_and, ev_or, ev_ite, ev_call, ev_kcall, ev_bi, ev_isi, ev_ix, ev_sl, ev_rev, ev_tup, ev_lst, ev_pop, ev_dk, ev_dle, ev_dpop, ev_dmk, evEach, evIt, evs, evF, ops, op1, op2, opA, tst, tsts, truD, Pv.load, look, S.at, S.put, mine, store, setO, appO, drO, mkO, sliceO, seqO, ofRo_ok, lcTurn, Out.calm, hideS, backS, ownFree, bind_ok, bind_bad, bind_exc, ow_ok, ow_bad, ow_exc, ofO, dsOf, lstD, tupD, binop, cmpop, deq, Pv.truthy, builtin, item, item.atI, slice, Pv.bound, Ex.gap, isTy, asInt, Option.map_some, Option.map_none, Option.bind_some, Option.bind_none, List.map_cons, List.map_nil, List.replicate, List.cons_append, List.nil_append, List.append_nil, List.getD_cons_zero, List.getD_cons_succ, List.getD_nil, List.set_cons_zero, List.set_cons_succ, List.set_nil, List.zip_cons_cons, List.zip_nil_left, List.zip_nil_right, List.foldl_cons, List.foldl_nil, List.length_cons, List.length_nil, List.any_cons, List.any_nil, List.all_cons, List.all_nil, if_true, if_false, ite_true, ite_false, Bool.false_eq_true, Bool.true_eq_false, Bool.or_false, Bool.or_true, Bool.and_true, Bool.and_false, Bool.true_and, Bool.false_and, Bool.not_true, Bool.not_false, decide_true, decide_false, Nat.reduceAdd, Nat.reduceSub, Nat.zero_add, reduceIte, reduceCtorEq, sz0, sz1, sz2, sz3, sz4, sz5, sz6, sz7, sz8, sz9, sz10, sz11, sz12, sz13, sz14, sz15, sz16, seqOf, ev_callv, ev_lcall, keep_d, capsOf, mulOk, divOk, fmod_pos h0, show great ≠ 0 by omega]
    refine ow_cons ?_
    refine ow_each (fun l s => (∀ x ∈ l, ∃ i : Int, x = .int i) ∧ ∃ (st : Dr) (t f bl : Int) (c : Pv.Slot), s = ⟨[.va .drw, .va (.d (.int great)), .va (.d (.int t)), .va (.d (.int f)), .va (.d (.int bl)), c], some st⟩ ∧ 0 ≤ bl ∧ bl < 2147483648) ?_ ?_ ?_
    · simp [evS, ev_v, ev_c, ev_g, ev_fn, ev_bin, ev_neg, ev_no, ev_cmp, ev_chain, ev_and, ev_or, ev_ite, ev_call, ev_kcall, ev_bi, ev_isi, ev_ix, ev_sl, ev_rev, ev_tup, ev_lst, ev_pop, ev_dk, ev_dle, ev_dpop, ev_dmk, evEach, evIt, evs, evF, ops, op1, op2, opA, tst, tsts, truD, Pv.load, look, S.at, S.put, mine, store, setO, appO, drO, mkO, sliceO, seqO, ofRo_ok, lcTurn, Out.calm, hideS, backS, ownFree, bind_ok, bind_bad, bind_exc, ow_ok, ow_bad, ow_exc, ofO, dsOf, lstD, tupD, binop, cmpop, deq, Pv.truthy, builtin, item, item.atI, slice, Pv.bound, Ex.gap, isTy, asInt, Option.map_some, Option.map_none, Option.bind_some, Option.bind_none, List.map_cons, List.map_nil, List.replicate, List.cons_append, List.nil_append, List.append_nil, List.getD_cons_zero, List.getD_cons_succ, List.getD_nil, List.set_cons_zero, List.set_cons_succ, List.set_nil, List.zip_cons_cons, List.zip_nil_left, List.zip_nil_right, List.foldl_cons, List.foldl_nil, List.length_cons, List.length_nil, List.any_cons, List.any_nil, List.all_cons, List.all_nil, if_true, if_false, ite_true, ite_false, Bool.false_eq_true, Bool.true_eq_false, Bool.or_false, Bool.or_true, Bool.and_true, Bool.and_false, Bool.true_and, Bool.false_and, Bool.not_true, Bool.not_false, decide_true, decide_false, Nat.reduceAdd, Nat.reduceSub, Nat.zero_add, reduceIte, reduceCtorEq, sz0, sz1, sz2, sz3, sz4, sz5, sz6, sz7, sz8, sz9, sz10, sz11, sz12, sz13, sz14, sz15, sz16, seqOf, ev_callv, ev_lcall, keep_d, capsOf, Dr.get]
      exact ⟨st, t, f, _, ⟨⟨rfl, rfl, rfl⟩, rfl⟩, hm _⟩
    · rintro x r s ⟨hx, st, t, f, bl, c, rfl, hb⟩
      obtain ⟨i, rfl⟩ := hx x List.mem_cons_self
      simp [evS, ev_v, ev_c, ev_g, ev_fn, ev_bin, ev_neg, ev_no, ev_cmp, ev_chain, ev_and, ev_or, ev_ite, ev_call, ev_kcall, ev_bi, ev_isi, ev_ix, ev_sl, ev_rev, ev_tup, ev_lst, ev_pop, ev_dk, ev_dle, ev_dpop, ev_dmk, evEach, evIt, evs, evF, ops, op1, op2, opA, tst, tsts, truD, Pv.load, look, S.at, S.put, mine, store, setO, appO, drO, mkO, sliceO, seqO, ofRo_ok, lcTurn, Out.calm, hideS, backS, ownFree, bind_ok, bind_bad, bind_exc, ow_ok, ow_bad, ow_exc, ofO, dsOf, lstD, tupD, binop, cmpop, deq, Pv.truthy, builtin, item, item.atI, slice, Pv.bound, Ex.gap, isTy, asInt, Option.map_some, Option.map_none, Option.bind_some, Option.bind_none, List.map_cons, List.map_nil, List.replicate, List.cons_append, List.nil_append, List.append_nil, List.getD_cons_zero, List.getD_cons_succ, List.getD_nil, List.set_cons_zero, List.set_cons_succ, List.set_nil, List.zip_cons_cons, List.zip_nil_left, List.zip_nil_right, List.foldl_cons, List.foldl_nil, List.length_cons, List.length_nil, List.any_cons, List.any_nil, List.all_cons, List.all_nil, if_true, if_false, ite_true, ite_false, Bool.false_eq_true, Bool.true_eq_false, Bool.or_false, Bool.or_true, Bool.and_true, Bool.and_false, Bool.true_and, Bool.false_and, Bool.not_true, Bool.not_false, decide_true, decide_false, Nat.reduceAdd, Nat.reduceSub, Nat.zero_add, reduceIte, reduceCtorEq, sz0, sz1, sz2, sz3, sz4, sz5, sz6, sz7, sz8, sz9, sz10, sz11, sz12, sz13, sz14, sz15, sz16, seqOf, ev_callv, ev_lcall, keep_d, capsOf]
      refine ow_cons ?_
      simp [evS, ev_v, ev_c, ev_g, ev_fn, ev_bin, ev_neg, ev_no, ev_cmp, ev_chain, ev_and, ev_or, ev_ite, ev_call, ev_kcall, ev_bi, ev_isi, ev_ix, ev_sl, ev_rev, ev_tup, ev_lst, ev_pop, ev_dk, ev_dle, ev_dpop, ev_dmk, evEach, evIt, evs, evF, ops, op1, op2, opA, tst, tsts, truD, Pv.load, look, S.at, S.put, mine, store, setO, appO, drO, mkO, sliceO, seqO, ofRo_ok, lcTurn, Out.calm, hideS, backS, ownFree, bind_ok, bind_bad, bind_exc, ow_ok, ow_bad, ow_exc, ofO, dsOf, lstD, tupD, binop, cmpop, deq, Pv.truthy, builtin, item, item.atI, slice, Pv.bound, Ex.gap, isTy, asInt, Option.map_some, Option.map_none, Option.bind_some, Option.bind_none, List.map_cons, List.map_nil, List.replicate, List.cons_append, List.nil_append, List.append_nil, List.getD_cons_zero, List.getD_cons_succ, List.getD_nil, List.set_cons_zero, List.set_cons_succ, List.set_nil, List.zip_cons_cons, List.zip_nil_left, List.zip_nil_right, List.foldl_cons, List.foldl_nil, List.length_cons, List.length_nil, List.any_cons, List.any_nil, List.all_cons, List.all_nil, if_true, if_false, ite_true, ite_false, Bool.false_eq_true, Bool.true_eq_false, Bool.or_false, Bool.or_true, Bool.and_true, Bool.and_false, Bool.true_and, Bool.false_and, Bool.not_true, Bool.not_false, decide_true, decide_false, Nat.reduceAdd, Nat.reduceSub, Nat.zero_add, reduceIte, reduceCtorEq, sz0, sz1, sz2, sz3, sz4, sz5, sz6, sz7, sz8, sz9, sz10, sz11, sz12, sz13, sz14, sz15, sz16, seqOf, ev_callv, ev_lcall, keep_d, capsOf, mulOk, divOk, fmod_pos h0, show great ≠ 0 by omega]
      refine ow_nil ?_
      refine ⟨fun y hy => hx y (List.mem_cons_of_mem _ hy), st, t, f, _, ⟨_, rfl⟩, ?_⟩
      exact hm _
    · rintro s ⟨_, st, t, f, bl, c, rfl, hb⟩
      refine ow_cons ?_
      have hx : bl.natAbs < 2 ^ 64 := by omega
      simp [evS, ev_v, ev_c, ev_g, ev_fn, ev_bin, ev_neg, ev_no, ev_cmp, ev_chain, ev_and, ev_or, ev_ite, ev_call, ev_kcall, ev_bi, ev_isi, ev_ix, ev_sl, ev_rev, ev_tup, ev_lst, ev_pop, ev_dk, ev_dle, ev_dpop, ev_dmk, evEach, evIt, evs, evF, ops, op1, op2, opA, tst, tsts, truD, Pv.load, look, S.at, S.put, mine, store, setO, appO, drO, mkO, sliceO, seqO, ofRo_ok, lcTurn, Out.calm, hideS, backS, ownFree, bind_ok, bind_bad, bind_exc, ow_ok, ow_bad, ow_exc, ofO, dsOf, lstD, tupD, binop, cmpop, deq, Pv.truthy, builtin, item, item.atI, slice, Pv.bound, Ex.gap, isTy, asInt, Option.map_some, Option.map_none, Option.bind_some, Option.bind_none, List.map_cons, List.map_nil, List.replicate, List.cons_append, List.nil_append, List.append_nil, List.getD_cons_zero, List.getD_cons_succ, List.getD_nil, List.set_cons_zero, List.set_cons_succ, List.set_nil, List.zip_cons_cons, List.zip_nil_left, List.zip_nil_right, List.foldl_cons, List.foldl_nil, List.length_cons, List.length_nil, List.any_cons, List.any_nil, List.all_cons, List.all_nil, if_true, if_false, ite_true, ite_false, Bool.false_eq_true, Bool.true_eq_false, Bool.or_false, Bool.or_true, Bool.and_true, Bool.and_false, Bool.true_and, Bool.false_and, Bool.not_true, Bool.not_false, decide_true, decide_false, Nat.reduceAdd, Nat.reduceSub, Nat.zero_add, reduceIte, reduceCtorEq, sz0, sz1, sz2, sz3, sz4, sz5, sz6, sz7, sz8, sz9, sz10, sz11, sz12, sz13, sz14, sz15, sz16, seqOf, ev_callv, ev_lcall, keep_d, capsOf, mulOk, divOk, expOk, fmod_pos h0, show great ≠ 0 by omega, hx]
      refine ow_nil ?_
      exact ⟨hr, st, t, _, _, _, _, rfl⟩
  · rintro s ⟨_, st, t, f, g, b, c, rfl⟩
    refine ow_cons ?_
    simp [evS, ev_v, ev_c, ev_g, ev_fn, ev_bin, ev_neg, ev_no, ev_cmp, ev_chain, ev_and, ev_or, ev_ite, ev_call, ev_kcall, ev_bi, ev_isi, ev_ix, ev_sl, ev_rev, ev_tup, ev_lst, ev_pop, ev_dk, ev_dle, ev_dpop, ev_dmk, evEach, evIt, evs, evF, ops, op1, op2, opA, tst, tsts, truD, Pv.load, look, S.at, S.put, mine, store, setO, appO, drO, mkO, sliceO, seqO, ofRo_ok, lcTurn, Out.calm, hideS, backS, ownFree, bind_ok, bind_bad, bind_exc, ow_ok, ow_bad, ow_exc, ofO, dsOf, lstD, tupD, binop, cmpop, deq, Pv.truthy, builtin, item, item.atI, slice, Pv.bound, Ex.gap, isTy, asInt, Option.map_some, Option.map_none, Option.bind_some, Option.bind_none, List.map_cons, List.map_nil, List.replicate, List.cons_append, List.nil_append, List.append_nil, List.getD_cons_zero, List.getD_cons_succ, List.getD_nil, List.set_cons_zero, List.set_cons_succ, List.set_nil, List.zip_cons_cons, List.zip_nil_left, List.zip_nil_right, List.foldl_cons, List.foldl_nil, List.length_cons, List.length_nil, List.any_cons, List.any_nil, List.all_cons, List.all_nil, if_true, if_false, ite_true, ite_false, Bool.false_eq_true, Bool.true_eq_false, Bool.or_false, Bool.or_true, Bool.and_true, Bool.and_false, Bool.true_and, Bool.false_and, Bool.not_true, Bool.not_false, decide_true, decide_false, Nat.reduceAdd, Nat.reduceSub, Nat.zero_add, reduceIte, reduceCtorEq, sz0, sz1, sz2, sz3, sz4, sz5, sz6, sz7, sz8, sz9, sz10, sz11, sz12, sz13, sz14, sz15, sz16, seqOf, ev_callv, ev_lcall, keep_d, capsOf]
theorem run_take (st : Dr) (n : Int) (h0 : 0 < n) (h1 : divOk n = true) : Rw (run G T (k + 2) 24 [.drw, .d (.int n)] (some st)) fun a fr dr => (∃ v : Int, a = .d (.int v) ∧ 0 ≤ v ∧ v < n) ∧ fr = false ∧ dr.isSome = true := by
  rw [run_fn' (f := 24) (np := 2) (nn := 3) rfl rfl]
  refine rw_ret ?_
  have fin : ∀ (st : Dr) , Ow (evB G (run G T (k + 1)) [.asg (.nm 2) (.bin .mod (.bi .int [.dk 0 .rest]) (.v 1)), .dset 0 .rest (.bin .fdiv (.bi .int [.dk 0 .rest]) (.v 1)), .ret (.v 2)] ⟨[.va .drw, .va (.d (.int n)), .un], some st⟩)
      fun f s => match f with | .nx => False | .rt a fr => (∃ v : Int, a = .d (.int v) ∧ 0 ≤ v ∧ v < n) ∧ fr = false ∧ s.dr.isSome = true := fun st => by
    refine ow_cons ?_
    simp [evS, ev_v, ev_c, ev_g, ev_fn, ev_bin, ev_neg, ev_no, ev_cmp, ev_chain, ev_and, ev_or, ev_ite, ev_call, ev_kcall, ev_bi, ev_isi, ev_ix, ev_sl, ev_rev, ev_tup, ev_lst, ev_pop, ev_dk, ev_dle, ev_dpop, ev_dmk, evEach, evIt, evs, evF, ops, op1, op2, opA, tst, tsts, truD, Pv.load, look, S.at, S.put, mine, store, setO, appO, drO, mkO, sliceO, seqO, ofRo_ok, lcTurn, Out.calm, hideS, backS, ownFree, bind_ok, bind_bad, bind_exc, ow_ok, ow_bad, ow_exc, ofO, dsOf, lstD, tupD, binop, cmpop, deq, Pv.truthy, builtin, item, item.atI, slice, Pv.bound, Ex.gap, isTy, asInt, Option.map_some, Option.map_none, Option.bind_some, Option.bind_none, List.map_cons, List.map_nil, List.replicate, List.cons_append, List.nil_append, List.append_nil, List.getD_cons_zero, List.getD_cons_succ, List.getD_nil, List.set_cons_zero, List.set_cons_succ, List.set_nil, List.zip_cons_cons, List.zip_nil_left, List.zip_nil_right, List.foldl_cons, List.foldl_nil, List.length_cons, List.length_nil, List.any_cons, List.any_nil, List.all_cons, List.all_nil, if_true, if_false, ite_true, ite_false, Bool.false_eq_true, Bool.true_eq_false, Bool.or_false, Bool.or_true, Bool.and_true, Bool.and_false, Bool.true_and, Bool.false_and, Bool.not_true, Bool.not_false, decide_true, decide_false, Nat.reduceAdd, Nat.reduceSub, Nat.zero_add, reduceIte, reduceCtorEq, sz0, sz1, sz2, sz3, sz4, sz5, sz6, sz7, sz8, sz9, sz10, sz11, sz12, sz13, sz14, sz15, sz16, seqOf, ev_callv, ev_lcall, keep_d, capsOf, Dr.get, fmod_pos h0, show n ≠ 0 by omega]
    refine ow_cons ?_
    simp [evS, ev_v, ev_c, ev_g, ev_fn, ev_bin, ev_neg, ev_no, ev_cmp, ev_chain, ev_and, ev_or, ev_ite, ev_call, ev_kcall, ev_bi, ev_isi, ev_ix, ev_sl, ev_rev, ev_tup, ev_lst, ev_pop, ev_dk, ev_dle, ev_dpop, ev_dmk, evEach, evIt, evs, evF, ops, op1, op2, opA, tst, tsts, truD, Pv.load, look, S.at, S.put, mine, store, setO, appO, drO, mkO, sliceO, seqO, ofRo_ok, lcTurn, Out.calm, hideS, backS, ownFree, bind_ok, bind_bad, bind_exc, ow_ok, ow_bad, ow_exc, ofO, dsOf, lstD, tupD, binop, cmpop, deq, Pv.truthy, builtin, item, item.atI, slice, Pv.bound, Ex.gap, isTy, asInt, Option.map_some, Option.map_none, Option.bind_some, Option.bind_none, List.map_cons, List.map_nil, List.replicate, List.cons_append, List.nil_append, List.append_nil, List.getD_cons_zero, List.getD_cons_succ, List.getD_nil, List.set_cons_zero, List.set_cons_succ, List.set_nil, List.zip_cons_cons, List.zip_nil_left, List.zip_nil_right, List.foldl_cons, List.foldl_nil, List.length_cons, List.length_nil, List.any_cons, List.any_nil, List.all_cons, List.all_nil, if_true, if_false, ite_true, ite_false, Bool.false_eq_true, Bool.true_eq_false, Bool.or_false, Bool.or_true, Bool.and_true, Bool.and_false, Bool.true_and, Bool.false_and, Bool.not_true, Bool.not_false, decide_true, decide_false, Nat.reduceAdd, Nat.reduceSub, Nat.zero_add, reduceIte, reduceCtorEq, sz0, sz1, sz2, sz3, sz4, sz5, sz6, sz7, sz8, sz9, sz10, sz11, sz12, sz13, sz14, sz15, sz16, seqOf, ev_callv, ev_lcall, keep_d, capsOf, Dr.get, Dr.set, h1]
    refine ow_cons ?_
    simp [evS, ev_v, ev_c, ev_g, ev_fn, ev_bin, ev_neg, ev_no, ev_cmp, ev_chain, ev_and, ev_or, ev_ite, ev_call, ev_kcall, ev_bi, ev_isi, ev_ix, ev_sl, ev_rev, ev_tup, ev_lst, ev_pop, ev_dk, ev_dle, ev_dpop, ev_dmk, evEach, evIt, evs, evF, ops, op1, op2, opA, tst, tsts, truD, Pv.load, look, S.at, S.put, mine, store, setO, appO, drO, mkO, sliceO, seqO, ofRo_ok, lcTurn, Out.calm, hideS, backS, ownFree, bind_ok, bind_bad, bind_exc, ow_ok, ow_bad, ow_exc, ofO, dsOf, lstD, tupD, binop, cmpop, deq, Pv.truthy, builtin, item, item.atI, slice, Pv.bound, Ex.gap, isTy, asInt, Option.map_some, Option.map_none, Option.bind_some, Option.bind_none, List.map_cons, List.map_nil, List.replicate, List.cons_append, List.nil_append, List.append_nil, List.getD_cons_zero, List.getD_cons_succ, List.getD_nil, List.set_cons_zero, List.set_cons_succ, List.set_nil, List.zip_cons_cons, List.zip_nil_left, List.zip_nil_right, List.foldl_cons, List.foldl_nil, List.length_cons, List.length_nil, List.any_cons, List.any_nil, List.all_cons, List.all_nil, if_true, if_false, ite_true, ite_false, Bool.false_eq_true, Bool.true_eq_false, Bool.or_false, Bool.or_true, Bool.and_true, Bool.and_false, Bool.true_and, Bool.false_and, Bool.not_true, Bool.not_false, decide_true, decide_false, Nat.reduceAdd, Nat.reduceSub, Nat.zero_add, reduceIte, reduceCtorEq, sz0, sz1, sz2, sz3, sz4, sz5, sz6, sz7, sz8, sz9, sz10, sz11, sz12, sz13, sz14, sz15, sz16, seqOf, ev_callv, ev_lcall, keep_d, capsOf]
    exact ⟨Int.emod_nonneg _ (by omega), Int.emod_lt_of_pos _ h0⟩
  refine ow_cons (ow_ifs ?_)
  simp [evS, ev_v, ev_c, ev_g, ev_fn, ev_bin, ev_neg, ev_no, ev_cmp, ev_chain, ev_and, ev_or, ev_ite, ev_call, ev_kcall, ev_bi, ev_isi, ev_ix, ev_sl, ev_rev, ev_tup, ev_lst, ev_pop, ev_dk, ev_dle, ev_dpop, ev_dmk, evEach, evIt, evs, evF, ops, op1, op2, opA, tst, tsts, truD, Pv.load, look, S.at, S.put, mine, store, setO, appO, drO, mkO, sliceO, seqO, ofRo_ok, lcTurn, Out.calm, hideS, backS, ownFree, bind_ok, bind_bad, bind_exc, ow_ok, ow_bad, ow_exc, ofO, dsOf, lstD, tupD, binop, cmpop, deq, Pv.truthy, builtin, item, item.atI, slice, Pv.bound, Ex.gap, isTy, asInt, Option.map_some, Option.map_none, Option.bind_some, Option.bind_none, List.map_cons, List.map_nil, List.replicate, List.cons_append, List.nil_append, List.append_nil, List.getD_cons_zero, List.getD_cons_succ, List.getD_nil, List.set_cons_zero, List.set_cons_succ, List.set_nil, List.zip_cons_cons, List.zip_nil_left, List.zip_nil_right, List.foldl_cons, List.foldl_nil, List.length_cons, List.length_nil, List.any_cons, List.any_nil, List.all_cons, List.all_nil, if_true, if_false, ite_true, ite_false, Bool.false_eq_true, Bool.true_eq_false, Bool.or_false, Bool.or_true, Bool.and_true, Bool.and_false, Bool.true_and, Bool.false_and, Bool.not_true, Bool.not_false, decide_true, decide_false, Nat.reduceAdd, Nat.reduceSub, Nat.zero_add, reduceIte, reduceCtorEq, sz0, sz1, sz2, sz3, sz4, sz5, sz6, sz7, sz8, sz9, sz10, sz11, sz12, sz13, sz14, sz15, sz16, seqOf, ev_callv, ev_lcall, keep_d, capsOf, Dr.get]
  by_cases hr : st.rest = 0
  · simp [hr]
    refine ow_cons ?_
    cases hl : st.large with
    | nil =>
      simp [evS, ev_v, ev_c, ev_g, ev_fn, ev_bin, ev_neg, ev_no, ev_cmp, ev_chain, ev_and, ev_or, ev_ite, ev_call, ev_kcall, ev_bi, ev_isi, ev_ix, ev_sl, ev_rev, ev_tup, ev_lst, ev_pop, ev_dk, ev_dle, ev_dpop, ev_dmk, evEach, evIt, evs, evF, ops, op1, op2, opA, tst, tsts, truD, Pv.load, look, S.at, S.put, mine, store, setO, appO, drO, mkO, sliceO, seqO, ofRo_ok, lcTurn, Out.calm, hideS, backS, ownFree, bind_ok, bind_bad, bind_exc, ow_ok, ow_bad, ow_exc, ofO, dsOf, lstD, tupD, binop, cmpop, deq, Pv.truthy, builtin, item, item.atI, slice, Pv.bound, Ex.gap, isTy, asInt, Option.map_some, Option.map_none, Option.bind_some, Option.bind_none, List.map_cons, List.map_nil, List.replicate, List.cons_append, List.nil_append, List.append_nil, List.getD_cons_zero, List.getD_cons_succ, List.getD_nil, List.set_cons_zero, List.set_cons_succ, List.set_nil, List.zip_cons_cons, List.zip_nil_left, List.zip_nil_right, List.foldl_cons, List.foldl_nil, List.length_cons, List.length_nil, List.any_cons, List.any_nil, List.all_cons, List.all_nil, if_true, if_false, ite_true, ite_false, Bool.false_eq_true, Bool.true_eq_false, Bool.or_false, Bool.or_true, Bool.and_true, Bool.and_false, Bool.true_and, Bool.false_and, Bool.not_true, Bool.not_false, decide_true, decide_false, Nat.reduceAdd, Nat.reduceSub, Nat.zero_add, reduceIte, reduceCtorEq, sz0, sz1, sz2, sz3, sz4, sz5, sz6, sz7, sz8, sz9, sz10, sz11, sz12, sz13, sz14, sz15, sz16, seqOf, ev_callv, ev_lcall, keep_d, capsOf, hl, ow_bind]
      refine ow_call0 (run_mixed k st) ?_
      rintro a fr dr ⟨⟨v, rfl⟩, rfl, hd⟩
      obtain ⟨st2, rfl⟩ := Option.isSome_iff_exists.mp hd
      simp [evS, ev_v, ev_c, ev_g, ev_fn, ev_bin, ev_neg, ev_no, ev_cmp, ev_chain, ev_and, ev_or, ev_ite, ev_call, ev_kcall, ev_bi, ev_isi, ev_ix, ev_sl, ev_rev, ev_tup, ev_lst, ev_pop, ev_dk, ev_dle, ev_dpop, ev_dmk, evEach, evIt, evs, evF, ops, op1, op2, opA, tst, tsts, truD, Pv.load, look, S.at, S.put, mine, store, setO, appO, drO, mkO, sliceO, seqO, ofRo_ok, lcTurn, Out.calm, hideS, backS, ownFree, bind_ok, bind_bad, bind_exc, ow_ok, ow_bad, ow_exc, ofO, dsOf, lstD, tupD, binop, cmpop, deq, Pv.truthy, builtin, item, item.atI, slice, Pv.bound, Ex.gap, isTy, asInt, Option.map_some, Option.map_none, Option.bind_some, Option.bind_none, List.map_cons, List.map_nil, List.replicate, List.cons_append, List.nil_append, List.append_nil, List.getD_cons_zero, List.getD_cons_succ, List.getD_nil, List.set_cons_zero, List.set_cons_succ, List.set_nil, List.zip_cons_cons, List.zip_nil_left, List.zip_nil_right, List.foldl_cons, List.foldl_nil, List.length_cons, List.length_nil, List.any_cons, List.any_nil, List.all_cons, List.all_nil, if_true, if_false, ite_true, ite_false, Bool.false_eq_true, Bool.true_eq_false, Bool.or_false, Bool.or_true, Bool.and_true, Bool.and_false, Bool.true_and, Bool.false_and, Bool.not_true, Bool.not_false, decide_true, decide_false, Nat.reduceAdd, Nat.reduceSub, Nat.zero_add, reduceIte, reduceCtorEq, sz0, sz1, sz2, sz3, sz4, sz5, sz6, sz7, sz8, sz9, sz10, sz11, sz12, sz13, sz14, sz15, sz16, seqOf, ev_callv, ev_lcall, keep_d, capsOf, Dr.set]
      refine ow_nil ?_
      exact fin _
    | cons x r =>
      simp [evS, ev_v, ev_c, ev_g, ev_fn, ev_bin, ev_neg, ev_no, ev_cmp, ev_chain, ev_and, ev_or, ev_ite, ev_call, ev_kcall, ev_bi, ev_isi, ev_ix, ev_sl, ev_rev, ev_tup, ev_lst, ev_pop, ev_dk, ev_dle, ev_dpop, ev_dmk, evEach, evIt, evs, evF, ops, op1, op2, opA, tst, tsts, truD, Pv.load, look, S.at, S.put, mine, store, setO, appO, drO, mkO, sliceO, seqO, ofRo_ok, lcTurn, Out.calm, hideS, backS, ownFree, bind_ok, bind_bad, bind_exc, ow_ok, ow_bad, ow_exc, ofO, dsOf, lstD, tupD, binop, cmpop, deq, Pv.truthy, builtin, item, item.atI, slice, Pv.bound, Ex.gap, isTy, asInt, Option.map_some, Option.map_none, Option.bind_some, Option.bind_none, List.map_cons, List.map_nil, List.replicate, List.cons_append, List.nil_append, List.append_nil, List.getD_cons_zero, List.getD_cons_succ, List.getD_nil, List.set_cons_zero, List.set_cons_succ, List.set_nil, List.zip_cons_cons, List.zip_nil_left, List.zip_nil_right, List.foldl_cons, List.foldl_nil, List.length_cons, List.length_nil, List.any_cons, List.any_nil, List.all_cons, List.all_nil, if_true, if_false, ite_true, ite_false, Bool.false_eq_true, Bool.true_eq_false, Bool.or_false, Bool.or_true, Bool.and_true, Bool.and_false, Bool.true_and, Bool.false_and, Bool.not_true, Bool.not_false, decide_true, decide_false, Nat.reduceAdd, Nat.reduceSub, Nat.zero_add, reduceIte, reduceCtorEq, sz0, sz1, sz2, sz3, sz4, sz5, sz6, sz7, sz8, sz9, sz10, sz11, sz12, sz13, sz14, sz15, sz16, seqOf, ev_callv, ev_lcall, keep_d, capsOf, hl, Dr.set]
      refine ow_nil ?_
      exact fin _
  · simp [hr]
    exact ow_nil (fin _)
theorem run_begun (ns : List Int) (hl : ns.length ≤ 63) : Rw (run G T (k + 1) 22 [.d (.list (ns.map PyData.int))] none) fun a fr dr => a = .drw ∧ fr = false ∧ dr.isSome = true := by
  rw [run_fn' (f := 22) (np := 1) (nn := 3) rfl rfl]
  refine rw_ret ?_
  refine ow_cons ?_
  simp [evS, ev_v, ev_c, ev_g, ev_fn, ev_bin, ev_neg, ev_no, ev_cmp, ev_chain, ev_and, ev_or, ev_ite, ev_call, ev_kcall, ev_bi, ev_isi, ev_ix, ev_sl, ev_rev, ev_tup, ev_lst, ev_pop, ev_dk, ev_dle, ev_dpop, ev_dmk, evEach, evIt, evs, evF, ops, op1, op2, opA, tst, tsts, truD, Pv.load, look, S.at, S.put, mine, store, setO, appO, drO, mkO, sliceO, seqO, ofRo_ok, lcTurn, Out.calm, hideS, backS, ownFree, bind_ok, bind_bad, bind_exc, ow_ok, ow_bad, ow_exc, ofO, dsOf, lstD, tupD, binop, cmpop, deq, Pv.truthy, builtin, item, item.atI, slice, Pv.bound, Ex.gap, isTy, asInt, Option.map_some, Option.map_none, Option.bind_some, Option.bind_none, List.map_cons, List.map_nil, List.replicate, List.cons_append, List.nil_append, List.append_nil, List.getD_cons_zero, List.getD_cons_succ, List.getD_nil, List.set_cons_zero, List.set_cons_succ, List.set_nil, List.zip_cons_cons, List.zip_nil_left, List.zip_nil_right, List.foldl_cons, List.foldl_nil, List.length_cons, List.length_nil, List.any_cons, List.any_nil, List.all_cons, List.all_nil, if_true, if_false, ite_true, ite_false, Bool.false_eq_true, Bool.true_eq_false, Bool.or_false, Bool.or_true, Bool.and_true, Bool.and_false, Bool.true_and, Bool.false_and, Bool.not_true, Bool.not_false, decide_true, decide_false, Nat.reduceAdd, Nat.reduceSub, Nat.zero_add, reduceIte, reduceCtorEq, sz0, sz1, sz2, sz3, sz4, sz5, sz6, sz7, sz8, sz9, sz10, sz11, sz12, sz13, sz14, sz15, sz16, seqOf, ev_callv, ev_lcall, keep_d, capsOf, ow_bind]
  refine ow_lc gLarge ?_
  simp [evS, ev_v, ev_c, ev_g, ev_fn, ev_bin, ev_neg, ev_no, ev_cmp, ev_chain, ev_and, ev_or, ev_ite, ev_call, ev_kcall, ev_bi, ev_isi, ev_ix, ev_sl, ev_rev, ev_tup, ev_lst, ev_pop, ev_dk, ev_dle, ev_dpop, ev_dmk, evEach, evIt, evs, evF, ops, op1, op2, opA, tst, tsts, truD, Pv.load, look, S.at, S.put, mine, store, setO, appO, drO, mkO, sliceO, seqO, ofRo_ok, lcTurn, Out.calm, hideS, backS, ownFree, bind_ok, bind_bad, bind_exc, ow_ok, ow_bad, ow_exc, ofO, dsOf, lstD, tupD, binop, cmpop, deq, Pv.truthy, builtin, item, item.atI, slice, Pv.bound, Ex.gap, isTy, asInt, Option.map_some, Option.map_none, Option.bind_some, Option.bind_none, List.map_cons, List.map_nil, List.replicate, List.cons_append, List.nil_append, List.append_nil, List.getD_cons_zero, List.getD_cons_succ, List.getD_nil, List.set_cons_zero, List.set_cons_succ, List.set_nil, List.zip_cons_cons, List.zip_nil_left, List.zip_nil_right, List.foldl_cons, List.foldl_nil, List.length_cons, List.length_nil, List.any_cons, List.any_nil, List.all_cons, List.all_nil, if_true, if_false, ite_true, ite_false, Bool.false_eq_true, Bool.true_eq_false, Bool.or_false, Bool.or_true, Bool.and_true, Bool.and_false, Bool.true_and, Bool.false_and, Bool.not_true, Bool.not_false, decide_true, decide_false, Nat.reduceAdd, Nat.reduceSub, Nat.zero_add, reduceIte, reduceCtorEq, sz0, sz1, sz2, sz3, sz4, sz5, sz6, sz7, sz8, sz9, sz10, sz11, sz12, sz13, sz14, sz15, sz16, seqOf, ev_callv, ev_lcall, keep_d, capsOf]
  refine ⟨fun i hi => ?_, small_len (by omega), ?_⟩
  · simp [evS, ev_v, ev_c, ev_g, ev_fn, ev_bin, ev_neg, ev_no, ev_cmp, ev_chain, ev_and, ev_or, ev_ite, ev_call, ev_kcall, ev_bi, ev_isi, ev_ix, ev_sl, ev_rev, ev_tup, ev_lst, ev_pop, ev_dk, ev_dle, ev_dpop, ev_dmk, evEach, evIt, evs, evF, ops, op1, op2, opA, tst, tsts, truD, Pv.load, look, S.at, S.put, mine, store, setO, appO, drO, mkO, sliceO, seqO, ofRo_ok, lcTurn, Out.calm, hideS, backS, ownFree, bind_ok, bind_bad, bind_exc, ow_ok, ow_bad, ow_exc, ofO, dsOf, lstD, tupD, binop, cmpop, deq, Pv.truthy, builtin, item, item.atI, slice, Pv.bound, Ex.gap, isTy, asInt, Option.map_some, Option.map_none, Option.bind_some, Option.bind_none, List.map_cons, List.map_nil, List.replicate, List.cons_append, List.nil_append, List.append_nil, List.getD_cons_zero, List.getD_cons_succ, List.getD_nil, List.set_cons_zero, List.set_cons_succ, List.set_nil, List.zip_cons_cons, List.zip_nil_left, List.zip_nil_right, List.foldl_cons, List.foldl_nil, List.length_cons, List.length_nil, List.any_cons, List.any_nil, List.all_cons, List.all_nil, if_true, if_false, ite_true, ite_false, Bool.false_eq_true, Bool.true_eq_false, Bool.or_false, Bool.or_true, Bool.and_true, Bool.and_false, Bool.true_and, Bool.false_and, Bool.not_true, Bool.not_false, decide_true, decide_false, Nat.reduceAdd, Nat.reduceSub, Nat.zero_add, reduceIte, reduceCtorEq, sz0, sz1, sz2, sz3, sz4, sz5, sz6, sz7, sz8, sz9, sz10, sz11, sz12, sz13, sz14, sz15, sz16, seqOf, ev_callv, ev_lcall, keep_d, capsOf, expOk, gLarge]
    by_cases hs : i < 0
    · by_cases h : (1000000000000000000 : Int) ≤ -i <;> simp [hs, h, evS, ev_v, ev_c, ev_g, ev_fn, ev_bin, ev_neg, ev_no, ev_cmp, ev_chain, ev_and, ev_or, ev_ite, ev_call, ev_kcall, ev_bi, ev_isi, ev_ix, ev_sl, ev_rev, ev_tup, ev_lst, ev_pop, ev_dk, ev_dle, ev_dpop, ev_dmk, evEach, evIt, evs, evF, ops, op1, op2, opA, tst, tsts, truD, Pv.load, look, S.at, S.put, mine, store, setO, appO, drO, mkO, sliceO, seqO, ofRo_ok, lcTurn, Out.calm, hideS, backS, ownFree, bind_ok, bind_bad, bind_exc, ow_ok, ow_bad, ow_exc, ofO, dsOf, lstD, tupD, binop, cmpop, deq, Pv.truthy, builtin, item, item.atI, slice, Pv.bound, Ex.gap, isTy, asInt, Option.map_some, Option.map_none, Option.bind_some, Option.bind_none, List.map_cons, List.map_nil, List.replicate, List.cons_append, List.nil_append, List.append_nil, List.getD_cons_zero, List.getD_cons_succ, List.getD_nil, List.set_cons_zero, List.set_cons_succ, List.set_nil, List.zip_cons_cons, List.zip_nil_left, List.zip_nil_right, List.foldl_cons, List.foldl_nil, List.length_cons, List.length_nil, List.any_cons, List.any_nil, List.all_cons, List.all_nil, if_true, if_false, ite_true, ite_false, Bool.false_eq_true, Bool.true_eq_false, Bool.or_false, Bool.or_true, Bool.and_true, Bool.and_false, Bool.true_and, Bool.false_and, Bool.not_true, Bool.not_false, decide_true, decide_false, Nat.reduceAdd, Nat.reduceSub, Nat.zero_add, reduceIte, reduceCtorEq, sz0, sz1, sz2, sz3, sz4, sz5, sz6, sz7, sz8, sz9, sz10, sz11, sz12, sz13, sz14, sz15, sz16, seqOf, ev_callv, ev_lcall, keep_d, capsOf]
    · by_cases h : (1000000000000000000 : Int) ≤ i <;> simp [hs, h, evS, ev_v, ev_c, ev_g, ev_fn, ev_bin, ev_neg, ev_no, ev_cmp, ev_chain, ev_and, ev_or, ev_ite, ev_call, ev_kcall, ev_bi, ev_isi, ev_ix, ev_sl, ev_rev, ev_tup, ev_lst, ev_pop, ev_dk, ev_dle, ev_dpop, ev_dmk, evEach, evIt, evs, evF, ops, op1, op2, opA, tst, tsts, truD, Pv.load, look, S.at, S.put, mine, store, setO, appO, drO, mkO, sliceO, seqO, ofRo_ok, lcTurn, Out.calm, hideS, backS, ownFree, bind_ok, bind_bad, bind_exc, ow_ok, ow_bad, ow_exc, ofO, dsOf, lstD, tupD, binop, cmpop, deq, Pv.truthy, builtin, item, item.atI, slice, Pv.bound, Ex.gap, isTy, asInt, Option.map_some, Option.map_none, Option.bind_some, Option.bind_none, List.map_cons, List.map_nil, List.replicate, List.cons_append, List.nil_append, List.append_nil, List.getD_cons_zero, List.getD_cons_succ, List.getD_nil, List.set_cons_zero, List.set_cons_succ, List.set_nil, List.zip_cons_cons, List.zip_nil_left, List.zip_nil_right, List.foldl_cons, List.foldl_nil, List.length_cons, List.length_nil, List.any_cons, List.any_nil, List.all_cons, List.all_nil, if_true, if_false, ite_true, ite_false, Bool.false_eq_true, Bool.true_eq_false, Bool.or_false, Bool.or_true, Bool.and_true, Bool.and_false, Bool.true_and, Bool.false_and, Bool.not_true, Bool.not_false, decide_true, decide_false, Nat.reduceAdd, Nat.reduceSub, Nat.zero_add, reduceIte, reduceCtorEq, sz0, sz1, sz2, sz3, sz4, sz5, sz6, sz7, sz8, sz9, sz10, sz11, sz12, sz13, sz14, sz15, sz16, seqOf, ev_callv, ev_lcall, keep_d, capsOf]
  · refine ow_cons ?_
    simp [evS, ev_v, ev_c, ev_g, ev_fn, ev_bin, ev_neg, ev_no, ev_cmp, ev_chain, ev_and, ev_or, ev_ite, ev_call, ev_kcall, ev_bi, ev_isi, ev_ix, ev_sl, ev_rev, ev_tup, ev_lst, ev_pop, ev_dk, ev_dle, ev_dpop, ev_dmk, evEach, evIt, evs, evF, ops, op1, op2, opA, tst, tsts, truD, Pv.load, look, S.at, S.put, mine, store, setO, appO, drO, mkO, sliceO, seqO, ofRo_ok, lcTurn, Out.calm, hideS, backS, ownFree, bind_ok, bind_bad, bind_exc, ow_ok, ow_bad, ow_exc, ofO, dsOf, lstD, tupD, binop, cmpop, deq, Pv.truthy, builtin, item, item.atI, slice, Pv.bound, Ex.gap, isTy, asInt, Option.map_some, Option.map_none, Option.bind_some, Option.bind_none, List.map_cons, List.map_nil, List.replicate, List.cons_append, List.nil_append, List.append_nil, List.getD_cons_zero, List.getD_cons_succ, List.getD_nil, List.set_cons_zero, List.set_cons_succ, List.set_nil, List.zip_cons_cons, List.zip_nil_left, List.zip_nil_right, List.foldl_cons, List.foldl_nil, List.length_cons, List.length_nil, List.any_cons, List.any_nil, List.all_cons, List.all_nil, if_true, if_false, ite_true, ite_false, Bool.false_eq_true, Bool.true_eq_false, Bool.or_false, Bool.or_true, Bool.and_true, Bool.and_false, Bool.true_and, Bool.false_and, Bool.not_true, Bool.not_false, decide_true, decide_false, Nat.reduceAdd, Nat.reduceSub, Nat.zero_add, reduceIte, reduceCtorEq, sz0, sz1, sz2, sz3, sz4, sz5, sz6, sz7, sz8, sz9, sz10, sz11, sz12, sz13, sz14, sz15, sz16, seqOf, ev_callv, ev_lcall, keep_d, capsOf, ow_bind]
    refine ow_lc gAbs ?_
    simp [evS, ev_v, ev_c, ev_g, ev_fn, ev_bin, ev_neg, ev_no, ev_cmp, ev_chain, ev_and, ev_or, ev_ite, ev_call, ev_kcall, ev_bi, ev_isi, ev_ix, ev_sl, ev_rev, ev_tup, ev_lst, ev_pop, ev_dk, ev_dle, ev_dpop, ev_dmk, evEach, evIt, evs, evF, ops, op1, op2, opA, tst, tsts, truD, Pv.load, look, S.at, S.put, mine, store, setO, appO, drO, mkO, sliceO, seqO, ofRo_ok, lcTurn, Out.calm, hideS, backS, ownFree, bind_ok, bind_bad, bind_exc, ow_ok, ow_bad, ow_exc, ofO, dsOf, lstD, tupD, binop, cmpop, deq, Pv.truthy, builtin, item, item.atI, slice, Pv.bound, Ex.gap, isTy, asInt, Option.map_some, Option.map_none, Option.bind_some, Option.bind_none, List.map_cons, List.map_nil, List.replicate, List.cons_append, List.nil_append, List.append_nil, List.getD_cons_zero, List.getD_cons_succ, List.getD_nil, List.set_cons_zero, List.set_cons_succ, List.set_nil, List.zip_cons_cons, List.zip_nil_left, List.zip_nil_right, List.foldl_cons, List.foldl_nil, List.length_cons, List.length_nil, List.any_cons, List.any_nil, List.all_cons, List.all_nil, if_true, if_false, ite_true, ite_false, Bool.false_eq_true, Bool.true_eq_false, Bool.or_false, Bool.or_true, Bool.and_true, Bool.and_false, Bool.true_and, Bool.false_and, Bool.not_true, Bool.not_false, decide_true, decide_false, Nat.reduceAdd, Nat.reduceSub, Nat.zero_add, reduceIte, reduceCtorEq, sz0, sz1, sz2, sz3, sz4, sz5, sz6, sz7, sz8, sz9, sz10, sz11, sz12, sz13, sz14, sz15, sz16, seqOf, ev_callv, ev_lcall, keep_d, capsOf]
    refine ⟨fun i hi => by simp [evS, ev_v, ev_c, ev_g, ev_fn, ev_bin, ev_neg, ev_no, ev_cmp, ev_chain, ev_and, ev_or, ev_ite, ev_call, ev_kcall, ev_bi, ev_isi, ev_ix, ev_sl, ev_rev, ev_tup, ev_lst, ev_pop, ev_dk, ev_dle, ev_dpop, ev_dmk, evEach, evIt, evs, evF, ops, op1, op2, opA, tst, tsts, truD, Pv.load, look, S.at, S.put, mine, store, setO, appO, drO, mkO, sliceO, seqO, ofRo_ok, lcTurn, Out.calm, hideS, backS, ownFree, bind_ok, bind_bad, bind_exc, ow_ok, ow_bad, ow_exc, ofO, dsOf, lstD, tupD, binop, cmpop, deq, Pv.truthy, builtin, item, item.atI, slice, Pv.bound, Ex.gap, isTy, asInt, Option.map_some, Option.map_none, Option.bind_some, Option.bind_none, List.map_cons, List.map_nil, List.replicate, List.cons_append, List.nil_append, List.append_nil, List.getD_cons_zero, List.getD_cons_succ, List.getD_nil, List.set_cons_zero, List.set_cons_succ, List.set_nil, List.zip_cons_cons, List.zip_nil_left, List.zip_nil_right, List.foldl_cons, List.foldl_nil, List.length_cons, List.length_nil, List.any_cons, List.any_nil, List.all_cons, List.all_nil, if_true, if_false, ite_true, ite_false, Bool.false_eq_true, Bool.true_eq_false, Bool.or_false, Bool.or_true, Bool.and_true, Bool.and_false, Bool.true_and, Bool.false_and, Bool.not_true, Bool.not_false, decide_true, decide_false, Nat.reduceAdd, Nat.reduceSub, Nat.zero_add, reduceIte, reduceCtorEq, sz0, sz1, sz2, sz3, sz4, sz5, sz6, sz7, sz8, sz9, sz10, sz11, sz12, sz13, sz14, sz15, sz16, seqOf, ev_callv, ev_lcall, keep_d, capsOf, gAbs], small_len (by omega), ?_⟩
    obtain ⟨r, hr⟩ := asInts_fm (f := gLarge ∘ PyData.int) (l := ns) fun x hx y hy => by
      simp only [Function.comp, gLarge] at hy
      by_cases h : 10 ^ 18 ≤ (if x < 0 then -x else x)
      · rw [if_pos h] at hy; cases hy; exact ⟨_, rfl⟩
      · rw [if_neg h] at hy; cases hy
    rw [hr, fm_some (gAbs ∘ PyData.int) (fun i => PyData.int (if i < 0 then -i else i)) ns fun i _ => gAbs_p i, asInts_map]
    simp [evS, ev_v, ev_c, ev_g, ev_fn, ev_bin, ev_neg, ev_no, ev_cmp, ev_chain, ev_and, ev_or, ev_ite, ev_call, ev_kcall, ev_bi, ev_isi, ev_ix, ev_sl, ev_rev, ev_tup, ev_lst, ev_pop, ev_dk, ev_dle, ev_dpop, ev_dmk, evEach, evIt, evs, evF, ops, op1, op2, opA, tst, tsts, truD, Pv.load, look, S.at, S.put, mine, store, setO, appO, drO, mkO, sliceO, seqO, ofRo_ok, lcTurn, Out.calm, hideS, backS, ownFree, bind_ok, bind_bad, bind_exc, ow_ok, ow_bad, ow_exc, ofO, dsOf, lstD, tupD, binop, cmpop, deq, Pv.truthy, builtin, item, item.atI, slice, Pv.bound, Ex.gap, isTy, asInt, Option.map_some, Option.map_none, Option.bind_some, Option.bind_none, List.map_cons, List.map_nil, List.replicate, List.cons_append, List.nil_append, List.append_nil, List.getD_cons_zero, List.getD_cons_succ, List.getD_nil, List.set_cons_zero, List.set_cons_succ, List.set_nil, List.zip_cons_cons, List.zip_nil_left, List.zip_nil_right, List.foldl_cons, List.foldl_nil, List.length_cons, List.length_nil, List.any_cons, List.any_nil, List.all_cons, List.all_nil, if_true, if_false, ite_true, ite_false, Bool.false_eq_true, Bool.true_eq_false, Bool.or_false, Bool.or_true, Bool.and_true, Bool.and_false, Bool.true_and, Bool.false_and, Bool.not_true, Bool.not_false, decide_true, decide_false, Nat.reduceAdd, Nat.reduceSub, Nat.zero_add, reduceIte, reduceCtorEq, sz0, sz1, sz2, sz3, sz4, sz5, sz6, sz7, sz8, sz9, sz10, sz11, sz12, sz13, sz14, sz15, sz16, seqOf, ev_callv, ev_lcall, keep_d, capsOf]
theorem run_pick (st : Dr) (l : List D) (h0 : l ≠ []) (h1 : l.length ≤ 1000) : Rw (run G T (k + 3) 25 [.drw, .d (.list l)] (some st)) fun a fr dr => (∃ x ∈ l, a = .d x) ∧ fr = false ∧ dr.isSome = true := by
  have hp : (0 : Int) < l.length := by have := List.length_pos_iff.mpr h0; omega
  rw [run_fn' (f := 25) (np := 2) (nn := 2) rfl rfl]
  refine rw_ret ?_
  refine ow_cons ?_
  simp [evS, ev_v, ev_c, ev_g, ev_fn, ev_bin, ev_neg, ev_no, ev_cmp, ev_chain, ev_and, ev_or, ev_ite, ev_call, ev_kcall, ev_bi, ev_isi, ev_ix, ev_sl, ev_rev, ev_tup, ev_lst, ev_pop, ev_dk, ev_dle, ev_dpop, ev_dmk, evEach, evIt, evs, evF, ops, op1, op2, opA, tst, tsts, truD, Pv.load, look, S.at, S.put, mine, store, setO, appO, drO, mkO, sliceO, seqO, ofRo_ok, lcTurn, Out.calm, hideS, backS, ownFree, bind_ok, bind_bad, bind_exc, ow_ok, ow_bad, ow_exc, ofO, dsOf, lstD, tupD, binop, cmpop, deq, Pv.truthy, builtin, item, item.atI, slice, Pv.bound, Ex.gap, isTy, asInt, Option.map_some, Option.map_none, Option.bind_some, Option.bind_none, List.map_cons, List.map_nil, List.replicate, List.cons_append, List.nil_append, List.append_nil, List.getD_cons_zero, List.getD_cons_succ, List.getD_nil, List.set_cons_zero, List.set_cons_succ, List.set_nil, List.zip_cons_cons, List.zip_nil_left, List.zip_nil_right, List.foldl_cons, List.foldl_nil, List.length_cons, List.length_nil, List.any_cons, List.any_nil, List.all_cons, List.all_nil, if_true, if_false, ite_true, ite_false, Bool.false_eq_true, Bool.true_eq_false, Bool.or_false, Bool.or_true, Bool.and_true, Bool.and_false, Bool.true_and, Bool.false_and, Bool.not_true, Bool.not_false, decide_true, decide_false, Nat.reduceAdd, Nat.reduceSub, Nat.zero_add, reduceIte, reduceCtorEq, sz0, sz1, sz2, sz3, sz4, sz5, sz6, sz7, sz8, sz9, sz10, sz11, sz12, sz13, sz14, sz15, sz16, seqOf, ev_callv, ev_lcall, keep_d, capsOf, ow_bind]
  refine ow_call0 (run_take k st l.length hp (divOk_small (by omega) (by omega))) ?_
  · rintro a fr dr ⟨⟨v, rfl, v0, v1⟩, rfl, hd⟩
    have hv : L2.ixN l.length v = some v.toNat := by unfold L2.ixN; rw [if_pos v0, if_pos v1]
    have hg : ∃ x, l[v.toNat]? = some x := ⟨l[v.toNat]'(by omega), List.getElem?_eq_getElem (by omega)⟩
    obtain ⟨x, hx⟩ := hg
    simp [evS, ev_v, ev_c, ev_g, ev_fn, ev_bin, ev_neg, ev_no, ev_cmp, ev_chain, ev_and, ev_or, ev_ite, ev_call, ev_kcall, ev_bi, ev_isi, ev_ix, ev_sl, ev_rev, ev_tup, ev_lst, ev_pop, ev_dk, ev_dle, ev_dpop, ev_dmk, evEach, evIt, evs, evF, ops, op1, op2, opA, tst, tsts, truD, Pv.load, look, S.at, S.put, mine, store, setO, appO, drO, mkO, sliceO, seqO, ofRo_ok, lcTurn, Out.calm, hideS, backS, ownFree, bind_ok, bind_bad, bind_exc, ow_ok, ow_bad, ow_exc, ofO, dsOf, lstD, tupD, binop, cmpop, deq, Pv.truthy, builtin, item, item.atI, slice, Pv.bound, Ex.gap, isTy, asInt, Option.map_some, Option.map_none, Option.bind_some, Option.bind_none, List.map_cons, List.map_nil, List.replicate, List.cons_append, List.nil_append, List.append_nil, List.getD_cons_zero, List.getD_cons_succ, List.getD_nil, List.set_cons_zero, List.set_cons_succ, List.set_nil, List.zip_cons_cons, List.zip_nil_left, List.zip_nil_right, List.foldl_cons, List.foldl_nil, List.length_cons, List.length_nil, List.any_cons, List.any_nil, List.all_cons, List.all_nil, if_true, if_false, ite_true, ite_false, Bool.false_eq_true, Bool.true_eq_false, Bool.or_false, Bool.or_true, Bool.and_true, Bool.and_false, Bool.true_and, Bool.false_and, Bool.not_true, Bool.not_false, decide_true, decide_false, Nat.reduceAdd, Nat.reduceSub, Nat.zero_add, reduceIte, reduceCtorEq, sz0, sz1, sz2, sz3, sz4, sz5, sz6, sz7, sz8, sz9, sz10, sz11, sz12, sz13, sz14, sz15, sz16, seqOf, ev_callv, ev_lcall, keep_d, capsOf, L2.atI, hv, hx, hd, List.mem_of_getElem? hx]
end
end K85
set_option maxHeartbeats 200000
/-! Dv: quotients by one product, in plain numbers. -/
namespace Dv
/-- the product tells the quotient -/
def right (d m p n : Nat) : Prop := m * n / p = n / d
instance (d m p n : Nat) : Decidable (right d m p n) := by unfold right; exact inferInstance
theorem split (d n : Nat) : n = d * (n / d) + n % d := (Nat.div_add_mod n d).symm
theorem right_iff {d m p ov : Nat} (hd : 0 < d) (hp : 0 < p) (h : m * d = p + ov) (n : Nat) : right d m p n ↔ ov * n < p * (d - n % d) := by
  have hr := Nat.mod_lt n hd
  have hn := split d n
  generalize hq : n / d = q at hn
  generalize hr' : n % d = r at hn hr
  have e1 : m * n = q * p + q * ov + m * r := by
    rw [hn, Nat.mul_add, ← Nat.mul_assoc, h, Nat.add_mul, Nat.mul_comm p q, Nat.mul_comm ov q]
  have lo : q ≤ m * n / p := by
    rw [Nat.le_div_iff_mul_le hp, e1]; omega
  have key : m * n < (q + 1) * p ↔ ov * n < p * (d - r) := by
    rw [e1, Nat.add_mul, Nat.one_mul]
    have a1 : q * p + q * ov + m * r < q * p + p ↔ q * ov + m * r < p := by omega
    rw [a1]
    have a2 : q * ov + m * r < p ↔ (q * ov + m * r) * d < p * d := (Nat.mul_lt_mul_right hd).symm
    rw [a2]
    have a3 : (q * ov + m * r) * d = ov * n + p * r := by
      rw [Nat.add_mul, Nat.mul_right_comm m r d, h, Nat.add_mul, hn, Nat.mul_add, Nat.mul_right_comm q ov d, Nat.mul_comm (q * d) ov, Nat.mul_comm q d]
      omega
    have a4 : p * d = p * (d - r) + p * r := by rw [← Nat.mul_add]; congr 1; omega
    rw [a3, a4]; omega
  unfold right
  rw [hq, ← key]
  constructor
  · intro e
    rw [← e, Nat.add_mul, Nat.one_mul]
    have := Nat.div_add_mod (m * n) p
    have := Nat.mod_lt (m * n) hp
    rw [Nat.mul_comm (m * n / p) p]; omega
  · intro l
    have : m * n / p < q + 1 := (Nat.div_lt_iff_lt_mul hp).mpr l
    omega
def cdiv (a b : Nat) : Nat := (a + b - 1) / b
theorem cdiv_le {a b c : Nat} (hb : 0 < b) : cdiv a b ≤ c ↔ a ≤ c * b := by
  unfold cdiv
  rw [← Nat.lt_succ_iff, Nat.div_lt_iff_lt_mul hb, Nat.succ_mul]; omega
theorem le_cdiv_mul {a b : Nat} (hb : 0 < b) : a ≤ cdiv a b * b := (cdiv_le hb).mp (Nat.le_refl _)
theorem lt_cdiv {a b c : Nat} (hb : 0 < b) : c < cdiv a b ↔ c * b < a := by
  have := cdiv_le (a := a) (c := c) hb
  omega
/-- the first number at which the product is off -/
def First (d m p : Nat) : Option Nat → Prop
  | none => ∀ n, right d m p n
  | some u => ¬ right d m p u ∧ ∀ n, n < u → right d m p n
def unlike (d m p : Nat) : Option Nat :=
  if m * d < p then some d else if m * d = p then none
  else if p ≤ (m * d - p) * (d - 1) then some (cdiv p m)
  else some (cdiv p (m * d - p) + (d - 1 + d * cdiv p (m * d - p) - cdiv p (m * d - p)) % d)
theorem last_up {d l : Nat} (hd : 0 < d) : let u := l + (d - 1 + d * l - l) % d; l ≤ u ∧ u % d = d - 1 ∧ ∀ n, l ≤ n → n % d = d - 1 → u ≤ n := by
  intro u
  have hll : l ≤ d * l := Nat.le_mul_of_pos_left l hd
  have hu : u % d = d - 1 := by
    show (l + (d - 1 + d * l - l) % d) % d = d - 1
    rw [Nat.add_mod_mod, show l + (d - 1 + d * l - l) = d - 1 + d * l by omega, Nat.add_mul_mod_self_left, Nat.mod_eq_of_lt (by omega)]
  refine ⟨Nat.le_add_right _ _, hu, fun n hn hr => ?_⟩
  have hb : u < l + d := Nat.add_lt_add_left (Nat.mod_lt _ hd) l
  have e1 := split d n
  have e2 := split d u
  rw [hr] at e1
  rw [hu] at e2
  refine Nat.le_of_not_lt fun hlt => ?_
  have h1 : n / d < u / d := by
    refine Nat.lt_of_not_le fun h => ?_
    have := Nat.mul_le_mul_left d h
    omega
  have h2 := Nat.mul_le_mul_left d (Nat.succ_le_of_lt h1)
  rw [Nat.mul_succ] at h2
  omega
theorem unlike_first {d m p : Nat} (hd : 0 < d) (hp : 0 < p) : First d m p (unlike d m p) := by
  unfold unlike
  split
  · rename_i h
    refine ⟨?_, fun n hn => ?_⟩
    · unfold right; rw [Nat.div_eq_of_lt h, Nat.div_self hd]; omega
    · unfold right
      have : m * n ≤ m * d := Nat.mul_le_mul_left m (by omega)
      rw [Nat.div_eq_of_lt (by omega), Nat.div_eq_of_lt hn]
  · rename_i h0
    split
    · rename_i h
      intro n
      exact (right_iff hd hp (ov := 0) (by omega) n).mpr (by
        have := Nat.mod_lt n hd
        rw [Nat.zero_mul]; exact Nat.mul_pos hp (by omega))
    · rename_i h1
      generalize hov : m * d - p = ov
      have hmd : m * d = p + ov := by omega
      have hov0 : 0 < ov := by omega
      have hm : 0 < m := by
        rcases Nat.eq_zero_or_pos m with h | h
        · subst h; omega
        · exact h
      split
      · rename_i h2
        have hd2 : d = (d - 1) + 1 := by omega
        have e : ov * d = ov * (d - 1) + ov := by rw [← Nat.mul_succ]; congr 1
        have e2 : m * d = m * (d - 1) + m := by rw [← Nat.mul_succ]; congr 1
        have hge : m ≤ ov := by
          refine Nat.le_of_mul_le_mul_right (c := d) ?_ hd
          omega
        have hle : cdiv p m ≤ d - 1 := (cdiv_le hm).mpr (by rw [Nat.mul_comm]; omega)
        refine ⟨?_, fun n hn => ?_⟩
        · unfold right
          rw [Nat.div_eq_of_lt (show cdiv p m < d by omega)]
          have := le_cdiv_mul (a := p) hm
          have : 1 ≤ m * cdiv p m / p := by
            rw [Nat.le_div_iff_mul_le hp, Nat.one_mul, Nat.mul_comm]; exact this
          omega
        · unfold right
          have := (lt_cdiv hm).mp hn
          rw [Nat.div_eq_of_lt (by rw [Nat.mul_comm]; exact this), Nat.div_eq_of_lt (by omega)]
      · rename_i h2
        obtain ⟨u1, u2, u3⟩ := last_up (l := cdiv p ov) hd
        generalize cdiv p ov + (d - 1 + d * cdiv p ov - cdiv p ov) % d = u at u1 u2 u3
        have up : p ≤ u * ov := (cdiv_le hov0).mp u1
        refine ⟨?_, fun n hn => ?_⟩
        · rw [right_iff hd hp hmd, u2, show d - (d - 1) = 1 by omega, Nat.mul_comm]
          omega
        · rw [right_iff hd hp hmd]
          refine Nat.lt_of_not_le fun hc => ?_
          have hr := Nat.mod_lt n hd
          by_cases hl : n % d = d - 1
          · rw [hl, show d - (d - 1) = 1 by omega, Nat.mul_one] at hc
            have := u3 n ((cdiv_le hov0).mpr (by rw [Nat.mul_comm]; exact hc)) hl
            omega
          · have e := split d n
            have p2 : p * 2 ≤ p * (d - n % d) := Nat.mul_le_mul_left p (by omega)
            have hs : p * (d - n % d) = p * (d - n % d - 1) + p := by
              rw [← Nat.mul_succ]; congr 1; omega
            have h3 : ov * (n % d + 1) ≤ ov * (d - 1) := Nat.mul_le_mul_left ov (by omega)
            by_cases hq : n / d = 0
            · rw [hq] at e
              have : ov * n ≤ ov * (d - 1) := Nat.mul_le_mul_left ov (by omega)
              omega
            · have hq1 : 0 < n / d := Nat.pos_of_ne_zero hq
              have hpos : d ≤ d * (n / d) := Nat.le_mul_of_pos_right d hq1
              have hk : (n - n % d - 1) % d = d - 1 := by
                have : n - n % d - 1 = (d - 1) + d * (n / d - 1) := by
                  have : d * (n / d) = d * (n / d - 1) + d := by rw [← Nat.mul_succ]; congr 1; omega
                  omega
                rw [this, Nat.add_mul_mod_self_left, Nat.mod_eq_of_lt (by omega)]
              have e4 : ov * n = ov * (n - n % d - 1) + ov * (n % d + 1) := by rw [← Nat.mul_add]; congr 1; omega
              have := u3 (n - n % d - 1) ((cdiv_le hov0).mpr (by rw [Nat.mul_comm]; omega)) hk
              omega
/-- the words below w are all led right -/
def does (w d m p : Nat) : Bool := match unlike d m p with
  | none => true
  | some u => decide (w ≤ u)
theorem does_iff {w d m p : Nat} (hd : 0 < d) (hp : 0 < p) : does w d m p = true ↔ ∀ n, n < w → right d m p n := by
  have h := unlike_first (m := m) hd hp
  unfold does
  cases e : unlike d m p with
  | none => rw [e] at h; exact ⟨fun _ n _ => h n, fun _ => rfl⟩
  | some u =>
    rw [e] at h
    simp only [decide_eq_true_eq]
    exact ⟨fun hw n hn => h.2 n (by omega), fun ha => Nat.le_of_not_lt fun hlt => h.1 (ha u hlt)⟩
/-- some power is enough -/
theorem does_at {w l d : Nat} (hd : 0 < d) (hl : d ≤ 2 ^ l) : does (2 ^ w) d (cdiv (2 ^ (w + l)) d) (2 ^ (w + l)) = true := by
  have hp : 0 < 2 ^ (w + l) := Nat.pow_pos (by decide)
  rw [does_iff hd hp]
  intro n hn
  have h1 := le_cdiv_mul (a := 2 ^ (w + l)) hd
  have h2 : cdiv (2 ^ (w + l)) d * d < 2 ^ (w + l) + d := by
    have := (Nat.div_mul_le_self (2 ^ (w + l) + d - 1) d)
    unfold cdiv; omega
  obtain ⟨ov, hov⟩ : ∃ ov, cdiv (2 ^ (w + l)) d * d = 2 ^ (w + l) + ov := ⟨_, (Nat.add_sub_cancel' h1).symm⟩
  rw [right_iff hd hp hov]
  have hr := Nat.mod_lt n hd
  have a1 : 2 ^ (w + l) * 1 ≤ 2 ^ (w + l) * (d - n % d) := Nat.mul_le_mul_left _ (by omega)
  have a2 : ov * n ≤ 2 ^ l * n := Nat.mul_le_mul_right n (by omega)
  have a3 : 2 ^ l * n < 2 ^ l * 2 ^ w := Nat.mul_lt_mul_of_pos_left hn (Nat.pow_pos (by decide))
  have a4 : 2 ^ (w + l) = 2 ^ l * 2 ^ w := by rw [Nat.pow_add, Nat.mul_comm]
  omega
/-- its factor is below twice the words -/
theorem many_lt {w l d r : Nat} (hd : 0 < d) (hr : r ≤ w + l) (hw : d < 2 ^ w) (hl : l = 0 ∨ 2 ^ (l - 1) < d) : cdiv (2 ^ r) d < 2 ^ (w + 1) := by
  have hp : 2 ^ r ≤ 2 ^ (w + l) := Nat.pow_le_pow_right (by decide) hr
  have hw1 : 2 ^ (w + 1) = 2 * 2 ^ w := by rw [Nat.pow_succ]; omega
  have h2 : cdiv (2 ^ r) d ≤ 2 ^ (w + 1) - 1 := by
    rw [cdiv_le hd]
    refine Nat.le_trans hp ?_
    rcases hl with rfl | hl
    · have : (2 ^ (w + 1) - 1) * 1 ≤ (2 ^ (w + 1) - 1) * d := Nat.mul_le_mul_left _ hd
      rw [Nat.add_zero]; omega
    · rcases Nat.eq_zero_or_pos l with rfl | h
      · have : (2 ^ (w + 1) - 1) * 1 ≤ (2 ^ (w + 1) - 1) * d := Nat.mul_le_mul_left _ hd
        rw [Nat.add_zero]; omega
      · have e : 2 ^ (w + l) = 2 ^ (w + 1) * 2 ^ (l - 1) := by rw [← Nat.pow_add]; congr 1; omega
        have h3 : (2 ^ (w + 1) - 1) * (2 ^ (l - 1) + 1) ≤ (2 ^ (w + 1) - 1) * d := Nat.mul_le_mul_left _ hl
        rw [e]
        generalize 2 ^ (l - 1) = y at hl h3
        generalize 2 ^ (w + 1) = x at hw1 h3
        generalize 2 ^ w = z at hw hw1
        refine Nat.le_trans ?_ h3
        have h4 : x * (y + 1) = (x - 1) * (y + 1) + (y + 1) := by
          rw [Nat.sub_mul, Nat.one_mul]
          have : 1 * (y + 1) ≤ x * (y + 1) := Nat.mul_le_mul_right _ (by omega)
          omega
        rw [Nat.mul_add, Nat.mul_one] at h4
        omega
  omega
/-- the bits of what is below -/
theorem bits (d : Nat) (hd : 0 < d) : ∃ l, d ≤ 2 ^ l ∧ (l = 0 ∨ 2 ^ (l - 1) < d) := by
  by_cases h : d = 1
  · exact ⟨0, by omega, .inl rfl⟩
  · refine ⟨(d - 1).log2 + 1, ?_, .inr ?_⟩
    · have := Nat.lt_log2_self (n := d - 1); omega
    · have := Nat.log2_self_le (n := d - 1) (by omega)
      show 2 ^ (d - 1).log2 < d
      omega
end Dv
/-! Dv: the least drop that does. -/
namespace Dv
def fnd (P : Nat → Bool) : Nat → Nat → Nat
  | 0, r => r
  | n + 1, r => if P r then r else fnd P n (r + 1)
theorem fnd_spec (P : Nat → Bool) : ∀ (n r r0 : Nat), r ≤ r0 → r0 < r + n → P r0 = true → P (fnd P n r) = true ∧ r ≤ fnd P n r ∧ fnd P n r ≤ r0 ∧ ∀ j, r ≤ j → j < fnd P n r → P j = false
  | 0, r, r0, h1, h2, h3 => by omega
  | n + 1, r, r0, h1, h2, h3 => by
    unfold fnd
    by_cases h : P r = true
    · rw [if_pos h]
      exact ⟨h, Nat.le_refl _, h1, fun j a b => by omega⟩
    · rw [if_neg h]
      have hne : r ≠ r0 := fun e => h (e ▸ h3)
      obtain ⟨a, b, c, d⟩ := fnd_spec P n (r + 1) r0 (by omega) (by omega) h3
      refine ⟨a, by omega, c, fun j x y => ?_⟩
      by_cases hj : j = r
      · subst hj; simpa using h
      · exact d j (by omega) y
def doesAt (w d r : Nat) : Bool := does (2 ^ w) d (cdiv (2 ^ r) d) (2 ^ r)
def drop (w d : Nat) : Nat := fnd (doesAt w d) 900 0
def best (w d : Nat) : Nat × Nat := if d < 2 ^ w then (cdiv (2 ^ drop w d) d, drop w d) else (0, 0)
theorem cdiv_self {a b : Nat} (hb : 0 < b) : cdiv a b ≤ a := (cdiv_le hb).mpr (Nat.le_mul_of_pos_right a hb)
structure BestOk (w d : Nat) : Prop where
  a : best w d = (cdiv (2 ^ drop w d) d, drop w d)
  b : doesAt w d (drop w d) = true
  c : drop w d ≤ 800
  e : ∀ j, j < drop w d → doesAt w d j = false
  f : (best w d).1 < 2 ^ (w + 1)
theorem best_ok {w d : Nat} (hd : 0 < d) (h : d < 2 ^ w) (hw : w ≤ 400) : BestOk w d := by
  obtain ⟨l, l1, l2⟩ := bits d hd
  have hl : l ≤ w := by
    rcases l2 with rfl | l2
    · omega
    · refine Nat.le_of_not_lt fun hlt => ?_
      have : 2 ^ w ≤ 2 ^ (l - 1) := Nat.pow_le_pow_right (by decide) (by omega)
      omega
  obtain ⟨a, b, c, e⟩ := fnd_spec (doesAt w d) 900 0 (w + l) (by omega) (by omega) (does_at hd l1)
  have ha : best w d = (cdiv (2 ^ drop w d) d, drop w d) := by unfold best; rw [if_pos h]
  refine ⟨ha, a, ?_, fun j hj => e j (by omega) hj, ?_⟩
  · show fnd _ _ _ ≤ 800; omega
  · rw [ha]
    exact many_lt hd c h l2
end Dv
/-! Dv: products with their factor added; first ones found by halving. -/
namespace Dv
def rightA (d m p n : Nat) : Prop := (m * n + m) / p = n / d
def unlikeA (d m p : Nat) : Nat := if p ≤ m * d then (p - 1) / m else d * (m / (p - m * d) + 1)
theorem rightA_low {d m p n : Nat} (hp : 0 < p) (hn : n < d) : rightA d m p n ↔ m * n + m < p := by
  unfold rightA
  rw [Nat.div_eq_of_lt hn]
  constructor
  · intro h
    rcases Nat.div_eq_zero_iff.mp h with e | e
    · omega
    · exact e
  · exact fun h => Nat.div_eq_of_lt h
theorem rightA_iff {d m p un : Nat} (hd : 0 < d) (hu : 0 < un) (h : m * d + un = p) (n : Nat) : rightA d m p n ↔ n / d * un ≤ m * (n % d + 1) := by
  have hr := Nat.mod_lt n hd
  have hn := split d n
  generalize n / d = q at hn
  generalize n % d = r at hn hr
  have hp : 0 < p := by omega
  have e0 : n / d = q := by
    rw [hn, Nat.add_comm, Nat.add_mul_div_left _ _ hd, Nat.div_eq_of_lt hr, Nat.zero_add]
  have e1 : m * n + m + q * un = q * p + m * (r + 1) := by
    rw [hn, ← h, Nat.mul_add, Nat.mul_add, Nat.mul_add, Nat.mul_one, ← Nat.mul_assoc, Nat.mul_comm q (m * d), Nat.mul_right_comm m d q]
    omega
  have e2 : m * (r + 1) ≤ m * d := Nat.mul_le_mul_left m hr
  unfold rightA
  rw [e0]
  constructor
  · intro h2
    have := Nat.div_mul_le_self (m * n + m) p
    rw [h2] at this
    omega
  · intro h2
    refine Nat.le_antisymm ?_ ?_
    · have : (m * n + m) / p < q + 1 := (Nat.div_lt_iff_lt_mul hp).mpr (by rw [Nat.add_mul, Nat.one_mul]; omega)
      omega
    · rw [Nat.le_div_iff_mul_le hp]; omega
theorem unlikeA_first {d m p : Nat} (hd : 0 < d) (hp : 0 < p) : ¬ rightA d m p (unlikeA d m p) ∧ ∀ n, n < unlikeA d m p → rightA d m p n := by
  unfold unlikeA
  split
  · rename_i h
    have m0 : 0 < m := by
      rcases Nat.eq_zero_or_pos m with e | e
      · subst e; omega
      · exact e
    have hlt : (p - 1) / m < d := (Nat.div_lt_iff_lt_mul m0).mpr (by rw [Nat.mul_comm]; omega)
    have h1 := Nat.div_add_mod (p - 1) m
    have h2 := Nat.mod_lt (p - 1) m0
    refine ⟨fun z => ?_, fun n hn => ?_⟩
    · have := (rightA_low hp hlt).mp z
      omega
    · refine (rightA_low hp (by omega)).mpr ?_
      have : m * (n + 1) ≤ m * ((p - 1) / m) := Nat.mul_le_mul_left m hn
      rw [Nat.mul_add, Nat.mul_one] at this
      omega
  · rename_i h
    have hu : 0 < p - m * d := by omega
    have hs : m * d + (p - m * d) = p := by omega
    generalize p - m * d = un at hu hs
    have h1 := Nat.div_add_mod m un
    have h2 := Nat.mod_lt m hu
    refine ⟨fun z => ?_, fun n hn => ?_⟩
    · have z := (rightA_iff hd hu hs _).mp z
      rw [Nat.mul_div_cancel_left _ hd, Nat.mul_mod_right, Nat.zero_add, Nat.mul_one, Nat.add_mul, Nat.one_mul, Nat.mul_comm] at z
      omega
    · refine (rightA_iff hd hu hs n).mpr ?_
      have hq : n / d ≤ m / un := by
        have : n / d < m / un + 1 := (Nat.div_lt_iff_lt_mul hd).mpr (by rw [Nat.mul_comm]; exact hn)
        omega
      have a1 : n / d * un ≤ m / un * un := Nat.mul_le_mul_right un hq
      have a2 : m * 1 ≤ m * (n % d + 1) := Nat.mul_le_mul_left m (by omega)
      rw [Nat.mul_comm (m / un) un] at a1
      omega
/-- the first one is the only one -/
theorem First.uniq {d m p : Nat} : ∀ {a b : Option Nat}, First d m p a → First d m p b → a = b
  | none, none, _, _ => rfl
  | none, some u, h, h2 => absurd (h u) h2.1
  | some u, none, h, h2 => absurd (h2 u) h.1
  | some u, some v, h, h2 => by
    congr 1
    refine Nat.le_antisymm (Nat.le_of_not_lt fun z => ?_) (Nat.le_of_not_lt fun z => ?_)
    · exact h2.1 (h.2 v z)
    · exact h.1 (h2.2 u z)
theorem firstA_uniq {d m p a b : Nat} (h : ¬ rightA d m p a ∧ ∀ n, n < a → rightA d m p n) (h2 : ¬ rightA d m p b ∧ ∀ n, n < b → rightA d m p n) : a = b := by
  refine Nat.le_antisymm (Nat.le_of_not_lt fun z => ?_) (Nat.le_of_not_lt fun z => ?_)
  · exact h2.1 (h.2 b z)
  · exact h.1 (h2.2 a z)
theorem right_low {d m p n : Nat} (hp : 0 < p) (hn : n < d) : right d m p n ↔ m * n < p := by
  unfold right
  rw [Nat.div_eq_of_lt hn]
  constructor
  · intro h
    rcases Nat.div_eq_zero_iff.mp h with e | e
    · omega
    · exact e
  · exact fun h => Nat.div_eq_of_lt h
/-- at the numbers of the greatest rest -/
theorem right_last {d m p ov : Nat} (hd : 0 < d) (hp : 0 < p) (h : m * d = p + ov) (t : Nat) : right d m p (t * d + d - 1) ↔ ov * (t * d + d - 1) < p := by
  rw [right_iff hd hp h]
  have e : (t * d + d - 1) % d = d - 1 := by
    rw [show t * d + d - 1 = (d - 1) + d * t by rw [Nat.mul_comm d t]; omega, Nat.add_mul_mod_self_left, Nat.mod_eq_of_lt (by omega)]
  rw [e, show d - (d - 1) = 1 by omega, Nat.mul_one]
/-- the first wrong one, beyond the first row of numbers, has the greatest rest -/
theorem first_last {d m p ov : Nat} (hd : 0 < d) (hp : 0 < p) (h : m * d = p + ov) (hov : 0 < ov) (h1 : right d m p (d - 1)) {t : Nat} (ht : ¬ right d m p (t * d + d - 1)) (ht2 : t = 0 ∨ right d m p ((t - 1) * d + d - 1)) : First d m p (some (t * d + d - 1)) := by
  have hf := unlike_first (m := m) hd hp
  have h0 := (right_last hd hp h 0).mp (by rw [Nat.zero_mul, Nat.zero_add]; exact h1)
  have hu : unlike d m p = some (cdiv p ov + (d - 1 + d * cdiv p ov - cdiv p ov) % d) := by
    have e : m * d - p = ov := by omega
    unfold unlike
    rw [if_neg (by omega), if_neg (by omega), e, if_neg (by rw [Nat.zero_mul, Nat.zero_add] at h0; omega)]
  obtain ⟨u1, u2, u3⟩ := last_up (l := cdiv p ov) hd
  rw [hu] at hf
  generalize cdiv p ov + (d - 1 + d * cdiv p ov - cdiv p ov) % d = u at hf u1 u2 u3
  have eu : u = u / d * d + d - 1 := by
    have := split d u
    rw [u2, Nat.mul_comm] at this
    omega
  have le1 : u ≤ t * d + d - 1 := Nat.le_of_not_lt fun z => ht (hf.2 _ z)
  have le2 : t ≤ u / d := by
    refine Nat.le_of_not_lt fun z => ?_
    have hr : right d m p ((t - 1) * d + d - 1) := ht2.resolve_left (Nat.ne_of_gt (Nat.lt_of_le_of_lt (Nat.zero_le _) z))
    have a := (right_last hd hp h _).mp hr
    have b : ¬ ov * (u / d * d + d - 1) < p := fun q => hf.1 (by rw [eu]; exact (right_last hd hp h _).mpr q)
    have c : u / d * d ≤ (t - 1) * d := Nat.mul_le_mul_right d (Nat.le_sub_one_of_lt z)
    have e : ov * (u / d * d + d - 1) ≤ ov * ((t - 1) * d + d - 1) := Nat.mul_le_mul_left ov (by omega)
    omega
  have le3 : t * d ≤ u / d * d := Nat.mul_le_mul_right d le2
  have : u = t * d + d - 1 := by omega
  rw [← this]
  exact hf
/-- .. with the factor added, at the multiples -/
theorem rightA_mul {d m p un : Nat} (hd : 0 < d) (hu : 0 < un) (h : m * d + un = p) (t : Nat) : rightA d m p (t * d) ↔ t * un ≤ m := by
  rw [rightA_iff hd hu h, Nat.mul_div_cancel _ hd, Nat.mul_mod_left, Nat.zero_add, Nat.mul_one]
theorem firstA_mul {d m p un : Nat} (hd : 0 < d) (hu : 0 < un) (h : m * d + un = p) {t : Nat} (ht : ¬ rightA d m p (t * d)) (ht2 : rightA d m p ((t - 1) * d)) : d * t = unlikeA d m p := by
  have a := mt (rightA_mul hd hu h t).mpr ht
  have b := (rightA_mul hd hu h (t - 1)).mp ht2
  have e : p - m * d = un := by omega
  unfold unlikeA
  rw [if_neg (by omega), e]
  congr 1
  have h1 := Nat.div_add_mod m un
  have h2 := Nat.mod_lt m hu
  have t0 : 0 < t := by
    rcases Nat.eq_zero_or_pos t with z | z
    · subst z; omega
    · exact z
  have c1 : m / un < t := (Nat.div_lt_iff_lt_mul hu).mpr (by omega)
  have c2 : t - 1 ≤ m / un := (Nat.le_div_iff_mul_le hu).mpr b
  omega
end Dv
/-! Dv: how great the first ones are. -/
namespace Dv
theorem unlike_le {d m p u : Nat} (hd : 0 < d) (h : unlike d m p = some u) : u ≤ p + d := by
  unfold unlike at h
  split at h
  · cases h; omega
  · split at h
    · cases h
    · split at h
      · rename_i h0 h1 h2
        cases h
        have m0 : 0 < m := by
          rcases Nat.eq_zero_or_pos m with z | z
          · subst z; omega
          · exact z
        have := cdiv_self (a := p) m0
        omega
      · rename_i h0 h1 h2
        cases h
        have := cdiv_self (a := p) (b := m * d - p) (by omega)
        have := Nat.mod_lt (d - 1 + d * cdiv p (m * d - p) - cdiv p (m * d - p)) hd
        omega
theorem unlike_pos {d m p u : Nat} (hd : 0 < d) (hp : 0 < p) (h : unlike d m p = some u) : 0 < u := by
  have hf := unlike_first (m := m) hd hp
  rw [h] at hf
  rcases Nat.eq_zero_or_pos u with z | z
  · subst z
    refine absurd ?_ hf.1
    unfold right
    rw [Nat.mul_zero, Nat.zero_div, Nat.zero_div]
  · exact z
theorem unlikeA_le {d m p : Nat} (hd : 0 < d) : unlikeA d m p ≤ p + d * (m + 1) := by
  unfold unlikeA
  split
  · have := Nat.div_le_self (p - 1) m
    omega
  · have h1 := Nat.div_le_self m (p - m * d)
    have h2 : d * (m / (p - m * d) + 1) ≤ d * (m + 1) := Nat.mul_le_mul_left d (by omega)
    omega
theorem unlike_none {d m p : Nat} (hd : 0 < d) (hp : 0 < p) : unlike d m p = none ↔ m * d = p := by
  unfold unlike
  split
  · constructor
    · intro h; cases h
    · intro h; omega
  · split
    · rename_i h; exact ⟨fun _ => h, fun _ => rfl⟩
    · rename_i h0 h1
      constructor
      · intro h; split at h <;> cases h
      · intro h; exact absurd h h1
end Dv
/-! Dv: least pairs of a factor and a drop, without and with the factor added. -/
namespace Dv
/-- all words are led right -/
def All (W d m p : Nat) : Prop := ∀ n, n < W → right d m p n
def AllA (W d m p : Nat) : Prop := ∀ n, n < W → rightA d m p n
theorem less {W d m p : Nat} (hd : 0 < d) (hp : 0 < p) (h : All W d m p) (hW : d < W) : cdiv p d ≤ m ∧ All W d (cdiv p d) p := by
  have h1 := h d hW
  unfold right at h1
  rw [Nat.div_self hd] at h1
  have h2 : p ≤ m * d := by
    have := Nat.div_mul_le_self (m * d) p
    rw [h1] at this; omega
  have h3 : cdiv p d ≤ m := (cdiv_le hd).mpr h2
  refine ⟨h3, fun n hn => ?_⟩
  have h4 := le_cdiv_mul (a := p) hd
  have h5 : cdiv p d * d ≤ m * d := Nat.mul_le_mul_right d h3
  have a := (right_iff hd hp (ov := m * d - p) (by omega) n).mp (h n hn)
  refine (right_iff hd hp (ov := cdiv p d * d - p) (by omega) n).mpr (Nat.lt_of_le_of_lt ?_ a)
  exact Nat.mul_le_mul_right n (by omega)
/-- the first pair, by drops, then factors -/
structure Lex (P : Nat → Nat → Prop) (m r : Nat) : Prop where
  ok : P r m
  lo : ∀ r' m', r' < r → ¬ P r' m'
  lm : ∀ m', m' < m → ¬ P r m'
theorem Lex.uniq {P : Nat → Nat → Prop} {m r m' r' : Nat} (h : Lex P m r) (h' : Lex P m' r') : m = m' ∧ r = r' := by
  have e : r = r' := by
    refine Nat.le_antisymm (Nat.le_of_not_lt fun z => h.lo _ _ z h'.ok) (Nat.le_of_not_lt fun z => h'.lo _ _ z h.ok)
  subst e
  exact ⟨Nat.le_antisymm (Nat.le_of_not_lt fun z => h.lm _ z h'.ok) (Nat.le_of_not_lt fun z => h'.lm _ z h.ok), rfl⟩
theorem best_lex {w d : Nat} (hd : 0 < d) (hw : w ≤ 400) : Lex (fun r m => All (2 ^ w) d m (2 ^ r)) (best w d).1 (best w d).2 := by
  by_cases c : d < 2 ^ w
  · have ok := best_ok hd c hw
    have e2 : (best w d).2 = drop w d := by rw [ok.a]
    have e1 : (best w d).1 = cdiv (2 ^ drop w d) d := by rw [ok.a]
    rw [e1, e2]
    have pp : ∀ r, 0 < 2 ^ r := fun r => Nat.pow_pos (by decide)
    refine ⟨(does_iff hd (pp _)).mp ok.b, fun r' m' hr hP => ?_, fun m' hm hP => ?_⟩
    · have := (less hd (pp r') hP c).2
      have f := ok.e r' hr
      unfold doesAt at f
      rw [(does_iff hd (pp r')).mpr this] at f
      cases f
    · have := (less hd (pp _) hP c).1
      omega
  · have e : best w d = (0, 0) := by unfold best; rw [if_neg c]
    rw [e]
    refine ⟨fun n hn => ?_, fun r' m' h => absurd h (Nat.not_lt_zero _), fun m' h => absurd h (Nat.not_lt_zero _)⟩
    unfold right
    rw [Nat.zero_mul, Nat.zero_div, Nat.div_eq_of_lt (by omega)]
theorem best_lt {w d : Nat} (hd : 0 < d) (hw : w ≤ 400) : (best w d).1 < 2 ^ (w + 1) ∧ (best w d).2 ≤ 2 * w := by
  by_cases c : d < 2 ^ w
  · have ok := best_ok hd c hw
    refine ⟨ok.f, ?_⟩
    have e2 : (best w d).2 = drop w d := by rw [ok.a]
    obtain ⟨l, l1, l2⟩ := bits d hd
    have hl : l ≤ w := by
      rcases l2 with rfl | l2
      · omega
      · refine Nat.le_of_not_lt fun hlt => ?_
        have : 2 ^ w ≤ 2 ^ (l - 1) := Nat.pow_le_pow_right (by decide) (by omega)
        omega
    rw [e2]
    refine Nat.le_of_not_lt fun z => ?_
    have f := ok.e (w + l) (by omega)
    have : doesAt w d (w + l) = true := does_at hd l1
    rw [this] at f; cases f
  · have e : best w d = (0, 0) := by unfold best; rw [if_neg c]
    rw [e]
    exact ⟨Nat.pow_pos (by decide), Nat.zero_le _⟩
/-! ### with the factor added -/
def great (w d : Nat) : Nat := (2 ^ w - 1) / d
def manyA (w d r : Nat) : Nat := cdiv (great w d * 2 ^ r) (great w d * d + 1)
theorem great_lt {w d : Nat} (hd : 0 < d) : great w d * d < 2 ^ w := by
  have := Nat.div_mul_le_self (2 ^ w - 1) d
  have h : 0 < 2 ^ w := Nat.pow_pos (by decide)
  unfold great; omega
theorem le_great {w d n : Nat} (h : n < 2 ^ w) : n / d ≤ great w d := Nat.div_le_div_right (by omega)
/-- what does for all words is no less, and the least one does -/
theorem lessA {w d m r : Nat} (hd : 0 < d) (h : AllA (2 ^ w) d m (2 ^ r)) : manyA w d r ≤ m ∧ (d ≤ 2 ^ w → m * d < 2 ^ r) := by
  have pp : 0 < 2 ^ r := Nat.pow_pos (by decide)
  have up : d ≤ 2 ^ w → m * d < 2 ^ r := fun hw => by
    have := (rightA_low pp (show d - 1 < d by omega)).mp (h (d - 1) (by omega))
    have e : m * d = m * (d - 1) + m := by rw [← Nat.mul_succ]; congr 1; omega
    omega
  refine ⟨?_, up⟩
  unfold manyA
  rw [cdiv_le (by omega)]
  by_cases c : d ≤ 2 ^ w
  · have hu := up c
    have a := (rightA_mul hd (un := 2 ^ r - m * d) (by omega) (by omega) (great w d)).mp (h _ (great_lt hd))
    have e : great w d * 2 ^ r = great w d * (m * d) + great w d * (2 ^ r - m * d) := by rw [← Nat.mul_add]; congr 1; omega
    rw [e, Nat.mul_add, Nat.mul_one, Nat.mul_left_comm]
    omega
  · have e : great w d = 0 := by unfold great; exact Nat.div_eq_of_lt (by omega)
    rw [e, Nat.zero_mul]; exact Nat.zero_le _
theorem stillA {w d m r : Nat} (hd : 0 < d) (h : AllA (2 ^ w) d m (2 ^ r)) : AllA (2 ^ w) d (manyA w d r) (2 ^ r) := by
  have pp : 0 < 2 ^ r := Nat.pow_pos (by decide)
  obtain ⟨h1, h2⟩ := lessA hd h
  intro n hn
  by_cases c : d ≤ 2 ^ w
  · have h3 := h2 c
    have h4 : manyA w d r * d ≤ m * d := Nat.mul_le_mul_right d h1
    refine (rightA_iff hd (un := 2 ^ r - manyA w d r * d) (by omega) (by omega) n).mpr ?_
    have a1 := le_cdiv_mul (a := great w d * 2 ^ r) (b := great w d * d + 1) (by omega)
    have a2 : great w d * (2 ^ r - manyA w d r * d) ≤ manyA w d r := by
      rw [Nat.mul_sub]
      have e : manyA w d r * (great w d * d + 1) = great w d * (manyA w d r * d) + manyA w d r := by
        rw [Nat.mul_add, Nat.mul_one, Nat.mul_left_comm]
      have a1 : great w d * 2 ^ r ≤ manyA w d r * (great w d * d + 1) := a1
      omega
    have a3 : n / d * (2 ^ r - manyA w d r * d) ≤ great w d * (2 ^ r - manyA w d r * d) := Nat.mul_le_mul_right _ (le_great hn)
    have a4 : manyA w d r * 1 ≤ manyA w d r * (n % d + 1) := Nat.mul_le_mul_left _ (by omega)
    omega
  · have e : great w d = 0 := by unfold great; exact Nat.div_eq_of_lt (by omega)
    have e2 : manyA w d r = 0 := by
      unfold manyA
      have := (cdiv_le (a := great w d * 2 ^ r) (b := great w d * d + 1) (c := 0) (by omega)).mpr (by rw [e, Nat.zero_mul]; exact Nat.zero_le _)
      omega
    rw [e2]
    exact (rightA_low pp (by omega)).mpr (by omega)
theorem manyA_mono {w d r r' : Nat} (h : r ≤ r') : manyA w d r ≤ manyA w d r' := by
  unfold manyA
  rw [cdiv_le (by omega)]
  refine Nat.le_trans (Nat.mul_le_mul_left _ (Nat.pow_le_pow_right (by decide) h)) ?_
  exact le_cdiv_mul (by omega)
/-- the factors grow beyond the words -/
theorem manyA_big {w d : Nat} (hd : 0 < d) (h : d < 2 ^ w) : 2 ^ w ≤ manyA w d (2 * w + 1) := by
  have g0 : 1 ≤ great w d := by
    unfold great
    rw [Nat.le_div_iff_mul_le hd]; omega
  refine Nat.le_of_not_lt fun z => ?_
  have a1 := le_cdiv_mul (a := great w d * 2 ^ (2 * w + 1)) (b := great w d * d + 1) (by omega)
  have a1 : great w d * 2 ^ (2 * w + 1) ≤ manyA w d (2 * w + 1) * (great w d * d + 1) := a1
  have a2 : manyA w d (2 * w + 1) * (great w d * d + 1) < 2 ^ w * (great w d * d + 1) := Nat.mul_lt_mul_of_pos_right z (by omega)
  have a3 : great w d * d + 1 ≤ great w d * 2 ^ w := by
    have : great w d * d < great w d * 2 ^ w := Nat.mul_lt_mul_of_pos_left h (by omega)
    omega
  have a4 : 2 ^ w * (great w d * d + 1) ≤ 2 ^ w * (great w d * 2 ^ w) := Nat.mul_le_mul_left _ a3
  have e : 2 ^ (2 * w + 1) = 2 ^ w * 2 ^ w * 2 := by rw [← Nat.pow_add, ← Nat.pow_succ]; congr 1; omega
  rw [e] at a1
  have e2 : 2 ^ w * (great w d * 2 ^ w) = great w d * (2 ^ w * 2 ^ w) := by rw [Nat.mul_left_comm]
  have a5 : great w d * (2 ^ w * 2 ^ w * 2) = great w d * (2 ^ w * 2 ^ w) * 2 := (Nat.mul_assoc _ _ _).symm
  have a6 : 0 < great w d * (2 ^ w * 2 ^ w) := Nat.mul_pos (by omega) (Nat.mul_pos (Nat.pow_pos (by decide)) (Nat.pow_pos (by decide)))
  omega
/-- the search of the program: by drops, while the factor is a word -/
def doesA (w d m r : Nat) : Bool := decide (2 ^ w ≤ unlikeA d m (2 ^ r))
theorem doesA_iff {w d m r : Nat} (hd : 0 < d) : doesA w d m r = true ↔ AllA (2 ^ w) d m (2 ^ r) := by
  have h := unlikeA_first (m := m) (p := 2 ^ r) hd (Nat.pow_pos (by decide))
  unfold doesA
  rw [decide_eq_true_eq]
  exact ⟨fun hw n hn => h.2 n (by omega), fun ha => Nat.le_of_not_lt fun z => h.1 (ha _ z)⟩
def seekA (w d : Nat) : Nat → Nat → Option (Nat × Nat)
  | 0, _ => none
  | n + 1, r => if 2 ^ w ≤ manyA w d r then none else if doesA w d (manyA w d r) r then some (manyA w d r, r) else seekA w d n (r + 1)
def bestA (w d : Nat) : Option (Nat × Nat) := seekA w d 900 0
structure SeekOk (w d r m s : Nat) : Prop where
  a : r ≤ s
  b : s ≤ 2 * w + 1
  c : m = manyA w d s
  e : m < 2 ^ w
  f : AllA (2 ^ w) d m (2 ^ s)
  lo : ∀ r' m', r ≤ r' → r' < s → ¬ AllA (2 ^ w) d m' (2 ^ r')
theorem seekA_spec {w d : Nat} (hd : 0 < d) (c : d < 2 ^ w) : ∀ (n r : Nat), 2 * w + 2 ≤ n + r → (seekA w d n r = none ∧ ∀ r' m', r ≤ r' → m' < 2 ^ w → ¬ AllA (2 ^ w) d m' (2 ^ r')) ∨ ∃ m s, seekA w d n r = some (m, s) ∧ SeekOk w d r m s
  | 0, r, h => by
    refine .inl ⟨rfl, fun r' m' hr hm hP => ?_⟩
    have h1 := (lessA hd hP).1
    have h2 := manyA_mono (w := w) (d := d) (show 2 * w + 1 ≤ r' by omega)
    have := manyA_big hd c
    omega
  | n + 1, r, h => by
    unfold seekA
    by_cases c1 : 2 ^ w ≤ manyA w d r
    · rw [if_pos c1]
      refine .inl ⟨rfl, fun r' m' hr hm hP => ?_⟩
      have h1 := (lessA hd hP).1
      have h2 := manyA_mono (w := w) (d := d) hr
      omega
    · rw [if_neg c1]
      have hr : r ≤ 2 * w := Nat.le_of_not_lt fun z => by
        have h2 := manyA_mono (w := w) (d := d) (show 2 * w + 1 ≤ r by omega)
        have := manyA_big hd c
        omega
      by_cases c2 : doesA w d (manyA w d r) r = true
      · rw [if_pos c2]
        exact .inr ⟨_, _, rfl, ⟨Nat.le_refl _, by omega, rfl, by omega, (doesA_iff hd).mp c2, fun r' m' a b => by omega⟩⟩
      · rw [if_neg c2]
        have no : ∀ m', ¬ AllA (2 ^ w) d m' (2 ^ r) := fun m' hP => c2 ((doesA_iff hd).mpr (stillA hd hP))
        rcases seekA_spec hd c n (r + 1) (by omega) with ⟨e, h1⟩ | ⟨m, s, e, h1⟩
        · refine .inl ⟨e, fun r' m' hr' hm hP => ?_⟩
          by_cases z : r' = r
          · subst z; exact no m' hP
          · exact h1 r' m' (by omega) hm hP
        · refine .inr ⟨m, s, e, ⟨by have := h1.a; omega, h1.b, h1.c, h1.e, h1.f, fun r' m' a b hP => ?_⟩⟩
          by_cases z : r' = r
          · subst z; exact no m' hP
          · exact h1.lo r' m' (by omega) b hP
theorem great_zero {w d : Nat} (c : ¬ d < 2 ^ w) : great w d = 0 := by
  have h : 0 < 2 ^ w := Nat.pow_pos (by decide)
  unfold great; exact Nat.div_eq_of_lt (by omega)
theorem manyA_zero {w d r : Nat} (c : ¬ d < 2 ^ w) : manyA w d r = 0 := by
  unfold manyA
  have := (cdiv_le (a := great w d * 2 ^ r) (b := great w d * d + 1) (c := 0) (by omega)).mpr (by rw [great_zero c, Nat.zero_mul]; exact Nat.zero_le _)
  omega
theorem bestA_zero {w d : Nat} (hd : 0 < d) (c : ¬ d < 2 ^ w) : bestA w d = some (0, 0) := by
  have h : 0 < 2 ^ w := Nat.pow_pos (by decide)
  have e : doesA w d 0 0 = true := by
    unfold doesA unlikeA
    rw [if_neg (by omega), Nat.zero_div]
    exact decide_eq_true (by omega)
  show seekA w d (899 + 1) 0 = _
  unfold seekA
  rw [manyA_zero c, if_neg (by omega), if_pos e]
/-- what the program tells is the first pair with a word for its factor -/
theorem bestA_lex {w d m r : Nat} (hd : 0 < d) (hw : w ≤ 400) (h : bestA w d = some (m, r)) : Lex (fun r m => m < 2 ^ w ∧ AllA (2 ^ w) d m (2 ^ r)) m r ∧ r ≤ 2 * w + 1 := by
  by_cases c : d < 2 ^ w
  · rcases seekA_spec hd c 900 0 (by omega) with ⟨e, _⟩ | ⟨m', s, e, q⟩
    · rw [show bestA w d = none from e] at h; cases h
    · rw [show bestA w d = some (m', s) from e] at h
      cases h
      refine ⟨⟨⟨q.e, q.f⟩, fun r' m' hr hP => q.lo r' m' (Nat.zero_le _) hr hP.2, fun m' hm hP => ?_⟩, q.b⟩
      have := (lessA hd hP.2).1
      have := q.c
      omega
  · rw [bestA_zero hd c] at h
    cases h
    have h0 : 0 < 2 ^ w := Nat.pow_pos (by decide)
    refine ⟨⟨⟨h0, fun n hn => (rightA_low (by decide) (by omega)).mpr (by omega)⟩, fun r' m' z => absurd z (Nat.not_lt_zero _), fun m' z => absurd z (Nat.not_lt_zero _)⟩, by omega⟩
theorem bestA_none {w d : Nat} (hd : 0 < d) (hw : w ≤ 400) (h : bestA w d = none) : ∀ r m, m < 2 ^ w → ¬ AllA (2 ^ w) d m (2 ^ r) := by
  by_cases c : d < 2 ^ w
  · rcases seekA_spec hd c 900 0 (by omega) with ⟨_, q⟩ | ⟨m', s, e, q⟩
    · exact fun r m hm => q r m (Nat.zero_le _) hm
    · rw [show bestA w d = some (m', s) from e] at h; cases h
  · rw [bestA_zero hd c] at h; cases h
end Dv
/-! Dv: quotients of negative numbers by one product. -/
namespace Dv
/-- the product, rounded up, is the quotient and one more -/
def rightB (d m p n : Nat) : Prop := n / d * p < m * n ∧ m * n ≤ (n / d + 1) * p
instance (d m p n : Nat) : Decidable (rightB d m p n) := by unfold rightB; exact inferInstance
theorem rightB_iff {d m p ov : Nat} (hd : 0 < d) (h : m * d = p + ov) (ho : 0 < ov) (hm : 0 < m) {n : Nat} (hn0 : 0 < n) : rightB d m p n ↔ ov * n ≤ p * (d - n % d) := by
  have hr := Nat.mod_lt n hd
  have hn := split d n
  unfold rightB
  generalize hq : n / d = q at hn ⊢
  generalize hr' : n % d = r at hn hr ⊢
  have e1 : m * n = q * p + q * ov + m * r := by
    rw [hn, Nat.mul_add, ← Nat.mul_assoc, h, Nat.add_mul, Nat.mul_comm p q, Nat.mul_comm ov q]
  have a3 : (q * ov + m * r) * d = ov * n + p * r := by
    rw [Nat.add_mul, Nat.mul_right_comm m r d, h, Nat.add_mul, hn, Nat.mul_add, Nat.mul_right_comm q ov d, Nat.mul_comm (q * d) ov, Nat.mul_comm q d]
    omega
  have a4 : p * d = p * (d - r) + p * r := by rw [← Nat.mul_add]; congr 1; omega
  have pos : 0 < q * ov + m * r := by
    rcases Nat.eq_zero_or_pos q with z | z
    · subst z
      have : 0 < r := by omega
      have := Nat.mul_pos hm this
      omega
    · have := Nat.mul_pos z ho
      omega
  have key : m * n ≤ (q + 1) * p ↔ ov * n ≤ p * (d - r) := by
    rw [e1, Nat.add_mul, Nat.one_mul]
    have a1 : q * p + q * ov + m * r ≤ q * p + p ↔ q * ov + m * r ≤ p := by omega
    rw [a1]
    have a2 : q * ov + m * r ≤ p ↔ (q * ov + m * r) * d ≤ p * d := (Nat.mul_le_mul_right_iff hd).symm
    rw [a2, a3, a4]; omega
  rw [key]
  exact ⟨fun z => z.2, fun z => ⟨by rw [e1]; omega, z⟩⟩
theorem rightB_low {d m p n : Nat} (hm : 0 < m) (h0 : 0 < n) (hn : n < d) : rightB d m p n ↔ m * n ≤ p := by
  unfold rightB
  rw [Nat.div_eq_of_lt hn]
  have := Nat.mul_pos hm h0
  omega
theorem not_rightB_zero {d p n : Nat} : ¬ rightB d 0 p n := by
  unfold rightB
  omega
theorem not_rightB_d {d m p : Nat} (hd : 0 < d) (h : m * d ≤ p) : ¬ rightB d m p d := by
  unfold rightB
  rw [Nat.div_self hd]; omega
def unlikeB (d m p : Nat) : Nat :=
  if m = 0 then 1 else if m * d ≤ p then d
  else if p < (m * d - p) * (d - 1) then p / m + 1
  else p / (m * d - p) + 1 + (d - 1 + d * (p / (m * d - p) + 1) - (p / (m * d - p) + 1)) % d
structure FirstB (d m p u : Nat) : Prop where
  pos : 0 < u
  no : ¬ rightB d m p u
  lo : ∀ n, 0 < n → n < u → rightB d m p n
theorem FirstB.uniq {d m p u v : Nat} (h : FirstB d m p u) (h' : FirstB d m p v) : u = v :=
  Nat.le_antisymm (Nat.le_of_not_lt fun z => h'.no (h.lo _ h'.pos z)) (Nat.le_of_not_lt fun z => h.no (h'.lo _ h.pos z))
theorem firstB_last {d m p ov u : Nat} (hd : 0 < d) (hm : 0 < m) (hmd : m * d = p + ov) (ho : 0 < ov) (h2 : ov * (d - 1) ≤ p) (u0 : 0 < u) (u2 : u % d = d - 1) (u1 : p < ov * u) (u3 : ∀ n, n % d = d - 1 → p < ov * n → u ≤ n) : FirstB d m p u := by
  refine ⟨u0, ?_, fun n hn0 hn => ?_⟩
  · rw [rightB_iff hd hmd ho hm u0, u2, show d - (d - 1) = 1 by omega]
    omega
  · rw [rightB_iff hd hmd ho hm hn0]
    refine Nat.le_of_not_lt fun hc => ?_
    have hr := Nat.mod_lt n hd
    by_cases hl : n % d = d - 1
    · rw [hl, show d - (d - 1) = 1 by omega, Nat.mul_one] at hc
      have := u3 n hl hc
      omega
    · have e := split d n
      have p2 : p * 2 ≤ p * (d - n % d) := Nat.mul_le_mul_left p (by omega)
      have h3 : ov * (n % d + 1) ≤ ov * (d - 1) := Nat.mul_le_mul_left ov (by omega)
      by_cases hq : n / d = 0
      · rw [hq] at e
        have : ov * n ≤ ov * (d - 1) := Nat.mul_le_mul_left ov (by omega)
        omega
      · have hq1 : 0 < n / d := Nat.pos_of_ne_zero hq
        have hpos : d ≤ d * (n / d) := Nat.le_mul_of_pos_right d hq1
        have hk : (n - n % d - 1) % d = d - 1 := by
          have : n - n % d - 1 = (d - 1) + d * (n / d - 1) := by
            have : d * (n / d) = d * (n / d - 1) + d := by rw [← Nat.mul_succ]; congr 1; omega
            omega
          rw [this, Nat.add_mul_mod_self_left, Nat.mod_eq_of_lt (by omega)]
        have e4 : ov * n = ov * (n - n % d - 1) + ov * (n % d + 1) := by rw [← Nat.mul_add]; congr 1; omega
        have := u3 (n - n % d - 1) hk (by omega)
        omega
theorem over_low {d m p ov : Nat} (hd : 0 < d) (hmd : m * d = p + ov) : p < ov * (d - 1) ↔ p < m * (d - 1) := by
  have e : m * d = m * (d - 1) + m := by rw [← Nat.mul_succ]; congr 1; omega
  have e2 : ov * d = ov * (d - 1) + ov := by rw [← Nat.mul_succ]; congr 1; omega
  have a1 : p < m * (d - 1) ↔ p * d < m * (d - 1) * d := (Nat.mul_lt_mul_right hd).symm
  have a2 : m * (d - 1) * d = p * (d - 1) + ov * (d - 1) := by rw [Nat.mul_right_comm, hmd, Nat.add_mul]
  have a3 : p * d = p * (d - 1) + p := by rw [← Nat.mul_succ]; congr 1; omega
  rw [a1, a2, a3]; omega
theorem lt_div_mul {p m n : Nat} (hm : 0 < m) : p < m * n ↔ p / m < n := by
  rw [Nat.div_lt_iff_lt_mul hm, Nat.mul_comm]
theorem unlikeB_first {d m p : Nat} (hd : 0 < d) : FirstB d m p (unlikeB d m p) := by
  unfold unlikeB
  split
  · rename_i h
    subst h
    exact ⟨by omega, not_rightB_zero, fun n a b => by omega⟩
  · rename_i h0
    have hm : 0 < m := Nat.pos_of_ne_zero h0
    split
    · rename_i h
      refine ⟨hd, not_rightB_d hd h, fun n a b => (rightB_low hm a b).mpr ?_⟩
      have : m * n ≤ m * d := Nat.mul_le_mul_left _ (by omega)
      omega
    · rename_i h
      obtain ⟨ov, hov⟩ : ∃ ov, m * d = p + ov := ⟨m * d - p, by omega⟩
      have ho : 0 < ov := by omega
      rw [show m * d - p = ov by omega]
      split
      · rename_i h2
        have h3 := (lt_div_mul hm).mp ((over_low hd hov).mp h2)
        refine ⟨Nat.succ_pos _, fun z => ?_, fun n a b => (rightB_low hm a (by omega)).mpr ?_⟩
        · have := (rightB_low (n := p / m + 1) hm (Nat.succ_pos _) (by omega)).mp z
          have := (lt_div_mul (p := p) (n := p / m + 1) hm).mpr (by omega)
          omega
        · refine Nat.le_of_not_lt fun z => ?_
          have := (lt_div_mul hm).mp z
          omega
      · rename_i h2
        obtain ⟨u1, u2, u3⟩ := last_up (l := p / ov + 1) hd
        generalize p / ov + 1 + (d - 1 + d * (p / ov + 1) - (p / ov + 1)) % d = u at u1 u2 u3
        exact firstB_last hd hm hov ho (by omega) (Nat.lt_of_lt_of_le (Nat.succ_pos _) u1) u2 ((lt_div_mul ho).mpr (by omega)) fun n a b => u3 n ((lt_div_mul ho).mp b) a
/-- the readings of words below twice h are led to the signed quotient -/
def doesS (h d m p : Nat) : Bool := does h d m p && decide (h < unlikeB d m p)
def AllS (h d m p : Nat) : Prop := (∀ n, n < h → right d m p n) ∧ ∀ n, 0 < n → n ≤ h → rightB d m p n
theorem doesS_iff {h d m p : Nat} (hd : 0 < d) (hp : 0 < p) : doesS h d m p = true ↔ AllS h d m p := by
  unfold doesS AllS
  rw [Bool.and_eq_true, does_iff hd hp, decide_eq_true_eq]
  have f := unlikeB_first (m := m) (p := p) hd
  refine and_congr Iff.rfl ⟨fun z n a b => f.lo n a (by omega), fun z => Nat.lt_of_not_le fun c => f.no (z _ f.pos c)⟩
/-- with less over -/
theorem lessS {h d m p : Nat} (hd : 0 < d) (hp : 0 < p) (ha : AllS h d m p) (hh : d ≤ h) : p / d + 1 ≤ m ∧ AllS h d (p / d + 1) p := by
  have h1 := (ha.2 d hd hh).1
  rw [Nat.div_self hd, Nat.one_mul] at h1
  have h3 : p / d < m := (Nat.div_lt_iff_lt_mul hd).mpr h1
  have h4 : p < (p / d + 1) * d := by rw [Nat.mul_comm]; exact (lt_div_mul hd).mpr (by omega)
  have h5 : (p / d + 1) * d ≤ m * d := Nat.mul_le_mul_right d h3
  refine ⟨h3, fun n hn => ?_, fun n n0 hn => ?_⟩
  · have a := (right_iff hd hp (ov := m * d - p) (by omega) n).mp (ha.1 n hn)
    refine (right_iff hd hp (ov := (p / d + 1) * d - p) (by omega) n).mpr (Nat.lt_of_le_of_lt ?_ a)
    exact Nat.mul_le_mul_right n (by omega)
  · have a := (rightB_iff hd (ov := m * d - p) (by omega) (by omega) (Nat.lt_of_lt_of_le (Nat.succ_pos _) h3) n0).mp (ha.2 n n0 hn)
    refine (rightB_iff (m := p / d + 1) hd (ov := (p / d + 1) * d - p) (by omega) (by omega) (Nat.succ_pos _) n0).mpr (Nat.le_trans ?_ a)
    exact Nat.mul_le_mul_right n (by omega)
theorem doesS_at {w l d : Nat} (hd : 0 < d) (hl : d ≤ 2 ^ l) : AllS (2 ^ w) d (2 ^ (w + l) / d + 1) (2 ^ (w + l)) := by
  have hp : 0 < 2 ^ (w + l) := Nat.pow_pos (by decide)
  have a4 : 2 ^ (w + l) = 2 ^ l * 2 ^ w := by rw [Nat.pow_add, Nat.mul_comm]
  have l0 : 0 < 2 ^ l := Nat.pow_pos (by decide)
  generalize 2 ^ (w + l) = p at *
  have h1 := Nat.div_mul_le_self p d
  have h4 : p < (p / d + 1) * d := by rw [Nat.mul_comm]; exact (lt_div_mul hd).mpr (by omega)
  have h5 : (p / d + 1) * d = p / d * d + d := by rw [Nat.add_mul, Nat.one_mul]
  obtain ⟨ov, hov⟩ : ∃ ov, (p / d + 1) * d = p + ov := ⟨(p / d + 1) * d - p, by omega⟩
  refine ⟨fun n hn => ?_, fun n n0 hn => ?_⟩
  · rw [right_iff hd hp hov]
    have hr := Nat.mod_lt n hd
    have a1 : p * 1 ≤ p * (d - n % d) := Nat.mul_le_mul_left _ (by omega)
    have a2 : ov * n ≤ 2 ^ l * n := Nat.mul_le_mul_right n (by omega)
    have a3 : 2 ^ l * n < 2 ^ l * 2 ^ w := Nat.mul_lt_mul_of_pos_left hn l0
    omega
  · rw [rightB_iff hd hov (by omega) (Nat.succ_pos _) n0]
    have hr := Nat.mod_lt n hd
    have a1 : p * 1 ≤ p * (d - n % d) := Nat.mul_le_mul_left _ (by omega)
    have a2 : ov * n ≤ 2 ^ l * n := Nat.mul_le_mul_right n (by omega)
    have a3 : 2 ^ l * n ≤ 2 ^ l * 2 ^ w := Nat.mul_le_mul_left _ hn
    omega
def atS (h d r : Nat) : Bool := doesS h d (2 ^ r / d + 1) (2 ^ r)
def dropS (v d : Nat) : Nat := fnd (atS (2 ^ v) d) 900 0
/-- the least pair; v is the width less one -/
def bestS (v d : Nat) : Nat × Nat := if 2 ^ v < d then (1, v) else (2 ^ dropS v d / d + 1, dropS v d)
structure BestS (v d : Nat) : Prop where
  a : bestS v d = (2 ^ dropS v d / d + 1, dropS v d)
  b : atS (2 ^ v) d (dropS v d) = true
  c : dropS v d ≤ 2 * v
  e : ∀ j, j < dropS v d → atS (2 ^ v) d j = false
  f : (bestS v d).1 ≤ 2 ^ (v + 1)
theorem bestS_ok {v d : Nat} (hd : 0 < d) (h : d ≤ 2 ^ v) (hv : v ≤ 400) : BestS v d := by
  obtain ⟨l, l1, l2⟩ := bits d hd
  have hl : l ≤ v := by
    rcases l2 with rfl | l2
    · omega
    · refine Nat.le_of_not_lt fun hlt => ?_
      have : 2 ^ v ≤ 2 ^ (l - 1) := Nat.pow_le_pow_right (by decide) (by omega)
      omega
  obtain ⟨a, b, c, e⟩ := fnd_spec (atS (2 ^ v) d) 900 0 (v + l) (by omega) (by omega) ((doesS_iff hd (Nat.pow_pos (by decide))).mpr (doesS_at hd l1))
  have ha : bestS v d = (2 ^ dropS v d / d + 1, dropS v d) := by unfold bestS; rw [if_neg (by omega)]
  refine ⟨ha, a, ?_, fun j hj => e j (by omega) hj, ?_⟩
  · show fnd _ _ _ ≤ 2 * v; omega
  · rw [ha]
    show 2 ^ fnd (atS (2 ^ v) d) 900 0 / d + 1 ≤ _
    generalize fnd (atS (2 ^ v) d) 900 0 = r at c
    have hp : 2 ^ r ≤ 2 ^ (v + l) := Nat.pow_le_pow_right (by decide) (by omega)
    have hp1 : 2 ^ r / d ≤ 2 ^ (v + l) / d := Nat.div_le_div_right hp
    have v0 : 0 < 2 ^ v := Nat.pow_pos (by decide)
    have e2 : 2 ^ (v + 1) = 2 ^ v * 2 := Nat.pow_succ _ _
    rcases l2 with rfl | l2
    · have := Nat.div_le_self (2 ^ (v + 0)) d
      rw [Nat.add_zero] at *
      omega
    · have : 2 ^ (v + l) / d < 2 ^ (v + 1) := by
        refine (Nat.div_lt_iff_lt_mul hd).mpr ?_
        rcases Nat.eq_zero_or_pos l with rfl | l0
        · have : 2 ^ (v + 1) * 1 ≤ 2 ^ (v + 1) * d := Nat.mul_le_mul_left _ hd
          rw [Nat.add_zero]; omega
        · have e3 : 2 ^ (v + l) = 2 ^ (v + 1) * 2 ^ (l - 1) := by rw [← Nat.pow_add]; congr 1; omega
          rw [e3]
          exact Nat.mul_lt_mul_of_pos_left l2 (by omega)
      omega
theorem bestS_lex {v d : Nat} (hd : 0 < d) (hv : v ≤ 400) : Lex (fun r m => AllS (2 ^ v) d m (2 ^ r)) (bestS v d).1 (bestS v d).2 := by
  have pp : ∀ r, 0 < 2 ^ r := fun r => Nat.pow_pos (by decide)
  by_cases c : d ≤ 2 ^ v
  · have ok := bestS_ok hd c hv
    have e2 : (bestS v d).2 = dropS v d := by rw [ok.a]
    have e1 : (bestS v d).1 = 2 ^ dropS v d / d + 1 := by rw [ok.a]
    rw [e1, e2]
    refine ⟨(doesS_iff hd (pp _)).mp ok.b, fun r' m' hr hP => ?_, fun m' hm hP => ?_⟩
    · have := (lessS hd (pp r') hP c).2
      have f := ok.e r' hr
      unfold atS at f
      rw [(doesS_iff hd (pp r')).mpr this] at f
      cases f
    · have := (lessS hd (pp _) hP c).1
      omega
  · have e : bestS v d = (1, v) := by unfold bestS; rw [if_pos (by omega)]
    rw [e]
    refine ⟨⟨fun n hn => ?_, fun n n0 hn => ?_⟩, fun r' m' h hP => ?_, fun m' h hP => ?_⟩
    · unfold right
      show 1 * n / 2 ^ v = n / d
      rw [Nat.one_mul, Nat.div_eq_of_lt hn, Nat.div_eq_of_lt (by omega)]
    · refine (rightB_low (m := 1) (by decide) n0 (by omega)).mpr ?_
      show 1 * n ≤ 2 ^ v
      omega
    · have h1 := hP.2 (2 ^ v) (pp v) (Nat.le_refl _)
      rcases Nat.eq_zero_or_pos m' with z | z
      · subst z; exact not_rightB_zero h1
      · have := (rightB_low z (pp v) (by omega)).mp h1
        have : 2 ^ r' < 2 ^ v := Nat.pow_lt_pow_right (by decide) h
        have : 1 * 2 ^ v ≤ m' * 2 ^ v := Nat.mul_le_mul_right _ z
        omega
    · have h1 := hP.2 1 (by decide) (pp v)
      have : m' = 0 := by
        have : m' < 1 := h
        omega
      subst this
      exact not_rightB_zero h1
theorem bestS_bound {v d : Nat} (hd : 0 < d) (hv : v ≤ 400) : (bestS v d).1 ≤ 2 ^ (v + 1) ∧ (bestS v d).2 ≤ 2 * v ∧ 0 < (bestS v d).1 := by
  by_cases c : d ≤ 2 ^ v
  · have ok := bestS_ok hd c hv
    refine ⟨ok.f, ?_, ?_⟩
    · rw [ok.a]; exact ok.c
    · rw [ok.a]; exact Nat.succ_pos _
  · have e : bestS v d = (1, v) := by unfold bestS; rw [if_pos (by omega)]
    rw [e]
    refine ⟨Nat.pow_pos (by decide), ?_, Nat.one_pos⟩
    show v ≤ 2 * v
    omega
theorem unlikeB_le {d m p : Nat} (hd : 0 < d) : unlikeB d m p ≤ p + d + 1 := by
  unfold unlikeB
  split
  · omega
  · split
    · omega
    · split
      · have := Nat.div_le_self p m; omega
      · have := Nat.div_le_self p (m * d - p)
        have := Nat.mod_lt (d - 1 + d * (p / (m * d - p) + 1) - (p / (m * d - p) + 1)) hd
        omega
end Dv
set_option maxHeartbeats 400000
/-! the program's own functions about products and quotients -/
namespace K85
open PySem Pv
theorem cdiv_int (a b : Nat) (hb : 0 < b) : -((-(a : Int)) / (b : Int)) = (Dv.cdiv a b : Int) := by
  have h1 := Dv.le_cdiv_mul (a := a) hb
  have hbi : (0 : Int) < b := by omega
  have h1' : (a : Int) ≤ (Dv.cdiv a b : Int) * b := by exact_mod_cast h1
  have lo : -(Dv.cdiv a b : Int) ≤ (-(a : Int)) / (b : Int) := by
    rw [Int.le_ediv_iff_mul_le hbi, Int.neg_mul]; omega
  have hi : (-(a : Int)) / (b : Int) < -(Dv.cdiv a b : Int) + 1 := by
    rw [Int.ediv_lt_iff_lt_mul hbi, Int.add_mul, Int.neg_mul, Int.one_mul]
    rcases Nat.eq_zero_or_pos (Dv.cdiv a b) with h | h
    · rw [h]; simp; omega
    · have h2 := (Dv.lt_cdiv (c := Dv.cdiv a b - 1) (a := a) hb).mp (by omega)
      have h3 : ((Dv.cdiv a b - 1 : Nat) : Int) * b < a := by exact_mod_cast h2
      have h4 : ((Dv.cdiv a b - 1 : Nat) : Int) = (Dv.cdiv a b : Int) - 1 := by omega
      rw [h4, Int.sub_mul, Int.one_mul] at h3
      omega
  omega
section
variable (k : Nat) (dr : Option Dr)
theorem run_pow (r : Nat) (R P : Int) (hR : R = (r : Int)) (hP : P = ((2 ^ r : Nat) : Int)) (h : r ≤ 4000) : run G T (k + 1) 0 [.d (.int R)] dr = .ok (.d (.int P)) false dr := by
  have hz : (2 : Int) ^ R.toNat = P := by
    rw [hP, hR, Int.toNat_natCast, Int.natCast_pow]; rfl
  have h1 := shlOk_one (j := R) (by omega) (by omega)
  clear hR hP
  rw [run_fn' (f := 0) (np := 1) (nn := 1) rfl rfl]
  simp [evS, ev_v, ev_c, ev_g, ev_fn, ev_bin, ev_neg, ev_no, ev_cmp, ev_chain, ev_and, ev_or, ev_ite, ev_call, ev_kcall, ev_bi, ev_isi, ev_ix, ev_sl, ev_rev, ev_tup, ev_lst, ev_pop, ev_dk, ev_dle, ev_dpop, ev_dmk, evEach, evIt, evs, evF, ops, op1, op2, opA, tst, tsts, truD, Pv.load, look, S.at, S.put, mine, store, setO, appO, drO, mkO, sliceO, seqO, ofRo_ok, lcTurn, Out.calm, hideS, backS, ownFree, bind_ok, bind_bad, bind_exc, ow_ok, ow_bad, ow_exc, ofO, dsOf, lstD, tupD, binop, cmpop, deq, Pv.truthy, builtin, item, item.atI, slice, Pv.bound, Ex.gap, isTy, asInt, Option.map_some, Option.map_none, Option.bind_some, Option.bind_none, List.map_cons, List.map_nil, List.replicate, List.cons_append, List.nil_append, List.append_nil, List.getD_cons_zero, List.getD_cons_succ, List.getD_nil, List.set_cons_zero, List.set_cons_succ, List.set_nil, List.zip_cons_cons, List.zip_nil_left, List.zip_nil_right, List.foldl_cons, List.foldl_nil, List.length_cons, List.length_nil, List.any_cons, List.any_nil, List.all_cons, List.all_nil, if_true, if_false, ite_true, ite_false, Bool.false_eq_true, Bool.true_eq_false, Bool.or_false, Bool.or_true, Bool.and_true, Bool.and_false, Bool.true_and, Bool.false_and, Bool.not_true, Bool.not_false, decide_true, decide_false, Nat.reduceAdd, Nat.reduceSub, Nat.zero_add, reduceIte, reduceCtorEq, sz0, sz1, sz2, sz3, sz4, sz5, sz6, sz7, sz8, sz9, sz10, sz11, sz12, sz13, sz14, sz15, sz16, seqOf, ev_callv, ev_lcall, keep_d, capsOf, evB, retOf, h1, hz]
theorem run_dup (a b : Nat) (A B C : Int) (hA : A = (a : Int)) (hB : B = (b : Int)) (hC : C = (Dv.cdiv a b : Int)) (hb : 0 < b) (hf : Fit B) : run G T (k + 1) 7 [.d (.int A), .d (.int B)] dr = .ok (.d (.int C)) false dr := by
  have hBp : 0 < B := by omega
  have hz : -((-A) / B) = C := by rw [hA, hB, hC]; exact cdiv_int a b hb
  have h1 := divOk_fit hBp hf
  clear hA hB hC
  rw [run_fn' (f := 7) (np := 2) (nn := 2) rfl rfl]
  simp [evS, ev_v, ev_c, ev_g, ev_fn, ev_bin, ev_neg, ev_no, ev_cmp, ev_chain, ev_and, ev_or, ev_ite, ev_call, ev_kcall, ev_bi, ev_isi, ev_ix, ev_sl, ev_rev, ev_tup, ev_lst, ev_pop, ev_dk, ev_dle, ev_dpop, ev_dmk, evEach, evIt, evs, evF, ops, op1, op2, opA, tst, tsts, truD, Pv.load, look, S.at, S.put, mine, store, setO, appO, drO, mkO, sliceO, seqO, ofRo_ok, lcTurn, Out.calm, hideS, backS, ownFree, bind_ok, bind_bad, bind_exc, ow_ok, ow_bad, ow_exc, ofO, dsOf, lstD, tupD, binop, cmpop, deq, Pv.truthy, builtin, item, item.atI, slice, Pv.bound, Ex.gap, isTy, asInt, Option.map_some, Option.map_none, Option.bind_some, Option.bind_none, List.map_cons, List.map_nil, List.replicate, List.cons_append, List.nil_append, List.append_nil, List.getD_cons_zero, List.getD_cons_succ, List.getD_nil, List.set_cons_zero, List.set_cons_succ, List.set_nil, List.zip_cons_cons, List.zip_nil_left, List.zip_nil_right, List.foldl_cons, List.foldl_nil, List.length_cons, List.length_nil, List.any_cons, List.any_nil, List.all_cons, List.all_nil, if_true, if_false, ite_true, ite_false, Bool.false_eq_true, Bool.true_eq_false, Bool.or_false, Bool.or_true, Bool.and_true, Bool.and_false, Bool.true_and, Bool.false_and, Bool.not_true, Bool.not_false, decide_true, decide_false, Nat.reduceAdd, Nat.reduceSub, Nat.zero_add, reduceIte, reduceCtorEq, sz0, sz1, sz2, sz3, sz4, sz5, sz6, sz7, sz8, sz9, sz10, sz11, sz12, sz13, sz14, sz15, sz16, seqOf, ev_callv, ev_lcall, keep_d, capsOf, evB, retOf, h1, fdiv_pos hBp, hz]
theorem run_unlike (d m r : Nat) (D M R : Int) (hD : D = (d : Int)) (hM : M = (m : Int)) (hR : R = (r : Int)) (hd : 0 < d) (h1 : d ≤ 2 ^ 400) (h2 : m ≤ 2 ^ 900) (h3 : r ≤ 900) :
    run G T (k + 2) 8 [.d (.int D), .d (.int M), .d (.int R)] dr = .ok (.d (optD (Dv.unlike d m (2 ^ r)))) false dr := by
  have h4 : 2 ^ r ≤ 2 ^ 900 := pow_le_pow h3
  have hp0 : 0 < 2 ^ r := Nat.pow_pos (by decide)
  generalize hp : 2 ^ r = p at h4 hp0
  have rp := fun (P : Int) (hP : P = (p : Int)) => run_pow k dr r R P hR (by rw [hP, hp]) (by omega)
  obtain ⟨P, hP⟩ : ∃ P : Int, P = (p : Int) := ⟨_, rfl⟩
  have rp := rp P hP
  have hmd : M * D = ((m * d : Nat) : Int) := by rw [hM, hD, Int.natCast_mul]
  have b1 : m * d ≤ 2 ^ 1300 := mul_pow_le (x := 900) (y := 400) h2 h1
  have o1 : mulOk M D = true := mulOk_fit (fit_le 900 hM h2 (by decide)) (fit_le 400 hD h1 (by decide))
  have key : Rw (run G T (k + 2) 8 [.d (.int D), .d (.int M), .d (.int R)] dr) fun a fr dr' => a = .d (optD (Dv.unlike d m p)) ∧ fr = false ∧ dr' = dr := by
    rw [run_fn' (f := 8) (np := 3) (nn := 5) rfl rfl]
    refine rw_ret ?_
    refine ow_cons ?_
    simp [evS, ev_v, ev_c, ev_g, ev_fn, ev_bin, ev_neg, ev_no, ev_cmp, ev_chain, ev_and, ev_or, ev_ite, ev_call, ev_kcall, ev_bi, ev_isi, ev_ix, ev_sl, ev_rev, ev_tup, ev_lst, ev_pop, ev_dk, ev_dle, ev_dpop, ev_dmk, evEach, evIt, evs, evF, ops, op1, op2, opA, tst, tsts, truD, Pv.load, look, S.at, S.put, mine, store, setO, appO, drO, mkO, sliceO, seqO, ofRo_ok, lcTurn, Out.calm, hideS, backS, ownFree, bind_ok, bind_bad, bind_exc, ow_ok, ow_bad, ow_exc, ofO, dsOf, lstD, tupD, binop, cmpop, deq, Pv.truthy, builtin, item, item.atI, slice, Pv.bound, Ex.gap, isTy, asInt, Option.map_some, Option.map_none, Option.bind_some, Option.bind_none, List.map_cons, List.map_nil, List.replicate, List.cons_append, List.nil_append, List.append_nil, List.getD_cons_zero, List.getD_cons_succ, List.getD_nil, List.set_cons_zero, List.set_cons_succ, List.set_nil, List.zip_cons_cons, List.zip_nil_left, List.zip_nil_right, List.foldl_cons, List.foldl_nil, List.length_cons, List.length_nil, List.any_cons, List.any_nil, List.all_cons, List.all_nil, if_true, if_false, ite_true, ite_false, Bool.false_eq_true, Bool.true_eq_false, Bool.or_false, Bool.or_true, Bool.and_true, Bool.and_false, Bool.true_and, Bool.false_and, Bool.not_true, Bool.not_false, decide_true, decide_false, Nat.reduceAdd, Nat.reduceSub, Nat.zero_add, reduceIte, reduceCtorEq, sz0, sz1, sz2, sz3, sz4, sz5, sz6, sz7, sz8, sz9, sz10, sz11, sz12, sz13, sz14, sz15, sz16, seqOf, ev_callv, ev_lcall, keep_d, capsOf, rp, o1]
    generalize hov : M * D - P = ov
    refine ow_cons (ow_ifs ?_)
    simp [evS, ev_v, ev_c, ev_g, ev_fn, ev_bin, ev_neg, ev_no, ev_cmp, ev_chain, ev_and, ev_or, ev_ite, ev_call, ev_kcall, ev_bi, ev_isi, ev_ix, ev_sl, ev_rev, ev_tup, ev_lst, ev_pop, ev_dk, ev_dle, ev_dpop, ev_dmk, evEach, evIt, evs, evF, ops, op1, op2, opA, tst, tsts, truD, Pv.load, look, S.at, S.put, mine, store, setO, appO, drO, mkO, sliceO, seqO, ofRo_ok, lcTurn, Out.calm, hideS, backS, ownFree, bind_ok, bind_bad, bind_exc, ow_ok, ow_bad, ow_exc, ofO, dsOf, lstD, tupD, binop, cmpop, deq, Pv.truthy, builtin, item, item.atI, slice, Pv.bound, Ex.gap, isTy, asInt, Option.map_some, Option.map_none, Option.bind_some, Option.bind_none, List.map_cons, List.map_nil, List.replicate, List.cons_append, List.nil_append, List.append_nil, List.getD_cons_zero, List.getD_cons_succ, List.getD_nil, List.set_cons_zero, List.set_cons_succ, List.set_nil, List.zip_cons_cons, List.zip_nil_left, List.zip_nil_right, List.foldl_cons, List.foldl_nil, List.length_cons, List.length_nil, List.any_cons, List.any_nil, List.all_cons, List.all_nil, if_true, if_false, ite_true, ite_false, Bool.false_eq_true, Bool.true_eq_false, Bool.or_false, Bool.or_true, Bool.and_true, Bool.and_false, Bool.true_and, Bool.false_and, Bool.not_true, Bool.not_false, decide_true, decide_false, Nat.reduceAdd, Nat.reduceSub, Nat.zero_add, reduceIte, reduceCtorEq, sz0, sz1, sz2, sz3, sz4, sz5, sz6, sz7, sz8, sz9, sz10, sz11, sz12, sz13, sz14, sz15, sz16, seqOf, ev_callv, ev_lcall, keep_d, capsOf]
    by_cases c1 : ov ≤ 0
    · simp [c1]
      refine ow_cons ?_
      by_cases c2 : ov < 0
      · have e : optD (Dv.unlike d m p) = .int D := by
          unfold Dv.unlike
          rw [if_pos (by omega), hD]; rfl
        simp [evS, ev_v, ev_c, ev_g, ev_fn, ev_bin, ev_neg, ev_no, ev_cmp, ev_chain, ev_and, ev_or, ev_ite, ev_call, ev_kcall, ev_bi, ev_isi, ev_ix, ev_sl, ev_rev, ev_tup, ev_lst, ev_pop, ev_dk, ev_dle, ev_dpop, ev_dmk, evEach, evIt, evs, evF, ops, op1, op2, opA, tst, tsts, truD, Pv.load, look, S.at, S.put, mine, store, setO, appO, drO, mkO, sliceO, seqO, ofRo_ok, lcTurn, Out.calm, hideS, backS, ownFree, bind_ok, bind_bad, bind_exc, ow_ok, ow_bad, ow_exc, ofO, dsOf, lstD, tupD, binop, cmpop, deq, Pv.truthy, builtin, item, item.atI, slice, Pv.bound, Ex.gap, isTy, asInt, Option.map_some, Option.map_none, Option.bind_some, Option.bind_none, List.map_cons, List.map_nil, List.replicate, List.cons_append, List.nil_append, List.append_nil, List.getD_cons_zero, List.getD_cons_succ, List.getD_nil, List.set_cons_zero, List.set_cons_succ, List.set_nil, List.zip_cons_cons, List.zip_nil_left, List.zip_nil_right, List.foldl_cons, List.foldl_nil, List.length_cons, List.length_nil, List.any_cons, List.any_nil, List.all_cons, List.all_nil, if_true, if_false, ite_true, ite_false, Bool.false_eq_true, Bool.true_eq_false, Bool.or_false, Bool.or_true, Bool.and_true, Bool.and_false, Bool.true_and, Bool.false_and, Bool.not_true, Bool.not_false, decide_true, decide_false, Nat.reduceAdd, Nat.reduceSub, Nat.zero_add, reduceIte, reduceCtorEq, sz0, sz1, sz2, sz3, sz4, sz5, sz6, sz7, sz8, sz9, sz10, sz11, sz12, sz13, sz14, sz15, sz16, seqOf, ev_callv, ev_lcall, keep_d, capsOf, c2, e]
      · have e : optD (Dv.unlike d m p) = .none := by
          unfold Dv.unlike
          rw [if_neg (by omega), if_pos (by omega)]; rfl
        simp [evS, ev_v, ev_c, ev_g, ev_fn, ev_bin, ev_neg, ev_no, ev_cmp, ev_chain, ev_and, ev_or, ev_ite, ev_call, ev_kcall, ev_bi, ev_isi, ev_ix, ev_sl, ev_rev, ev_tup, ev_lst, ev_pop, ev_dk, ev_dle, ev_dpop, ev_dmk, evEach, evIt, evs, evF, ops, op1, op2, opA, tst, tsts, truD, Pv.load, look, S.at, S.put, mine, store, setO, appO, drO, mkO, sliceO, seqO, ofRo_ok, lcTurn, Out.calm, hideS, backS, ownFree, bind_ok, bind_bad, bind_exc, ow_ok, ow_bad, ow_exc, ofO, dsOf, lstD, tupD, binop, cmpop, deq, Pv.truthy, builtin, item, item.atI, slice, Pv.bound, Ex.gap, isTy, asInt, Option.map_some, Option.map_none, Option.bind_some, Option.bind_none, List.map_cons, List.map_nil, List.replicate, List.cons_append, List.nil_append, List.append_nil, List.getD_cons_zero, List.getD_cons_succ, List.getD_nil, List.set_cons_zero, List.set_cons_succ, List.set_nil, List.zip_cons_cons, List.zip_nil_left, List.zip_nil_right, List.foldl_cons, List.foldl_nil, List.length_cons, List.length_nil, List.any_cons, List.any_nil, List.all_cons, List.all_nil, if_true, if_false, ite_true, ite_false, Bool.false_eq_true, Bool.true_eq_false, Bool.or_false, Bool.or_true, Bool.and_true, Bool.and_false, Bool.true_and, Bool.false_and, Bool.not_true, Bool.not_false, decide_true, decide_false, Nat.reduceAdd, Nat.reduceSub, Nat.zero_add, reduceIte, reduceCtorEq, sz0, sz1, sz2, sz3, sz4, sz5, sz6, sz7, sz8, sz9, sz10, sz11, sz12, sz13, sz14, sz15, sz16, seqOf, ev_callv, ev_lcall, keep_d, capsOf, c2, e]
    · simp [c1]
      refine ow_nil ?_
      have hO : ov = ((m * d - p : Nat) : Int) := by omega
      have hO0 : 0 < m * d - p := by omega
      have b2 : m * d - p ≤ 2 ^ 1300 := by omega
      have hD1 : D - 1 = ((d - 1 : Nat) : Int) := by omega
      have o2 : mulOk ov (D - 1) = true := mulOk_fit (fit_le 1300 hO b2 (by decide)) (fit_le 400 hD1 (by omega) (by decide))
      have hOD : ov * (D - 1) = (((m * d - p) * (d - 1) : Nat) : Int) := by rw [hO, hD1, Int.natCast_mul]
      have m0 : 0 < m := by
        rcases Nat.eq_zero_or_pos m with h | h
        · subst h; omega
        · exact h
      have u0 : Dv.unlike d m p = if p ≤ (m * d - p) * (d - 1) then some (Dv.cdiv p m) else some (Dv.cdiv p (m * d - p) + (d - 1 + d * Dv.cdiv p (m * d - p) - Dv.cdiv p (m * d - p)) % d) := by
        unfold Dv.unlike
        rw [if_neg (by omega), if_neg (by omega)]
      refine ow_cons (ow_ifs ?_)
      simp [evS, ev_v, ev_c, ev_g, ev_fn, ev_bin, ev_neg, ev_no, ev_cmp, ev_chain, ev_and, ev_or, ev_ite, ev_call, ev_kcall, ev_bi, ev_isi, ev_ix, ev_sl, ev_rev, ev_tup, ev_lst, ev_pop, ev_dk, ev_dle, ev_dpop, ev_dmk, evEach, evIt, evs, evF, ops, op1, op2, opA, tst, tsts, truD, Pv.load, look, S.at, S.put, mine, store, setO, appO, drO, mkO, sliceO, seqO, ofRo_ok, lcTurn, Out.calm, hideS, backS, ownFree, bind_ok, bind_bad, bind_exc, ow_ok, ow_bad, ow_exc, ofO, dsOf, lstD, tupD, binop, cmpop, deq, Pv.truthy, builtin, item, item.atI, slice, Pv.bound, Ex.gap, isTy, asInt, Option.map_some, Option.map_none, Option.bind_some, Option.bind_none, List.map_cons, List.map_nil, List.replicate, List.cons_append, List.nil_append, List.append_nil, List.getD_cons_zero, List.getD_cons_succ, List.getD_nil, List.set_cons_zero, List.set_cons_succ, List.set_nil, List.zip_cons_cons, List.zip_nil_left, List.zip_nil_right, List.foldl_cons, List.foldl_nil, List.length_cons, List.length_nil, List.any_cons, List.any_nil, List.all_cons, List.all_nil, if_true, if_false, ite_true, ite_false, Bool.false_eq_true, Bool.true_eq_false, Bool.or_false, Bool.or_true, Bool.and_true, Bool.and_false, Bool.true_and, Bool.false_and, Bool.not_true, Bool.not_false, decide_true, decide_false, Nat.reduceAdd, Nat.reduceSub, Nat.zero_add, reduceIte, reduceCtorEq, sz0, sz1, sz2, sz3, sz4, sz5, sz6, sz7, sz8, sz9, sz10, sz11, sz12, sz13, sz14, sz15, sz16, seqOf, ev_callv, ev_lcall, keep_d, capsOf, rp, o2]
      by_cases c3 : P ≤ ov * (D - 1)
      · obtain ⟨C, hC⟩ : ∃ C : Int, C = (Dv.cdiv p m : Int) := ⟨_, rfl⟩
        have rd := run_dup k dr p m P M C hP hM hC m0 (fit_le 900 hM h2 (by decide))
        have e : optD (Dv.unlike d m p) = .int C := by
          rw [u0, if_pos (by omega), hC]; rfl
        simp [c3]
        refine ow_cons ?_
        simp [evS, ev_v, ev_c, ev_g, ev_fn, ev_bin, ev_neg, ev_no, ev_cmp, ev_chain, ev_and, ev_or, ev_ite, ev_call, ev_kcall, ev_bi, ev_isi, ev_ix, ev_sl, ev_rev, ev_tup, ev_lst, ev_pop, ev_dk, ev_dle, ev_dpop, ev_dmk, evEach, evIt, evs, evF, ops, op1, op2, opA, tst, tsts, truD, Pv.load, look, S.at, S.put, mine, store, setO, appO, drO, mkO, sliceO, seqO, ofRo_ok, lcTurn, Out.calm, hideS, backS, ownFree, bind_ok, bind_bad, bind_exc, ow_ok, ow_bad, ow_exc, ofO, dsOf, lstD, tupD, binop, cmpop, deq, Pv.truthy, builtin, item, item.atI, slice, Pv.bound, Ex.gap, isTy, asInt, Option.map_some, Option.map_none, Option.bind_some, Option.bind_none, List.map_cons, List.map_nil, List.replicate, List.cons_append, List.nil_append, List.append_nil, List.getD_cons_zero, List.getD_cons_succ, List.getD_nil, List.set_cons_zero, List.set_cons_succ, List.set_nil, List.zip_cons_cons, List.zip_nil_left, List.zip_nil_right, List.foldl_cons, List.foldl_nil, List.length_cons, List.length_nil, List.any_cons, List.any_nil, List.all_cons, List.all_nil, if_true, if_false, ite_true, ite_false, Bool.false_eq_true, Bool.true_eq_false, Bool.or_false, Bool.or_true, Bool.and_true, Bool.and_false, Bool.true_and, Bool.false_and, Bool.not_true, Bool.not_false, decide_true, decide_false, Nat.reduceAdd, Nat.reduceSub, Nat.zero_add, reduceIte, reduceCtorEq, sz0, sz1, sz2, sz3, sz4, sz5, sz6, sz7, sz8, sz9, sz10, sz11, sz12, sz13, sz14, sz15, sz16, seqOf, ev_callv, ev_lcall, keep_d, capsOf, rp, rd, e]
      · obtain ⟨C, hC⟩ : ∃ C : Int, C = (Dv.cdiv p (m * d - p) : Int) := ⟨_, rfl⟩
        have rd := run_dup k dr p (m * d - p) P ov C hP hO hC hO0 (fit_le 1300 hO b2 (by decide))
        have hDp : 0 < D := by omega
        have e : optD (Dv.unlike d m p) = .int (C + (D - 1 - C) % D) := by
          rw [u0, if_neg (by omega)]
          show PyData.int _ = _
          congr 1
          have hle : Dv.cdiv p (m * d - p) ≤ d * Dv.cdiv p (m * d - p) := Nat.le_mul_of_pos_left _ hd
          rw [Int.natCast_add, Int.natCast_emod, Int.ofNat_sub (by omega), hC, hD]
          congr 1
          rw [Int.natCast_add, Int.natCast_mul, Int.ofNat_sub (by omega)]
          rw [show ((d : Int) - ((1 : Nat) : Int) + (d : Int) * (Dv.cdiv p (m * d - p) : Int) - (Dv.cdiv p (m * d - p) : Int)) = (d : Int) - 1 - (Dv.cdiv p (m * d - p) : Int) + (d : Int) * (Dv.cdiv p (m * d - p) : Int) by omega, Int.add_mul_emod_self_left]
        simp [c3]
        refine ow_nil ?_
        refine ow_cons ?_
        simp [evS, ev_v, ev_c, ev_g, ev_fn, ev_bin, ev_neg, ev_no, ev_cmp, ev_chain, ev_and, ev_or, ev_ite, ev_call, ev_kcall, ev_bi, ev_isi, ev_ix, ev_sl, ev_rev, ev_tup, ev_lst, ev_pop, ev_dk, ev_dle, ev_dpop, ev_dmk, evEach, evIt, evs, evF, ops, op1, op2, opA, tst, tsts, truD, Pv.load, look, S.at, S.put, mine, store, setO, appO, drO, mkO, sliceO, seqO, ofRo_ok, lcTurn, Out.calm, hideS, backS, ownFree, bind_ok, bind_bad, bind_exc, ow_ok, ow_bad, ow_exc, ofO, dsOf, lstD, tupD, binop, cmpop, deq, Pv.truthy, builtin, item, item.atI, slice, Pv.bound, Ex.gap, isTy, asInt, Option.map_some, Option.map_none, Option.bind_some, Option.bind_none, List.map_cons, List.map_nil, List.replicate, List.cons_append, List.nil_append, List.append_nil, List.getD_cons_zero, List.getD_cons_succ, List.getD_nil, List.set_cons_zero, List.set_cons_succ, List.set_nil, List.zip_cons_cons, List.zip_nil_left, List.zip_nil_right, List.foldl_cons, List.foldl_nil, List.length_cons, List.length_nil, List.any_cons, List.any_nil, List.all_cons, List.all_nil, if_true, if_false, ite_true, ite_false, Bool.false_eq_true, Bool.true_eq_false, Bool.or_false, Bool.or_true, Bool.and_true, Bool.and_false, Bool.true_and, Bool.false_and, Bool.not_true, Bool.not_false, decide_true, decide_false, Nat.reduceAdd, Nat.reduceSub, Nat.zero_add, reduceIte, reduceCtorEq, sz0, sz1, sz2, sz3, sz4, sz5, sz6, sz7, sz8, sz9, sz10, sz11, sz12, sz13, sz14, sz15, sz16, seqOf, ev_callv, ev_lcall, keep_d, capsOf, rp, rd]
        refine ow_cons ?_
        simp [evS, ev_v, ev_c, ev_g, ev_fn, ev_bin, ev_neg, ev_no, ev_cmp, ev_chain, ev_and, ev_or, ev_ite, ev_call, ev_kcall, ev_bi, ev_isi, ev_ix, ev_sl, ev_rev, ev_tup, ev_lst, ev_pop, ev_dk, ev_dle, ev_dpop, ev_dmk, evEach, evIt, evs, evF, ops, op1, op2, opA, tst, tsts, truD, Pv.load, look, S.at, S.put, mine, store, setO, appO, drO, mkO, sliceO, seqO, ofRo_ok, lcTurn, Out.calm, hideS, backS, ownFree, bind_ok, bind_bad, bind_exc, ow_ok, ow_bad, ow_exc, ofO, dsOf, lstD, tupD, binop, cmpop, deq, Pv.truthy, builtin, item, item.atI, slice, Pv.bound, Ex.gap, isTy, asInt, Option.map_some, Option.map_none, Option.bind_some, Option.bind_none, List.map_cons, List.map_nil, List.replicate, List.cons_append, List.nil_append, List.append_nil, List.getD_cons_zero, List.getD_cons_succ, List.getD_nil, List.set_cons_zero, List.set_cons_succ, List.set_nil, List.zip_cons_cons, List.zip_nil_left, List.zip_nil_right, List.foldl_cons, List.foldl_nil, List.length_cons, List.length_nil, List.any_cons, List.any_nil, List.all_cons, List.all_nil, if_true, if_false, ite_true, ite_false, Bool.false_eq_true, Bool.true_eq_false, Bool.or_false, Bool.or_true, Bool.and_true, Bool.and_false, Bool.true_and, Bool.false_and, Bool.not_true, Bool.not_false, decide_true, decide_false, Nat.reduceAdd, Nat.reduceSub, Nat.zero_add, reduceIte, reduceCtorEq, sz0, sz1, sz2, sz3, sz4, sz5, sz6, sz7, sz8, sz9, sz10, sz11, sz12, sz13, sz14, sz15, sz16, seqOf, ev_callv, ev_lcall, keep_d, capsOf, fmod_pos hDp, show D ≠ 0 by omega, e]
  obtain ⟨a, fr, dr', e, rfl, rfl, rfl⟩ := rw_eq key
  exact e
end
end K85
set_option maxHeartbeats 200000
set_option maxHeartbeats 400000
namespace K85
open PySem Pv
theorem Gw : G[0]? = some (.int 400) := rfl
theorem Gd : G[1]? = some (.int 900) := rfl
theorem Gb : G[2]? = some (.int 400) := rfl
section
variable (k : Nat) (dr : Option Dr)
theorem run_isnum (n : Int) : run G T (k + 1) 1 [.d (.int n)] dr = .ok (.d (.bool true)) false dr := by
  rw [run_fn' (f := 1) (np := 1) (nn := 1) rfl rfl]
  simp [evS, ev_v, ev_c, ev_g, ev_fn, ev_bin, ev_neg, ev_no, ev_cmp, ev_chain, ev_and, ev_or, ev_ite, ev_call, ev_kcall, ev_bi, ev_isi, ev_ix, ev_sl, ev_rev, ev_tup, ev_lst, ev_pop, ev_dk, ev_dle, ev_dpop, ev_dmk, evEach, evIt, evs, evF, ops, op1, op2, opA, tst, tsts, truD, Pv.load, look, S.at, S.put, mine, store, setO, appO, drO, mkO, sliceO, seqO, ofRo_ok, lcTurn, Out.calm, hideS, backS, ownFree, bind_ok, bind_bad, bind_exc, ow_ok, ow_bad, ow_exc, ofO, dsOf, lstD, tupD, binop, cmpop, deq, Pv.truthy, builtin, item, item.atI, slice, Pv.bound, Ex.gap, isTy, asInt, Option.map_some, Option.map_none, Option.bind_some, Option.bind_none, List.map_cons, List.map_nil, List.replicate, List.cons_append, List.nil_append, List.append_nil, List.getD_cons_zero, List.getD_cons_succ, List.getD_nil, List.set_cons_zero, List.set_cons_succ, List.set_nil, List.zip_cons_cons, List.zip_nil_left, List.zip_nil_right, List.foldl_cons, List.foldl_nil, List.length_cons, List.length_nil, List.any_cons, List.any_nil, List.all_cons, List.all_nil, if_true, if_false, ite_true, ite_false, Bool.false_eq_true, Bool.true_eq_false, Bool.or_false, Bool.or_true, Bool.and_true, Bool.and_false, Bool.true_and, Bool.false_and, Bool.not_true, Bool.not_false, decide_true, decide_false, Nat.reduceAdd, Nat.reduceSub, Nat.zero_add, reduceIte, reduceCtorEq, sz0, sz1, sz2, sz3, sz4, sz5, sz6, sz7, sz8, sz9, sz10, sz11, sz12, sz13, sz14, sz15, sz16, seqOf, ev_callv, ev_lcall, keep_d, capsOf, evB, retOf]
theorem run_fromto (n a b : Int) : run G T (k + 2) 2 [.d (.int n), .d (.int a), .d (.int b)] dr = .ok (.d (.bool (decide (a ≤ n) && decide (n ≤ b)))) false dr := by
  rw [run_fn' (f := 2) (np := 3) (nn := 3) rfl rfl]
  simp [evS, ev_v, ev_c, ev_g, ev_fn, ev_bin, ev_neg, ev_no, ev_cmp, ev_chain, ev_and, ev_or, ev_ite, ev_call, ev_kcall, ev_bi, ev_isi, ev_ix, ev_sl, ev_rev, ev_tup, ev_lst, ev_pop, ev_dk, ev_dle, ev_dpop, ev_dmk, evEach, evIt, evs, evF, ops, op1, op2, opA, tst, tsts, truD, Pv.load, look, S.at, S.put, mine, store, setO, appO, drO, mkO, sliceO, seqO, ofRo_ok, lcTurn, Out.calm, hideS, backS, ownFree, bind_ok, bind_bad, bind_exc, ow_ok, ow_bad, ow_exc, ofO, dsOf, lstD, tupD, binop, cmpop, deq, Pv.truthy, builtin, item, item.atI, slice, Pv.bound, Ex.gap, isTy, asInt, Option.map_some, Option.map_none, Option.bind_some, Option.bind_none, List.map_cons, List.map_nil, List.replicate, List.cons_append, List.nil_append, List.append_nil, List.getD_cons_zero, List.getD_cons_succ, List.getD_nil, List.set_cons_zero, List.set_cons_succ, List.set_nil, List.zip_cons_cons, List.zip_nil_left, List.zip_nil_right, List.foldl_cons, List.foldl_nil, List.length_cons, List.length_nil, List.any_cons, List.any_nil, List.all_cons, List.all_nil, if_true, if_false, ite_true, ite_false, Bool.false_eq_true, Bool.true_eq_false, Bool.or_false, Bool.or_true, Bool.and_true, Bool.and_false, Bool.true_and, Bool.false_and, Bool.not_true, Bool.not_false, decide_true, decide_false, Nat.reduceAdd, Nat.reduceSub, Nat.zero_add, reduceIte, reduceCtorEq, sz0, sz1, sz2, sz3, sz4, sz5, sz6, sz7, sz8, sz9, sz10, sz11, sz12, sz13, sz14, sz15, sz16, seqOf, ev_callv, ev_lcall, keep_d, capsOf, evB, retOf, run_isnum]
  by_cases h : a ≤ n <;> simp [h, evS, ev_v, ev_c, ev_g, ev_fn, ev_bin, ev_neg, ev_no, ev_cmp, ev_chain, ev_and, ev_or, ev_ite, ev_call, ev_kcall, ev_bi, ev_isi, ev_ix, ev_sl, ev_rev, ev_tup, ev_lst, ev_pop, ev_dk, ev_dle, ev_dpop, ev_dmk, evEach, evIt, evs, evF, ops, op1, op2, opA, tst, tsts, truD, Pv.load, look, S.at, S.put, mine, store, setO, appO, drO, mkO, sliceO, seqO, ofRo_ok, lcTurn, Out.calm, hideS, backS, ownFree, bind_ok, bind_bad, bind_exc, ow_ok, ow_bad, ow_exc, ofO, dsOf, lstD, tupD, binop, cmpop, deq, Pv.truthy, builtin, item, item.atI, slice, Pv.bound, Ex.gap, isTy, asInt, Option.map_some, Option.map_none, Option.bind_some, Option.bind_none, List.map_cons, List.map_nil, List.replicate, List.cons_append, List.nil_append, List.append_nil, List.getD_cons_zero, List.getD_cons_succ, List.getD_nil, List.set_cons_zero, List.set_cons_succ, List.set_nil, List.zip_cons_cons, List.zip_nil_left, List.zip_nil_right, List.foldl_cons, List.foldl_nil, List.length_cons, List.length_nil, List.any_cons, List.any_nil, List.all_cons, List.all_nil, if_true, if_false, ite_true, ite_false, Bool.false_eq_true, Bool.true_eq_false, Bool.or_false, Bool.or_true, Bool.and_true, Bool.and_false, Bool.true_and, Bool.false_and, Bool.not_true, Bool.not_false, decide_true, decide_false, Nat.reduceAdd, Nat.reduceSub, Nat.zero_add, reduceIte, reduceCtorEq, sz0, sz1, sz2, sz3, sz4, sz5, sz6, sz7, sz8, sz9, sz10, sz11, sz12, sz13, sz14, sz15, sz16, seqOf, ev_callv, ev_lcall, keep_d, capsOf]
theorem run_needw (w : Int) (h1 : 1 ≤ w) (h2 : w ≤ 400) : run G T (k + 3) 3 [.d (.int w)] dr = .ok (.d .none) false dr := by
  rw [run_fn' (f := 3) (np := 1) (nn := 1) rfl rfl]
  simp [evS, ev_v, ev_c, ev_g, ev_fn, ev_bin, ev_neg, ev_no, ev_cmp, ev_chain, ev_and, ev_or, ev_ite, ev_call, ev_kcall, ev_bi, ev_isi, ev_ix, ev_sl, ev_rev, ev_tup, ev_lst, ev_pop, ev_dk, ev_dle, ev_dpop, ev_dmk, evEach, evIt, evs, evF, ops, op1, op2, opA, tst, tsts, truD, Pv.load, look, S.at, S.put, mine, store, setO, appO, drO, mkO, sliceO, seqO, ofRo_ok, lcTurn, Out.calm, hideS, backS, ownFree, bind_ok, bind_bad, bind_exc, ow_ok, ow_bad, ow_exc, ofO, dsOf, lstD, tupD, binop, cmpop, deq, Pv.truthy, builtin, item, item.atI, slice, Pv.bound, Ex.gap, isTy, asInt, Option.map_some, Option.map_none, Option.bind_some, Option.bind_none, List.map_cons, List.map_nil, List.replicate, List.cons_append, List.nil_append, List.append_nil, List.getD_cons_zero, List.getD_cons_succ, List.getD_nil, List.set_cons_zero, List.set_cons_succ, List.set_nil, List.zip_cons_cons, List.zip_nil_left, List.zip_nil_right, List.foldl_cons, List.foldl_nil, List.length_cons, List.length_nil, List.any_cons, List.any_nil, List.all_cons, List.all_nil, if_true, if_false, ite_true, ite_false, Bool.false_eq_true, Bool.true_eq_false, Bool.or_false, Bool.or_true, Bool.and_true, Bool.and_false, Bool.true_and, Bool.false_and, Bool.not_true, Bool.not_false, decide_true, decide_false, Nat.reduceAdd, Nat.reduceSub, Nat.zero_add, reduceIte, reduceCtorEq, sz0, sz1, sz2, sz3, sz4, sz5, sz6, sz7, sz8, sz9, sz10, sz11, sz12, sz13, sz14, sz15, sz16, seqOf, ev_callv, ev_lcall, keep_d, capsOf, evB, retOf, run_fromto, Gw, Gb, h1, h2]
theorem run_needn (n a b : Int) (h1 : a ≤ n) (h2 : n ≤ b) : run G T (k + 3) 4 [.d (.int n), .d (.int a), .d (.int b)] dr = .ok (.d .none) false dr := by
  rw [run_fn' (f := 4) (np := 3) (nn := 3) rfl rfl]
  simp [evS, ev_v, ev_c, ev_g, ev_fn, ev_bin, ev_neg, ev_no, ev_cmp, ev_chain, ev_and, ev_or, ev_ite, ev_call, ev_kcall, ev_bi, ev_isi, ev_ix, ev_sl, ev_rev, ev_tup, ev_lst, ev_pop, ev_dk, ev_dle, ev_dpop, ev_dmk, evEach, evIt, evs, evF, ops, op1, op2, opA, tst, tsts, truD, Pv.load, look, S.at, S.put, mine, store, setO, appO, drO, mkO, sliceO, seqO, ofRo_ok, lcTurn, Out.calm, hideS, backS, ownFree, bind_ok, bind_bad, bind_exc, ow_ok, ow_bad, ow_exc, ofO, dsOf, lstD, tupD, binop, cmpop, deq, Pv.truthy, builtin, item, item.atI, slice, Pv.bound, Ex.gap, isTy, asInt, Option.map_some, Option.map_none, Option.bind_some, Option.bind_none, List.map_cons, List.map_nil, List.replicate, List.cons_append, List.nil_append, List.append_nil, List.getD_cons_zero, List.getD_cons_succ, List.getD_nil, List.set_cons_zero, List.set_cons_succ, List.set_nil, List.zip_cons_cons, List.zip_nil_left, List.zip_nil_right, List.foldl_cons, List.foldl_nil, List.length_cons, List.length_nil, List.any_cons, List.any_nil, List.all_cons, List.all_nil, if_true, if_false, ite_true, ite_false, Bool.false_eq_true, Bool.true_eq_false, Bool.or_false, Bool.or_true, Bool.and_true, Bool.and_false, Bool.true_and, Bool.false_and, Bool.not_true, Bool.not_false, decide_true, decide_false, Nat.reduceAdd, Nat.reduceSub, Nat.zero_add, reduceIte, reduceCtorEq, sz0, sz1, sz2, sz3, sz4, sz5, sz6, sz7, sz8, sz9, sz10, sz11, sz12, sz13, sz14, sz15, sz16, seqOf, ev_callv, ev_lcall, keep_d, capsOf, evB, retOf, run_fromto, h1, h2]
theorem run_needd (D : Int) (d : Nat) (hD : D = (d : Int)) (h0 : 0 < d) (h1 : d ≤ 2 ^ 400) : run G T (k + 4) 5 [.d (.int D)] dr = .ok (.d .none) false dr := by
  obtain ⟨P, hP⟩ : ∃ P : Int, P = ((2 ^ 400 : Nat) : Int) := ⟨_, rfl⟩
  have rp := run_pow (k + 2) dr 400 400 P rfl hP (by decide)
  have rn := run_needn k dr D 1 P (by omega) (by rw [hD, hP]; exact Int.ofNat_le.mpr h1)
  rw [run_fn' (f := 5) (np := 1) (nn := 1) rfl rfl]
  clear hP hD
  simp [evS, ev_v, ev_c, ev_g, ev_fn, ev_bin, ev_neg, ev_no, ev_cmp, ev_chain, ev_and, ev_or, ev_ite, ev_call, ev_kcall, ev_bi, ev_isi, ev_ix, ev_sl, ev_rev, ev_tup, ev_lst, ev_pop, ev_dk, ev_dle, ev_dpop, ev_dmk, evEach, evIt, evs, evF, ops, op1, op2, opA, tst, tsts, truD, Pv.load, look, S.at, S.put, mine, store, setO, appO, drO, mkO, sliceO, seqO, ofRo_ok, lcTurn, Out.calm, hideS, backS, ownFree, bind_ok, bind_bad, bind_exc, ow_ok, ow_bad, ow_exc, ofO, dsOf, lstD, tupD, binop, cmpop, deq, Pv.truthy, builtin, item, item.atI, slice, Pv.bound, Ex.gap, isTy, asInt, Option.map_some, Option.map_none, Option.bind_some, Option.bind_none, List.map_cons, List.map_nil, List.replicate, List.cons_append, List.nil_append, List.append_nil, List.getD_cons_zero, List.getD_cons_succ, List.getD_nil, List.set_cons_zero, List.set_cons_succ, List.set_nil, List.zip_cons_cons, List.zip_nil_left, List.zip_nil_right, List.foldl_cons, List.foldl_nil, List.length_cons, List.length_nil, List.any_cons, List.any_nil, List.all_cons, List.all_nil, if_true, if_false, ite_true, ite_false, Bool.false_eq_true, Bool.true_eq_false, Bool.or_false, Bool.or_true, Bool.and_true, Bool.and_false, Bool.true_and, Bool.false_and, Bool.not_true, Bool.not_false, decide_true, decide_false, Nat.reduceAdd, Nat.reduceSub, Nat.zero_add, reduceIte, reduceCtorEq, sz0, sz1, sz2, sz3, sz4, sz5, sz6, sz7, sz8, sz9, sz10, sz11, sz12, sz13, sz14, sz15, sz16, seqOf, ev_callv, ev_lcall, keep_d, capsOf, evB, retOf, Gw, Gb, rp, run_needn]
  have rn' : run G T (k + 3) 4 [.d (.int D), .d (.int 1), .d (.int P)] dr = .ok (.d .none) false dr := rn
  simp [evS, ev_v, ev_c, ev_g, ev_fn, ev_bin, ev_neg, ev_no, ev_cmp, ev_chain, ev_and, ev_or, ev_ite, ev_call, ev_kcall, ev_bi, ev_isi, ev_ix, ev_sl, ev_rev, ev_tup, ev_lst, ev_pop, ev_dk, ev_dle, ev_dpop, ev_dmk, evEach, evIt, evs, evF, ops, op1, op2, opA, tst, tsts, truD, Pv.load, look, S.at, S.put, mine, store, setO, appO, drO, mkO, sliceO, seqO, ofRo_ok, lcTurn, Out.calm, hideS, backS, ownFree, bind_ok, bind_bad, bind_exc, ow_ok, ow_bad, ow_exc, ofO, dsOf, lstD, tupD, binop, cmpop, deq, Pv.truthy, builtin, item, item.atI, slice, Pv.bound, Ex.gap, isTy, asInt, Option.map_some, Option.map_none, Option.bind_some, Option.bind_none, List.map_cons, List.map_nil, List.replicate, List.cons_append, List.nil_append, List.append_nil, List.getD_cons_zero, List.getD_cons_succ, List.getD_nil, List.set_cons_zero, List.set_cons_succ, List.set_nil, List.zip_cons_cons, List.zip_nil_left, List.zip_nil_right, List.foldl_cons, List.foldl_nil, List.length_cons, List.length_nil, List.any_cons, List.any_nil, List.all_cons, List.all_nil, if_true, if_false, ite_true, ite_false, Bool.false_eq_true, Bool.true_eq_false, Bool.or_false, Bool.or_true, Bool.and_true, Bool.and_false, Bool.true_and, Bool.false_and, Bool.not_true, Bool.not_false, decide_true, decide_false, Nat.reduceAdd, Nat.reduceSub, Nat.zero_add, reduceIte, reduceCtorEq, sz0, sz1, sz2, sz3, sz4, sz5, sz6, sz7, sz8, sz9, sz10, sz11, sz12, sz13, sz14, sz15, sz16, seqOf, ev_callv, ev_lcall, keep_d, capsOf, rn']
end
end K85
set_option maxHeartbeats 200000
set_option maxHeartbeats 400000
/-! the law's halving and its first wrong numbers -/
namespace K85
open PySem Pv
def iv (i : Int) : Pv.Slot := .va (.d (.int i))
def ms (x : Nat) : Nat := if x = 0 then 0 else x.log2 + 1
theorem ms_lt {x y : Nat} (hx : x ≠ 0) (hy : y ≤ x / 2) : ms y < ms x := by
  unfold ms
  rw [if_neg hx]
  split
  · omega
  · rename_i h
    have h1 := Nat.lt_log2_self (n := x)
    have : y.log2 < x.log2 := (Nat.log2_lt h).mpr (by rw [Nat.pow_succ] at h1; omega)
    omega
inductive IV (P : Int → Bool) (lo hi : Int) (m : Nat) (cs : List PyData) (dr : Option Dr) (mm : Nat) (s : S) : Prop
  | mk (l h : Int) (x3 : Pv.Slot) (h1 : lo ≤ l) (h2 : l < h) (h3 : h ≤ hi) (h4 : P h = true) (h5 : l = lo ∨ P l = false) (hm : mm = ms ((h - l).toNat - 1)) (e : s = ⟨[iv l, iv h, .va (.clo m cs), x3], dr⟩)
section
variable (k : Nat) (dr : Option Dr)
theorem run_halved (m : Nat) (cs : List PyData) (P : Int → Bool) (lo hi : Int) (hlh : lo < hi) (hP : P hi = true) (hb : (hi - lo).toNat < 2 ^ 5000) (hF : ∀ X : Int, lo < X → X < hi → run G T k m (.d (.int X) :: cs.map .d) dr = .ok (.d (.bool (P X))) false dr) :
    ∃ h : Int, run G T (k + 1) 18 [.d (.int lo), .d (.int hi), .clo m cs] dr = .ok (.d (.int h)) false dr ∧ lo < h ∧ h ≤ hi ∧ P h = true ∧ (h - 1 = lo ∨ P (h - 1) = false) := by
  have key : Rw (run G T (k + 1) 18 [.d (.int lo), .d (.int hi), .clo m cs] dr) fun a fr dr' => (∃ h : Int, a = .d (.int h) ∧ lo < h ∧ h ≤ hi ∧ P h = true ∧ (h - 1 = lo ∨ P (h - 1) = false)) ∧ fr = false ∧ dr' = dr := by
    rw [run_fn' (f := 18) (np := 3) (nn := 4) rfl rfl]
    refine rw_ret ?_
    refine ow_cons ?_
    have hms : ms ((hi - lo).toNat - 1) < 10 ^ 18 := by
      unfold ms
      split
      · decide
      · have := log_lt (n := (hi - lo).toNat - 1) (k := 5000) (by omega) (by decide)
        omega
    refine ow_loop (IV P lo hi m cs dr) (ms ((hi - lo).toNat - 1)) hms (.mk lo hi _ (Int.le_refl _) hlh (Int.le_refl _) hP (.inl rfl) rfl rfl) ?_
    rintro mm s ⟨l, h, x3, h1, h2, h3, h4, h5, rfl, rfl⟩
    by_cases c : 1 < h - l
    · simp [evS, ev_v, ev_c, ev_g, ev_fn, ev_bin, ev_neg, ev_no, ev_cmp, ev_chain, ev_and, ev_or, ev_ite, ev_call, ev_kcall, ev_bi, ev_isi, ev_ix, ev_sl, ev_rev, ev_tup, ev_lst, ev_pop, ev_dk, ev_dle, ev_dpop, ev_dmk, evEach, evIt, evs, evF, ops, op1, op2, opA, tst, tsts, truD, Pv.load, look, S.at, S.put, mine, store, setO, appO, drO, mkO, sliceO, seqO, ofRo_ok, lcTurn, Out.calm, hideS, backS, ownFree, bind_ok, bind_bad, bind_exc, ow_ok, ow_bad, ow_exc, ofO, dsOf, lstD, tupD, binop, cmpop, deq, Pv.truthy, builtin, item, item.atI, slice, Pv.bound, Ex.gap, isTy, asInt, Option.map_some, Option.map_none, Option.bind_some, Option.bind_none, List.map_cons, List.map_nil, List.replicate, List.cons_append, List.nil_append, List.append_nil, List.getD_cons_zero, List.getD_cons_succ, List.getD_nil, List.set_cons_zero, List.set_cons_succ, List.set_nil, List.zip_cons_cons, List.zip_nil_left, List.zip_nil_right, List.foldl_cons, List.foldl_nil, List.length_cons, List.length_nil, List.any_cons, List.any_nil, List.all_cons, List.all_nil, if_true, if_false, ite_true, ite_false, Bool.false_eq_true, Bool.true_eq_false, Bool.or_false, Bool.or_true, Bool.and_true, Bool.and_false, Bool.true_and, Bool.false_and, Bool.not_true, Bool.not_false, decide_true, decide_false, Nat.reduceAdd, Nat.reduceSub, Nat.zero_add, reduceIte, reduceCtorEq, sz0, sz1, sz2, sz3, sz4, sz5, sz6, sz7, sz8, sz9, sz10, sz11, sz12, sz13, sz14, sz15, sz16, seqOf, ev_callv, ev_lcall, keep_d, capsOf, iv, c]
      have hd2 : divOk 2 = true := by decide
      refine ow_cons ?_
      simp [evS, ev_v, ev_c, ev_g, ev_fn, ev_bin, ev_neg, ev_no, ev_cmp, ev_chain, ev_and, ev_or, ev_ite, ev_call, ev_kcall, ev_bi, ev_isi, ev_ix, ev_sl, ev_rev, ev_tup, ev_lst, ev_pop, ev_dk, ev_dle, ev_dpop, ev_dmk, evEach, evIt, evs, evF, ops, op1, op2, opA, tst, tsts, truD, Pv.load, look, S.at, S.put, mine, store, setO, appO, drO, mkO, sliceO, seqO, ofRo_ok, lcTurn, Out.calm, hideS, backS, ownFree, bind_ok, bind_bad, bind_exc, ow_ok, ow_bad, ow_exc, ofO, dsOf, lstD, tupD, binop, cmpop, deq, Pv.truthy, builtin, item, item.atI, slice, Pv.bound, Ex.gap, isTy, asInt, Option.map_some, Option.map_none, Option.bind_some, Option.bind_none, List.map_cons, List.map_nil, List.replicate, List.cons_append, List.nil_append, List.append_nil, List.getD_cons_zero, List.getD_cons_succ, List.getD_nil, List.set_cons_zero, List.set_cons_succ, List.set_nil, List.zip_cons_cons, List.zip_nil_left, List.zip_nil_right, List.foldl_cons, List.foldl_nil, List.length_cons, List.length_nil, List.any_cons, List.any_nil, List.all_cons, List.all_nil, if_true, if_false, ite_true, ite_false, Bool.false_eq_true, Bool.true_eq_false, Bool.or_false, Bool.or_true, Bool.and_true, Bool.and_false, Bool.true_and, Bool.false_and, Bool.not_true, Bool.not_false, decide_true, decide_false, Nat.reduceAdd, Nat.reduceSub, Nat.zero_add, reduceIte, reduceCtorEq, sz0, sz1, sz2, sz3, sz4, sz5, sz6, sz7, sz8, sz9, sz10, sz11, sz12, sz13, sz14, sz15, sz16, seqOf, ev_callv, ev_lcall, keep_d, capsOf, iv, hd2, fdiv_pos]
      have m1 : l < (l + h) / 2 := by omega
      have m2 : (l + h) / 2 < h := by omega
      have m3 : (h - (l + h) / 2).toNat - 1 ≤ ((h - l).toNat - 1) / 2 := by omega
      have m4 : ((l + h) / 2 - l).toNat - 1 ≤ ((h - l).toNat - 1) / 2 := by omega
      have m5 : (h - l).toNat - 1 ≠ 0 := by omega
      generalize (l + h) / 2 = X at m1 m2 m3 m4
      have hx := hF X (by omega) (by omega)
      refine ow_cons (ow_ifs ?_)
      simp [evS, ev_v, ev_c, ev_g, ev_fn, ev_bin, ev_neg, ev_no, ev_cmp, ev_chain, ev_and, ev_or, ev_ite, ev_call, ev_kcall, ev_bi, ev_isi, ev_ix, ev_sl, ev_rev, ev_tup, ev_lst, ev_pop, ev_dk, ev_dle, ev_dpop, ev_dmk, evEach, evIt, evs, evF, ops, op1, op2, opA, tst, tsts, truD, Pv.load, look, S.at, S.put, mine, store, setO, appO, drO, mkO, sliceO, seqO, ofRo_ok, lcTurn, Out.calm, hideS, backS, ownFree, bind_ok, bind_bad, bind_exc, ow_ok, ow_bad, ow_exc, ofO, dsOf, lstD, tupD, binop, cmpop, deq, Pv.truthy, builtin, item, item.atI, slice, Pv.bound, Ex.gap, isTy, asInt, Option.map_some, Option.map_none, Option.bind_some, Option.bind_none, List.map_cons, List.map_nil, List.replicate, List.cons_append, List.nil_append, List.append_nil, List.getD_cons_zero, List.getD_cons_succ, List.getD_nil, List.set_cons_zero, List.set_cons_succ, List.set_nil, List.zip_cons_cons, List.zip_nil_left, List.zip_nil_right, List.foldl_cons, List.foldl_nil, List.length_cons, List.length_nil, List.any_cons, List.any_nil, List.all_cons, List.all_nil, if_true, if_false, ite_true, ite_false, Bool.false_eq_true, Bool.true_eq_false, Bool.or_false, Bool.or_true, Bool.and_true, Bool.and_false, Bool.true_and, Bool.false_and, Bool.not_true, Bool.not_false, decide_true, decide_false, Nat.reduceAdd, Nat.reduceSub, Nat.zero_add, reduceIte, reduceCtorEq, sz0, sz1, sz2, sz3, sz4, sz5, sz6, sz7, sz8, sz9, sz10, sz11, sz12, sz13, sz14, sz15, sz16, seqOf, ev_callv, ev_lcall, keep_d, capsOf, iv, hx]
      cases e : P X with
      | true =>
        simp
        refine ow_cons ?_
        simp [evS, ev_v, ev_c, ev_g, ev_fn, ev_bin, ev_neg, ev_no, ev_cmp, ev_chain, ev_and, ev_or, ev_ite, ev_call, ev_kcall, ev_bi, ev_isi, ev_ix, ev_sl, ev_rev, ev_tup, ev_lst, ev_pop, ev_dk, ev_dle, ev_dpop, ev_dmk, evEach, evIt, evs, evF, ops, op1, op2, opA, tst, tsts, truD, Pv.load, look, S.at, S.put, mine, store, setO, appO, drO, mkO, sliceO, seqO, ofRo_ok, lcTurn, Out.calm, hideS, backS, ownFree, bind_ok, bind_bad, bind_exc, ow_ok, ow_bad, ow_exc, ofO, dsOf, lstD, tupD, binop, cmpop, deq, Pv.truthy, builtin, item, item.atI, slice, Pv.bound, Ex.gap, isTy, asInt, Option.map_some, Option.map_none, Option.bind_some, Option.bind_none, List.map_cons, List.map_nil, List.replicate, List.cons_append, List.nil_append, List.append_nil, List.getD_cons_zero, List.getD_cons_succ, List.getD_nil, List.set_cons_zero, List.set_cons_succ, List.set_nil, List.zip_cons_cons, List.zip_nil_left, List.zip_nil_right, List.foldl_cons, List.foldl_nil, List.length_cons, List.length_nil, List.any_cons, List.any_nil, List.all_cons, List.all_nil, if_true, if_false, ite_true, ite_false, Bool.false_eq_true, Bool.true_eq_false, Bool.or_false, Bool.or_true, Bool.and_true, Bool.and_false, Bool.true_and, Bool.false_and, Bool.not_true, Bool.not_false, decide_true, decide_false, Nat.reduceAdd, Nat.reduceSub, Nat.zero_add, reduceIte, reduceCtorEq, sz0, sz1, sz2, sz3, sz4, sz5, sz6, sz7, sz8, sz9, sz10, sz11, sz12, sz13, sz14, sz15, sz16, seqOf, ev_callv, ev_lcall, keep_d, capsOf]
        refine ow_nil ?_
        refine ow_nil ?_
        exact ⟨_, ms_lt m5 m4, .mk l X _ h1 m1 (by omega) e h5 rfl rfl⟩
      | false =>
        simp
        refine ow_cons ?_
        simp [evS, ev_v, ev_c, ev_g, ev_fn, ev_bin, ev_neg, ev_no, ev_cmp, ev_chain, ev_and, ev_or, ev_ite, ev_call, ev_kcall, ev_bi, ev_isi, ev_ix, ev_sl, ev_rev, ev_tup, ev_lst, ev_pop, ev_dk, ev_dle, ev_dpop, ev_dmk, evEach, evIt, evs, evF, ops, op1, op2, opA, tst, tsts, truD, Pv.load, look, S.at, S.put, mine, store, setO, appO, drO, mkO, sliceO, seqO, ofRo_ok, lcTurn, Out.calm, hideS, backS, ownFree, bind_ok, bind_bad, bind_exc, ow_ok, ow_bad, ow_exc, ofO, dsOf, lstD, tupD, binop, cmpop, deq, Pv.truthy, builtin, item, item.atI, slice, Pv.bound, Ex.gap, isTy, asInt, Option.map_some, Option.map_none, Option.bind_some, Option.bind_none, List.map_cons, List.map_nil, List.replicate, List.cons_append, List.nil_append, List.append_nil, List.getD_cons_zero, List.getD_cons_succ, List.getD_nil, List.set_cons_zero, List.set_cons_succ, List.set_nil, List.zip_cons_cons, List.zip_nil_left, List.zip_nil_right, List.foldl_cons, List.foldl_nil, List.length_cons, List.length_nil, List.any_cons, List.any_nil, List.all_cons, List.all_nil, if_true, if_false, ite_true, ite_false, Bool.false_eq_true, Bool.true_eq_false, Bool.or_false, Bool.or_true, Bool.and_true, Bool.and_false, Bool.true_and, Bool.false_and, Bool.not_true, Bool.not_false, decide_true, decide_false, Nat.reduceAdd, Nat.reduceSub, Nat.zero_add, reduceIte, reduceCtorEq, sz0, sz1, sz2, sz3, sz4, sz5, sz6, sz7, sz8, sz9, sz10, sz11, sz12, sz13, sz14, sz15, sz16, seqOf, ev_callv, ev_lcall, keep_d, capsOf]
        refine ow_nil ?_
        refine ow_nil ?_
        exact ⟨_, ms_lt m5 m3, .mk X h _ (by omega) m2 h3 h4 (.inr e) rfl rfl⟩
    · simp [evS, ev_v, ev_c, ev_g, ev_fn, ev_bin, ev_neg, ev_no, ev_cmp, ev_chain, ev_and, ev_or, ev_ite, ev_call, ev_kcall, ev_bi, ev_isi, ev_ix, ev_sl, ev_rev, ev_tup, ev_lst, ev_pop, ev_dk, ev_dle, ev_dpop, ev_dmk, evEach, evIt, evs, evF, ops, op1, op2, opA, tst, tsts, truD, Pv.load, look, S.at, S.put, mine, store, setO, appO, drO, mkO, sliceO, seqO, ofRo_ok, lcTurn, Out.calm, hideS, backS, ownFree, bind_ok, bind_bad, bind_exc, ow_ok, ow_bad, ow_exc, ofO, dsOf, lstD, tupD, binop, cmpop, deq, Pv.truthy, builtin, item, item.atI, slice, Pv.bound, Ex.gap, isTy, asInt, Option.map_some, Option.map_none, Option.bind_some, Option.bind_none, List.map_cons, List.map_nil, List.replicate, List.cons_append, List.nil_append, List.append_nil, List.getD_cons_zero, List.getD_cons_succ, List.getD_nil, List.set_cons_zero, List.set_cons_succ, List.set_nil, List.zip_cons_cons, List.zip_nil_left, List.zip_nil_right, List.foldl_cons, List.foldl_nil, List.length_cons, List.length_nil, List.any_cons, List.any_nil, List.all_cons, List.all_nil, if_true, if_false, ite_true, ite_false, Bool.false_eq_true, Bool.true_eq_false, Bool.or_false, Bool.or_true, Bool.and_true, Bool.and_false, Bool.true_and, Bool.false_and, Bool.not_true, Bool.not_false, decide_true, decide_false, Nat.reduceAdd, Nat.reduceSub, Nat.zero_add, reduceIte, reduceCtorEq, sz0, sz1, sz2, sz3, sz4, sz5, sz6, sz7, sz8, sz9, sz10, sz11, sz12, sz13, sz14, sz15, sz16, seqOf, ev_callv, ev_lcall, keep_d, capsOf, iv, c]
      refine ow_cons ?_
      simp [evS, ev_v, ev_c, ev_g, ev_fn, ev_bin, ev_neg, ev_no, ev_cmp, ev_chain, ev_and, ev_or, ev_ite, ev_call, ev_kcall, ev_bi, ev_isi, ev_ix, ev_sl, ev_rev, ev_tup, ev_lst, ev_pop, ev_dk, ev_dle, ev_dpop, ev_dmk, evEach, evIt, evs, evF, ops, op1, op2, opA, tst, tsts, truD, Pv.load, look, S.at, S.put, mine, store, setO, appO, drO, mkO, sliceO, seqO, ofRo_ok, lcTurn, Out.calm, hideS, backS, ownFree, bind_ok, bind_bad, bind_exc, ow_ok, ow_bad, ow_exc, ofO, dsOf, lstD, tupD, binop, cmpop, deq, Pv.truthy, builtin, item, item.atI, slice, Pv.bound, Ex.gap, isTy, asInt, Option.map_some, Option.map_none, Option.bind_some, Option.bind_none, List.map_cons, List.map_nil, List.replicate, List.cons_append, List.nil_append, List.append_nil, List.getD_cons_zero, List.getD_cons_succ, List.getD_nil, List.set_cons_zero, List.set_cons_succ, List.set_nil, List.zip_cons_cons, List.zip_nil_left, List.zip_nil_right, List.foldl_cons, List.foldl_nil, List.length_cons, List.length_nil, List.any_cons, List.any_nil, List.all_cons, List.all_nil, if_true, if_false, ite_true, ite_false, Bool.false_eq_true, Bool.true_eq_false, Bool.or_false, Bool.or_true, Bool.and_true, Bool.and_false, Bool.true_and, Bool.false_and, Bool.not_true, Bool.not_false, decide_true, decide_false, Nat.reduceAdd, Nat.reduceSub, Nat.zero_add, reduceIte, reduceCtorEq, sz0, sz1, sz2, sz3, sz4, sz5, sz6, sz7, sz8, sz9, sz10, sz11, sz12, sz13, sz14, sz15, sz16, seqOf, ev_callv, ev_lcall, keep_d, capsOf]
      have e : l = h - 1 := by omega
      refine ⟨by omega, h3, h4, ?_⟩
      rw [← e]; exact h5
  obtain ⟨a, fr, dr', e, ⟨h, rfl, q⟩, rfl, rfl⟩ := rw_eq key
  exact ⟨h, e, q⟩
theorem run_wrong (d m r n : Nat) (D M R N : Int) (hD : D = (d : Int)) (hM : M = (m : Int)) (hR : R = (r : Int)) (hN : N = (n : Int)) (hd : 0 < d) (h1 : d ≤ 2 ^ 400) (h2 : m ≤ 2 ^ 900) (h3 : n ≤ 2 ^ 2400) :
    run G T (k + 1) 19 [.d (.int D), .d (.int M), .d (.int R), .d (.int N)] dr = .ok (.d (.bool (!decide (Dv.right d m (2 ^ r) n)))) false dr := by
  have D0 : 0 < D := by omega
  have R0 : 0 ≤ R := by omega
  have o1 : mulOk M N = true := mulOk_fit (fit_le 900 hM h2 (by decide)) (fit_le 2400 hN h3 (by decide))
  have dD := divOk_fit D0 (fit_le 400 hD h1 (by decide))
  obtain ⟨B, hB⟩ : ∃ B : Int, (2 : Int) ^ R.toNat = B := ⟨_, rfl⟩
  have hBn : B = ((2 ^ r : Nat) : Int) := by rw [← hB, hR, Int.toNat_natCast, Int.natCast_pow]; rfl
  have hz : (M * N / B = N / D) = Dv.right d m (2 ^ r) n := propext (by
    unfold Dv.right
    rw [hM, hN, hBn, hD, ← Int.natCast_mul, ← Int.natCast_ediv, ← Int.natCast_ediv]
    exact Int.ofNat_inj)
  have hz2 : (!decide (Dv.right d m (2 ^ r) n)) = !(M * N / B == N / D) := by
    congr 1
    by_cases c : M * N / B = N / D
    · have : Dv.right d m (2 ^ r) n := by rw [← hz]; exact c
      simp [c, this]
    · have : ¬ Dv.right d m (2 ^ r) n := by rw [← hz]; exact c
      simp [c, this]
  rw [hz2]
  clear hz hz2 hBn hD hM hR hN
  rw [run_fn' (f := 19) (np := 4) (nn := 4) rfl rfl]
  simp [evS, ev_v, ev_c, ev_g, ev_fn, ev_bin, ev_neg, ev_no, ev_cmp, ev_chain, ev_and, ev_or, ev_ite, ev_call, ev_kcall, ev_bi, ev_isi, ev_ix, ev_sl, ev_rev, ev_tup, ev_lst, ev_pop, ev_dk, ev_dle, ev_dpop, ev_dmk, evEach, evIt, evs, evF, ops, op1, op2, opA, tst, tsts, truD, Pv.load, look, S.at, S.put, mine, store, setO, appO, drO, mkO, sliceO, seqO, ofRo_ok, lcTurn, Out.calm, hideS, backS, ownFree, bind_ok, bind_bad, bind_exc, ow_ok, ow_bad, ow_exc, ofO, dsOf, lstD, tupD, binop, cmpop, deq, Pv.truthy, builtin, item, item.atI, slice, Pv.bound, Ex.gap, isTy, asInt, Option.map_some, Option.map_none, Option.bind_some, Option.bind_none, List.map_cons, List.map_nil, List.replicate, List.cons_append, List.nil_append, List.append_nil, List.getD_cons_zero, List.getD_cons_succ, List.getD_nil, List.set_cons_zero, List.set_cons_succ, List.set_nil, List.zip_cons_cons, List.zip_nil_left, List.zip_nil_right, List.foldl_cons, List.foldl_nil, List.length_cons, List.length_nil, List.any_cons, List.any_nil, List.all_cons, List.all_nil, if_true, if_false, ite_true, ite_false, Bool.false_eq_true, Bool.true_eq_false, Bool.or_false, Bool.or_true, Bool.and_true, Bool.and_false, Bool.true_and, Bool.false_and, Bool.not_true, Bool.not_false, decide_true, decide_false, Nat.reduceAdd, Nat.reduceSub, Nat.zero_add, reduceIte, reduceCtorEq, sz0, sz1, sz2, sz3, sz4, sz5, sz6, sz7, sz8, sz9, sz10, sz11, sz12, sz13, sz14, sz15, sz16, seqOf, ev_callv, ev_lcall, keep_d, capsOf, evB, retOf, o1, R0, hB, dD, fdiv_pos D0]
end
end K85
set_option maxHeartbeats 200000
set_option maxHeartbeats 400000
namespace K85
open PySem Pv
/-- as a test on numbers -/
def wr (d m p : Nat) (X : Int) : Bool := !decide (Dv.right d m p X.toNat)
theorem wr_t {d m p : Nat} {X : Int} (h : wr d m p X = true) : ¬ Dv.right d m p X.toNat := by
  unfold wr at h
  simpa using h
theorem wr_f {d m p : Nat} {X : Int} (h : wr d m p X = false) : Dv.right d m p X.toNat := by
  unfold wr at h
  simpa using h
theorem wr_of {d m p : Nat} {X : Int} (h : ¬ Dv.right d m p X.toNat) : wr d m p X = true := by
  unfold wr
  simpa using h
section
variable (k : Nat) (dr : Option Dr)
theorem run_lam0 (d m r : Nat) (D M R X : Int) (hD : D = (d : Int)) (hM : M = (m : Int)) (hR : R = (r : Int)) (hd : 0 < d) (h1 : d ≤ 2 ^ 400) (h2 : m ≤ 2 ^ 900) (hX : 0 ≤ X) (h3 : X.toNat ≤ 2 ^ 2400) :
    run G T (k + 2) 32 [.d (.int X), .d (.int D), .d (.int M), .d (.int R)] dr = .ok (.d (.bool (wr d m (2 ^ r) X))) false dr := by
  have rw1 := run_wrong k dr d m r X.toNat D M R X hD hM hR (by omega) hd h1 h2 h3
  unfold wr
  generalize decide (Dv.right d m (2 ^ r) X.toNat) = b at rw1
  rw [run_fn' (f := 32) (np := 4) (nn := 4) rfl rfl]
  simp [evS, ev_v, ev_c, ev_g, ev_fn, ev_bin, ev_neg, ev_no, ev_cmp, ev_chain, ev_and, ev_or, ev_ite, ev_call, ev_kcall, ev_bi, ev_isi, ev_ix, ev_sl, ev_rev, ev_tup, ev_lst, ev_pop, ev_dk, ev_dle, ev_dpop, ev_dmk, evEach, evIt, evs, evF, ops, op1, op2, opA, tst, tsts, truD, Pv.load, look, S.at, S.put, mine, store, setO, appO, drO, mkO, sliceO, seqO, ofRo_ok, lcTurn, Out.calm, hideS, backS, ownFree, bind_ok, bind_bad, bind_exc, ow_ok, ow_bad, ow_exc, ofO, dsOf, lstD, tupD, binop, cmpop, deq, Pv.truthy, builtin, item, item.atI, slice, Pv.bound, Ex.gap, isTy, asInt, Option.map_some, Option.map_none, Option.bind_some, Option.bind_none, List.map_cons, List.map_nil, List.replicate, List.cons_append, List.nil_append, List.append_nil, List.getD_cons_zero, List.getD_cons_succ, List.getD_nil, List.set_cons_zero, List.set_cons_succ, List.set_nil, List.zip_cons_cons, List.zip_nil_left, List.zip_nil_right, List.foldl_cons, List.foldl_nil, List.length_cons, List.length_nil, List.any_cons, List.any_nil, List.all_cons, List.all_nil, if_true, if_false, ite_true, ite_false, Bool.false_eq_true, Bool.true_eq_false, Bool.or_false, Bool.or_true, Bool.and_true, Bool.and_false, Bool.true_and, Bool.false_and, Bool.not_true, Bool.not_false, decide_true, decide_false, Nat.reduceAdd, Nat.reduceSub, Nat.zero_add, reduceIte, reduceCtorEq, sz0, sz1, sz2, sz3, sz4, sz5, sz6, sz7, sz8, sz9, sz10, sz11, sz12, sz13, sz14, sz15, sz16, seqOf, ev_callv, ev_lcall, keep_d, capsOf, evB, retOf, rw1]
theorem run_lam1 (d m r : Nat) (D M R X : Int) (hD : D = (d : Int)) (hM : M = (m : Int)) (hR : R = (r : Int)) (hd : 0 < d) (h1 : d ≤ 2 ^ 400) (h2 : m ≤ 2 ^ 900) (hX : 0 ≤ X) (h3 : X.toNat ≤ 2 ^ 1900) :
    run G T (k + 2) 33 [.d (.int X), .d (.int D), .d (.int M), .d (.int R)] dr = .ok (.d (.bool (wr d m (2 ^ r) (X * D + D - 1)))) false dr := by
  have hx : X = ((X.toNat : Nat) : Int) := by omega
  have hn : X * D + D - 1 = ((X.toNat * d + d - 1 : Nat) : Int) := by
    have : X * D = ((X.toNat * d : Nat) : Int) := by rw [Int.natCast_mul, ← hx, hD]
    omega
  have b1 : X.toNat * d ≤ 2 ^ 2300 := mul_pow_le (x := 1900) (y := 400) h3 h1
  have b2 : X.toNat * d + d - 1 ≤ 2 ^ 2400 := by
    have e : 2 ^ 2301 = 2 ^ 2300 * 2 := Nat.pow_succ _ _
    have e1 : 2 ^ 400 ≤ 2 ^ 2300 := pow_le_pow (by decide)
    have e2 : 2 ^ 2301 ≤ 2 ^ 2400 := pow_le_pow (by decide)
    omega
  have hn2 : (X * D + D - 1).toNat = X.toNat * d + d - 1 := by rw [hn, Int.toNat_natCast]
  have rw1 := run_wrong k dr d m r (X.toNat * d + d - 1) D M R (X * D + D - 1) hD hM hR hn hd h1 h2 b2
  have o1 : mulOk X D = true := mulOk_fit (fit_le 1900 hx h3 (by decide)) (fit_le 400 hD h1 (by decide))
  unfold wr
  rw [hn2]
  generalize decide (Dv.right d m (2 ^ r) (X.toNat * d + d - 1)) = b at rw1
  clear hn hn2 hx
  rw [run_fn' (f := 33) (np := 4) (nn := 4) rfl rfl]
  simp [evS, ev_v, ev_c, ev_g, ev_fn, ev_bin, ev_neg, ev_no, ev_cmp, ev_chain, ev_and, ev_or, ev_ite, ev_call, ev_kcall, ev_bi, ev_isi, ev_ix, ev_sl, ev_rev, ev_tup, ev_lst, ev_pop, ev_dk, ev_dle, ev_dpop, ev_dmk, evEach, evIt, evs, evF, ops, op1, op2, opA, tst, tsts, truD, Pv.load, look, S.at, S.put, mine, store, setO, appO, drO, mkO, sliceO, seqO, ofRo_ok, lcTurn, Out.calm, hideS, backS, ownFree, bind_ok, bind_bad, bind_exc, ow_ok, ow_bad, ow_exc, ofO, dsOf, lstD, tupD, binop, cmpop, deq, Pv.truthy, builtin, item, item.atI, slice, Pv.bound, Ex.gap, isTy, asInt, Option.map_some, Option.map_none, Option.bind_some, Option.bind_none, List.map_cons, List.map_nil, List.replicate, List.cons_append, List.nil_append, List.append_nil, List.getD_cons_zero, List.getD_cons_succ, List.getD_nil, List.set_cons_zero, List.set_cons_succ, List.set_nil, List.zip_cons_cons, List.zip_nil_left, List.zip_nil_right, List.foldl_cons, List.foldl_nil, List.length_cons, List.length_nil, List.any_cons, List.any_nil, List.all_cons, List.all_nil, if_true, if_false, ite_true, ite_false, Bool.false_eq_true, Bool.true_eq_false, Bool.or_false, Bool.or_true, Bool.and_true, Bool.and_false, Bool.true_and, Bool.false_and, Bool.not_true, Bool.not_false, decide_true, decide_false, Nat.reduceAdd, Nat.reduceSub, Nat.zero_add, reduceIte, reduceCtorEq, sz0, sz1, sz2, sz3, sz4, sz5, sz6, sz7, sz8, sz9, sz10, sz11, sz12, sz13, sz14, sz15, sz16, seqOf, ev_callv, ev_lcall, keep_d, capsOf, evB, retOf, o1, rw1]
theorem run_firstwrong (d m r : Nat) (D M R : Int) (hD : D = (d : Int)) (hM : M = (m : Int)) (hR : R = (r : Int)) (hd : 0 < d) (h1 : d ≤ 2 ^ 400) (h2 : m ≤ 2 ^ 900) (h3 : r ≤ 900) :
    run G T (k + 4) 20 [.d (.int D), .d (.int M), .d (.int R)] dr = .ok (.d (optD (Dv.unlike d m (2 ^ r)))) false dr := by
  have h4 : 2 ^ r ≤ 2 ^ 900 := pow_le_pow h3
  have hp0 : 0 < 2 ^ r := Nat.pow_pos (by decide)
  have hl0 := fun X hX h3 => run_lam0 k dr d m r D M R X hD hM hR hd h1 h2 hX h3
  have hl1 := fun X hX h3 => run_lam1 k dr d m r D M R X hD hM hR hd h1 h2 hX h3
  have rw1 := run_wrong (k + 2) dr d m r (d - 1) D M R (D - 1) hD hM hR (by omega) hd h1 h2 (by have : 2 ^ 400 ≤ 2 ^ 2400 := pow_le_pow (by decide); omega)
  obtain ⟨P, hP⟩ : ∃ P : Int, P = ((2 ^ r : Nat) : Int) := ⟨_, rfl⟩
  have hP2 : (2 : Int) ^ R.toNat = P := by rw [hP, hR, Int.toNat_natCast, Int.natCast_pow]; rfl
  have so : shlOk 1 R = true := shlOk_one (by omega) (by omega)
  generalize 2 ^ r = p at h4 hp0 hl0 hl1 rw1 hP ⊢
  have hmd : M * D = ((m * d : Nat) : Int) := by rw [hM, hD, Int.natCast_mul]
  have b1 : m * d ≤ 2 ^ 1300 := mul_pow_le (x := 900) (y := 400) h2 h1
  have o1 : mulOk M D = true := mulOk_fit (fit_le 900 hM h2 (by decide)) (fit_le 400 hD h1 (by decide))
  have D0 : 0 < D := by omega
  have big : 2 ^ 1300 ≤ 2 ^ 1900 := pow_le_pow (by decide)
  have big2 : 2 ^ 400 ≤ 2 ^ 1300 := pow_le_pow (by decide)
  have big3 : 2 ^ 900 ≤ 2 ^ 1300 := pow_le_pow (by decide)
  have big4 : 2 ^ 1900 ≤ 2 ^ 2400 := pow_le_pow (by decide)
  have big5 : 2 ^ 1301 = 2 ^ 1300 * 2 := Nat.pow_succ _ _
  have big6 : 2 ^ 1301 ≤ 2 ^ 1900 := pow_le_pow (by decide)
  have big7 : 2 ^ 1900 < 2 ^ 5000 := Nat.pow_lt_pow_right (by decide) (by decide)
  have big8 : 4 ≤ 2 ^ 400 := pow_le_pow (r := 2) (by decide)
  have key : Rw (run G T (k + 4) 20 [.d (.int D), .d (.int M), .d (.int R)] dr) fun a fr dr' => a = .d (optD (Dv.unlike d m p)) ∧ fr = false ∧ dr' = dr := by
    rw [run_fn' (f := 20) (np := 3) (nn := 7) rfl rfl]
    refine rw_ret ?_
    refine ow_cons ?_
    simp [evS, ev_v, ev_c, ev_g, ev_fn, ev_bin, ev_neg, ev_no, ev_cmp, ev_chain, ev_and, ev_or, ev_ite, ev_call, ev_kcall, ev_bi, ev_isi, ev_ix, ev_sl, ev_rev, ev_tup, ev_lst, ev_pop, ev_dk, ev_dle, ev_dpop, ev_dmk, evEach, evIt, evs, evF, ops, op1, op2, opA, tst, tsts, truD, Pv.load, look, S.at, S.put, mine, store, setO, appO, drO, mkO, sliceO, seqO, ofRo_ok, lcTurn, Out.calm, hideS, backS, ownFree, bind_ok, bind_bad, bind_exc, ow_ok, ow_bad, ow_exc, ofO, dsOf, lstD, tupD, binop, cmpop, deq, Pv.truthy, builtin, item, item.atI, slice, Pv.bound, Ex.gap, isTy, asInt, Option.map_some, Option.map_none, Option.bind_some, Option.bind_none, List.map_cons, List.map_nil, List.replicate, List.cons_append, List.nil_append, List.append_nil, List.getD_cons_zero, List.getD_cons_succ, List.getD_nil, List.set_cons_zero, List.set_cons_succ, List.set_nil, List.zip_cons_cons, List.zip_nil_left, List.zip_nil_right, List.foldl_cons, List.foldl_nil, List.length_cons, List.length_nil, List.any_cons, List.any_nil, List.all_cons, List.all_nil, if_true, if_false, ite_true, ite_false, Bool.false_eq_true, Bool.true_eq_false, Bool.or_false, Bool.or_true, Bool.and_true, Bool.and_false, Bool.true_and, Bool.false_and, Bool.not_true, Bool.not_false, decide_true, decide_false, Nat.reduceAdd, Nat.reduceSub, Nat.zero_add, reduceIte, reduceCtorEq, sz0, sz1, sz2, sz3, sz4, sz5, sz6, sz7, sz8, sz9, sz10, sz11, sz12, sz13, sz14, sz15, sz16, seqOf, ev_callv, ev_lcall, keep_d, capsOf, o1, so, hP2]
    generalize hov : M * D - P = ov
    refine ow_cons (ow_ifs ?_)
    simp [evS, ev_v, ev_c, ev_g, ev_fn, ev_bin, ev_neg, ev_no, ev_cmp, ev_chain, ev_and, ev_or, ev_ite, ev_call, ev_kcall, ev_bi, ev_isi, ev_ix, ev_sl, ev_rev, ev_tup, ev_lst, ev_pop, ev_dk, ev_dle, ev_dpop, ev_dmk, evEach, evIt, evs, evF, ops, op1, op2, opA, tst, tsts, truD, Pv.load, look, S.at, S.put, mine, store, setO, appO, drO, mkO, sliceO, seqO, ofRo_ok, lcTurn, Out.calm, hideS, backS, ownFree, bind_ok, bind_bad, bind_exc, ow_ok, ow_bad, ow_exc, ofO, dsOf, lstD, tupD, binop, cmpop, deq, Pv.truthy, builtin, item, item.atI, slice, Pv.bound, Ex.gap, isTy, asInt, Option.map_some, Option.map_none, Option.bind_some, Option.bind_none, List.map_cons, List.map_nil, List.replicate, List.cons_append, List.nil_append, List.append_nil, List.getD_cons_zero, List.getD_cons_succ, List.getD_nil, List.set_cons_zero, List.set_cons_succ, List.set_nil, List.zip_cons_cons, List.zip_nil_left, List.zip_nil_right, List.foldl_cons, List.foldl_nil, List.length_cons, List.length_nil, List.any_cons, List.any_nil, List.all_cons, List.all_nil, if_true, if_false, ite_true, ite_false, Bool.false_eq_true, Bool.true_eq_false, Bool.or_false, Bool.or_true, Bool.and_true, Bool.and_false, Bool.true_and, Bool.false_and, Bool.not_true, Bool.not_false, decide_true, decide_false, Nat.reduceAdd, Nat.reduceSub, Nat.zero_add, reduceIte, reduceCtorEq, sz0, sz1, sz2, sz3, sz4, sz5, sz6, sz7, sz8, sz9, sz10, sz11, sz12, sz13, sz14, sz15, sz16, seqOf, ev_callv, ev_lcall, keep_d, capsOf]
    by_cases c0 : ov = 0
    · have e : optD (Dv.unlike d m p) = .none := by
        unfold Dv.unlike
        rw [if_neg (by omega), if_pos (by omega)]; rfl
      simp [c0]
      refine ow_cons ?_
      simp [evS, ev_v, ev_c, ev_g, ev_fn, ev_bin, ev_neg, ev_no, ev_cmp, ev_chain, ev_and, ev_or, ev_ite, ev_call, ev_kcall, ev_bi, ev_isi, ev_ix, ev_sl, ev_rev, ev_tup, ev_lst, ev_pop, ev_dk, ev_dle, ev_dpop, ev_dmk, evEach, evIt, evs, evF, ops, op1, op2, opA, tst, tsts, truD, Pv.load, look, S.at, S.put, mine, store, setO, appO, drO, mkO, sliceO, seqO, ofRo_ok, lcTurn, Out.calm, hideS, backS, ownFree, bind_ok, bind_bad, bind_exc, ow_ok, ow_bad, ow_exc, ofO, dsOf, lstD, tupD, binop, cmpop, deq, Pv.truthy, builtin, item, item.atI, slice, Pv.bound, Ex.gap, isTy, asInt, Option.map_some, Option.map_none, Option.bind_some, Option.bind_none, List.map_cons, List.map_nil, List.replicate, List.cons_append, List.nil_append, List.append_nil, List.getD_cons_zero, List.getD_cons_succ, List.getD_nil, List.set_cons_zero, List.set_cons_succ, List.set_nil, List.zip_cons_cons, List.zip_nil_left, List.zip_nil_right, List.foldl_cons, List.foldl_nil, List.length_cons, List.length_nil, List.any_cons, List.any_nil, List.all_cons, List.all_nil, if_true, if_false, ite_true, ite_false, Bool.false_eq_true, Bool.true_eq_false, Bool.or_false, Bool.or_true, Bool.and_true, Bool.and_false, Bool.true_and, Bool.false_and, Bool.not_true, Bool.not_false, decide_true, decide_false, Nat.reduceAdd, Nat.reduceSub, Nat.zero_add, reduceIte, reduceCtorEq, sz0, sz1, sz2, sz3, sz4, sz5, sz6, sz7, sz8, sz9, sz10, sz11, sz12, sz13, sz14, sz15, sz16, seqOf, ev_callv, ev_lcall, keep_d, capsOf, e]
    · simp [c0]
      refine ow_nil ?_
      refine ow_cons (ow_ifs ?_)
      by_cases c1 : ov < 0
      · simp [evS, ev_v, ev_c, ev_g, ev_fn, ev_bin, ev_neg, ev_no, ev_cmp, ev_chain, ev_and, ev_or, ev_ite, ev_call, ev_kcall, ev_bi, ev_isi, ev_ix, ev_sl, ev_rev, ev_tup, ev_lst, ev_pop, ev_dk, ev_dle, ev_dpop, ev_dmk, evEach, evIt, evs, evF, ops, op1, op2, opA, tst, tsts, truD, Pv.load, look, S.at, S.put, mine, store, setO, appO, drO, mkO, sliceO, seqO, ofRo_ok, lcTurn, Out.calm, hideS, backS, ownFree, bind_ok, bind_bad, bind_exc, ow_ok, ow_bad, ow_exc, ofO, dsOf, lstD, tupD, binop, cmpop, deq, Pv.truthy, builtin, item, item.atI, slice, Pv.bound, Ex.gap, isTy, asInt, Option.map_some, Option.map_none, Option.bind_some, Option.bind_none, List.map_cons, List.map_nil, List.replicate, List.cons_append, List.nil_append, List.append_nil, List.getD_cons_zero, List.getD_cons_succ, List.getD_nil, List.set_cons_zero, List.set_cons_succ, List.set_nil, List.zip_cons_cons, List.zip_nil_left, List.zip_nil_right, List.foldl_cons, List.foldl_nil, List.length_cons, List.length_nil, List.any_cons, List.any_nil, List.all_cons, List.all_nil, if_true, if_false, ite_true, ite_false, Bool.false_eq_true, Bool.true_eq_false, Bool.or_false, Bool.or_true, Bool.and_true, Bool.and_false, Bool.true_and, Bool.false_and, Bool.not_true, Bool.not_false, decide_true, decide_false, Nat.reduceAdd, Nat.reduceSub, Nat.zero_add, reduceIte, reduceCtorEq, sz0, sz1, sz2, sz3, sz4, sz5, sz6, sz7, sz8, sz9, sz10, sz11, sz12, sz13, sz14, sz15, sz16, seqOf, ev_callv, ev_lcall, keep_d, capsOf, c1]
        refine ow_cons ?_
        simp [evS, ev_v, ev_c, ev_g, ev_fn, ev_bin, ev_neg, ev_no, ev_cmp, ev_chain, ev_and, ev_or, ev_ite, ev_call, ev_kcall, ev_bi, ev_isi, ev_ix, ev_sl, ev_rev, ev_tup, ev_lst, ev_pop, ev_dk, ev_dle, ev_dpop, ev_dmk, evEach, evIt, evs, evF, ops, op1, op2, opA, tst, tsts, truD, Pv.load, look, S.at, S.put, mine, store, setO, appO, drO, mkO, sliceO, seqO, ofRo_ok, lcTurn, Out.calm, hideS, backS, ownFree, bind_ok, bind_bad, bind_exc, ow_ok, ow_bad, ow_exc, ofO, dsOf, lstD, tupD, binop, cmpop, deq, Pv.truthy, builtin, item, item.atI, slice, Pv.bound, Ex.gap, isTy, asInt, Option.map_some, Option.map_none, Option.bind_some, Option.bind_none, List.map_cons, List.map_nil, List.replicate, List.cons_append, List.nil_append, List.append_nil, List.getD_cons_zero, List.getD_cons_succ, List.getD_nil, List.set_cons_zero, List.set_cons_succ, List.set_nil, List.zip_cons_cons, List.zip_nil_left, List.zip_nil_right, List.foldl_cons, List.foldl_nil, List.length_cons, List.length_nil, List.any_cons, List.any_nil, List.all_cons, List.all_nil, if_true, if_false, ite_true, ite_false, Bool.false_eq_true, Bool.true_eq_false, Bool.or_false, Bool.or_true, Bool.and_true, Bool.and_false, Bool.true_and, Bool.false_and, Bool.not_true, Bool.not_false, decide_true, decide_false, Nat.reduceAdd, Nat.reduceSub, Nat.zero_add, reduceIte, reduceCtorEq, sz0, sz1, sz2, sz3, sz4, sz5, sz6, sz7, sz8, sz9, sz10, sz11, sz12, sz13, sz14, sz15, sz16, seqOf, ev_callv, ev_lcall, keep_d, capsOf, c1]
        obtain ⟨h, e1, e2, e3, e4, e5⟩ := run_halved (k + 2) dr 32 [.int D, .int M, .int R] (wr d m p) (-1) D (by omega) (wr_of (by
            rw [hD, Int.toNat_natCast]
            unfold Dv.right
            rw [Nat.div_eq_of_lt (show m * d < p by omega), Nat.div_self hd]; omega)) (by omega) fun X x1 x2 => hl0 X (by omega) (by omega)
        have hh : h = D := by
          refine Int.le_antisymm e3 (Int.not_lt.mp fun z => ?_)
          have w := wr_t e4
          refine w ((Dv.right_low hp0 (show h.toNat < d by omega)).mpr ?_)
          have : m * h.toNat ≤ m * d := Nat.mul_le_mul_left m (by omega)
          omega
        have e : optD (Dv.unlike d m p) = .int D := by
          unfold Dv.unlike
          rw [if_pos (by omega), hD]; rfl
        rw [hh] at e1
        refine ow_cons ?_
        simp [evS, ev_v, ev_c, ev_g, ev_fn, ev_bin, ev_neg, ev_no, ev_cmp, ev_chain, ev_and, ev_or, ev_ite, ev_call, ev_kcall, ev_bi, ev_isi, ev_ix, ev_sl, ev_rev, ev_tup, ev_lst, ev_pop, ev_dk, ev_dle, ev_dpop, ev_dmk, evEach, evIt, evs, evF, ops, op1, op2, opA, tst, tsts, truD, Pv.load, look, S.at, S.put, mine, store, setO, appO, drO, mkO, sliceO, seqO, ofRo_ok, lcTurn, Out.calm, hideS, backS, ownFree, bind_ok, bind_bad, bind_exc, ow_ok, ow_bad, ow_exc, ofO, dsOf, lstD, tupD, binop, cmpop, deq, Pv.truthy, builtin, item, item.atI, slice, Pv.bound, Ex.gap, isTy, asInt, Option.map_some, Option.map_none, Option.bind_some, Option.bind_none, List.map_cons, List.map_nil, List.replicate, List.cons_append, List.nil_append, List.append_nil, List.getD_cons_zero, List.getD_cons_succ, List.getD_nil, List.set_cons_zero, List.set_cons_succ, List.set_nil, List.zip_cons_cons, List.zip_nil_left, List.zip_nil_right, List.foldl_cons, List.foldl_nil, List.length_cons, List.length_nil, List.any_cons, List.any_nil, List.all_cons, List.all_nil, if_true, if_false, ite_true, ite_false, Bool.false_eq_true, Bool.true_eq_false, Bool.or_false, Bool.or_true, Bool.and_true, Bool.and_false, Bool.true_and, Bool.false_and, Bool.not_true, Bool.not_false, decide_true, decide_false, Nat.reduceAdd, Nat.reduceSub, Nat.zero_add, reduceIte, reduceCtorEq, sz0, sz1, sz2, sz3, sz4, sz5, sz6, sz7, sz8, sz9, sz10, sz11, sz12, sz13, sz14, sz15, sz16, seqOf, ev_callv, ev_lcall, keep_d, capsOf, capsOf, e1, e]
      · have hmd2 : m * d = p + ov.toNat := by omega
        simp [evS, ev_v, ev_c, ev_g, ev_fn, ev_bin, ev_neg, ev_no, ev_cmp, ev_chain, ev_and, ev_or, ev_ite, ev_call, ev_kcall, ev_bi, ev_isi, ev_ix, ev_sl, ev_rev, ev_tup, ev_lst, ev_pop, ev_dk, ev_dle, ev_dpop, ev_dmk, evEach, evIt, evs, evF, ops, op1, op2, opA, tst, tsts, truD, Pv.load, look, S.at, S.put, mine, store, setO, appO, drO, mkO, sliceO, seqO, ofRo_ok, lcTurn, Out.calm, hideS, backS, ownFree, bind_ok, bind_bad, bind_exc, ow_ok, ow_bad, ow_exc, ofO, dsOf, lstD, tupD, binop, cmpop, deq, Pv.truthy, builtin, item, item.atI, slice, Pv.bound, Ex.gap, isTy, asInt, Option.map_some, Option.map_none, Option.bind_some, Option.bind_none, List.map_cons, List.map_nil, List.replicate, List.cons_append, List.nil_append, List.append_nil, List.getD_cons_zero, List.getD_cons_succ, List.getD_nil, List.set_cons_zero, List.set_cons_succ, List.set_nil, List.zip_cons_cons, List.zip_nil_left, List.zip_nil_right, List.foldl_cons, List.foldl_nil, List.length_cons, List.length_nil, List.any_cons, List.any_nil, List.all_cons, List.all_nil, if_true, if_false, ite_true, ite_false, Bool.false_eq_true, Bool.true_eq_false, Bool.or_false, Bool.or_true, Bool.and_true, Bool.and_false, Bool.true_and, Bool.false_and, Bool.not_true, Bool.not_false, decide_true, decide_false, Nat.reduceAdd, Nat.reduceSub, Nat.zero_add, reduceIte, reduceCtorEq, sz0, sz1, sz2, sz3, sz4, sz5, sz6, sz7, sz8, sz9, sz10, sz11, sz12, sz13, sz14, sz15, sz16, seqOf, ev_callv, ev_lcall, keep_d, capsOf, c1, rw1]
        by_cases c2 : Dv.right d m p (d - 1)
        · simp [c2]
          refine ow_nil ?_
          have o0 : 0 < ov := by omega
          have dO := divOk_fit (j := ov) o0 (fit_le 1300 (a := ov) (n := ov.toNat) (by omega) (by omega) (by decide))
          refine ow_cons ?_
          simp [evS, ev_v, ev_c, ev_g, ev_fn, ev_bin, ev_neg, ev_no, ev_cmp, ev_chain, ev_and, ev_or, ev_ite, ev_call, ev_kcall, ev_bi, ev_isi, ev_ix, ev_sl, ev_rev, ev_tup, ev_lst, ev_pop, ev_dk, ev_dle, ev_dpop, ev_dmk, evEach, evIt, evs, evF, ops, op1, op2, opA, tst, tsts, truD, Pv.load, look, S.at, S.put, mine, store, setO, appO, drO, mkO, sliceO, seqO, ofRo_ok, lcTurn, Out.calm, hideS, backS, ownFree, bind_ok, bind_bad, bind_exc, ow_ok, ow_bad, ow_exc, ofO, dsOf, lstD, tupD, binop, cmpop, deq, Pv.truthy, builtin, item, item.atI, slice, Pv.bound, Ex.gap, isTy, asInt, Option.map_some, Option.map_none, Option.bind_some, Option.bind_none, List.map_cons, List.map_nil, List.replicate, List.cons_append, List.nil_append, List.append_nil, List.getD_cons_zero, List.getD_cons_succ, List.getD_nil, List.set_cons_zero, List.set_cons_succ, List.set_nil, List.zip_cons_cons, List.zip_nil_left, List.zip_nil_right, List.foldl_cons, List.foldl_nil, List.length_cons, List.length_nil, List.any_cons, List.any_nil, List.all_cons, List.all_nil, if_true, if_false, ite_true, ite_false, Bool.false_eq_true, Bool.true_eq_false, Bool.or_false, Bool.or_true, Bool.and_true, Bool.and_false, Bool.true_and, Bool.false_and, Bool.not_true, Bool.not_false, decide_true, decide_false, Nat.reduceAdd, Nat.reduceSub, Nat.zero_add, reduceIte, reduceCtorEq, sz0, sz1, sz2, sz3, sz4, sz5, sz6, sz7, sz8, sz9, sz10, sz11, sz12, sz13, sz14, sz15, sz16, seqOf, ev_callv, ev_lcall, keep_d, capsOf, so, hP2, dO, fdiv_pos o0]
          have hq0 : 0 ≤ P / ov := Int.ediv_nonneg (by omega) (by omega)
          have hq1 : P / ov ≤ P := Int.ediv_le_self ov (by omega)
          have hq2 : P < (P / ov + 1) * ov := Int.lt_ediv_add_one_mul_self P o0
          generalize P / ov = q at hq0 hq1 hq2
          have hHi : ¬ Dv.right d m p (((q + 2) * D + D - 1).toNat) := by
            have hx : (q + 2) * D + D - 1 = (((q + 2).toNat * d + d - 1 : Nat) : Int) := by
              have : (q + 2) * D = (((q + 2).toNat * d : Nat) : Int) := by rw [Int.natCast_mul, hD, Int.toNat_of_nonneg (by omega)]
              omega
            rw [hx, Int.toNat_natCast, Dv.right_last hd hp0 hmd2]
            have a1 : (q + 2).toNat ≤ (q + 2).toNat * d + d - 1 := by
              have := Nat.le_mul_of_pos_right (q + 2).toNat hd
              omega
            have a2 : ov.toNat * (q + 2).toNat ≤ ov.toNat * ((q + 2).toNat * d + d - 1) := Nat.mul_le_mul_left _ a1
            have a3 : p < ov.toNat * (q + 2).toNat := by
              have h5 : P < ov * (q + 2) := by
                have : (q + 1) * ov ≤ (q + 2) * ov := Int.mul_le_mul_of_nonneg_right (by omega) (by omega)
                rw [Int.mul_comm ov]; omega
              have h6 : ov * (q + 2) = ((ov.toNat * (q + 2).toNat : Nat) : Int) := by rw [Int.natCast_mul, Int.toNat_of_nonneg (by omega), Int.toNat_of_nonneg (by omega)]
              omega
            omega
          obtain ⟨t, e1, e2, e3, e4, e5⟩ := run_halved (k + 2) dr 33 [.int D, .int M, .int R] (fun X => wr d m p (X * D + D - 1)) (-1) (q + 2) (by omega) (wr_of hHi) (by omega) fun X x1 x2 => hl1 X (by omega) (by omega)
          have tx : t * D + D - 1 = ((t.toNat * d + d - 1 : Nat) : Int) := by
            have : t * D = ((t.toNat * d : Nat) : Int) := by rw [Int.natCast_mul, hD, Int.toNat_of_nonneg (by omega)]
            omega
          have w1 := wr_t e4
          rw [tx, Int.toNat_natCast] at w1
          have w2 : t.toNat = 0 ∨ Dv.right d m p ((t.toNat - 1) * d + d - 1) := by
            rcases e5 with z | z
            · exact .inl (by omega)
            · by_cases t0 : t = 0
              · exact .inl (by omega)
              · refine .inr ?_
                have z := wr_f z
                have tx2 : (t - 1) * D + D - 1 = (((t.toNat - 1) * d + d - 1 : Nat) : Int) := by
                  have : (t - 1) * D = (((t.toNat - 1) * d : Nat) : Int) := by rw [Int.natCast_mul, hD]; congr 1; omega
                  omega
                rw [tx2, Int.toNat_natCast] at z
                exact z
          have ff := Dv.first_last hd hp0 hmd2 (by omega) c2 w1 w2
          have e : optD (Dv.unlike d m p) = .int (t * D + D - 1) := by
            rw [Dv.First.uniq (Dv.unlike_first hd hp0) ff, tx]; rfl
          have ot : mulOk t D = true := mulOk_fit (fit_le 1900 (a := t) (n := t.toNat) (by omega) (by omega) (by decide)) (fit_le 400 hD h1 (by decide))
          refine ow_cons ?_
          simp [evS, ev_v, ev_c, ev_g, ev_fn, ev_bin, ev_neg, ev_no, ev_cmp, ev_chain, ev_and, ev_or, ev_ite, ev_call, ev_kcall, ev_bi, ev_isi, ev_ix, ev_sl, ev_rev, ev_tup, ev_lst, ev_pop, ev_dk, ev_dle, ev_dpop, ev_dmk, evEach, evIt, evs, evF, ops, op1, op2, opA, tst, tsts, truD, Pv.load, look, S.at, S.put, mine, store, setO, appO, drO, mkO, sliceO, seqO, ofRo_ok, lcTurn, Out.calm, hideS, backS, ownFree, bind_ok, bind_bad, bind_exc, ow_ok, ow_bad, ow_exc, ofO, dsOf, lstD, tupD, binop, cmpop, deq, Pv.truthy, builtin, item, item.atI, slice, Pv.bound, Ex.gap, isTy, asInt, Option.map_some, Option.map_none, Option.bind_some, Option.bind_none, List.map_cons, List.map_nil, List.replicate, List.cons_append, List.nil_append, List.append_nil, List.getD_cons_zero, List.getD_cons_succ, List.getD_nil, List.set_cons_zero, List.set_cons_succ, List.set_nil, List.zip_cons_cons, List.zip_nil_left, List.zip_nil_right, List.foldl_cons, List.foldl_nil, List.length_cons, List.length_nil, List.any_cons, List.any_nil, List.all_cons, List.all_nil, if_true, if_false, ite_true, ite_false, Bool.false_eq_true, Bool.true_eq_false, Bool.or_false, Bool.or_true, Bool.and_true, Bool.and_false, Bool.true_and, Bool.false_and, Bool.not_true, Bool.not_false, decide_true, decide_false, Nat.reduceAdd, Nat.reduceSub, Nat.zero_add, reduceIte, reduceCtorEq, sz0, sz1, sz2, sz3, sz4, sz5, sz6, sz7, sz8, sz9, sz10, sz11, sz12, sz13, sz14, sz15, sz16, seqOf, ev_callv, ev_lcall, keep_d, capsOf, capsOf, e1]
          refine ow_cons ?_
          simp [evS, ev_v, ev_c, ev_g, ev_fn, ev_bin, ev_neg, ev_no, ev_cmp, ev_chain, ev_and, ev_or, ev_ite, ev_call, ev_kcall, ev_bi, ev_isi, ev_ix, ev_sl, ev_rev, ev_tup, ev_lst, ev_pop, ev_dk, ev_dle, ev_dpop, ev_dmk, evEach, evIt, evs, evF, ops, op1, op2, opA, tst, tsts, truD, Pv.load, look, S.at, S.put, mine, store, setO, appO, drO, mkO, sliceO, seqO, ofRo_ok, lcTurn, Out.calm, hideS, backS, ownFree, bind_ok, bind_bad, bind_exc, ow_ok, ow_bad, ow_exc, ofO, dsOf, lstD, tupD, binop, cmpop, deq, Pv.truthy, builtin, item, item.atI, slice, Pv.bound, Ex.gap, isTy, asInt, Option.map_some, Option.map_none, Option.bind_some, Option.bind_none, List.map_cons, List.map_nil, List.replicate, List.cons_append, List.nil_append, List.append_nil, List.getD_cons_zero, List.getD_cons_succ, List.getD_nil, List.set_cons_zero, List.set_cons_succ, List.set_nil, List.zip_cons_cons, List.zip_nil_left, List.zip_nil_right, List.foldl_cons, List.foldl_nil, List.length_cons, List.length_nil, List.any_cons, List.any_nil, List.all_cons, List.all_nil, if_true, if_false, ite_true, ite_false, Bool.false_eq_true, Bool.true_eq_false, Bool.or_false, Bool.or_true, Bool.and_true, Bool.and_false, Bool.true_and, Bool.false_and, Bool.not_true, Bool.not_false, decide_true, decide_false, Nat.reduceAdd, Nat.reduceSub, Nat.zero_add, reduceIte, reduceCtorEq, sz0, sz1, sz2, sz3, sz4, sz5, sz6, sz7, sz8, sz9, sz10, sz11, sz12, sz13, sz14, sz15, sz16, seqOf, ev_callv, ev_lcall, keep_d, capsOf, ot, e]
        · simp [c2]
          refine ow_cons ?_
          simp [evS, ev_v, ev_c, ev_g, ev_fn, ev_bin, ev_neg, ev_no, ev_cmp, ev_chain, ev_and, ev_or, ev_ite, ev_call, ev_kcall, ev_bi, ev_isi, ev_ix, ev_sl, ev_rev, ev_tup, ev_lst, ev_pop, ev_dk, ev_dle, ev_dpop, ev_dmk, evEach, evIt, evs, evF, ops, op1, op2, opA, tst, tsts, truD, Pv.load, look, S.at, S.put, mine, store, setO, appO, drO, mkO, sliceO, seqO, ofRo_ok, lcTurn, Out.calm, hideS, backS, ownFree, bind_ok, bind_bad, bind_exc, ow_ok, ow_bad, ow_exc, ofO, dsOf, lstD, tupD, binop, cmpop, deq, Pv.truthy, builtin, item, item.atI, slice, Pv.bound, Ex.gap, isTy, asInt, Option.map_some, Option.map_none, Option.bind_some, Option.bind_none, List.map_cons, List.map_nil, List.replicate, List.cons_append, List.nil_append, List.append_nil, List.getD_cons_zero, List.getD_cons_succ, List.getD_nil, List.set_cons_zero, List.set_cons_succ, List.set_nil, List.zip_cons_cons, List.zip_nil_left, List.zip_nil_right, List.foldl_cons, List.foldl_nil, List.length_cons, List.length_nil, List.any_cons, List.any_nil, List.all_cons, List.all_nil, if_true, if_false, ite_true, ite_false, Bool.false_eq_true, Bool.true_eq_false, Bool.or_false, Bool.or_true, Bool.and_true, Bool.and_false, Bool.true_and, Bool.false_and, Bool.not_true, Bool.not_false, decide_true, decide_false, Nat.reduceAdd, Nat.reduceSub, Nat.zero_add, reduceIte, reduceCtorEq, sz0, sz1, sz2, sz3, sz4, sz5, sz6, sz7, sz8, sz9, sz10, sz11, sz12, sz13, sz14, sz15, sz16, seqOf, ev_callv, ev_lcall, keep_d, capsOf, c1]
          obtain ⟨h, e1, e2, e3, e4, e5⟩ := run_halved (k + 2) dr 32 [.int D, .int M, .int R] (wr d m p) (-1) (D - 1) (by omega) (wr_of (by
              rw [show (D - 1).toNat = d - 1 by omega]; exact c2)) (by omega) fun X x1 x2 => hl0 X (by omega) (by omega)
          have w1 := wr_t e4
          have ff : Dv.First d m p (some h.toNat) := by
            refine ⟨w1, fun n hn => ?_⟩
            refine (Dv.right_low hp0 (show n < d by omega)).mpr ?_
            have z := wr_f (e5.resolve_left (by omega))
            have z2 := (Dv.right_low hp0 (show (h - 1).toNat < d by omega)).mp z
            have : m * n ≤ m * (h - 1).toNat := Nat.mul_le_mul_left m (by omega)
            omega
          have e : optD (Dv.unlike d m p) = .int h := by
            rw [Dv.First.uniq (Dv.unlike_first hd hp0) ff]
            show PyData.int ((h.toNat : Nat) : Int) = .int h
            rw [Int.toNat_of_nonneg (by omega)]
          refine ow_cons ?_
          simp [evS, ev_v, ev_c, ev_g, ev_fn, ev_bin, ev_neg, ev_no, ev_cmp, ev_chain, ev_and, ev_or, ev_ite, ev_call, ev_kcall, ev_bi, ev_isi, ev_ix, ev_sl, ev_rev, ev_tup, ev_lst, ev_pop, ev_dk, ev_dle, ev_dpop, ev_dmk, evEach, evIt, evs, evF, ops, op1, op2, opA, tst, tsts, truD, Pv.load, look, S.at, S.put, mine, store, setO, appO, drO, mkO, sliceO, seqO, ofRo_ok, lcTurn, Out.calm, hideS, backS, ownFree, bind_ok, bind_bad, bind_exc, ow_ok, ow_bad, ow_exc, ofO, dsOf, lstD, tupD, binop, cmpop, deq, Pv.truthy, builtin, item, item.atI, slice, Pv.bound, Ex.gap, isTy, asInt, Option.map_some, Option.map_none, Option.bind_some, Option.bind_none, List.map_cons, List.map_nil, List.replicate, List.cons_append, List.nil_append, List.append_nil, List.getD_cons_zero, List.getD_cons_succ, List.getD_nil, List.set_cons_zero, List.set_cons_succ, List.set_nil, List.zip_cons_cons, List.zip_nil_left, List.zip_nil_right, List.foldl_cons, List.foldl_nil, List.length_cons, List.length_nil, List.any_cons, List.any_nil, List.all_cons, List.all_nil, if_true, if_false, ite_true, ite_false, Bool.false_eq_true, Bool.true_eq_false, Bool.or_false, Bool.or_true, Bool.and_true, Bool.and_false, Bool.true_and, Bool.false_and, Bool.not_true, Bool.not_false, decide_true, decide_false, Nat.reduceAdd, Nat.reduceSub, Nat.zero_add, reduceIte, reduceCtorEq, sz0, sz1, sz2, sz3, sz4, sz5, sz6, sz7, sz8, sz9, sz10, sz11, sz12, sz13, sz14, sz15, sz16, seqOf, ev_callv, ev_lcall, keep_d, capsOf, capsOf, e1, e]
  obtain ⟨a, fr, dr', e, rfl, rfl, rfl⟩ := rw_eq key
  exact e
end
end K85
set_option maxHeartbeats 200000
set_option maxHeartbeats 400000
/-! signed quotients: the program -/
namespace K85
open PySem Pv
theorem repB (b : Bool) : RepOk (.bool b) := by cases b <;> exact ⟨by decide +kernel, by decide +kernel, by decide +kernel, by decide +kernel⟩
theorem fdiv_natP {a b : Nat} {A B C : Int} (hA : A = (a : Int)) (hB : B = (b : Int)) (hC : C = ((a / b : Nat) : Int)) : A / B = C := by
  rw [hA, hB, hC]; exact (Int.natCast_ediv a b).symm
section
variable (k : Nat) (dr : Option Dr)
theorem run_says (d : D) (h : RepOk d) : run G T (k + 1) 15 [.d d, .d d] dr = .ok (.d (.bool true)) false dr := by
  have h1 := h.a
  have h2 := h.b
  have h3 := h.c
  have h4 := h.e
  rw [run_fn' (f := 15) (np := 2) (nn := 2) rfl rfl]
  simp [evS, ev_v, ev_c, ev_g, ev_fn, ev_bin, ev_neg, ev_no, ev_cmp, ev_chain, ev_and, ev_or, ev_ite, ev_call, ev_kcall, ev_bi, ev_isi, ev_ix, ev_sl, ev_rev, ev_tup, ev_lst, ev_pop, ev_dk, ev_dle, ev_dpop, ev_dmk, evEach, evIt, evs, evF, ops, op1, op2, opA, tst, tsts, truD, Pv.load, look, S.at, S.put, mine, store, setO, appO, drO, mkO, sliceO, seqO, ofRo_ok, lcTurn, Out.calm, hideS, backS, ownFree, bind_ok, bind_bad, bind_exc, ow_ok, ow_bad, ow_exc, ofO, dsOf, lstD, tupD, binop, cmpop, deq, Pv.truthy, builtin, item, item.atI, slice, Pv.bound, Ex.gap, isTy, asInt, Option.map_some, Option.map_none, Option.bind_some, Option.bind_none, List.map_cons, List.map_nil, List.replicate, List.cons_append, List.nil_append, List.append_nil, List.getD_cons_zero, List.getD_cons_succ, List.getD_nil, List.set_cons_zero, List.set_cons_succ, List.set_nil, List.zip_cons_cons, List.zip_nil_left, List.zip_nil_right, List.foldl_cons, List.foldl_nil, List.length_cons, List.length_nil, List.any_cons, List.any_nil, List.all_cons, List.all_nil, if_true, if_false, ite_true, ite_false, Bool.false_eq_true, Bool.true_eq_false, Bool.or_false, Bool.or_true, Bool.and_true, Bool.and_false, Bool.true_and, Bool.false_and, Bool.not_true, Bool.not_false, decide_true, decide_false, Nat.reduceAdd, Nat.reduceSub, Nat.zero_add, reduceIte, reduceCtorEq, sz0, sz1, sz2, sz3, sz4, sz5, sz6, sz7, sz8, sz9, sz10, sz11, sz12, sz13, sz14, sz15, sz16, seqOf, ev_callv, ev_lcall, keep_d, capsOf, evB, retOf, h1, h2, h3, h4]
theorem run_needt (d m r : Nat) (D M R : Int) (hD : D = (d : Int)) (hM : M = (m : Int)) (hR : R = (r : Int)) (hd : 0 < d) (h1 : d ≤ 2 ^ 400) (h2 : m ≤ 2 ^ 900) (h3 : r ≤ 900) :
    run G T (k + 5) 6 [.d (.int D), .d (.int M), .d (.int R)] dr = .ok (.d .none) false dr := by
  obtain ⟨P, hP⟩ : ∃ P : Int, P = ((2 ^ 900 : Nat) : Int) := ⟨_, rfl⟩
  have rp := run_pow (k + 3) dr 900 900 P rfl hP (by decide)
  have n1 := run_needd k dr D d hD hd h1
  have n2 := run_needn (k + 1) dr M 0 P (by omega) (by rw [hM, hP]; exact Int.ofNat_le.mpr h2)
  have n3 := run_needn (k + 1) dr R 0 900 (by omega) (by omega)
  clear hP hD hM hR
  rw [run_fn' (f := 6) (np := 3) (nn := 3) rfl rfl]
  simp [evS, ev_v, ev_c, ev_g, ev_fn, ev_bin, ev_neg, ev_no, ev_cmp, ev_chain, ev_and, ev_or, ev_ite, ev_call, ev_kcall, ev_bi, ev_isi, ev_ix, ev_sl, ev_rev, ev_tup, ev_lst, ev_pop, ev_dk, ev_dle, ev_dpop, ev_dmk, evEach, evIt, evs, evF, ops, op1, op2, opA, tst, tsts, truD, Pv.load, look, S.at, S.put, mine, store, setO, appO, drO, mkO, sliceO, seqO, ofRo_ok, lcTurn, Out.calm, hideS, backS, ownFree, bind_ok, bind_bad, bind_exc, ow_ok, ow_bad, ow_exc, ofO, dsOf, lstD, tupD, binop, cmpop, deq, Pv.truthy, builtin, item, item.atI, slice, Pv.bound, Ex.gap, isTy, asInt, Option.map_some, Option.map_none, Option.bind_some, Option.bind_none, List.map_cons, List.map_nil, List.replicate, List.cons_append, List.nil_append, List.append_nil, List.getD_cons_zero, List.getD_cons_succ, List.getD_nil, List.set_cons_zero, List.set_cons_succ, List.set_nil, List.zip_cons_cons, List.zip_nil_left, List.zip_nil_right, List.foldl_cons, List.foldl_nil, List.length_cons, List.length_nil, List.any_cons, List.any_nil, List.all_cons, List.all_nil, if_true, if_false, ite_true, ite_false, Bool.false_eq_true, Bool.true_eq_false, Bool.or_false, Bool.or_true, Bool.and_true, Bool.and_false, Bool.true_and, Bool.false_and, Bool.not_true, Bool.not_false, decide_true, decide_false, Nat.reduceAdd, Nat.reduceSub, Nat.zero_add, reduceIte, reduceCtorEq, sz0, sz1, sz2, sz3, sz4, sz5, sz6, sz7, sz8, sz9, sz10, sz11, sz12, sz13, sz14, sz15, sz16, seqOf, ev_callv, ev_lcall, keep_d, capsOf, evB, retOf, Gw, Gd, Gb, rp, n1, n2, n3]
theorem run_fu (d m r : Nat) (D M R : Int) (hD : D = (d : Int)) (hM : M = (m : Int)) (hR : R = (r : Int)) (hd : 0 < d) (h1 : d ≤ 2 ^ 400) (h2 : m ≤ 2 ^ 900) (h3 : r ≤ 900) :
    run G T (k + 6) 9 [.d (.int D), .d (.int M), .d (.int R)] dr = .ok (.d (optD (Dv.unlike d m (2 ^ r)))) false dr := by
  have n1 := run_needt k dr d m r D M R hD hM hR hd h1 h2 h3
  have n2 := run_unlike (k + 3) dr d m r D M R hD hM hR hd h1 h2 h3
  generalize optD (Dv.unlike d m (2 ^ r)) = z at n2 ⊢
  clear hD hM hR
  rw [run_fn' (f := 9) (np := 3) (nn := 3) rfl rfl]
  simp [evS, ev_v, ev_c, ev_g, ev_fn, ev_bin, ev_neg, ev_no, ev_cmp, ev_chain, ev_and, ev_or, ev_ite, ev_call, ev_kcall, ev_bi, ev_isi, ev_ix, ev_sl, ev_rev, ev_tup, ev_lst, ev_pop, ev_dk, ev_dle, ev_dpop, ev_dmk, evEach, evIt, evs, evF, ops, op1, op2, opA, tst, tsts, truD, Pv.load, look, S.at, S.put, mine, store, setO, appO, drO, mkO, sliceO, seqO, ofRo_ok, lcTurn, Out.calm, hideS, backS, ownFree, bind_ok, bind_bad, bind_exc, ow_ok, ow_bad, ow_exc, ofO, dsOf, lstD, tupD, binop, cmpop, deq, Pv.truthy, builtin, item, item.atI, slice, Pv.bound, Ex.gap, isTy, asInt, Option.map_some, Option.map_none, Option.bind_some, Option.bind_none, List.map_cons, List.map_nil, List.replicate, List.cons_append, List.nil_append, List.append_nil, List.getD_cons_zero, List.getD_cons_succ, List.getD_nil, List.set_cons_zero, List.set_cons_succ, List.set_nil, List.zip_cons_cons, List.zip_nil_left, List.zip_nil_right, List.foldl_cons, List.foldl_nil, List.length_cons, List.length_nil, List.any_cons, List.any_nil, List.all_cons, List.all_nil, if_true, if_false, ite_true, ite_false, Bool.false_eq_true, Bool.true_eq_false, Bool.or_false, Bool.or_true, Bool.and_true, Bool.and_false, Bool.true_and, Bool.false_and, Bool.not_true, Bool.not_false, decide_true, decide_false, Nat.reduceAdd, Nat.reduceSub, Nat.zero_add, reduceIte, reduceCtorEq, sz0, sz1, sz2, sz3, sz4, sz5, sz6, sz7, sz8, sz9, sz10, sz11, sz12, sz13, sz14, sz15, sz16, seqOf, ev_callv, ev_lcall, keep_d, capsOf, evB, retOf, n1, n2]
theorem run_unlikeB (d m r : Nat) (D M R U : Int) (hD : D = (d : Int)) (hM : M = (m : Int)) (hR : R = (r : Int)) (hU : U = (Dv.unlikeB d m (2 ^ r) : Int)) (hd : 0 < d) (h1 : d ≤ 2 ^ 400) (h2 : m ≤ 2 ^ 900) (h3 : r ≤ 900) :
    run G T (k + 2) 10 [.d (.int D), .d (.int M), .d (.int R)] dr = .ok (.d (.int U)) false dr := by
  have h4 : 2 ^ r ≤ 2 ^ 900 := pow_le_pow h3
  have hp0 : 0 < 2 ^ r := Nat.pow_pos (by decide)
  generalize hp : 2 ^ r = p at h4 hp0 hU
  have rp := fun (P : Int) (hP : P = (p : Int)) => run_pow k dr r R P hR (by rw [hP, hp]) (by omega)
  obtain ⟨P, hP⟩ : ∃ P : Int, P = (p : Int) := ⟨_, rfl⟩
  have rp := rp P hP
  have hmd : M * D = ((m * d : Nat) : Int) := by rw [hM, hD, Int.natCast_mul]
  have b1 : m * d ≤ 2 ^ 1300 := mul_pow_le (x := 900) (y := 400) h2 h1
  have o1 : mulOk M D = true := mulOk_fit (fit_le 900 hM h2 (by decide)) (fit_le 400 hD h1 (by decide))
  have key : Rw (run G T (k + 2) 10 [.d (.int D), .d (.int M), .d (.int R)] dr) fun a fr dr' => a = .d (.int U) ∧ fr = false ∧ dr' = dr := by
    rw [run_fn' (f := 10) (np := 3) (nn := 5) rfl rfl]
    refine rw_ret ?_
    refine ow_cons ?_
    simp [evS, ev_v, ev_c, ev_g, ev_fn, ev_bin, ev_neg, ev_no, ev_cmp, ev_chain, ev_and, ev_or, ev_ite, ev_call, ev_kcall, ev_bi, ev_isi, ev_ix, ev_sl, ev_rev, ev_tup, ev_lst, ev_pop, ev_dk, ev_dle, ev_dpop, ev_dmk, evEach, evIt, evs, evF, ops, op1, op2, opA, tst, tsts, truD, Pv.load, look, S.at, S.put, mine, store, setO, appO, drO, mkO, sliceO, seqO, ofRo_ok, lcTurn, Out.calm, hideS, backS, ownFree, bind_ok, bind_bad, bind_exc, ow_ok, ow_bad, ow_exc, ofO, dsOf, lstD, tupD, binop, cmpop, deq, Pv.truthy, builtin, item, item.atI, slice, Pv.bound, Ex.gap, isTy, asInt, Option.map_some, Option.map_none, Option.bind_some, Option.bind_none, List.map_cons, List.map_nil, List.replicate, List.cons_append, List.nil_append, List.append_nil, List.getD_cons_zero, List.getD_cons_succ, List.getD_nil, List.set_cons_zero, List.set_cons_succ, List.set_nil, List.zip_cons_cons, List.zip_nil_left, List.zip_nil_right, List.foldl_cons, List.foldl_nil, List.length_cons, List.length_nil, List.any_cons, List.any_nil, List.all_cons, List.all_nil, if_true, if_false, ite_true, ite_false, Bool.false_eq_true, Bool.true_eq_false, Bool.or_false, Bool.or_true, Bool.and_true, Bool.and_false, Bool.true_and, Bool.false_and, Bool.not_true, Bool.not_false, decide_true, decide_false, Nat.reduceAdd, Nat.reduceSub, Nat.zero_add, reduceIte, reduceCtorEq, sz0, sz1, sz2, sz3, sz4, sz5, sz6, sz7, sz8, sz9, sz10, sz11, sz12, sz13, sz14, sz15, sz16, seqOf, ev_callv, ev_lcall, keep_d, capsOf, rp, o1]
    generalize hov : M * D - P = ov
    unfold Dv.unlikeB at hU
    refine ow_cons (ow_ifs ?_)
    by_cases c0 : M = 0
    · rw [if_pos (by omega)] at hU
      simp [evS, ev_v, ev_c, ev_g, ev_fn, ev_bin, ev_neg, ev_no, ev_cmp, ev_chain, ev_and, ev_or, ev_ite, ev_call, ev_kcall, ev_bi, ev_isi, ev_ix, ev_sl, ev_rev, ev_tup, ev_lst, ev_pop, ev_dk, ev_dle, ev_dpop, ev_dmk, evEach, evIt, evs, evF, ops, op1, op2, opA, tst, tsts, truD, Pv.load, look, S.at, S.put, mine, store, setO, appO, drO, mkO, sliceO, seqO, ofRo_ok, lcTurn, Out.calm, hideS, backS, ownFree, bind_ok, bind_bad, bind_exc, ow_ok, ow_bad, ow_exc, ofO, dsOf, lstD, tupD, binop, cmpop, deq, Pv.truthy, builtin, item, item.atI, slice, Pv.bound, Ex.gap, isTy, asInt, Option.map_some, Option.map_none, Option.bind_some, Option.bind_none, List.map_cons, List.map_nil, List.replicate, List.cons_append, List.nil_append, List.append_nil, List.getD_cons_zero, List.getD_cons_succ, List.getD_nil, List.set_cons_zero, List.set_cons_succ, List.set_nil, List.zip_cons_cons, List.zip_nil_left, List.zip_nil_right, List.foldl_cons, List.foldl_nil, List.length_cons, List.length_nil, List.any_cons, List.any_nil, List.all_cons, List.all_nil, if_true, if_false, ite_true, ite_false, Bool.false_eq_true, Bool.true_eq_false, Bool.or_false, Bool.or_true, Bool.and_true, Bool.and_false, Bool.true_and, Bool.false_and, Bool.not_true, Bool.not_false, decide_true, decide_false, Nat.reduceAdd, Nat.reduceSub, Nat.zero_add, reduceIte, reduceCtorEq, sz0, sz1, sz2, sz3, sz4, sz5, sz6, sz7, sz8, sz9, sz10, sz11, sz12, sz13, sz14, sz15, sz16, seqOf, ev_callv, ev_lcall, keep_d, capsOf, c0]
      refine ow_cons ?_
      simp [evS, ev_v, ev_c, ev_g, ev_fn, ev_bin, ev_neg, ev_no, ev_cmp, ev_chain, ev_and, ev_or, ev_ite, ev_call, ev_kcall, ev_bi, ev_isi, ev_ix, ev_sl, ev_rev, ev_tup, ev_lst, ev_pop, ev_dk, ev_dle, ev_dpop, ev_dmk, evEach, evIt, evs, evF, ops, op1, op2, opA, tst, tsts, truD, Pv.load, look, S.at, S.put, mine, store, setO, appO, drO, mkO, sliceO, seqO, ofRo_ok, lcTurn, Out.calm, hideS, backS, ownFree, bind_ok, bind_bad, bind_exc, ow_ok, ow_bad, ow_exc, ofO, dsOf, lstD, tupD, binop, cmpop, deq, Pv.truthy, builtin, item, item.atI, slice, Pv.bound, Ex.gap, isTy, asInt, Option.map_some, Option.map_none, Option.bind_some, Option.bind_none, List.map_cons, List.map_nil, List.replicate, List.cons_append, List.nil_append, List.append_nil, List.getD_cons_zero, List.getD_cons_succ, List.getD_nil, List.set_cons_zero, List.set_cons_succ, List.set_nil, List.zip_cons_cons, List.zip_nil_left, List.zip_nil_right, List.foldl_cons, List.foldl_nil, List.length_cons, List.length_nil, List.any_cons, List.any_nil, List.all_cons, List.all_nil, if_true, if_false, ite_true, ite_false, Bool.false_eq_true, Bool.true_eq_false, Bool.or_false, Bool.or_true, Bool.and_true, Bool.and_false, Bool.true_and, Bool.false_and, Bool.not_true, Bool.not_false, decide_true, decide_false, Nat.reduceAdd, Nat.reduceSub, Nat.zero_add, reduceIte, reduceCtorEq, sz0, sz1, sz2, sz3, sz4, sz5, sz6, sz7, sz8, sz9, sz10, sz11, sz12, sz13, sz14, sz15, sz16, seqOf, ev_callv, ev_lcall, keep_d, capsOf, hU]
    rw [if_neg (by omega)] at hU
    simp [evS, ev_v, ev_c, ev_g, ev_fn, ev_bin, ev_neg, ev_no, ev_cmp, ev_chain, ev_and, ev_or, ev_ite, ev_call, ev_kcall, ev_bi, ev_isi, ev_ix, ev_sl, ev_rev, ev_tup, ev_lst, ev_pop, ev_dk, ev_dle, ev_dpop, ev_dmk, evEach, evIt, evs, evF, ops, op1, op2, opA, tst, tsts, truD, Pv.load, look, S.at, S.put, mine, store, setO, appO, drO, mkO, sliceO, seqO, ofRo_ok, lcTurn, Out.calm, hideS, backS, ownFree, bind_ok, bind_bad, bind_exc, ow_ok, ow_bad, ow_exc, ofO, dsOf, lstD, tupD, binop, cmpop, deq, Pv.truthy, builtin, item, item.atI, slice, Pv.bound, Ex.gap, isTy, asInt, Option.map_some, Option.map_none, Option.bind_some, Option.bind_none, List.map_cons, List.map_nil, List.replicate, List.cons_append, List.nil_append, List.append_nil, List.getD_cons_zero, List.getD_cons_succ, List.getD_nil, List.set_cons_zero, List.set_cons_succ, List.set_nil, List.zip_cons_cons, List.zip_nil_left, List.zip_nil_right, List.foldl_cons, List.foldl_nil, List.length_cons, List.length_nil, List.any_cons, List.any_nil, List.all_cons, List.all_nil, if_true, if_false, ite_true, ite_false, Bool.false_eq_true, Bool.true_eq_false, Bool.or_false, Bool.or_true, Bool.and_true, Bool.and_false, Bool.true_and, Bool.false_and, Bool.not_true, Bool.not_false, decide_true, decide_false, Nat.reduceAdd, Nat.reduceSub, Nat.zero_add, reduceIte, reduceCtorEq, sz0, sz1, sz2, sz3, sz4, sz5, sz6, sz7, sz8, sz9, sz10, sz11, sz12, sz13, sz14, sz15, sz16, seqOf, ev_callv, ev_lcall, keep_d, capsOf, c0]
    refine ow_nil ?_
    refine ow_cons (ow_ifs ?_)
    simp [evS, ev_v, ev_c, ev_g, ev_fn, ev_bin, ev_neg, ev_no, ev_cmp, ev_chain, ev_and, ev_or, ev_ite, ev_call, ev_kcall, ev_bi, ev_isi, ev_ix, ev_sl, ev_rev, ev_tup, ev_lst, ev_pop, ev_dk, ev_dle, ev_dpop, ev_dmk, evEach, evIt, evs, evF, ops, op1, op2, opA, tst, tsts, truD, Pv.load, look, S.at, S.put, mine, store, setO, appO, drO, mkO, sliceO, seqO, ofRo_ok, lcTurn, Out.calm, hideS, backS, ownFree, bind_ok, bind_bad, bind_exc, ow_ok, ow_bad, ow_exc, ofO, dsOf, lstD, tupD, binop, cmpop, deq, Pv.truthy, builtin, item, item.atI, slice, Pv.bound, Ex.gap, isTy, asInt, Option.map_some, Option.map_none, Option.bind_some, Option.bind_none, List.map_cons, List.map_nil, List.replicate, List.cons_append, List.nil_append, List.append_nil, List.getD_cons_zero, List.getD_cons_succ, List.getD_nil, List.set_cons_zero, List.set_cons_succ, List.set_nil, List.zip_cons_cons, List.zip_nil_left, List.zip_nil_right, List.foldl_cons, List.foldl_nil, List.length_cons, List.length_nil, List.any_cons, List.any_nil, List.all_cons, List.all_nil, if_true, if_false, ite_true, ite_false, Bool.false_eq_true, Bool.true_eq_false, Bool.or_false, Bool.or_true, Bool.and_true, Bool.and_false, Bool.true_and, Bool.false_and, Bool.not_true, Bool.not_false, decide_true, decide_false, Nat.reduceAdd, Nat.reduceSub, Nat.zero_add, reduceIte, reduceCtorEq, sz0, sz1, sz2, sz3, sz4, sz5, sz6, sz7, sz8, sz9, sz10, sz11, sz12, sz13, sz14, sz15, sz16, seqOf, ev_callv, ev_lcall, keep_d, capsOf]
    by_cases c1 : ov ≤ 0
    · rw [if_pos (by omega)] at hU
      simp [c1]
      refine ow_cons ?_
      simp [evS, ev_v, ev_c, ev_g, ev_fn, ev_bin, ev_neg, ev_no, ev_cmp, ev_chain, ev_and, ev_or, ev_ite, ev_call, ev_kcall, ev_bi, ev_isi, ev_ix, ev_sl, ev_rev, ev_tup, ev_lst, ev_pop, ev_dk, ev_dle, ev_dpop, ev_dmk, evEach, evIt, evs, evF, ops, op1, op2, opA, tst, tsts, truD, Pv.load, look, S.at, S.put, mine, store, setO, appO, drO, mkO, sliceO, seqO, ofRo_ok, lcTurn, Out.calm, hideS, backS, ownFree, bind_ok, bind_bad, bind_exc, ow_ok, ow_bad, ow_exc, ofO, dsOf, lstD, tupD, binop, cmpop, deq, Pv.truthy, builtin, item, item.atI, slice, Pv.bound, Ex.gap, isTy, asInt, Option.map_some, Option.map_none, Option.bind_some, Option.bind_none, List.map_cons, List.map_nil, List.replicate, List.cons_append, List.nil_append, List.append_nil, List.getD_cons_zero, List.getD_cons_succ, List.getD_nil, List.set_cons_zero, List.set_cons_succ, List.set_nil, List.zip_cons_cons, List.zip_nil_left, List.zip_nil_right, List.foldl_cons, List.foldl_nil, List.length_cons, List.length_nil, List.any_cons, List.any_nil, List.all_cons, List.all_nil, if_true, if_false, ite_true, ite_false, Bool.false_eq_true, Bool.true_eq_false, Bool.or_false, Bool.or_true, Bool.and_true, Bool.and_false, Bool.true_and, Bool.false_and, Bool.not_true, Bool.not_false, decide_true, decide_false, Nat.reduceAdd, Nat.reduceSub, Nat.zero_add, reduceIte, reduceCtorEq, sz0, sz1, sz2, sz3, sz4, sz5, sz6, sz7, sz8, sz9, sz10, sz11, sz12, sz13, sz14, sz15, sz16, seqOf, ev_callv, ev_lcall, keep_d, capsOf, hU, hD]
    rw [if_neg (by omega)] at hU
    simp [c1]
    refine ow_nil ?_
    have hO : ov = ((m * d - p : Nat) : Int) := by omega
    have hO0 : 0 < m * d - p := by omega
    have b2 : m * d - p ≤ 2 ^ 1300 := by omega
    have hD1 : D - 1 = ((d - 1 : Nat) : Int) := by omega
    have o2 : mulOk ov (D - 1) = true := mulOk_fit (fit_le 1300 hO b2 (by decide)) (fit_le 400 hD1 (by omega) (by decide))
    have hOD : ov * (D - 1) = (((m * d - p) * (d - 1) : Nat) : Int) := by rw [hO, hD1, Int.natCast_mul]
    have m0 : 0 < m := by omega
    refine ow_cons (ow_ifs ?_)
    simp [evS, ev_v, ev_c, ev_g, ev_fn, ev_bin, ev_neg, ev_no, ev_cmp, ev_chain, ev_and, ev_or, ev_ite, ev_call, ev_kcall, ev_bi, ev_isi, ev_ix, ev_sl, ev_rev, ev_tup, ev_lst, ev_pop, ev_dk, ev_dle, ev_dpop, ev_dmk, evEach, evIt, evs, evF, ops, op1, op2, opA, tst, tsts, truD, Pv.load, look, S.at, S.put, mine, store, setO, appO, drO, mkO, sliceO, seqO, ofRo_ok, lcTurn, Out.calm, hideS, backS, ownFree, bind_ok, bind_bad, bind_exc, ow_ok, ow_bad, ow_exc, ofO, dsOf, lstD, tupD, binop, cmpop, deq, Pv.truthy, builtin, item, item.atI, slice, Pv.bound, Ex.gap, isTy, asInt, Option.map_some, Option.map_none, Option.bind_some, Option.bind_none, List.map_cons, List.map_nil, List.replicate, List.cons_append, List.nil_append, List.append_nil, List.getD_cons_zero, List.getD_cons_succ, List.getD_nil, List.set_cons_zero, List.set_cons_succ, List.set_nil, List.zip_cons_cons, List.zip_nil_left, List.zip_nil_right, List.foldl_cons, List.foldl_nil, List.length_cons, List.length_nil, List.any_cons, List.any_nil, List.all_cons, List.all_nil, if_true, if_false, ite_true, ite_false, Bool.false_eq_true, Bool.true_eq_false, Bool.or_false, Bool.or_true, Bool.and_true, Bool.and_false, Bool.true_and, Bool.false_and, Bool.not_true, Bool.not_false, decide_true, decide_false, Nat.reduceAdd, Nat.reduceSub, Nat.zero_add, reduceIte, reduceCtorEq, sz0, sz1, sz2, sz3, sz4, sz5, sz6, sz7, sz8, sz9, sz10, sz11, sz12, sz13, sz14, sz15, sz16, seqOf, ev_callv, ev_lcall, keep_d, capsOf, rp, o2]
    by_cases c3 : P < ov * (D - 1)
    · rw [if_pos (by omega)] at hU
      have dM := divOk_fit (j := M) (by omega) (fit_le 900 hM h2 (by decide))
      have M0 : 0 < M := by omega
      have e : P / M + 1 = U := by
        rw [fdiv_natP hP hM rfl, hU, Int.natCast_add]; rfl
      simp [c3]
      refine ow_cons ?_
      simp [evS, ev_v, ev_c, ev_g, ev_fn, ev_bin, ev_neg, ev_no, ev_cmp, ev_chain, ev_and, ev_or, ev_ite, ev_call, ev_kcall, ev_bi, ev_isi, ev_ix, ev_sl, ev_rev, ev_tup, ev_lst, ev_pop, ev_dk, ev_dle, ev_dpop, ev_dmk, evEach, evIt, evs, evF, ops, op1, op2, opA, tst, tsts, truD, Pv.load, look, S.at, S.put, mine, store, setO, appO, drO, mkO, sliceO, seqO, ofRo_ok, lcTurn, Out.calm, hideS, backS, ownFree, bind_ok, bind_bad, bind_exc, ow_ok, ow_bad, ow_exc, ofO, dsOf, lstD, tupD, binop, cmpop, deq, Pv.truthy, builtin, item, item.atI, slice, Pv.bound, Ex.gap, isTy, asInt, Option.map_some, Option.map_none, Option.bind_some, Option.bind_none, List.map_cons, List.map_nil, List.replicate, List.cons_append, List.nil_append, List.append_nil, List.getD_cons_zero, List.getD_cons_succ, List.getD_nil, List.set_cons_zero, List.set_cons_succ, List.set_nil, List.zip_cons_cons, List.zip_nil_left, List.zip_nil_right, List.foldl_cons, List.foldl_nil, List.length_cons, List.length_nil, List.any_cons, List.any_nil, List.all_cons, List.all_nil, if_true, if_false, ite_true, ite_false, Bool.false_eq_true, Bool.true_eq_false, Bool.or_false, Bool.or_true, Bool.and_true, Bool.and_false, Bool.true_and, Bool.false_and, Bool.not_true, Bool.not_false, decide_true, decide_false, Nat.reduceAdd, Nat.reduceSub, Nat.zero_add, reduceIte, reduceCtorEq, sz0, sz1, sz2, sz3, sz4, sz5, sz6, sz7, sz8, sz9, sz10, sz11, sz12, sz13, sz14, sz15, sz16, seqOf, ev_callv, ev_lcall, keep_d, capsOf, rp, dM, fdiv_pos M0, e]
    · rw [if_neg (by omega)] at hU
      have dO := divOk_fit (j := ov) (by omega) (fit_le 1300 hO b2 (by decide))
      have O0 : 0 < ov := by omega
      have hDp : 0 < D := by omega
      obtain ⟨C, hC⟩ : ∃ C : Int, C = ((p / (m * d - p) + 1 : Nat) : Int) := ⟨_, rfl⟩
      have e : P / ov + 1 = C := by
        rw [fdiv_natP hP hO rfl, hC, Int.natCast_add]; rfl
      have e2 : C + (D - 1 - C) % D = U := by
        have hle : p / (m * d - p) + 1 ≤ d * (p / (m * d - p) + 1) := Nat.le_mul_of_pos_left _ hd
        rw [hU, Int.natCast_add, Int.natCast_emod, ← hC, hD]
        congr 1
        rw [Int.ofNat_sub (by omega), Int.natCast_add, Int.natCast_mul, Int.ofNat_sub (by omega), ← hC]
        rw [show ((d : Int) - ((1 : Nat) : Int) + (d : Int) * C - C) = (d : Int) - 1 - C + (d : Int) * C by omega, Int.add_mul_emod_self_left]
      simp [c3]
      refine ow_nil ?_
      refine ow_cons ?_
      simp [evS, ev_v, ev_c, ev_g, ev_fn, ev_bin, ev_neg, ev_no, ev_cmp, ev_chain, ev_and, ev_or, ev_ite, ev_call, ev_kcall, ev_bi, ev_isi, ev_ix, ev_sl, ev_rev, ev_tup, ev_lst, ev_pop, ev_dk, ev_dle, ev_dpop, ev_dmk, evEach, evIt, evs, evF, ops, op1, op2, opA, tst, tsts, truD, Pv.load, look, S.at, S.put, mine, store, setO, appO, drO, mkO, sliceO, seqO, ofRo_ok, lcTurn, Out.calm, hideS, backS, ownFree, bind_ok, bind_bad, bind_exc, ow_ok, ow_bad, ow_exc, ofO, dsOf, lstD, tupD, binop, cmpop, deq, Pv.truthy, builtin, item, item.atI, slice, Pv.bound, Ex.gap, isTy, asInt, Option.map_some, Option.map_none, Option.bind_some, Option.bind_none, List.map_cons, List.map_nil, List.replicate, List.cons_append, List.nil_append, List.append_nil, List.getD_cons_zero, List.getD_cons_succ, List.getD_nil, List.set_cons_zero, List.set_cons_succ, List.set_nil, List.zip_cons_cons, List.zip_nil_left, List.zip_nil_right, List.foldl_cons, List.foldl_nil, List.length_cons, List.length_nil, List.any_cons, List.any_nil, List.all_cons, List.all_nil, if_true, if_false, ite_true, ite_false, Bool.false_eq_true, Bool.true_eq_false, Bool.or_false, Bool.or_true, Bool.and_true, Bool.and_false, Bool.true_and, Bool.false_and, Bool.not_true, Bool.not_false, decide_true, decide_false, Nat.reduceAdd, Nat.reduceSub, Nat.zero_add, reduceIte, reduceCtorEq, sz0, sz1, sz2, sz3, sz4, sz5, sz6, sz7, sz8, sz9, sz10, sz11, sz12, sz13, sz14, sz15, sz16, seqOf, ev_callv, ev_lcall, keep_d, capsOf, rp, dO, fdiv_pos O0, e]
      refine ow_cons ?_
      simp [evS, ev_v, ev_c, ev_g, ev_fn, ev_bin, ev_neg, ev_no, ev_cmp, ev_chain, ev_and, ev_or, ev_ite, ev_call, ev_kcall, ev_bi, ev_isi, ev_ix, ev_sl, ev_rev, ev_tup, ev_lst, ev_pop, ev_dk, ev_dle, ev_dpop, ev_dmk, evEach, evIt, evs, evF, ops, op1, op2, opA, tst, tsts, truD, Pv.load, look, S.at, S.put, mine, store, setO, appO, drO, mkO, sliceO, seqO, ofRo_ok, lcTurn, Out.calm, hideS, backS, ownFree, bind_ok, bind_bad, bind_exc, ow_ok, ow_bad, ow_exc, ofO, dsOf, lstD, tupD, binop, cmpop, deq, Pv.truthy, builtin, item, item.atI, slice, Pv.bound, Ex.gap, isTy, asInt, Option.map_some, Option.map_none, Option.bind_some, Option.bind_none, List.map_cons, List.map_nil, List.replicate, List.cons_append, List.nil_append, List.append_nil, List.getD_cons_zero, List.getD_cons_succ, List.getD_nil, List.set_cons_zero, List.set_cons_succ, List.set_nil, List.zip_cons_cons, List.zip_nil_left, List.zip_nil_right, List.foldl_cons, List.foldl_nil, List.length_cons, List.length_nil, List.any_cons, List.any_nil, List.all_cons, List.all_nil, if_true, if_false, ite_true, ite_false, Bool.false_eq_true, Bool.true_eq_false, Bool.or_false, Bool.or_true, Bool.and_true, Bool.and_false, Bool.true_and, Bool.false_and, Bool.not_true, Bool.not_false, decide_true, decide_false, Nat.reduceAdd, Nat.reduceSub, Nat.zero_add, reduceIte, reduceCtorEq, sz0, sz1, sz2, sz3, sz4, sz5, sz6, sz7, sz8, sz9, sz10, sz11, sz12, sz13, sz14, sz15, sz16, seqOf, ev_callv, ev_lcall, keep_d, capsOf, fmod_pos hDp, show D ≠ 0 by omega, e2]
  obtain ⟨a, fr, dr', e, rfl, rfl, rfl⟩ := rw_eq key
  exact e
theorem run_fub (d m r : Nat) (D M R U : Int) (hD : D = (d : Int)) (hM : M = (m : Int)) (hR : R = (r : Int)) (hU : U = (Dv.unlikeB d m (2 ^ r) : Int)) (hd : 0 < d) (h1 : d ≤ 2 ^ 400) (h2 : m ≤ 2 ^ 900) (h3 : r ≤ 900) :
    run G T (k + 6) 11 [.d (.int D), .d (.int M), .d (.int R)] dr = .ok (.d (.int U)) false dr := by
  have n1 := run_needt k dr d m r D M R hD hM hR hd h1 h2 h3
  have n2 := run_unlikeB (k + 3) dr d m r D M R U hD hM hR hU hd h1 h2 h3
  clear hD hM hR hU
  rw [run_fn' (f := 11) (np := 3) (nn := 3) rfl rfl]
  simp [evS, ev_v, ev_c, ev_g, ev_fn, ev_bin, ev_neg, ev_no, ev_cmp, ev_chain, ev_and, ev_or, ev_ite, ev_call, ev_kcall, ev_bi, ev_isi, ev_ix, ev_sl, ev_rev, ev_tup, ev_lst, ev_pop, ev_dk, ev_dle, ev_dpop, ev_dmk, evEach, evIt, evs, evF, ops, op1, op2, opA, tst, tsts, truD, Pv.load, look, S.at, S.put, mine, store, setO, appO, drO, mkO, sliceO, seqO, ofRo_ok, lcTurn, Out.calm, hideS, backS, ownFree, bind_ok, bind_bad, bind_exc, ow_ok, ow_bad, ow_exc, ofO, dsOf, lstD, tupD, binop, cmpop, deq, Pv.truthy, builtin, item, item.atI, slice, Pv.bound, Ex.gap, isTy, asInt, Option.map_some, Option.map_none, Option.bind_some, Option.bind_none, List.map_cons, List.map_nil, List.replicate, List.cons_append, List.nil_append, List.append_nil, List.getD_cons_zero, List.getD_cons_succ, List.getD_nil, List.set_cons_zero, List.set_cons_succ, List.set_nil, List.zip_cons_cons, List.zip_nil_left, List.zip_nil_right, List.foldl_cons, List.foldl_nil, List.length_cons, List.length_nil, List.any_cons, List.any_nil, List.all_cons, List.all_nil, if_true, if_false, ite_true, ite_false, Bool.false_eq_true, Bool.true_eq_false, Bool.or_false, Bool.or_true, Bool.and_true, Bool.and_false, Bool.true_and, Bool.false_and, Bool.not_true, Bool.not_false, decide_true, decide_false, Nat.reduceAdd, Nat.reduceSub, Nat.zero_add, reduceIte, reduceCtorEq, sz0, sz1, sz2, sz3, sz4, sz5, sz6, sz7, sz8, sz9, sz10, sz11, sz12, sz13, sz14, sz15, sz16, seqOf, ev_callv, ev_lcall, keep_d, capsOf, evB, retOf, n1, n2]
/-- v is the width less one -/
theorem run_doesS (v d m r : Nat) (W D M R : Int) (hW : W - 1 = (v : Int)) (hD : D = (d : Int)) (hM : M = (m : Int)) (hR : R = (r : Int)) (h0 : v ≤ 900) (hd : 0 < d) (h1 : d ≤ 2 ^ 400) (h2 : m ≤ 2 ^ 900) (h3 : r ≤ 900) :
    run G T (k + 3) 12 [.d (.int W), .d (.int D), .d (.int M), .d (.int R)] dr = .ok (.d (.bool (Dv.doesS (2 ^ v) d m (2 ^ r)))) false dr := by
  have ru := run_unlike k dr d m r D M R hD hM hR hd h1 h2 h3
  obtain ⟨U2, hU2⟩ : ∃ U2 : Int, U2 = (Dv.unlikeB d m (2 ^ r) : Int) := ⟨_, rfl⟩
  have rb := run_unlikeB k dr d m r D M R U2 hD hM hR hU2 hd h1 h2 h3
  obtain ⟨Q, hQ⟩ : ∃ Q : Int, Q = ((2 ^ v : Nat) : Int) := ⟨_, rfl⟩
  have rp := run_pow (k + 1) dr v (W - 1) Q hW hQ (by omega)
  unfold Dv.doesS Dv.does
  generalize 2 ^ v = q at hQ
  generalize 2 ^ r = p at ru rb hU2 ⊢
  have hz2 : decide (q < Dv.unlikeB d m p) = decide (Q < U2) := by
    have : (q < Dv.unlikeB d m p) = (Q < U2) := propext (by omega)
    simp only [this]
  rw [hz2]
  clear hW hD hM hR hz2 hU2
  cases e : Dv.unlike d m p with
  | none =>
    rw [e] at ru
    simp only [optD] at ru
    rw [run_fn' (f := 12) (np := 4) (nn := 6) rfl rfl]
    simp [evS, ev_v, ev_c, ev_g, ev_fn, ev_bin, ev_neg, ev_no, ev_cmp, ev_chain, ev_and, ev_or, ev_ite, ev_call, ev_kcall, ev_bi, ev_isi, ev_ix, ev_sl, ev_rev, ev_tup, ev_lst, ev_pop, ev_dk, ev_dle, ev_dpop, ev_dmk, evEach, evIt, evs, evF, ops, op1, op2, opA, tst, tsts, truD, Pv.load, look, S.at, S.put, mine, store, setO, appO, drO, mkO, sliceO, seqO, ofRo_ok, lcTurn, Out.calm, hideS, backS, ownFree, bind_ok, bind_bad, bind_exc, ow_ok, ow_bad, ow_exc, ofO, dsOf, lstD, tupD, binop, cmpop, deq, Pv.truthy, builtin, item, item.atI, slice, Pv.bound, Ex.gap, isTy, asInt, Option.map_some, Option.map_none, Option.bind_some, Option.bind_none, List.map_cons, List.map_nil, List.replicate, List.cons_append, List.nil_append, List.append_nil, List.getD_cons_zero, List.getD_cons_succ, List.getD_nil, List.set_cons_zero, List.set_cons_succ, List.set_nil, List.zip_cons_cons, List.zip_nil_left, List.zip_nil_right, List.foldl_cons, List.foldl_nil, List.length_cons, List.length_nil, List.any_cons, List.any_nil, List.all_cons, List.all_nil, if_true, if_false, ite_true, ite_false, Bool.false_eq_true, Bool.true_eq_false, Bool.or_false, Bool.or_true, Bool.and_true, Bool.and_false, Bool.true_and, Bool.false_and, Bool.not_true, Bool.not_false, decide_true, decide_false, Nat.reduceAdd, Nat.reduceSub, Nat.zero_add, reduceIte, reduceCtorEq, sz0, sz1, sz2, sz3, sz4, sz5, sz6, sz7, sz8, sz9, sz10, sz11, sz12, sz13, sz14, sz15, sz16, seqOf, ev_callv, ev_lcall, keep_d, capsOf, evB, retOf, ru, rb, rp]
  | some u =>
    rw [e] at ru
    simp only [optD] at ru
    obtain ⟨U, hU⟩ : ∃ U : Int, U = (u : Int) := ⟨_, rfl⟩
    have hz : decide (q ≤ u) = decide (Q ≤ U) := by
      have : (q ≤ u) = (Q ≤ U) := propext (by omega)
      simp only [this]
    rw [← hU] at ru
    simp only [hz]
    clear hz hU hQ
    rw [run_fn' (f := 12) (np := 4) (nn := 6) rfl rfl]
    by_cases c : Q ≤ U <;> simp [evS, ev_v, ev_c, ev_g, ev_fn, ev_bin, ev_neg, ev_no, ev_cmp, ev_chain, ev_and, ev_or, ev_ite, ev_call, ev_kcall, ev_bi, ev_isi, ev_ix, ev_sl, ev_rev, ev_tup, ev_lst, ev_pop, ev_dk, ev_dle, ev_dpop, ev_dmk, evEach, evIt, evs, evF, ops, op1, op2, opA, tst, tsts, truD, Pv.load, look, S.at, S.put, mine, store, setO, appO, drO, mkO, sliceO, seqO, ofRo_ok, lcTurn, Out.calm, hideS, backS, ownFree, bind_ok, bind_bad, bind_exc, ow_ok, ow_bad, ow_exc, ofO, dsOf, lstD, tupD, binop, cmpop, deq, Pv.truthy, builtin, item, item.atI, slice, Pv.bound, Ex.gap, isTy, asInt, Option.map_some, Option.map_none, Option.bind_some, Option.bind_none, List.map_cons, List.map_nil, List.replicate, List.cons_append, List.nil_append, List.append_nil, List.getD_cons_zero, List.getD_cons_succ, List.getD_nil, List.set_cons_zero, List.set_cons_succ, List.set_nil, List.zip_cons_cons, List.zip_nil_left, List.zip_nil_right, List.foldl_cons, List.foldl_nil, List.length_cons, List.length_nil, List.any_cons, List.any_nil, List.all_cons, List.all_nil, if_true, if_false, ite_true, ite_false, Bool.false_eq_true, Bool.true_eq_false, Bool.or_false, Bool.or_true, Bool.and_true, Bool.and_false, Bool.true_and, Bool.false_and, Bool.not_true, Bool.not_false, decide_true, decide_false, Nat.reduceAdd, Nat.reduceSub, Nat.zero_add, reduceIte, reduceCtorEq, sz0, sz1, sz2, sz3, sz4, sz5, sz6, sz7, sz8, sz9, sz10, sz11, sz12, sz13, sz14, sz15, sz16, seqOf, ev_callv, ev_lcall, keep_d, capsOf, evB, retOf, ru, rb, rp, c]
theorem run_issm (v d m r : Nat) (W D M R : Int) (hW : W - 1 = (v : Int)) (hD : D = (d : Int)) (hM : M = (m : Int)) (hR : R = (r : Int)) (w1 : v < 400) (hd : 0 < d) (h1 : d ≤ 2 ^ 400) (h2 : m ≤ 2 ^ 900) (h3 : r ≤ 900) :
    run G T (k + 6) 13 [.d (.int W), .d (.int D), .d (.int M), .d (.int R)] dr = .ok (.d (.bool (Dv.doesS (2 ^ v) d m (2 ^ r)))) false dr := by
  have n0 := run_needw (k + 2) dr W (by omega) (by omega)
  have n1 := run_needt k dr d m r D M R hD hM hR hd h1 h2 h3
  have n2 := run_doesS (k + 2) dr v d m r W D M R hW hD hM hR (by omega) hd h1 h2 h3
  generalize Dv.doesS (2 ^ v) d m (2 ^ r) = b at n2 ⊢
  clear hW hD hM hR
  rw [run_fn' (f := 13) (np := 4) (nn := 4) rfl rfl]
  simp [evS, ev_v, ev_c, ev_g, ev_fn, ev_bin, ev_neg, ev_no, ev_cmp, ev_chain, ev_and, ev_or, ev_ite, ev_call, ev_kcall, ev_bi, ev_isi, ev_ix, ev_sl, ev_rev, ev_tup, ev_lst, ev_pop, ev_dk, ev_dle, ev_dpop, ev_dmk, evEach, evIt, evs, evF, ops, op1, op2, opA, tst, tsts, truD, Pv.load, look, S.at, S.put, mine, store, setO, appO, drO, mkO, sliceO, seqO, ofRo_ok, lcTurn, Out.calm, hideS, backS, ownFree, bind_ok, bind_bad, bind_exc, ow_ok, ow_bad, ow_exc, ofO, dsOf, lstD, tupD, binop, cmpop, deq, Pv.truthy, builtin, item, item.atI, slice, Pv.bound, Ex.gap, isTy, asInt, Option.map_some, Option.map_none, Option.bind_some, Option.bind_none, List.map_cons, List.map_nil, List.replicate, List.cons_append, List.nil_append, List.append_nil, List.getD_cons_zero, List.getD_cons_succ, List.getD_nil, List.set_cons_zero, List.set_cons_succ, List.set_nil, List.zip_cons_cons, List.zip_nil_left, List.zip_nil_right, List.foldl_cons, List.foldl_nil, List.length_cons, List.length_nil, List.any_cons, List.any_nil, List.all_cons, List.all_nil, if_true, if_false, ite_true, ite_false, Bool.false_eq_true, Bool.true_eq_false, Bool.or_false, Bool.or_true, Bool.and_true, Bool.and_false, Bool.true_and, Bool.false_and, Bool.not_true, Bool.not_false, decide_true, decide_false, Nat.reduceAdd, Nat.reduceSub, Nat.zero_add, reduceIte, reduceCtorEq, sz0, sz1, sz2, sz3, sz4, sz5, sz6, sz7, sz8, sz9, sz10, sz11, sz12, sz13, sz14, sz15, sz16, seqOf, ev_callv, ev_lcall, keep_d, capsOf, evB, retOf, n0, n1, n2]
inductive ISm (v d : Nat) (W D : Int) (dr : Option Dr) (m : Nat) (s : S) : Prop
  | mk (r : Nat) (R : Int) (hR : R = (r : Int)) (hm : m + r = 900) (hr : r ≤ Dv.dropS v d) (e : s = ⟨[.va (.d (.int W)), .va (.d (.int D)), .va (.d (.int R))], dr⟩)
theorem run_sm (v d : Nat) (W D M R : Int) (hW : W - 1 = (v : Int)) (hD : D = (d : Int)) (hM : M = ((Dv.bestS v d).1 : Int)) (hR : R = ((Dv.bestS v d).2 : Int)) (h0 : v < 400) (hd : 0 < d) (h1 : d ≤ 2 ^ 400) :
    run G T (k + 5) 14 [.d (.int W), .d (.int D)] dr = .ok (.d (.tuple [.int M, .int R])) false dr := by
  obtain ⟨Q, hQ⟩ : ∃ Q : Int, Q = ((2 ^ v : Nat) : Int) := ⟨_, rfl⟩
  have rp := run_pow (k + 3) dr v (W - 1) Q hW hQ (by omega)
  have n0 := run_needw (k + 1) dr W (by omega) (by omega)
  have n1 := run_needd k dr D d hD hd h1
  have D0 : 0 < D := by omega
  have dD := divOk_fit D0 (fit_le 400 hD h1 (by decide))
  have key : Rw (run G T (k + 5) 14 [.d (.int W), .d (.int D)] dr) fun a fr dr' => a = .d (.tuple [.int M, .int R]) ∧ fr = false ∧ dr' = dr := by
    rw [run_fn' (f := 14) (np := 2) (nn := 3) rfl rfl]
    refine rw_ret ?_
    refine ow_cons ?_
    simp [evS, ev_v, ev_c, ev_g, ev_fn, ev_bin, ev_neg, ev_no, ev_cmp, ev_chain, ev_and, ev_or, ev_ite, ev_call, ev_kcall, ev_bi, ev_isi, ev_ix, ev_sl, ev_rev, ev_tup, ev_lst, ev_pop, ev_dk, ev_dle, ev_dpop, ev_dmk, evEach, evIt, evs, evF, ops, op1, op2, opA, tst, tsts, truD, Pv.load, look, S.at, S.put, mine, store, setO, appO, drO, mkO, sliceO, seqO, ofRo_ok, lcTurn, Out.calm, hideS, backS, ownFree, bind_ok, bind_bad, bind_exc, ow_ok, ow_bad, ow_exc, ofO, dsOf, lstD, tupD, binop, cmpop, deq, Pv.truthy, builtin, item, item.atI, slice, Pv.bound, Ex.gap, isTy, asInt, Option.map_some, Option.map_none, Option.bind_some, Option.bind_none, List.map_cons, List.map_nil, List.replicate, List.cons_append, List.nil_append, List.append_nil, List.getD_cons_zero, List.getD_cons_succ, List.getD_nil, List.set_cons_zero, List.set_cons_succ, List.set_nil, List.zip_cons_cons, List.zip_nil_left, List.zip_nil_right, List.foldl_cons, List.foldl_nil, List.length_cons, List.length_nil, List.any_cons, List.any_nil, List.all_cons, List.all_nil, if_true, if_false, ite_true, ite_false, Bool.false_eq_true, Bool.true_eq_false, Bool.or_false, Bool.or_true, Bool.and_true, Bool.and_false, Bool.true_and, Bool.false_and, Bool.not_true, Bool.not_false, decide_true, decide_false, Nat.reduceAdd, Nat.reduceSub, Nat.zero_add, reduceIte, reduceCtorEq, sz0, sz1, sz2, sz3, sz4, sz5, sz6, sz7, sz8, sz9, sz10, sz11, sz12, sz13, sz14, sz15, sz16, seqOf, ev_callv, ev_lcall, keep_d, capsOf, n0]
    refine ow_cons ?_
    simp [evS, ev_v, ev_c, ev_g, ev_fn, ev_bin, ev_neg, ev_no, ev_cmp, ev_chain, ev_and, ev_or, ev_ite, ev_call, ev_kcall, ev_bi, ev_isi, ev_ix, ev_sl, ev_rev, ev_tup, ev_lst, ev_pop, ev_dk, ev_dle, ev_dpop, ev_dmk, evEach, evIt, evs, evF, ops, op1, op2, opA, tst, tsts, truD, Pv.load, look, S.at, S.put, mine, store, setO, appO, drO, mkO, sliceO, seqO, ofRo_ok, lcTurn, Out.calm, hideS, backS, ownFree, bind_ok, bind_bad, bind_exc, ow_ok, ow_bad, ow_exc, ofO, dsOf, lstD, tupD, binop, cmpop, deq, Pv.truthy, builtin, item, item.atI, slice, Pv.bound, Ex.gap, isTy, asInt, Option.map_some, Option.map_none, Option.bind_some, Option.bind_none, List.map_cons, List.map_nil, List.replicate, List.cons_append, List.nil_append, List.append_nil, List.getD_cons_zero, List.getD_cons_succ, List.getD_nil, List.set_cons_zero, List.set_cons_succ, List.set_nil, List.zip_cons_cons, List.zip_nil_left, List.zip_nil_right, List.foldl_cons, List.foldl_nil, List.length_cons, List.length_nil, List.any_cons, List.any_nil, List.all_cons, List.all_nil, if_true, if_false, ite_true, ite_false, Bool.false_eq_true, Bool.true_eq_false, Bool.or_false, Bool.or_true, Bool.and_true, Bool.and_false, Bool.true_and, Bool.false_and, Bool.not_true, Bool.not_false, decide_true, decide_false, Nat.reduceAdd, Nat.reduceSub, Nat.zero_add, reduceIte, reduceCtorEq, sz0, sz1, sz2, sz3, sz4, sz5, sz6, sz7, sz8, sz9, sz10, sz11, sz12, sz13, sz14, sz15, sz16, seqOf, ev_callv, ev_lcall, keep_d, capsOf, n1]
    refine ow_cons (ow_ifs ?_)
    by_cases c : 2 ^ v < d
    · have hb : Dv.bestS v d = (1, v) := by unfold Dv.bestS; rw [if_pos c]
      have eM : M = 1 := by rw [hM, hb]; rfl
      have eR : W - 1 = R := by rw [hR, hb]; exact hW
      have hlt : Q < D := by omega
      simp [evS, ev_v, ev_c, ev_g, ev_fn, ev_bin, ev_neg, ev_no, ev_cmp, ev_chain, ev_and, ev_or, ev_ite, ev_call, ev_kcall, ev_bi, ev_isi, ev_ix, ev_sl, ev_rev, ev_tup, ev_lst, ev_pop, ev_dk, ev_dle, ev_dpop, ev_dmk, evEach, evIt, evs, evF, ops, op1, op2, opA, tst, tsts, truD, Pv.load, look, S.at, S.put, mine, store, setO, appO, drO, mkO, sliceO, seqO, ofRo_ok, lcTurn, Out.calm, hideS, backS, ownFree, bind_ok, bind_bad, bind_exc, ow_ok, ow_bad, ow_exc, ofO, dsOf, lstD, tupD, binop, cmpop, deq, Pv.truthy, builtin, item, item.atI, slice, Pv.bound, Ex.gap, isTy, asInt, Option.map_some, Option.map_none, Option.bind_some, Option.bind_none, List.map_cons, List.map_nil, List.replicate, List.cons_append, List.nil_append, List.append_nil, List.getD_cons_zero, List.getD_cons_succ, List.getD_nil, List.set_cons_zero, List.set_cons_succ, List.set_nil, List.zip_cons_cons, List.zip_nil_left, List.zip_nil_right, List.foldl_cons, List.foldl_nil, List.length_cons, List.length_nil, List.any_cons, List.any_nil, List.all_cons, List.all_nil, if_true, if_false, ite_true, ite_false, Bool.false_eq_true, Bool.true_eq_false, Bool.or_false, Bool.or_true, Bool.and_true, Bool.and_false, Bool.true_and, Bool.false_and, Bool.not_true, Bool.not_false, decide_true, decide_false, Nat.reduceAdd, Nat.reduceSub, Nat.zero_add, reduceIte, reduceCtorEq, sz0, sz1, sz2, sz3, sz4, sz5, sz6, sz7, sz8, sz9, sz10, sz11, sz12, sz13, sz14, sz15, sz16, seqOf, ev_callv, ev_lcall, keep_d, capsOf, rp, hlt]
      refine ow_cons ?_
      simp [evS, ev_v, ev_c, ev_g, ev_fn, ev_bin, ev_neg, ev_no, ev_cmp, ev_chain, ev_and, ev_or, ev_ite, ev_call, ev_kcall, ev_bi, ev_isi, ev_ix, ev_sl, ev_rev, ev_tup, ev_lst, ev_pop, ev_dk, ev_dle, ev_dpop, ev_dmk, evEach, evIt, evs, evF, ops, op1, op2, opA, tst, tsts, truD, Pv.load, look, S.at, S.put, mine, store, setO, appO, drO, mkO, sliceO, seqO, ofRo_ok, lcTurn, Out.calm, hideS, backS, ownFree, bind_ok, bind_bad, bind_exc, ow_ok, ow_bad, ow_exc, ofO, dsOf, lstD, tupD, binop, cmpop, deq, Pv.truthy, builtin, item, item.atI, slice, Pv.bound, Ex.gap, isTy, asInt, Option.map_some, Option.map_none, Option.bind_some, Option.bind_none, List.map_cons, List.map_nil, List.replicate, List.cons_append, List.nil_append, List.append_nil, List.getD_cons_zero, List.getD_cons_succ, List.getD_nil, List.set_cons_zero, List.set_cons_succ, List.set_nil, List.zip_cons_cons, List.zip_nil_left, List.zip_nil_right, List.foldl_cons, List.foldl_nil, List.length_cons, List.length_nil, List.any_cons, List.any_nil, List.all_cons, List.all_nil, if_true, if_false, ite_true, ite_false, Bool.false_eq_true, Bool.true_eq_false, Bool.or_false, Bool.or_true, Bool.and_true, Bool.and_false, Bool.true_and, Bool.false_and, Bool.not_true, Bool.not_false, decide_true, decide_false, Nat.reduceAdd, Nat.reduceSub, Nat.zero_add, reduceIte, reduceCtorEq, sz0, sz1, sz2, sz3, sz4, sz5, sz6, sz7, sz8, sz9, sz10, sz11, sz12, sz13, sz14, sz15, sz16, seqOf, ev_callv, ev_lcall, keep_d, capsOf, eM, eR]
    · have ok := Dv.bestS_ok hd (show d ≤ 2 ^ v by omega) (by omega)
      have hlt : ¬ Q < D := by omega
      simp [evS, ev_v, ev_c, ev_g, ev_fn, ev_bin, ev_neg, ev_no, ev_cmp, ev_chain, ev_and, ev_or, ev_ite, ev_call, ev_kcall, ev_bi, ev_isi, ev_ix, ev_sl, ev_rev, ev_tup, ev_lst, ev_pop, ev_dk, ev_dle, ev_dpop, ev_dmk, evEach, evIt, evs, evF, ops, op1, op2, opA, tst, tsts, truD, Pv.load, look, S.at, S.put, mine, store, setO, appO, drO, mkO, sliceO, seqO, ofRo_ok, lcTurn, Out.calm, hideS, backS, ownFree, bind_ok, bind_bad, bind_exc, ow_ok, ow_bad, ow_exc, ofO, dsOf, lstD, tupD, binop, cmpop, deq, Pv.truthy, builtin, item, item.atI, slice, Pv.bound, Ex.gap, isTy, asInt, Option.map_some, Option.map_none, Option.bind_some, Option.bind_none, List.map_cons, List.map_nil, List.replicate, List.cons_append, List.nil_append, List.append_nil, List.getD_cons_zero, List.getD_cons_succ, List.getD_nil, List.set_cons_zero, List.set_cons_succ, List.set_nil, List.zip_cons_cons, List.zip_nil_left, List.zip_nil_right, List.foldl_cons, List.foldl_nil, List.length_cons, List.length_nil, List.any_cons, List.any_nil, List.all_cons, List.all_nil, if_true, if_false, ite_true, ite_false, Bool.false_eq_true, Bool.true_eq_false, Bool.or_false, Bool.or_true, Bool.and_true, Bool.and_false, Bool.true_and, Bool.false_and, Bool.not_true, Bool.not_false, decide_true, decide_false, Nat.reduceAdd, Nat.reduceSub, Nat.zero_add, reduceIte, reduceCtorEq, sz0, sz1, sz2, sz3, sz4, sz5, sz6, sz7, sz8, sz9, sz10, sz11, sz12, sz13, sz14, sz15, sz16, seqOf, ev_callv, ev_lcall, keep_d, capsOf, rp, hlt]
      refine ow_nil ?_
      refine ow_cons ?_
      simp [evS, ev_v, ev_c, ev_g, ev_fn, ev_bin, ev_neg, ev_no, ev_cmp, ev_chain, ev_and, ev_or, ev_ite, ev_call, ev_kcall, ev_bi, ev_isi, ev_ix, ev_sl, ev_rev, ev_tup, ev_lst, ev_pop, ev_dk, ev_dle, ev_dpop, ev_dmk, evEach, evIt, evs, evF, ops, op1, op2, opA, tst, tsts, truD, Pv.load, look, S.at, S.put, mine, store, setO, appO, drO, mkO, sliceO, seqO, ofRo_ok, lcTurn, Out.calm, hideS, backS, ownFree, bind_ok, bind_bad, bind_exc, ow_ok, ow_bad, ow_exc, ofO, dsOf, lstD, tupD, binop, cmpop, deq, Pv.truthy, builtin, item, item.atI, slice, Pv.bound, Ex.gap, isTy, asInt, Option.map_some, Option.map_none, Option.bind_some, Option.bind_none, List.map_cons, List.map_nil, List.replicate, List.cons_append, List.nil_append, List.append_nil, List.getD_cons_zero, List.getD_cons_succ, List.getD_nil, List.set_cons_zero, List.set_cons_succ, List.set_nil, List.zip_cons_cons, List.zip_nil_left, List.zip_nil_right, List.foldl_cons, List.foldl_nil, List.length_cons, List.length_nil, List.any_cons, List.any_nil, List.all_cons, List.all_nil, if_true, if_false, ite_true, ite_false, Bool.false_eq_true, Bool.true_eq_false, Bool.or_false, Bool.or_true, Bool.and_true, Bool.and_false, Bool.true_and, Bool.false_and, Bool.not_true, Bool.not_false, decide_true, decide_false, Nat.reduceAdd, Nat.reduceSub, Nat.zero_add, reduceIte, reduceCtorEq, sz0, sz1, sz2, sz3, sz4, sz5, sz6, sz7, sz8, sz9, sz10, sz11, sz12, sz13, sz14, sz15, sz16, seqOf, ev_callv, ev_lcall, keep_d, capsOf]
      refine ow_cons ?_
      refine ow_loop (ISm v d W D dr) 900 (by decide) (.mk 0 0 rfl rfl (Nat.zero_le _) rfl) ?_
      rintro m s ⟨r, R', hR', hm, hr, rfl⟩
      have c8 := ok.c
      have hr9 : r ≤ 800 := by omega
      obtain ⟨P, hP⟩ : ∃ P : Int, P = ((2 ^ r : Nat) : Int) := ⟨_, rfl⟩
      have rp2 := run_pow (k + 3) dr r R' P hR' hP (by omega)
      obtain ⟨C, hC⟩ : ∃ C : Int, C = ((2 ^ r / d + 1 : Nat) : Int) := ⟨_, rfl⟩
      have eC : P / D + 1 = C := by rw [fdiv_natP hP hD rfl, hC, Int.natCast_add]; rfl
      have hc : 2 ^ r / d + 1 ≤ 2 ^ 900 := by
        have a1 := Nat.div_le_self (2 ^ r) d
        have a2 : 2 ^ r ≤ 2 ^ 800 := pow_le_pow hr9
        have a3 : 2 ^ 800 < 2 ^ 900 := Nat.pow_lt_pow_right (by decide) (by decide)
        omega
      have rs := run_doesS (k + 1) dr v d (2 ^ r / d + 1) r W D C R' hW hD hC hR' (by omega) hd h1 hc (by omega)
      have hat : Dv.doesS (2 ^ v) d (2 ^ r / d + 1) (2 ^ r) = Dv.atS (2 ^ v) d r := rfl
      rw [hat] at rs
      by_cases hx : Dv.atS (2 ^ v) d r = true
      · have hrr : r = Dv.dropS v d := by
          refine Nat.le_antisymm hr (Nat.le_of_not_lt fun hl => ?_)
          have := ok.e r hl
          rw [hx] at this; cases this
        have eM : C = M := by rw [hC, hM, ok.a, hrr]
        have eR : R' = R := by rw [hR', hR, ok.a, hrr]
        rw [hx, eM, eR] at rs
        rw [eR] at rp2
        rw [eM] at eC
        rw [eR]
        clear hP hC hR' hR hM hW hD hQ
        simp [evS, ev_v, ev_c, ev_g, ev_fn, ev_bin, ev_neg, ev_no, ev_cmp, ev_chain, ev_and, ev_or, ev_ite, ev_call, ev_kcall, ev_bi, ev_isi, ev_ix, ev_sl, ev_rev, ev_tup, ev_lst, ev_pop, ev_dk, ev_dle, ev_dpop, ev_dmk, evEach, evIt, evs, evF, ops, op1, op2, opA, tst, tsts, truD, Pv.load, look, S.at, S.put, mine, store, setO, appO, drO, mkO, sliceO, seqO, ofRo_ok, lcTurn, Out.calm, hideS, backS, ownFree, bind_ok, bind_bad, bind_exc, ow_ok, ow_bad, ow_exc, ofO, dsOf, lstD, tupD, binop, cmpop, deq, Pv.truthy, builtin, item, item.atI, slice, Pv.bound, Ex.gap, isTy, asInt, Option.map_some, Option.map_none, Option.bind_some, Option.bind_none, List.map_cons, List.map_nil, List.replicate, List.cons_append, List.nil_append, List.append_nil, List.getD_cons_zero, List.getD_cons_succ, List.getD_nil, List.set_cons_zero, List.set_cons_succ, List.set_nil, List.zip_cons_cons, List.zip_nil_left, List.zip_nil_right, List.foldl_cons, List.foldl_nil, List.length_cons, List.length_nil, List.any_cons, List.any_nil, List.all_cons, List.all_nil, if_true, if_false, ite_true, ite_false, Bool.false_eq_true, Bool.true_eq_false, Bool.or_false, Bool.or_true, Bool.and_true, Bool.and_false, Bool.true_and, Bool.false_and, Bool.not_true, Bool.not_false, decide_true, decide_false, Nat.reduceAdd, Nat.reduceSub, Nat.zero_add, reduceIte, reduceCtorEq, sz0, sz1, sz2, sz3, sz4, sz5, sz6, sz7, sz8, sz9, sz10, sz11, sz12, sz13, sz14, sz15, sz16, seqOf, ev_callv, ev_lcall, keep_d, capsOf, rp2, dD, fdiv_pos D0, eC, rs]
        refine ow_cons ?_
        simp [evS, ev_v, ev_c, ev_g, ev_fn, ev_bin, ev_neg, ev_no, ev_cmp, ev_chain, ev_and, ev_or, ev_ite, ev_call, ev_kcall, ev_bi, ev_isi, ev_ix, ev_sl, ev_rev, ev_tup, ev_lst, ev_pop, ev_dk, ev_dle, ev_dpop, ev_dmk, evEach, evIt, evs, evF, ops, op1, op2, opA, tst, tsts, truD, Pv.load, look, S.at, S.put, mine, store, setO, appO, drO, mkO, sliceO, seqO, ofRo_ok, lcTurn, Out.calm, hideS, backS, ownFree, bind_ok, bind_bad, bind_exc, ow_ok, ow_bad, ow_exc, ofO, dsOf, lstD, tupD, binop, cmpop, deq, Pv.truthy, builtin, item, item.atI, slice, Pv.bound, Ex.gap, isTy, asInt, Option.map_some, Option.map_none, Option.bind_some, Option.bind_none, List.map_cons, List.map_nil, List.replicate, List.cons_append, List.nil_append, List.append_nil, List.getD_cons_zero, List.getD_cons_succ, List.getD_nil, List.set_cons_zero, List.set_cons_succ, List.set_nil, List.zip_cons_cons, List.zip_nil_left, List.zip_nil_right, List.foldl_cons, List.foldl_nil, List.length_cons, List.length_nil, List.any_cons, List.any_nil, List.all_cons, List.all_nil, if_true, if_false, ite_true, ite_false, Bool.false_eq_true, Bool.true_eq_false, Bool.or_false, Bool.or_true, Bool.and_true, Bool.and_false, Bool.true_and, Bool.false_and, Bool.not_true, Bool.not_false, decide_true, decide_false, Nat.reduceAdd, Nat.reduceSub, Nat.zero_add, reduceIte, reduceCtorEq, sz0, sz1, sz2, sz3, sz4, sz5, sz6, sz7, sz8, sz9, sz10, sz11, sz12, sz13, sz14, sz15, sz16, seqOf, ev_callv, ev_lcall, keep_d, capsOf, rp2, dD, fdiv_pos D0, eC]
      · have hx : Dv.atS (2 ^ v) d r = false := by simpa using hx
        have hne : r ≠ Dv.dropS v d := fun e => by
          have := ok.b
          rw [← e, hx] at this; cases this
        rw [hx] at rs
        have stp : ISm v d W D dr (m - 1) ⟨[.va (.d (.int W)), .va (.d (.int D)), .va (.d (.int (R' + 1)))], dr⟩ := .mk (r + 1) _ (by omega) (by omega) (by omega) rfl
        have hm0 : m - 1 < m := by omega
        clear hP hC hR' hR hM hW hD hQ
        simp [evS, ev_v, ev_c, ev_g, ev_fn, ev_bin, ev_neg, ev_no, ev_cmp, ev_chain, ev_and, ev_or, ev_ite, ev_call, ev_kcall, ev_bi, ev_isi, ev_ix, ev_sl, ev_rev, ev_tup, ev_lst, ev_pop, ev_dk, ev_dle, ev_dpop, ev_dmk, evEach, evIt, evs, evF, ops, op1, op2, opA, tst, tsts, truD, Pv.load, look, S.at, S.put, mine, store, setO, appO, drO, mkO, sliceO, seqO, ofRo_ok, lcTurn, Out.calm, hideS, backS, ownFree, bind_ok, bind_bad, bind_exc, ow_ok, ow_bad, ow_exc, ofO, dsOf, lstD, tupD, binop, cmpop, deq, Pv.truthy, builtin, item, item.atI, slice, Pv.bound, Ex.gap, isTy, asInt, Option.map_some, Option.map_none, Option.bind_some, Option.bind_none, List.map_cons, List.map_nil, List.replicate, List.cons_append, List.nil_append, List.append_nil, List.getD_cons_zero, List.getD_cons_succ, List.getD_nil, List.set_cons_zero, List.set_cons_succ, List.set_nil, List.zip_cons_cons, List.zip_nil_left, List.zip_nil_right, List.foldl_cons, List.foldl_nil, List.length_cons, List.length_nil, List.any_cons, List.any_nil, List.all_cons, List.all_nil, if_true, if_false, ite_true, ite_false, Bool.false_eq_true, Bool.true_eq_false, Bool.or_false, Bool.or_true, Bool.and_true, Bool.and_false, Bool.true_and, Bool.false_and, Bool.not_true, Bool.not_false, decide_true, decide_false, Nat.reduceAdd, Nat.reduceSub, Nat.zero_add, reduceIte, reduceCtorEq, sz0, sz1, sz2, sz3, sz4, sz5, sz6, sz7, sz8, sz9, sz10, sz11, sz12, sz13, sz14, sz15, sz16, seqOf, ev_callv, ev_lcall, keep_d, capsOf, rp2, dD, fdiv_pos D0, eC, rs]
        refine ow_cons ?_
        simp [evS, ev_v, ev_c, ev_g, ev_fn, ev_bin, ev_neg, ev_no, ev_cmp, ev_chain, ev_and, ev_or, ev_ite, ev_call, ev_kcall, ev_bi, ev_isi, ev_ix, ev_sl, ev_rev, ev_tup, ev_lst, ev_pop, ev_dk, ev_dle, ev_dpop, ev_dmk, evEach, evIt, evs, evF, ops, op1, op2, opA, tst, tsts, truD, Pv.load, look, S.at, S.put, mine, store, setO, appO, drO, mkO, sliceO, seqO, ofRo_ok, lcTurn, Out.calm, hideS, backS, ownFree, bind_ok, bind_bad, bind_exc, ow_ok, ow_bad, ow_exc, ofO, dsOf, lstD, tupD, binop, cmpop, deq, Pv.truthy, builtin, item, item.atI, slice, Pv.bound, Ex.gap, isTy, asInt, Option.map_some, Option.map_none, Option.bind_some, Option.bind_none, List.map_cons, List.map_nil, List.replicate, List.cons_append, List.nil_append, List.append_nil, List.getD_cons_zero, List.getD_cons_succ, List.getD_nil, List.set_cons_zero, List.set_cons_succ, List.set_nil, List.zip_cons_cons, List.zip_nil_left, List.zip_nil_right, List.foldl_cons, List.foldl_nil, List.length_cons, List.length_nil, List.any_cons, List.any_nil, List.all_cons, List.all_nil, if_true, if_false, ite_true, ite_false, Bool.false_eq_true, Bool.true_eq_false, Bool.or_false, Bool.or_true, Bool.and_true, Bool.and_false, Bool.true_and, Bool.false_and, Bool.not_true, Bool.not_false, decide_true, decide_false, Nat.reduceAdd, Nat.reduceSub, Nat.zero_add, reduceIte, reduceCtorEq, sz0, sz1, sz2, sz3, sz4, sz5, sz6, sz7, sz8, sz9, sz10, sz11, sz12, sz13, sz14, sz15, sz16, seqOf, ev_callv, ev_lcall, keep_d, capsOf]
        refine ow_nil ?_
        exact ⟨m - 1, hm0, stp⟩
  obtain ⟨a, fr, dr', e, rfl, rfl, rfl⟩ := rw_eq key
  exact e
end
end K85
set_option maxHeartbeats 200000
set_option maxHeartbeats 400000
/-! signed quotients: the law's first ones that are off -/
namespace K85
open PySem Pv
def wrB (d m p : Nat) (X : Int) : Bool := !decide (Dv.rightB d m p X.toNat)
theorem wrB_t {d m p : Nat} {X : Int} (h : wrB d m p X = true) : ¬ Dv.rightB d m p X.toNat := by
  unfold wrB at h
  simpa using h
theorem wrB_f {d m p : Nat} {X : Int} (h : wrB d m p X = false) : Dv.rightB d m p X.toNat := by
  unfold wrB at h
  simpa using h
theorem wrB_of {d m p : Nat} {X : Int} (h : ¬ Dv.rightB d m p X.toNat) : wrB d m p X = true := by
  unfold wrB
  simpa using h
theorem offI (x b q : Int) (hb : 0 < b) : ((0 - x) / b + 1 = 0 - q) ↔ (q * b < x ∧ x ≤ (q + 1) * b) := by
  have a1 : -q - 1 ≤ (0 - x) / b ↔ (-q - 1) * b ≤ 0 - x := Int.le_ediv_iff_mul_le hb
  have a2 : (0 - x) / b < -q ↔ 0 - x < (-q) * b := Int.ediv_lt_iff_lt_mul hb
  have e1 : (-q - 1) * b = -(q * b) - b := by rw [Int.sub_mul, Int.neg_mul, Int.one_mul]
  have e2 : (q + 1) * b = q * b + b := by rw [Int.add_mul, Int.one_mul]
  have e3 : (-q) * b = -(q * b) := Int.neg_mul _ _
  rw [e1] at a1
  rw [e3] at a2
  rw [e2]
  generalize q * b = z at *
  generalize (0 - x) / b = y at *
  omega
section
variable (k : Nat) (dr : Option Dr)
theorem run_off (d m r n : Nat) (D M R N : Int) (hD : D = (d : Int)) (hM : M = (m : Int)) (hR : R = (r : Int)) (hN : N = (n : Int)) (hd : 0 < d) (h1 : d ≤ 2 ^ 400) (h2 : m ≤ 2 ^ 900) (h3 : n ≤ 2 ^ 2400) :
    run G T (k + 1) 26 [.d (.int D), .d (.int M), .d (.int R), .d (.int N)] dr = .ok (.d (.bool (!decide (Dv.rightB d m (2 ^ r) n)))) false dr := by
  have D0 : 0 < D := by omega
  have R0 : 0 ≤ R := by omega
  have o1 : mulOk M N = true := mulOk_fit (fit_le 900 hM h2 (by decide)) (fit_le 2400 hN h3 (by decide))
  have dD := divOk_fit D0 (fit_le 400 hD h1 (by decide))
  obtain ⟨B, hB⟩ : ∃ B : Int, (2 : Int) ^ R.toNat = B := ⟨_, rfl⟩
  have hBn : B = ((2 ^ r : Nat) : Int) := by rw [← hB, hR, Int.toNat_natCast, Int.natCast_pow]; rfl
  have B0 : 0 < B := by rw [← hB]; exact Int.pow_pos (by decide)
  have hz : ((0 - M * N) / B + 1 = 0 - N / D) ↔ Dv.rightB d m (2 ^ r) n := by
    rw [offI _ _ _ B0]
    unfold Dv.rightB
    have e1 : N / D = ((n / d : Nat) : Int) := by rw [hN, hD]; exact (Int.natCast_ediv n d).symm
    have e2 : N / D * B = ((n / d * 2 ^ r : Nat) : Int) := by rw [e1, hBn, Int.natCast_mul]
    have e3 : M * N = ((m * n : Nat) : Int) := by rw [hM, hN, Int.natCast_mul]
    have e4 : (N / D + 1) * B = (((n / d + 1) * 2 ^ r : Nat) : Int) := by rw [e1, hBn, Int.natCast_mul, Int.natCast_add]; rfl
    rw [e2, e3, e4, Int.ofNat_lt, Int.ofNat_le]
  have hz2 : (!decide (Dv.rightB d m (2 ^ r) n)) = !((0 - M * N) / B + 1 == 0 - N / D) := by
    congr 1
    rw [Bool.eq_iff_iff, decide_eq_true_eq, beq_iff_eq]
    exact hz.symm
  rw [hz2]
  clear hz hz2 hBn hD hM hR hN
  rw [run_fn' (f := 26) (np := 4) (nn := 4) rfl rfl]
  simp [evS, ev_v, ev_c, ev_g, ev_fn, ev_bin, ev_neg, ev_no, ev_cmp, ev_chain, ev_and, ev_or, ev_ite, ev_call, ev_kcall, ev_bi, ev_isi, ev_ix, ev_sl, ev_rev, ev_tup, ev_lst, ev_pop, ev_dk, ev_dle, ev_dpop, ev_dmk, evEach, evIt, evs, evF, ops, op1, op2, opA, tst, tsts, truD, Pv.load, look, S.at, S.put, mine, store, setO, appO, drO, mkO, sliceO, seqO, ofRo_ok, lcTurn, Out.calm, hideS, backS, ownFree, bind_ok, bind_bad, bind_exc, ow_ok, ow_bad, ow_exc, ofO, dsOf, lstD, tupD, binop, cmpop, deq, Pv.truthy, builtin, item, item.atI, slice, Pv.bound, Ex.gap, isTy, asInt, Option.map_some, Option.map_none, Option.bind_some, Option.bind_none, List.map_cons, List.map_nil, List.replicate, List.cons_append, List.nil_append, List.append_nil, List.getD_cons_zero, List.getD_cons_succ, List.getD_nil, List.set_cons_zero, List.set_cons_succ, List.set_nil, List.zip_cons_cons, List.zip_nil_left, List.zip_nil_right, List.foldl_cons, List.foldl_nil, List.length_cons, List.length_nil, List.any_cons, List.any_nil, List.all_cons, List.all_nil, if_true, if_false, ite_true, ite_false, Bool.false_eq_true, Bool.true_eq_false, Bool.or_false, Bool.or_true, Bool.and_true, Bool.and_false, Bool.true_and, Bool.false_and, Bool.not_true, Bool.not_false, decide_true, decide_false, Nat.reduceAdd, Nat.reduceSub, Nat.zero_add, reduceIte, reduceCtorEq, sz0, sz1, sz2, sz3, sz4, sz5, sz6, sz7, sz8, sz9, sz10, sz11, sz12, sz13, sz14, sz15, sz16, seqOf, ev_callv, ev_lcall, keep_d, capsOf, evB, retOf, o1, R0, hB, dD, fdiv_pos D0]
theorem run_lam2 (d m r : Nat) (D M R X : Int) (hD : D = (d : Int)) (hM : M = (m : Int)) (hR : R = (r : Int)) (hd : 0 < d) (h1 : d ≤ 2 ^ 400) (h2 : m ≤ 2 ^ 900) (hX : 0 ≤ X) (h3 : X.toNat ≤ 2 ^ 2400) :
    run G T (k + 2) 34 [.d (.int X), .d (.int D), .d (.int M), .d (.int R)] dr = .ok (.d (.bool (wrB d m (2 ^ r) X))) false dr := by
  have rw1 := run_off k dr d m r X.toNat D M R X hD hM hR (by omega) hd h1 h2 h3
  unfold wrB
  generalize decide (Dv.rightB d m (2 ^ r) X.toNat) = b at rw1
  rw [run_fn' (f := 34) (np := 4) (nn := 4) rfl rfl]
  simp [evS, ev_v, ev_c, ev_g, ev_fn, ev_bin, ev_neg, ev_no, ev_cmp, ev_chain, ev_and, ev_or, ev_ite, ev_call, ev_kcall, ev_bi, ev_isi, ev_ix, ev_sl, ev_rev, ev_tup, ev_lst, ev_pop, ev_dk, ev_dle, ev_dpop, ev_dmk, evEach, evIt, evs, evF, ops, op1, op2, opA, tst, tsts, truD, Pv.load, look, S.at, S.put, mine, store, setO, appO, drO, mkO, sliceO, seqO, ofRo_ok, lcTurn, Out.calm, hideS, backS, ownFree, bind_ok, bind_bad, bind_exc, ow_ok, ow_bad, ow_exc, ofO, dsOf, lstD, tupD, binop, cmpop, deq, Pv.truthy, builtin, item, item.atI, slice, Pv.bound, Ex.gap, isTy, asInt, Option.map_some, Option.map_none, Option.bind_some, Option.bind_none, List.map_cons, List.map_nil, List.replicate, List.cons_append, List.nil_append, List.append_nil, List.getD_cons_zero, List.getD_cons_succ, List.getD_nil, List.set_cons_zero, List.set_cons_succ, List.set_nil, List.zip_cons_cons, List.zip_nil_left, List.zip_nil_right, List.foldl_cons, List.foldl_nil, List.length_cons, List.length_nil, List.any_cons, List.any_nil, List.all_cons, List.all_nil, if_true, if_false, ite_true, ite_false, Bool.false_eq_true, Bool.true_eq_false, Bool.or_false, Bool.or_true, Bool.and_true, Bool.and_false, Bool.true_and, Bool.false_and, Bool.not_true, Bool.not_false, decide_true, decide_false, Nat.reduceAdd, Nat.reduceSub, Nat.zero_add, reduceIte, reduceCtorEq, sz0, sz1, sz2, sz3, sz4, sz5, sz6, sz7, sz8, sz9, sz10, sz11, sz12, sz13, sz14, sz15, sz16, seqOf, ev_callv, ev_lcall, keep_d, capsOf, evB, retOf, rw1]
theorem run_lam3 (d m r : Nat) (D M R X : Int) (hD : D = (d : Int)) (hM : M = (m : Int)) (hR : R = (r : Int)) (hd : 0 < d) (h1 : d ≤ 2 ^ 400) (h2 : m ≤ 2 ^ 900) (hX : 0 ≤ X) (h3 : X.toNat ≤ 2 ^ 1900) :
    run G T (k + 2) 35 [.d (.int X), .d (.int D), .d (.int M), .d (.int R)] dr = .ok (.d (.bool (wrB d m (2 ^ r) (X * D + D - 1)))) false dr := by
  have hx : X = ((X.toNat : Nat) : Int) := by omega
  have hn : X * D + D - 1 = ((X.toNat * d + d - 1 : Nat) : Int) := by
    have : X * D = ((X.toNat * d : Nat) : Int) := by rw [Int.natCast_mul, ← hx, hD]
    omega
  have b1 : X.toNat * d ≤ 2 ^ 2300 := mul_pow_le (x := 1900) (y := 400) h3 h1
  have b2 : X.toNat * d + d - 1 ≤ 2 ^ 2400 := by
    have e : 2 ^ 2301 = 2 ^ 2300 * 2 := Nat.pow_succ _ _
    have e1 : 2 ^ 400 ≤ 2 ^ 2300 := pow_le_pow (by decide)
    have e2 : 2 ^ 2301 ≤ 2 ^ 2400 := pow_le_pow (by decide)
    omega
  have hn2 : (X * D + D - 1).toNat = X.toNat * d + d - 1 := by rw [hn, Int.toNat_natCast]
  have rw1 := run_off k dr d m r (X.toNat * d + d - 1) D M R (X * D + D - 1) hD hM hR hn hd h1 h2 b2
  have o1 : mulOk X D = true := mulOk_fit (fit_le 1900 hx h3 (by decide)) (fit_le 400 hD h1 (by decide))
  unfold wrB
  rw [hn2]
  generalize decide (Dv.rightB d m (2 ^ r) (X.toNat * d + d - 1)) = b at rw1
  clear hn hn2 hx
  rw [run_fn' (f := 35) (np := 4) (nn := 4) rfl rfl]
  simp [evS, ev_v, ev_c, ev_g, ev_fn, ev_bin, ev_neg, ev_no, ev_cmp, ev_chain, ev_and, ev_or, ev_ite, ev_call, ev_kcall, ev_bi, ev_isi, ev_ix, ev_sl, ev_rev, ev_tup, ev_lst, ev_pop, ev_dk, ev_dle, ev_dpop, ev_dmk, evEach, evIt, evs, evF, ops, op1, op2, opA, tst, tsts, truD, Pv.load, look, S.at, S.put, mine, store, setO, appO, drO, mkO, sliceO, seqO, ofRo_ok, lcTurn, Out.calm, hideS, backS, ownFree, bind_ok, bind_bad, bind_exc, ow_ok, ow_bad, ow_exc, ofO, dsOf, lstD, tupD, binop, cmpop, deq, Pv.truthy, builtin, item, item.atI, slice, Pv.bound, Ex.gap, isTy, asInt, Option.map_some, Option.map_none, Option.bind_some, Option.bind_none, List.map_cons, List.map_nil, List.replicate, List.cons_append, List.nil_append, List.append_nil, List.getD_cons_zero, List.getD_cons_succ, List.getD_nil, List.set_cons_zero, List.set_cons_succ, List.set_nil, List.zip_cons_cons, List.zip_nil_left, List.zip_nil_right, List.foldl_cons, List.foldl_nil, List.length_cons, List.length_nil, List.any_cons, List.any_nil, List.all_cons, List.all_nil, if_true, if_false, ite_true, ite_false, Bool.false_eq_true, Bool.true_eq_false, Bool.or_false, Bool.or_true, Bool.and_true, Bool.and_false, Bool.true_and, Bool.false_and, Bool.not_true, Bool.not_false, decide_true, decide_false, Nat.reduceAdd, Nat.reduceSub, Nat.zero_add, reduceIte, reduceCtorEq, sz0, sz1, sz2, sz3, sz4, sz5, sz6, sz7, sz8, sz9, sz10, sz11, sz12, sz13, sz14, sz15, sz16, seqOf, ev_callv, ev_lcall, keep_d, capsOf, evB, retOf, o1, rw1]
theorem run_firstoff (d m r : Nat) (D M R U : Int) (hD : D = (d : Int)) (hM : M = (m : Int)) (hR : R = (r : Int)) (hU : U = (Dv.unlikeB d m (2 ^ r) : Int)) (hd : 0 < d) (h1 : d ≤ 2 ^ 400) (h2 : m ≤ 2 ^ 900) (h3 : r ≤ 900) :
    run G T (k + 4) 27 [.d (.int D), .d (.int M), .d (.int R)] dr = .ok (.d (.int U)) false dr := by
  have h4 : 2 ^ r ≤ 2 ^ 900 := pow_le_pow h3
  have hp0 : 0 < 2 ^ r := Nat.pow_pos (by decide)
  have big0 : 1 ≤ 2 ^ 2400 := Nat.pow_pos (by decide)
  have hl0 := fun X hX h3 => run_lam2 k dr d m r D M R X hD hM hR hd h1 h2 hX h3
  have hl1 := fun X hX h3 => run_lam3 k dr d m r D M R X hD hM hR hd h1 h2 hX h3
  have rw0 := run_off (k + 2) dr d m r 1 D M R 1 hD hM hR rfl hd h1 h2 big0
  have rw1 := run_off (k + 2) dr d m r (d - 1) D M R (D - 1) hD hM hR (by omega) hd h1 h2 (by have : 2 ^ 400 ≤ 2 ^ 2400 := pow_le_pow (by decide); omega)
  obtain ⟨P, hP⟩ : ∃ P : Int, P = ((2 ^ r : Nat) : Int) := ⟨_, rfl⟩
  have hP2 : (2 : Int) ^ R.toNat = P := by rw [hP, hR, Int.toNat_natCast, Int.natCast_pow]; rfl
  have so : shlOk 1 R = true := shlOk_one (by omega) (by omega)
  have first := Dv.unlikeB_first (m := m) (p := 2 ^ r) hd
  generalize 2 ^ r = p at h4 hp0 hl0 hl1 rw0 rw1 hP first hU ⊢
  have hUf : ∀ u : Nat, Dv.FirstB d m p u → U = (u : Int) := fun u h => by rw [hU, first.uniq h]
  have hmd : M * D = ((m * d : Nat) : Int) := by rw [hM, hD, Int.natCast_mul]
  have b1 : m * d ≤ 2 ^ 1300 := mul_pow_le (x := 900) (y := 400) h2 h1
  have o1 : mulOk M D = true := mulOk_fit (fit_le 900 hM h2 (by decide)) (fit_le 400 hD h1 (by decide))
  have D0 : 0 < D := by omega
  have big : 2 ^ 1300 ≤ 2 ^ 1900 := pow_le_pow (by decide)
  have big2 : 2 ^ 400 ≤ 2 ^ 1300 := pow_le_pow (by decide)
  have big3 : 2 ^ 900 ≤ 2 ^ 1300 := pow_le_pow (by decide)
  have big4 : 2 ^ 1900 ≤ 2 ^ 2400 := pow_le_pow (by decide)
  have big5 : 2 ^ 1301 = 2 ^ 1300 * 2 := Nat.pow_succ _ _
  have big6 : 2 ^ 1301 ≤ 2 ^ 1900 := pow_le_pow (by decide)
  have big7 : 2 ^ 1900 < 2 ^ 5000 := Nat.pow_lt_pow_right (by decide) (by decide)
  have big8 : 4 ≤ 2 ^ 400 := pow_le_pow (r := 2) (by decide)
  have key : Rw (run G T (k + 4) 27 [.d (.int D), .d (.int M), .d (.int R)] dr) fun a fr dr' => a = .d (.int U) ∧ fr = false ∧ dr' = dr := by
    rw [run_fn' (f := 27) (np := 3) (nn := 6) rfl rfl]
    refine rw_ret ?_
    refine ow_cons (ow_ifs ?_)
    simp [evS, ev_v, ev_c, ev_g, ev_fn, ev_bin, ev_neg, ev_no, ev_cmp, ev_chain, ev_and, ev_or, ev_ite, ev_call, ev_kcall, ev_bi, ev_isi, ev_ix, ev_sl, ev_rev, ev_tup, ev_lst, ev_pop, ev_dk, ev_dle, ev_dpop, ev_dmk, evEach, evIt, evs, evF, ops, op1, op2, opA, tst, tsts, truD, Pv.load, look, S.at, S.put, mine, store, setO, appO, drO, mkO, sliceO, seqO, ofRo_ok, lcTurn, Out.calm, hideS, backS, ownFree, bind_ok, bind_bad, bind_exc, ow_ok, ow_bad, ow_exc, ofO, dsOf, lstD, tupD, binop, cmpop, deq, Pv.truthy, builtin, item, item.atI, slice, Pv.bound, Ex.gap, isTy, asInt, Option.map_some, Option.map_none, Option.bind_some, Option.bind_none, List.map_cons, List.map_nil, List.replicate, List.cons_append, List.nil_append, List.append_nil, List.getD_cons_zero, List.getD_cons_succ, List.getD_nil, List.set_cons_zero, List.set_cons_succ, List.set_nil, List.zip_cons_cons, List.zip_nil_left, List.zip_nil_right, List.foldl_cons, List.foldl_nil, List.length_cons, List.length_nil, List.any_cons, List.any_nil, List.all_cons, List.all_nil, if_true, if_false, ite_true, ite_false, Bool.false_eq_true, Bool.true_eq_false, Bool.or_false, Bool.or_true, Bool.and_true, Bool.and_false, Bool.true_and, Bool.false_and, Bool.not_true, Bool.not_false, decide_true, decide_false, Nat.reduceAdd, Nat.reduceSub, Nat.zero_add, reduceIte, reduceCtorEq, sz0, sz1, sz2, sz3, sz4, sz5, sz6, sz7, sz8, sz9, sz10, sz11, sz12, sz13, sz14, sz15, sz16, seqOf, ev_callv, ev_lcall, keep_d, capsOf, rw0]
    by_cases c0 : Dv.rightB d m p 1
    · simp [c0]
      refine ow_nil ?_
      have m0 : 0 < m := by
        rcases Nat.eq_zero_or_pos m with z | z
        · subst z; exact absurd c0 Dv.not_rightB_zero
        · exact z
      refine ow_cons ?_
      simp [evS, ev_v, ev_c, ev_g, ev_fn, ev_bin, ev_neg, ev_no, ev_cmp, ev_chain, ev_and, ev_or, ev_ite, ev_call, ev_kcall, ev_bi, ev_isi, ev_ix, ev_sl, ev_rev, ev_tup, ev_lst, ev_pop, ev_dk, ev_dle, ev_dpop, ev_dmk, evEach, evIt, evs, evF, ops, op1, op2, opA, tst, tsts, truD, Pv.load, look, S.at, S.put, mine, store, setO, appO, drO, mkO, sliceO, seqO, ofRo_ok, lcTurn, Out.calm, hideS, backS, ownFree, bind_ok, bind_bad, bind_exc, ow_ok, ow_bad, ow_exc, ofO, dsOf, lstD, tupD, binop, cmpop, deq, Pv.truthy, builtin, item, item.atI, slice, Pv.bound, Ex.gap, isTy, asInt, Option.map_some, Option.map_none, Option.bind_some, Option.bind_none, List.map_cons, List.map_nil, List.replicate, List.cons_append, List.nil_append, List.append_nil, List.getD_cons_zero, List.getD_cons_succ, List.getD_nil, List.set_cons_zero, List.set_cons_succ, List.set_nil, List.zip_cons_cons, List.zip_nil_left, List.zip_nil_right, List.foldl_cons, List.foldl_nil, List.length_cons, List.length_nil, List.any_cons, List.any_nil, List.all_cons, List.all_nil, if_true, if_false, ite_true, ite_false, Bool.false_eq_true, Bool.true_eq_false, Bool.or_false, Bool.or_true, Bool.and_true, Bool.and_false, Bool.true_and, Bool.false_and, Bool.not_true, Bool.not_false, decide_true, decide_false, Nat.reduceAdd, Nat.reduceSub, Nat.zero_add, reduceIte, reduceCtorEq, sz0, sz1, sz2, sz3, sz4, sz5, sz6, sz7, sz8, sz9, sz10, sz11, sz12, sz13, sz14, sz15, sz16, seqOf, ev_callv, ev_lcall, keep_d, capsOf, o1, so, hP2]
      generalize hov : M * D - P = ov
      refine ow_cons (ow_ifs ?_)
      simp [evS, ev_v, ev_c, ev_g, ev_fn, ev_bin, ev_neg, ev_no, ev_cmp, ev_chain, ev_and, ev_or, ev_ite, ev_call, ev_kcall, ev_bi, ev_isi, ev_ix, ev_sl, ev_rev, ev_tup, ev_lst, ev_pop, ev_dk, ev_dle, ev_dpop, ev_dmk, evEach, evIt, evs, evF, ops, op1, op2, opA, tst, tsts, truD, Pv.load, look, S.at, S.put, mine, store, setO, appO, drO, mkO, sliceO, seqO, ofRo_ok, lcTurn, Out.calm, hideS, backS, ownFree, bind_ok, bind_bad, bind_exc, ow_ok, ow_bad, ow_exc, ofO, dsOf, lstD, tupD, binop, cmpop, deq, Pv.truthy, builtin, item, item.atI, slice, Pv.bound, Ex.gap, isTy, asInt, Option.map_some, Option.map_none, Option.bind_some, Option.bind_none, List.map_cons, List.map_nil, List.replicate, List.cons_append, List.nil_append, List.append_nil, List.getD_cons_zero, List.getD_cons_succ, List.getD_nil, List.set_cons_zero, List.set_cons_succ, List.set_nil, List.zip_cons_cons, List.zip_nil_left, List.zip_nil_right, List.foldl_cons, List.foldl_nil, List.length_cons, List.length_nil, List.any_cons, List.any_nil, List.all_cons, List.all_nil, if_true, if_false, ite_true, ite_false, Bool.false_eq_true, Bool.true_eq_false, Bool.or_false, Bool.or_true, Bool.and_true, Bool.and_false, Bool.true_and, Bool.false_and, Bool.not_true, Bool.not_false, decide_true, decide_false, Nat.reduceAdd, Nat.reduceSub, Nat.zero_add, reduceIte, reduceCtorEq, sz0, sz1, sz2, sz3, sz4, sz5, sz6, sz7, sz8, sz9, sz10, sz11, sz12, sz13, sz14, sz15, sz16, seqOf, ev_callv, ev_lcall, keep_d, capsOf]
      by_cases c1 : ov ≤ 0
      · have e : U = D := by
          rw [hU, hD]
          unfold Dv.unlikeB
          rw [if_neg (by omega), if_pos (by omega)]
        simp [c1]
        refine ow_cons ?_
        simp [evS, ev_v, ev_c, ev_g, ev_fn, ev_bin, ev_neg, ev_no, ev_cmp, ev_chain, ev_and, ev_or, ev_ite, ev_call, ev_kcall, ev_bi, ev_isi, ev_ix, ev_sl, ev_rev, ev_tup, ev_lst, ev_pop, ev_dk, ev_dle, ev_dpop, ev_dmk, evEach, evIt, evs, evF, ops, op1, op2, opA, tst, tsts, truD, Pv.load, look, S.at, S.put, mine, store, setO, appO, drO, mkO, sliceO, seqO, ofRo_ok, lcTurn, Out.calm, hideS, backS, ownFree, bind_ok, bind_bad, bind_exc, ow_ok, ow_bad, ow_exc, ofO, dsOf, lstD, tupD, binop, cmpop, deq, Pv.truthy, builtin, item, item.atI, slice, Pv.bound, Ex.gap, isTy, asInt, Option.map_some, Option.map_none, Option.bind_some, Option.bind_none, List.map_cons, List.map_nil, List.replicate, List.cons_append, List.nil_append, List.append_nil, List.getD_cons_zero, List.getD_cons_succ, List.getD_nil, List.set_cons_zero, List.set_cons_succ, List.set_nil, List.zip_cons_cons, List.zip_nil_left, List.zip_nil_right, List.foldl_cons, List.foldl_nil, List.length_cons, List.length_nil, List.any_cons, List.any_nil, List.all_cons, List.all_nil, if_true, if_false, ite_true, ite_false, Bool.false_eq_true, Bool.true_eq_false, Bool.or_false, Bool.or_true, Bool.and_true, Bool.and_false, Bool.true_and, Bool.false_and, Bool.not_true, Bool.not_false, decide_true, decide_false, Nat.reduceAdd, Nat.reduceSub, Nat.zero_add, reduceIte, reduceCtorEq, sz0, sz1, sz2, sz3, sz4, sz5, sz6, sz7, sz8, sz9, sz10, sz11, sz12, sz13, sz14, sz15, sz16, seqOf, ev_callv, ev_lcall, keep_d, capsOf, e]
      · simp [c1]
        refine ow_nil ?_
        have hmd2 : m * d = p + ov.toNat := by omega
        have o0 : 0 < ov := by omega
        have last : ¬ (1 < d ∧ ¬ Dv.rightB d m p (d - 1)) → Ow (evB G (run G T (k + 3)) t27_5 ⟨[.va (.d (.int D)), .va (.d (.int M)), .va (.d (.int R)), .va (.d (.int ov)), .un, .un], dr⟩) fun f s => match f with | .nx => False | .rt a fr => a = .d (.int U) ∧ fr = false ∧ s.dr = dr := fun hc => by
          have dO := divOk_fit (j := ov) o0 (fit_le 1300 (a := ov) (n := ov.toNat) (by omega) (by omega) (by decide))
          refine ow_cons ?_
          simp [evS, ev_v, ev_c, ev_g, ev_fn, ev_bin, ev_neg, ev_no, ev_cmp, ev_chain, ev_and, ev_or, ev_ite, ev_call, ev_kcall, ev_bi, ev_isi, ev_ix, ev_sl, ev_rev, ev_tup, ev_lst, ev_pop, ev_dk, ev_dle, ev_dpop, ev_dmk, evEach, evIt, evs, evF, ops, op1, op2, opA, tst, tsts, truD, Pv.load, look, S.at, S.put, mine, store, setO, appO, drO, mkO, sliceO, seqO, ofRo_ok, lcTurn, Out.calm, hideS, backS, ownFree, bind_ok, bind_bad, bind_exc, ow_ok, ow_bad, ow_exc, ofO, dsOf, lstD, tupD, binop, cmpop, deq, Pv.truthy, builtin, item, item.atI, slice, Pv.bound, Ex.gap, isTy, asInt, Option.map_some, Option.map_none, Option.bind_some, Option.bind_none, List.map_cons, List.map_nil, List.replicate, List.cons_append, List.nil_append, List.append_nil, List.getD_cons_zero, List.getD_cons_succ, List.getD_nil, List.set_cons_zero, List.set_cons_succ, List.set_nil, List.zip_cons_cons, List.zip_nil_left, List.zip_nil_right, List.foldl_cons, List.foldl_nil, List.length_cons, List.length_nil, List.any_cons, List.any_nil, List.all_cons, List.all_nil, if_true, if_false, ite_true, ite_false, Bool.false_eq_true, Bool.true_eq_false, Bool.or_false, Bool.or_true, Bool.and_true, Bool.and_false, Bool.true_and, Bool.false_and, Bool.not_true, Bool.not_false, decide_true, decide_false, Nat.reduceAdd, Nat.reduceSub, Nat.zero_add, reduceIte, reduceCtorEq, sz0, sz1, sz2, sz3, sz4, sz5, sz6, sz7, sz8, sz9, sz10, sz11, sz12, sz13, sz14, sz15, sz16, seqOf, ev_callv, ev_lcall, keep_d, capsOf, so, hP2, dO, fdiv_pos o0]
          have hq0 : 0 ≤ P / ov := Int.ediv_nonneg (by omega) (by omega)
          have hq1 : P / ov ≤ P := Int.ediv_le_self ov (by omega)
          have hq2 : P < (P / ov + 1) * ov := Int.lt_ediv_add_one_mul_self P o0
          generalize P / ov = q at hq0 hq1 hq2
          have hlow : ov.toNat * (d - 1) ≤ p := by
            by_cases d1 : d = 1
            · subst d1; exact Nat.zero_le _
            · have h := Classical.not_not.mp fun z => hc ⟨by omega, z⟩
              have := (Dv.rightB_low m0 (by omega) (by omega)).mp h
              have := Dv.over_low hd hmd2
              omega
          have hbig : ∀ u : Nat, (q + 2).toNat ≤ u → p < ov.toNat * u := fun u a1 => by
            have a2 : ov.toNat * (q + 2).toNat ≤ ov.toNat * u := Nat.mul_le_mul_left _ a1
            have a3 : p < ov.toNat * (q + 2).toNat := by
              have h5 : P < ov * (q + 2) := by
                have : (q + 1) * ov ≤ (q + 2) * ov := Int.mul_le_mul_of_nonneg_right (by omega) (by omega)
                rw [Int.mul_comm ov]; omega
              have h6 : ov * (q + 2) = ((ov.toNat * (q + 2).toNat : Nat) : Int) := by rw [Int.natCast_mul, Int.toNat_of_nonneg (by omega), Int.toNat_of_nonneg (by omega)]
              omega
            omega
          have rest : ∀ t : Nat, (t * d + d - 1) % d = d - 1 := fun t => by
            rw [show t * d + d - 1 = d - 1 + d * t by rw [Nat.mul_comm]; omega, Nat.add_mul_mod_self_left, Nat.mod_eq_of_lt (by omega)]
          have iffL : ∀ t : Nat, 0 < t * d + d - 1 → (Dv.rightB d m p (t * d + d - 1) ↔ ov.toNat * (t * d + d - 1) ≤ p) := fun t h => by
            rw [Dv.rightB_iff hd hmd2 (by omega) m0 h, rest, show d - (d - 1) = 1 by omega, Nat.mul_one]
          have tx : ∀ t : Int, 0 ≤ t → t * D + D - 1 = ((t.toNat * d + d - 1 : Nat) : Int) := fun t h => by
            have : t * D = ((t.toNat * d : Nat) : Int) := by rw [Int.natCast_mul, hD, Int.toNat_of_nonneg h]
            omega
          have hHi : ¬ Dv.rightB d m p (((q + 2) * D + D - 1).toNat) := by
            have a1 : (q + 2).toNat ≤ (q + 2).toNat * d + d - 1 := by
              have := Nat.le_mul_of_pos_right (q + 2).toNat hd
              omega
            rw [tx _ (by omega), Int.toNat_natCast, iffL _ (by omega)]
            have := hbig _ a1
            omega
          obtain ⟨lo, hlo, lo1, lo2⟩ : ∃ lo : Int, lo = (if D = 1 then 0 else -1) ∧ (d = 1 → lo = 0) ∧ (d ≠ 1 → lo = -1) := ⟨_, rfl, fun h => if_pos (by omega), fun h => if_neg (by omega)⟩
          have lo3 : -1 ≤ lo ∧ lo ≤ 0 := by
            by_cases d1 : d = 1
            · have := lo1 d1; omega
            · have := lo2 d1; omega
          obtain ⟨t, e1, e2, e3, e4, e5⟩ := run_halved (k + 2) dr 35 [.int D, .int M, .int R] (fun X => wrB d m p (X * D + D - 1)) lo (q + 2) (by omega) (wrB_of hHi) (by omega) fun X x1 x2 => hl1 X (by omega) (by omega)
          have t0 : 0 ≤ t := by omega
          have upos : 0 < t.toNat * d + d - 1 := by
            by_cases d1 : d = 1
            · have := lo1 d1
              subst d1
              omega
            · omega
          have w1 := wrB_t e4
          rw [tx t t0, Int.toNat_natCast, iffL _ upos] at w1
          have ff : Dv.FirstB d m p (t.toNat * d + d - 1) := by
            refine Dv.firstB_last hd m0 hmd2 (by omega) hlow upos (rest _) (by omega) fun n hn hp => ?_
            refine Nat.le_of_not_lt fun hlt => ?_
            have en := Dv.split d n
            rw [hn] at en
            generalize n / d = j at en
            have hj : j < t.toNat := by
              refine Nat.lt_of_not_le fun z => ?_
              have := Nat.mul_le_mul_left d z
              rw [Nat.mul_comm d t.toNat] at this
              omega
            have hle : n ≤ (t.toNat - 1) * d + d - 1 := by
              have := Nat.mul_le_mul_left d (show j ≤ t.toNat - 1 by omega)
              rw [Nat.mul_comm d (t.toNat - 1)] at this
              omega
            rcases e5 with z | z
            · by_cases d1 : d = 1
              · have := lo1 d1
                have t1 : t.toNat = 1 := by omega
                subst d1
                have n0 : n = 0 := by omega
                rw [n0] at hp
                omega
              · have := lo2 d1
                omega
            · have z := wrB_f z
              have tn : (t - 1).toNat = t.toNat - 1 := by omega
              have p1 : 0 < (t.toNat - 1) * d + d - 1 := by
                by_cases d1 : d = 1
                · rcases Nat.eq_zero_or_pos n with n0 | n0
                  · subst n0; omega
                  · omega
                · omega
              rw [tx (t - 1) (by omega), Int.toNat_natCast, tn, iffL _ p1] at z
              have := Nat.mul_le_mul_left ov.toNat hle
              omega
          have e : U = t * D + D - 1 := by rw [hUf _ ff, tx t t0]
          have ot : mulOk t D = true := mulOk_fit (fit_le 1900 (a := t) (n := t.toNat) (by omega) (by omega) (by decide)) (fit_le 400 hD h1 (by decide))
          refine ow_cons ?_
          by_cases d1 : D = 1
          · rw [if_pos d1] at hlo
            rw [hlo] at e1
            simp [evS, ev_v, ev_c, ev_g, ev_fn, ev_bin, ev_neg, ev_no, ev_cmp, ev_chain, ev_and, ev_or, ev_ite, ev_call, ev_kcall, ev_bi, ev_isi, ev_ix, ev_sl, ev_rev, ev_tup, ev_lst, ev_pop, ev_dk, ev_dle, ev_dpop, ev_dmk, evEach, evIt, evs, evF, ops, op1, op2, opA, tst, tsts, truD, Pv.load, look, S.at, S.put, mine, store, setO, appO, drO, mkO, sliceO, seqO, ofRo_ok, lcTurn, Out.calm, hideS, backS, ownFree, bind_ok, bind_bad, bind_exc, ow_ok, ow_bad, ow_exc, ofO, dsOf, lstD, tupD, binop, cmpop, deq, Pv.truthy, builtin, item, item.atI, slice, Pv.bound, Ex.gap, isTy, asInt, Option.map_some, Option.map_none, Option.bind_some, Option.bind_none, List.map_cons, List.map_nil, List.replicate, List.cons_append, List.nil_append, List.append_nil, List.getD_cons_zero, List.getD_cons_succ, List.getD_nil, List.set_cons_zero, List.set_cons_succ, List.set_nil, List.zip_cons_cons, List.zip_nil_left, List.zip_nil_right, List.foldl_cons, List.foldl_nil, List.length_cons, List.length_nil, List.any_cons, List.any_nil, List.all_cons, List.all_nil, if_true, if_false, ite_true, ite_false, Bool.false_eq_true, Bool.true_eq_false, Bool.or_false, Bool.or_true, Bool.and_true, Bool.and_false, Bool.true_and, Bool.false_and, Bool.not_true, Bool.not_false, decide_true, decide_false, Nat.reduceAdd, Nat.reduceSub, Nat.zero_add, reduceIte, reduceCtorEq, sz0, sz1, sz2, sz3, sz4, sz5, sz6, sz7, sz8, sz9, sz10, sz11, sz12, sz13, sz14, sz15, sz16, seqOf, ev_callv, ev_lcall, keep_d, capsOf, capsOf, d1]
            rw [d1] at e1 ot e
            simp [evS, ev_v, ev_c, ev_g, ev_fn, ev_bin, ev_neg, ev_no, ev_cmp, ev_chain, ev_and, ev_or, ev_ite, ev_call, ev_kcall, ev_bi, ev_isi, ev_ix, ev_sl, ev_rev, ev_tup, ev_lst, ev_pop, ev_dk, ev_dle, ev_dpop, ev_dmk, evEach, evIt, evs, evF, ops, op1, op2, opA, tst, tsts, truD, Pv.load, look, S.at, S.put, mine, store, setO, appO, drO, mkO, sliceO, seqO, ofRo_ok, lcTurn, Out.calm, hideS, backS, ownFree, bind_ok, bind_bad, bind_exc, ow_ok, ow_bad, ow_exc, ofO, dsOf, lstD, tupD, binop, cmpop, deq, Pv.truthy, builtin, item, item.atI, slice, Pv.bound, Ex.gap, isTy, asInt, Option.map_some, Option.map_none, Option.bind_some, Option.bind_none, List.map_cons, List.map_nil, List.replicate, List.cons_append, List.nil_append, List.append_nil, List.getD_cons_zero, List.getD_cons_succ, List.getD_nil, List.set_cons_zero, List.set_cons_succ, List.set_nil, List.zip_cons_cons, List.zip_nil_left, List.zip_nil_right, List.foldl_cons, List.foldl_nil, List.length_cons, List.length_nil, List.any_cons, List.any_nil, List.all_cons, List.all_nil, if_true, if_false, ite_true, ite_false, Bool.false_eq_true, Bool.true_eq_false, Bool.or_false, Bool.or_true, Bool.and_true, Bool.and_false, Bool.true_and, Bool.false_and, Bool.not_true, Bool.not_false, decide_true, decide_false, Nat.reduceAdd, Nat.reduceSub, Nat.zero_add, reduceIte, reduceCtorEq, sz0, sz1, sz2, sz3, sz4, sz5, sz6, sz7, sz8, sz9, sz10, sz11, sz12, sz13, sz14, sz15, sz16, seqOf, ev_callv, ev_lcall, keep_d, capsOf, e1]
            refine ow_cons ?_
            simp [evS, ev_v, ev_c, ev_g, ev_fn, ev_bin, ev_neg, ev_no, ev_cmp, ev_chain, ev_and, ev_or, ev_ite, ev_call, ev_kcall, ev_bi, ev_isi, ev_ix, ev_sl, ev_rev, ev_tup, ev_lst, ev_pop, ev_dk, ev_dle, ev_dpop, ev_dmk, evEach, evIt, evs, evF, ops, op1, op2, opA, tst, tsts, truD, Pv.load, look, S.at, S.put, mine, store, setO, appO, drO, mkO, sliceO, seqO, ofRo_ok, lcTurn, Out.calm, hideS, backS, ownFree, bind_ok, bind_bad, bind_exc, ow_ok, ow_bad, ow_exc, ofO, dsOf, lstD, tupD, binop, cmpop, deq, Pv.truthy, builtin, item, item.atI, slice, Pv.bound, Ex.gap, isTy, asInt, Option.map_some, Option.map_none, Option.bind_some, Option.bind_none, List.map_cons, List.map_nil, List.replicate, List.cons_append, List.nil_append, List.append_nil, List.getD_cons_zero, List.getD_cons_succ, List.getD_nil, List.set_cons_zero, List.set_cons_succ, List.set_nil, List.zip_cons_cons, List.zip_nil_left, List.zip_nil_right, List.foldl_cons, List.foldl_nil, List.length_cons, List.length_nil, List.any_cons, List.any_nil, List.all_cons, List.all_nil, if_true, if_false, ite_true, ite_false, Bool.false_eq_true, Bool.true_eq_false, Bool.or_false, Bool.or_true, Bool.and_true, Bool.and_false, Bool.true_and, Bool.false_and, Bool.not_true, Bool.not_false, decide_true, decide_false, Nat.reduceAdd, Nat.reduceSub, Nat.zero_add, reduceIte, reduceCtorEq, sz0, sz1, sz2, sz3, sz4, sz5, sz6, sz7, sz8, sz9, sz10, sz11, sz12, sz13, sz14, sz15, sz16, seqOf, ev_callv, ev_lcall, keep_d, capsOf, ot, e]
          · rw [if_neg d1] at hlo
            rw [hlo] at e1
            simp [evS, ev_v, ev_c, ev_g, ev_fn, ev_bin, ev_neg, ev_no, ev_cmp, ev_chain, ev_and, ev_or, ev_ite, ev_call, ev_kcall, ev_bi, ev_isi, ev_ix, ev_sl, ev_rev, ev_tup, ev_lst, ev_pop, ev_dk, ev_dle, ev_dpop, ev_dmk, evEach, evIt, evs, evF, ops, op1, op2, opA, tst, tsts, truD, Pv.load, look, S.at, S.put, mine, store, setO, appO, drO, mkO, sliceO, seqO, ofRo_ok, lcTurn, Out.calm, hideS, backS, ownFree, bind_ok, bind_bad, bind_exc, ow_ok, ow_bad, ow_exc, ofO, dsOf, lstD, tupD, binop, cmpop, deq, Pv.truthy, builtin, item, item.atI, slice, Pv.bound, Ex.gap, isTy, asInt, Option.map_some, Option.map_none, Option.bind_some, Option.bind_none, List.map_cons, List.map_nil, List.replicate, List.cons_append, List.nil_append, List.append_nil, List.getD_cons_zero, List.getD_cons_succ, List.getD_nil, List.set_cons_zero, List.set_cons_succ, List.set_nil, List.zip_cons_cons, List.zip_nil_left, List.zip_nil_right, List.foldl_cons, List.foldl_nil, List.length_cons, List.length_nil, List.any_cons, List.any_nil, List.all_cons, List.all_nil, if_true, if_false, ite_true, ite_false, Bool.false_eq_true, Bool.true_eq_false, Bool.or_false, Bool.or_true, Bool.and_true, Bool.and_false, Bool.true_and, Bool.false_and, Bool.not_true, Bool.not_false, decide_true, decide_false, Nat.reduceAdd, Nat.reduceSub, Nat.zero_add, reduceIte, reduceCtorEq, sz0, sz1, sz2, sz3, sz4, sz5, sz6, sz7, sz8, sz9, sz10, sz11, sz12, sz13, sz14, sz15, sz16, seqOf, ev_callv, ev_lcall, keep_d, capsOf, capsOf, d1, e1]
            refine ow_cons ?_
            simp [evS, ev_v, ev_c, ev_g, ev_fn, ev_bin, ev_neg, ev_no, ev_cmp, ev_chain, ev_and, ev_or, ev_ite, ev_call, ev_kcall, ev_bi, ev_isi, ev_ix, ev_sl, ev_rev, ev_tup, ev_lst, ev_pop, ev_dk, ev_dle, ev_dpop, ev_dmk, evEach, evIt, evs, evF, ops, op1, op2, opA, tst, tsts, truD, Pv.load, look, S.at, S.put, mine, store, setO, appO, drO, mkO, sliceO, seqO, ofRo_ok, lcTurn, Out.calm, hideS, backS, ownFree, bind_ok, bind_bad, bind_exc, ow_ok, ow_bad, ow_exc, ofO, dsOf, lstD, tupD, binop, cmpop, deq, Pv.truthy, builtin, item, item.atI, slice, Pv.bound, Ex.gap, isTy, asInt, Option.map_some, Option.map_none, Option.bind_some, Option.bind_none, List.map_cons, List.map_nil, List.replicate, List.cons_append, List.nil_append, List.append_nil, List.getD_cons_zero, List.getD_cons_succ, List.getD_nil, List.set_cons_zero, List.set_cons_succ, List.set_nil, List.zip_cons_cons, List.zip_nil_left, List.zip_nil_right, List.foldl_cons, List.foldl_nil, List.length_cons, List.length_nil, List.any_cons, List.any_nil, List.all_cons, List.all_nil, if_true, if_false, ite_true, ite_false, Bool.false_eq_true, Bool.true_eq_false, Bool.or_false, Bool.or_true, Bool.and_true, Bool.and_false, Bool.true_and, Bool.false_and, Bool.not_true, Bool.not_false, decide_true, decide_false, Nat.reduceAdd, Nat.reduceSub, Nat.zero_add, reduceIte, reduceCtorEq, sz0, sz1, sz2, sz3, sz4, sz5, sz6, sz7, sz8, sz9, sz10, sz11, sz12, sz13, sz14, sz15, sz16, seqOf, ev_callv, ev_lcall, keep_d, capsOf, ot, e]
        refine ow_cons (ow_ifs ?_)
        by_cases c2 : 1 < d
        · have c2' : 1 < D := by omega
          simp [evS, ev_v, ev_c, ev_g, ev_fn, ev_bin, ev_neg, ev_no, ev_cmp, ev_chain, ev_and, ev_or, ev_ite, ev_call, ev_kcall, ev_bi, ev_isi, ev_ix, ev_sl, ev_rev, ev_tup, ev_lst, ev_pop, ev_dk, ev_dle, ev_dpop, ev_dmk, evEach, evIt, evs, evF, ops, op1, op2, opA, tst, tsts, truD, Pv.load, look, S.at, S.put, mine, store, setO, appO, drO, mkO, sliceO, seqO, ofRo_ok, lcTurn, Out.calm, hideS, backS, ownFree, bind_ok, bind_bad, bind_exc, ow_ok, ow_bad, ow_exc, ofO, dsOf, lstD, tupD, binop, cmpop, deq, Pv.truthy, builtin, item, item.atI, slice, Pv.bound, Ex.gap, isTy, asInt, Option.map_some, Option.map_none, Option.bind_some, Option.bind_none, List.map_cons, List.map_nil, List.replicate, List.cons_append, List.nil_append, List.append_nil, List.getD_cons_zero, List.getD_cons_succ, List.getD_nil, List.set_cons_zero, List.set_cons_succ, List.set_nil, List.zip_cons_cons, List.zip_nil_left, List.zip_nil_right, List.foldl_cons, List.foldl_nil, List.length_cons, List.length_nil, List.any_cons, List.any_nil, List.all_cons, List.all_nil, if_true, if_false, ite_true, ite_false, Bool.false_eq_true, Bool.true_eq_false, Bool.or_false, Bool.or_true, Bool.and_true, Bool.and_false, Bool.true_and, Bool.false_and, Bool.not_true, Bool.not_false, decide_true, decide_false, Nat.reduceAdd, Nat.reduceSub, Nat.zero_add, reduceIte, reduceCtorEq, sz0, sz1, sz2, sz3, sz4, sz5, sz6, sz7, sz8, sz9, sz10, sz11, sz12, sz13, sz14, sz15, sz16, seqOf, ev_callv, ev_lcall, keep_d, capsOf, rw1, c2']
          by_cases c3 : Dv.rightB d m p (d - 1)
          · simp [c3]
            refine ow_nil ?_
            refine ow_mono (last (fun z => z.2 c3)) ?_
            rintro f s h
            cases f <;> first | exact h.elim | exact h
          · simp [c3]
            refine ow_cons ?_
            have d2 : 1 < d - 1 := by
              refine Nat.lt_of_not_le fun z => c3 ?_
              rw [show d - 1 = 1 by omega]; exact c0
            simp [evS, ev_v, ev_c, ev_g, ev_fn, ev_bin, ev_neg, ev_no, ev_cmp, ev_chain, ev_and, ev_or, ev_ite, ev_call, ev_kcall, ev_bi, ev_isi, ev_ix, ev_sl, ev_rev, ev_tup, ev_lst, ev_pop, ev_dk, ev_dle, ev_dpop, ev_dmk, evEach, evIt, evs, evF, ops, op1, op2, opA, tst, tsts, truD, Pv.load, look, S.at, S.put, mine, store, setO, appO, drO, mkO, sliceO, seqO, ofRo_ok, lcTurn, Out.calm, hideS, backS, ownFree, bind_ok, bind_bad, bind_exc, ow_ok, ow_bad, ow_exc, ofO, dsOf, lstD, tupD, binop, cmpop, deq, Pv.truthy, builtin, item, item.atI, slice, Pv.bound, Ex.gap, isTy, asInt, Option.map_some, Option.map_none, Option.bind_some, Option.bind_none, List.map_cons, List.map_nil, List.replicate, List.cons_append, List.nil_append, List.append_nil, List.getD_cons_zero, List.getD_cons_succ, List.getD_nil, List.set_cons_zero, List.set_cons_succ, List.set_nil, List.zip_cons_cons, List.zip_nil_left, List.zip_nil_right, List.foldl_cons, List.foldl_nil, List.length_cons, List.length_nil, List.any_cons, List.any_nil, List.all_cons, List.all_nil, if_true, if_false, ite_true, ite_false, Bool.false_eq_true, Bool.true_eq_false, Bool.or_false, Bool.or_true, Bool.and_true, Bool.and_false, Bool.true_and, Bool.false_and, Bool.not_true, Bool.not_false, decide_true, decide_false, Nat.reduceAdd, Nat.reduceSub, Nat.zero_add, reduceIte, reduceCtorEq, sz0, sz1, sz2, sz3, sz4, sz5, sz6, sz7, sz8, sz9, sz10, sz11, sz12, sz13, sz14, sz15, sz16, seqOf, ev_callv, ev_lcall, keep_d, capsOf, capsOf]
            obtain ⟨h, e1, e2, e3, e4, e5⟩ := run_halved (k + 2) dr 34 [.int D, .int M, .int R] (wrB d m p) 1 (D - 1) (by omega) (wrB_of (by
                rw [show (D - 1).toNat = d - 1 by omega]; exact c3)) (by omega) fun X x1 x2 => hl0 X (by omega) (by omega)
            have w1 := wrB_t e4
            have z : m * (h - 1).toNat ≤ p := by
              have z : Dv.rightB d m p (h - 1).toNat := by
                rcases e5 with z | z
                · rw [z]; exact c0
                · exact wrB_f z
              exact (Dv.rightB_low m0 (by omega) (by omega)).mp z
            have ff : Dv.FirstB d m p h.toNat := by
              refine ⟨by omega, w1, fun n n0 hn => ?_⟩
              refine (Dv.rightB_low m0 n0 (by omega)).mpr ?_
              have : m * n ≤ m * (h - 1).toNat := Nat.mul_le_mul_left m (by omega)
              omega
            have e : U = h := by rw [hUf _ ff, Int.toNat_of_nonneg (by omega)]
            simp [evS, ev_v, ev_c, ev_g, ev_fn, ev_bin, ev_neg, ev_no, ev_cmp, ev_chain, ev_and, ev_or, ev_ite, ev_call, ev_kcall, ev_bi, ev_isi, ev_ix, ev_sl, ev_rev, ev_tup, ev_lst, ev_pop, ev_dk, ev_dle, ev_dpop, ev_dmk, evEach, evIt, evs, evF, ops, op1, op2, opA, tst, tsts, truD, Pv.load, look, S.at, S.put, mine, store, setO, appO, drO, mkO, sliceO, seqO, ofRo_ok, lcTurn, Out.calm, hideS, backS, ownFree, bind_ok, bind_bad, bind_exc, ow_ok, ow_bad, ow_exc, ofO, dsOf, lstD, tupD, binop, cmpop, deq, Pv.truthy, builtin, item, item.atI, slice, Pv.bound, Ex.gap, isTy, asInt, Option.map_some, Option.map_none, Option.bind_some, Option.bind_none, List.map_cons, List.map_nil, List.replicate, List.cons_append, List.nil_append, List.append_nil, List.getD_cons_zero, List.getD_cons_succ, List.getD_nil, List.set_cons_zero, List.set_cons_succ, List.set_nil, List.zip_cons_cons, List.zip_nil_left, List.zip_nil_right, List.foldl_cons, List.foldl_nil, List.length_cons, List.length_nil, List.any_cons, List.any_nil, List.all_cons, List.all_nil, if_true, if_false, ite_true, ite_false, Bool.false_eq_true, Bool.true_eq_false, Bool.or_false, Bool.or_true, Bool.and_true, Bool.and_false, Bool.true_and, Bool.false_and, Bool.not_true, Bool.not_false, decide_true, decide_false, Nat.reduceAdd, Nat.reduceSub, Nat.zero_add, reduceIte, reduceCtorEq, sz0, sz1, sz2, sz3, sz4, sz5, sz6, sz7, sz8, sz9, sz10, sz11, sz12, sz13, sz14, sz15, sz16, seqOf, ev_callv, ev_lcall, keep_d, capsOf, e1, e]
        · have c2' : ¬ 1 < D := by omega
          simp [evS, ev_v, ev_c, ev_g, ev_fn, ev_bin, ev_neg, ev_no, ev_cmp, ev_chain, ev_and, ev_or, ev_ite, ev_call, ev_kcall, ev_bi, ev_isi, ev_ix, ev_sl, ev_rev, ev_tup, ev_lst, ev_pop, ev_dk, ev_dle, ev_dpop, ev_dmk, evEach, evIt, evs, evF, ops, op1, op2, opA, tst, tsts, truD, Pv.load, look, S.at, S.put, mine, store, setO, appO, drO, mkO, sliceO, seqO, ofRo_ok, lcTurn, Out.calm, hideS, backS, ownFree, bind_ok, bind_bad, bind_exc, ow_ok, ow_bad, ow_exc, ofO, dsOf, lstD, tupD, binop, cmpop, deq, Pv.truthy, builtin, item, item.atI, slice, Pv.bound, Ex.gap, isTy, asInt, Option.map_some, Option.map_none, Option.bind_some, Option.bind_none, List.map_cons, List.map_nil, List.replicate, List.cons_append, List.nil_append, List.append_nil, List.getD_cons_zero, List.getD_cons_succ, List.getD_nil, List.set_cons_zero, List.set_cons_succ, List.set_nil, List.zip_cons_cons, List.zip_nil_left, List.zip_nil_right, List.foldl_cons, List.foldl_nil, List.length_cons, List.length_nil, List.any_cons, List.any_nil, List.all_cons, List.all_nil, if_true, if_false, ite_true, ite_false, Bool.false_eq_true, Bool.true_eq_false, Bool.or_false, Bool.or_true, Bool.and_true, Bool.and_false, Bool.true_and, Bool.false_and, Bool.not_true, Bool.not_false, decide_true, decide_false, Nat.reduceAdd, Nat.reduceSub, Nat.zero_add, reduceIte, reduceCtorEq, sz0, sz1, sz2, sz3, sz4, sz5, sz6, sz7, sz8, sz9, sz10, sz11, sz12, sz13, sz14, sz15, sz16, seqOf, ev_callv, ev_lcall, keep_d, capsOf, c2']
          refine ow_nil ?_
          refine ow_mono (last (fun z => c2 z.1)) ?_
          rintro f s h
          cases f <;> first | exact h.elim | exact h
    · have e : U = 1 := hUf 1 ⟨by decide, c0, fun n a b => by omega⟩
      simp [c0]
      refine ow_cons ?_
      simp [evS, ev_v, ev_c, ev_g, ev_fn, ev_bin, ev_neg, ev_no, ev_cmp, ev_chain, ev_and, ev_or, ev_ite, ev_call, ev_kcall, ev_bi, ev_isi, ev_ix, ev_sl, ev_rev, ev_tup, ev_lst, ev_pop, ev_dk, ev_dle, ev_dpop, ev_dmk, evEach, evIt, evs, evF, ops, op1, op2, opA, tst, tsts, truD, Pv.load, look, S.at, S.put, mine, store, setO, appO, drO, mkO, sliceO, seqO, ofRo_ok, lcTurn, Out.calm, hideS, backS, ownFree, bind_ok, bind_bad, bind_exc, ow_ok, ow_bad, ow_exc, ofO, dsOf, lstD, tupD, binop, cmpop, deq, Pv.truthy, builtin, item, item.atI, slice, Pv.bound, Ex.gap, isTy, asInt, Option.map_some, Option.map_none, Option.bind_some, Option.bind_none, List.map_cons, List.map_nil, List.replicate, List.cons_append, List.nil_append, List.append_nil, List.getD_cons_zero, List.getD_cons_succ, List.getD_nil, List.set_cons_zero, List.set_cons_succ, List.set_nil, List.zip_cons_cons, List.zip_nil_left, List.zip_nil_right, List.foldl_cons, List.foldl_nil, List.length_cons, List.length_nil, List.any_cons, List.any_nil, List.all_cons, List.all_nil, if_true, if_false, ite_true, ite_false, Bool.false_eq_true, Bool.true_eq_false, Bool.or_false, Bool.or_true, Bool.and_true, Bool.and_false, Bool.true_and, Bool.false_and, Bool.not_true, Bool.not_false, decide_true, decide_false, Nat.reduceAdd, Nat.reduceSub, Nat.zero_add, reduceIte, reduceCtorEq, sz0, sz1, sz2, sz3, sz4, sz5, sz6, sz7, sz8, sz9, sz10, sz11, sz12, sz13, sz14, sz15, sz16, seqOf, ev_callv, ev_lcall, keep_d, capsOf, e]
  obtain ⟨a, fr, dr', e, rfl, rfl, rfl⟩ := rw_eq key
  exact e
theorem run_lawsd (v d m r : Nat) (W D M R : Int) (hW : W - 1 = (v : Int)) (hD : D = (d : Int)) (hM : M = (m : Int)) (hR : R = (r : Int)) (h0 : v ≤ 900) (hd : 0 < d) (h1 : d ≤ 2 ^ 400) (h2 : m ≤ 2 ^ 900) (h3 : r ≤ 900) :
    run G T (k + 5) 28 [.d (.int W), .d (.int D), .d (.int M), .d (.int R)] dr = .ok (.d (.bool (Dv.doesS (2 ^ v) d m (2 ^ r)))) false dr := by
  have ru := run_firstwrong k dr d m r D M R hD hM hR hd h1 h2 h3
  obtain ⟨U2, hU2⟩ : ∃ U2 : Int, U2 = (Dv.unlikeB d m (2 ^ r) : Int) := ⟨_, rfl⟩
  have rb := run_firstoff k dr d m r D M R U2 hD hM hR hU2 hd h1 h2 h3
  obtain ⟨Q, hQ⟩ : ∃ Q : Int, (2 : Int) ^ (W - 1).toNat = Q := ⟨_, rfl⟩
  have hQn : Q = ((2 ^ v : Nat) : Int) := by rw [← hQ, hW, Int.toNat_natCast, Int.natCast_pow]; rfl
  have so : shlOk 1 (W - 1) = true := shlOk_one (by omega) (by omega)
  have hQ2 : (2 : Int) ^ (W.toNat - 1) = Q := by rw [← hQ]; congr 1; omega
  unfold Dv.doesS Dv.does
  generalize 2 ^ v = q at hQn
  generalize 2 ^ r = p at ru rb hU2 ⊢
  have hz2 : decide (q < Dv.unlikeB d m p) = decide (Q < U2) := by
    have : (q < Dv.unlikeB d m p) = (Q < U2) := propext (by omega)
    simp only [this]
  rw [hz2]
  clear hD hM hR hz2 hU2
  cases e : Dv.unlike d m p with
  | none =>
    rw [e] at ru
    simp only [optD] at ru
    rw [run_fn' (f := 28) (np := 4) (nn := 6) rfl rfl]
    simp [evS, ev_v, ev_c, ev_g, ev_fn, ev_bin, ev_neg, ev_no, ev_cmp, ev_chain, ev_and, ev_or, ev_ite, ev_call, ev_kcall, ev_bi, ev_isi, ev_ix, ev_sl, ev_rev, ev_tup, ev_lst, ev_pop, ev_dk, ev_dle, ev_dpop, ev_dmk, evEach, evIt, evs, evF, ops, op1, op2, opA, tst, tsts, truD, Pv.load, look, S.at, S.put, mine, store, setO, appO, drO, mkO, sliceO, seqO, ofRo_ok, lcTurn, Out.calm, hideS, backS, ownFree, bind_ok, bind_bad, bind_exc, ow_ok, ow_bad, ow_exc, ofO, dsOf, lstD, tupD, binop, cmpop, deq, Pv.truthy, builtin, item, item.atI, slice, Pv.bound, Ex.gap, isTy, asInt, Option.map_some, Option.map_none, Option.bind_some, Option.bind_none, List.map_cons, List.map_nil, List.replicate, List.cons_append, List.nil_append, List.append_nil, List.getD_cons_zero, List.getD_cons_succ, List.getD_nil, List.set_cons_zero, List.set_cons_succ, List.set_nil, List.zip_cons_cons, List.zip_nil_left, List.zip_nil_right, List.foldl_cons, List.foldl_nil, List.length_cons, List.length_nil, List.any_cons, List.any_nil, List.all_cons, List.all_nil, if_true, if_false, ite_true, ite_false, Bool.false_eq_true, Bool.true_eq_false, Bool.or_false, Bool.or_true, Bool.and_true, Bool.and_false, Bool.true_and, Bool.false_and, Bool.not_true, Bool.not_false, decide_true, decide_false, Nat.reduceAdd, Nat.reduceSub, Nat.zero_add, reduceIte, reduceCtorEq, sz0, sz1, sz2, sz3, sz4, sz5, sz6, sz7, sz8, sz9, sz10, sz11, sz12, sz13, sz14, sz15, sz16, seqOf, ev_callv, ev_lcall, keep_d, capsOf, evB, retOf, ru, rb, so, hQ2]
  | some u =>
    rw [e] at ru
    simp only [optD] at ru
    obtain ⟨U, hU⟩ : ∃ U : Int, U = (u : Int) := ⟨_, rfl⟩
    have hz : decide (q ≤ u) = decide (Q ≤ U) := by
      have : (q ≤ u) = (Q ≤ U) := propext (by omega)
      simp only [this]
    rw [← hU] at ru
    simp only [hz]
    clear hz hU
    rw [run_fn' (f := 28) (np := 4) (nn := 6) rfl rfl]
    by_cases c : Q ≤ U <;> simp [evS, ev_v, ev_c, ev_g, ev_fn, ev_bin, ev_neg, ev_no, ev_cmp, ev_chain, ev_and, ev_or, ev_ite, ev_call, ev_kcall, ev_bi, ev_isi, ev_ix, ev_sl, ev_rev, ev_tup, ev_lst, ev_pop, ev_dk, ev_dle, ev_dpop, ev_dmk, evEach, evIt, evs, evF, ops, op1, op2, opA, tst, tsts, truD, Pv.load, look, S.at, S.put, mine, store, setO, appO, drO, mkO, sliceO, seqO, ofRo_ok, lcTurn, Out.calm, hideS, backS, ownFree, bind_ok, bind_bad, bind_exc, ow_ok, ow_bad, ow_exc, ofO, dsOf, lstD, tupD, binop, cmpop, deq, Pv.truthy, builtin, item, item.atI, slice, Pv.bound, Ex.gap, isTy, asInt, Option.map_some, Option.map_none, Option.bind_some, Option.bind_none, List.map_cons, List.map_nil, List.replicate, List.cons_append, List.nil_append, List.append_nil, List.getD_cons_zero, List.getD_cons_succ, List.getD_nil, List.set_cons_zero, List.set_cons_succ, List.set_nil, List.zip_cons_cons, List.zip_nil_left, List.zip_nil_right, List.foldl_cons, List.foldl_nil, List.length_cons, List.length_nil, List.any_cons, List.any_nil, List.all_cons, List.all_nil, if_true, if_false, ite_true, ite_false, Bool.false_eq_true, Bool.true_eq_false, Bool.or_false, Bool.or_true, Bool.and_true, Bool.and_false, Bool.true_and, Bool.false_and, Bool.not_true, Bool.not_false, decide_true, decide_false, Nat.reduceAdd, Nat.reduceSub, Nat.zero_add, reduceIte, reduceCtorEq, sz0, sz1, sz2, sz3, sz4, sz5, sz6, sz7, sz8, sz9, sz10, sz11, sz12, sz13, sz14, sz15, sz16, seqOf, ev_callv, ev_lcall, keep_d, capsOf, evB, retOf, ru, rb, so, hQ2, c]
end
end K85
set_option maxHeartbeats 200000
set_option maxHeartbeats 400000
/-! a drawn divisor -/
namespace K85
open PySem Pv
section
variable (k : Nat)
theorem run_divisor (st : Dr) : Rw (run G T (k + 4) 16 [.drw] (some st)) fun a fr dr => (∃ (v : Int) (d : Nat), a = .d (.int v) ∧ v = (d : Int) ∧ 0 < d ∧ d ≤ 2 ^ 400) ∧ fr = false ∧ dr.isSome = true := by
  have big : 8192 ≤ 2 ^ 400 := pow_le_pow (r := 13) (by decide)
  rw [run_fn' (f := 16) (np := 1) (nn := 3) rfl rfl]
  refine rw_ret ?_
  refine ow_cons ?_
  simp [evS, ev_v, ev_c, ev_g, ev_fn, ev_bin, ev_neg, ev_no, ev_cmp, ev_chain, ev_and, ev_or, ev_ite, ev_call, ev_kcall, ev_bi, ev_isi, ev_ix, ev_sl, ev_rev, ev_tup, ev_lst, ev_pop, ev_dk, ev_dle, ev_dpop, ev_dmk, evEach, evIt, evs, evF, ops, op1, op2, opA, tst, tsts, truD, Pv.load, look, S.at, S.put, mine, store, setO, appO, drO, mkO, sliceO, seqO, ofRo_ok, lcTurn, Out.calm, hideS, backS, ownFree, bind_ok, bind_bad, bind_exc, ow_ok, ow_bad, ow_exc, ofO, dsOf, lstD, tupD, binop, cmpop, deq, Pv.truthy, builtin, item, item.atI, slice, Pv.bound, Ex.gap, isTy, asInt, Option.map_some, Option.map_none, Option.bind_some, Option.bind_none, List.map_cons, List.map_nil, List.replicate, List.cons_append, List.nil_append, List.append_nil, List.getD_cons_zero, List.getD_cons_succ, List.getD_nil, List.set_cons_zero, List.set_cons_succ, List.set_nil, List.zip_cons_cons, List.zip_nil_left, List.zip_nil_right, List.foldl_cons, List.foldl_nil, List.length_cons, List.length_nil, List.any_cons, List.any_nil, List.all_cons, List.all_nil, if_true, if_false, ite_true, ite_false, Bool.false_eq_true, Bool.true_eq_false, Bool.or_false, Bool.or_true, Bool.and_true, Bool.and_false, Bool.true_and, Bool.false_and, Bool.not_true, Bool.not_false, decide_true, decide_false, Nat.reduceAdd, Nat.reduceSub, Nat.zero_add, reduceIte, reduceCtorEq, sz0, sz1, sz2, sz3, sz4, sz5, sz6, sz7, sz8, sz9, sz10, sz11, sz12, sz13, sz14, sz15, sz16, seqOf, ev_callv, ev_lcall, keep_d, capsOf, ow_bind]
  refine ow_call0 (run_take (k + 1) st 6 (by decide) (by decide)) ?_
  rintro a fr dr ⟨⟨way, rfl, w0, w1⟩, rfl, hd⟩
  obtain ⟨st, rfl⟩ := Option.isSome_iff_exists.mp hd
  simp [evS, ev_v, ev_c, ev_g, ev_fn, ev_bin, ev_neg, ev_no, ev_cmp, ev_chain, ev_and, ev_or, ev_ite, ev_call, ev_kcall, ev_bi, ev_isi, ev_ix, ev_sl, ev_rev, ev_tup, ev_lst, ev_pop, ev_dk, ev_dle, ev_dpop, ev_dmk, evEach, evIt, evs, evF, ops, op1, op2, opA, tst, tsts, truD, Pv.load, look, S.at, S.put, mine, store, setO, appO, drO, mkO, sliceO, seqO, ofRo_ok, lcTurn, Out.calm, hideS, backS, ownFree, bind_ok, bind_bad, bind_exc, ow_ok, ow_bad, ow_exc, ofO, dsOf, lstD, tupD, binop, cmpop, deq, Pv.truthy, builtin, item, item.atI, slice, Pv.bound, Ex.gap, isTy, asInt, Option.map_some, Option.map_none, Option.bind_some, Option.bind_none, List.map_cons, List.map_nil, List.replicate, List.cons_append, List.nil_append, List.append_nil, List.getD_cons_zero, List.getD_cons_succ, List.getD_nil, List.set_cons_zero, List.set_cons_succ, List.set_nil, List.zip_cons_cons, List.zip_nil_left, List.zip_nil_right, List.foldl_cons, List.foldl_nil, List.length_cons, List.length_nil, List.any_cons, List.any_nil, List.all_cons, List.all_nil, if_true, if_false, ite_true, ite_false, Bool.false_eq_true, Bool.true_eq_false, Bool.or_false, Bool.or_true, Bool.and_true, Bool.and_false, Bool.true_and, Bool.false_and, Bool.not_true, Bool.not_false, decide_true, decide_false, Nat.reduceAdd, Nat.reduceSub, Nat.zero_add, reduceIte, reduceCtorEq, sz0, sz1, sz2, sz3, sz4, sz5, sz6, sz7, sz8, sz9, sz10, sz11, sz12, sz13, sz14, sz15, sz16, seqOf, ev_callv, ev_lcall, keep_d, capsOf]
  refine ow_cons (ow_ifs ?_)
  by_cases c : way < 3
  · simp [evS, ev_v, ev_c, ev_g, ev_fn, ev_bin, ev_neg, ev_no, ev_cmp, ev_chain, ev_and, ev_or, ev_ite, ev_call, ev_kcall, ev_bi, ev_isi, ev_ix, ev_sl, ev_rev, ev_tup, ev_lst, ev_pop, ev_dk, ev_dle, ev_dpop, ev_dmk, evEach, evIt, evs, evF, ops, op1, op2, opA, tst, tsts, truD, Pv.load, look, S.at, S.put, mine, store, setO, appO, drO, mkO, sliceO, seqO, ofRo_ok, lcTurn, Out.calm, hideS, backS, ownFree, bind_ok, bind_bad, bind_exc, ow_ok, ow_bad, ow_exc, ofO, dsOf, lstD, tupD, binop, cmpop, deq, Pv.truthy, builtin, item, item.atI, slice, Pv.bound, Ex.gap, isTy, asInt, Option.map_some, Option.map_none, Option.bind_some, Option.bind_none, List.map_cons, List.map_nil, List.replicate, List.cons_append, List.nil_append, List.append_nil, List.getD_cons_zero, List.getD_cons_succ, List.getD_nil, List.set_cons_zero, List.set_cons_succ, List.set_nil, List.zip_cons_cons, List.zip_nil_left, List.zip_nil_right, List.foldl_cons, List.foldl_nil, List.length_cons, List.length_nil, List.any_cons, List.any_nil, List.all_cons, List.all_nil, if_true, if_false, ite_true, ite_false, Bool.false_eq_true, Bool.true_eq_false, Bool.or_false, Bool.or_true, Bool.and_true, Bool.and_false, Bool.true_and, Bool.false_and, Bool.not_true, Bool.not_false, decide_true, decide_false, Nat.reduceAdd, Nat.reduceSub, Nat.zero_add, reduceIte, reduceCtorEq, sz0, sz1, sz2, sz3, sz4, sz5, sz6, sz7, sz8, sz9, sz10, sz11, sz12, sz13, sz14, sz15, sz16, seqOf, ev_callv, ev_lcall, keep_d, capsOf, c]
    refine ow_cons ?_
    obtain ⟨z, hz, z0, z1⟩ : ∃ z : Int, L2.atI [PyData.int 12, .int 70, .int 4000] way = some (.int z) ∧ 0 < z ∧ z ≤ 4000 := by
      have : way = 0 ∨ way = 1 ∨ way = 2 := by omega
      rcases this with rfl | rfl | rfl
      · exact ⟨12, rfl, by decide, by decide⟩
      · exact ⟨70, rfl, by decide, by decide⟩
      · exact ⟨4000, rfl, by decide, by decide⟩
    simp [evS, ev_v, ev_c, ev_g, ev_fn, ev_bin, ev_neg, ev_no, ev_cmp, ev_chain, ev_and, ev_or, ev_ite, ev_call, ev_kcall, ev_bi, ev_isi, ev_ix, ev_sl, ev_rev, ev_tup, ev_lst, ev_pop, ev_dk, ev_dle, ev_dpop, ev_dmk, evEach, evIt, evs, evF, ops, op1, op2, opA, tst, tsts, truD, Pv.load, look, S.at, S.put, mine, store, setO, appO, drO, mkO, sliceO, seqO, ofRo_ok, lcTurn, Out.calm, hideS, backS, ownFree, bind_ok, bind_bad, bind_exc, ow_ok, ow_bad, ow_exc, ofO, dsOf, lstD, tupD, binop, cmpop, deq, Pv.truthy, builtin, item, item.atI, slice, Pv.bound, Ex.gap, isTy, asInt, Option.map_some, Option.map_none, Option.bind_some, Option.bind_none, List.map_cons, List.map_nil, List.replicate, List.cons_append, List.nil_append, List.append_nil, List.getD_cons_zero, List.getD_cons_succ, List.getD_nil, List.set_cons_zero, List.set_cons_succ, List.set_nil, List.zip_cons_cons, List.zip_nil_left, List.zip_nil_right, List.foldl_cons, List.foldl_nil, List.length_cons, List.length_nil, List.any_cons, List.any_nil, List.all_cons, List.all_nil, if_true, if_false, ite_true, ite_false, Bool.false_eq_true, Bool.true_eq_false, Bool.or_false, Bool.or_true, Bool.and_true, Bool.and_false, Bool.true_and, Bool.false_and, Bool.not_true, Bool.not_false, decide_true, decide_false, Nat.reduceAdd, Nat.reduceSub, Nat.zero_add, reduceIte, reduceCtorEq, sz0, sz1, sz2, sz3, sz4, sz5, sz6, sz7, sz8, sz9, sz10, sz11, sz12, sz13, sz14, sz15, sz16, seqOf, ev_callv, ev_lcall, keep_d, capsOf, ow_bind, hz]
    refine ow_call0 (run_take (k + 1) st z z0 (divOk_fit z0 (fit_small (by omega)))) ?_
    rintro a fr dr ⟨⟨v, rfl, v0, v1⟩, rfl, hd⟩
    simp [evS, ev_v, ev_c, ev_g, ev_fn, ev_bin, ev_neg, ev_no, ev_cmp, ev_chain, ev_and, ev_or, ev_ite, ev_call, ev_kcall, ev_bi, ev_isi, ev_ix, ev_sl, ev_rev, ev_tup, ev_lst, ev_pop, ev_dk, ev_dle, ev_dpop, ev_dmk, evEach, evIt, evs, evF, ops, op1, op2, opA, tst, tsts, truD, Pv.load, look, S.at, S.put, mine, store, setO, appO, drO, mkO, sliceO, seqO, ofRo_ok, lcTurn, Out.calm, hideS, backS, ownFree, bind_ok, bind_bad, bind_exc, ow_ok, ow_bad, ow_exc, ofO, dsOf, lstD, tupD, binop, cmpop, deq, Pv.truthy, builtin, item, item.atI, slice, Pv.bound, Ex.gap, isTy, asInt, Option.map_some, Option.map_none, Option.bind_some, Option.bind_none, List.map_cons, List.map_nil, List.replicate, List.cons_append, List.nil_append, List.append_nil, List.getD_cons_zero, List.getD_cons_succ, List.getD_nil, List.set_cons_zero, List.set_cons_succ, List.set_nil, List.zip_cons_cons, List.zip_nil_left, List.zip_nil_right, List.foldl_cons, List.foldl_nil, List.length_cons, List.length_nil, List.any_cons, List.any_nil, List.all_cons, List.all_nil, if_true, if_false, ite_true, ite_false, Bool.false_eq_true, Bool.true_eq_false, Bool.or_false, Bool.or_true, Bool.and_true, Bool.and_false, Bool.true_and, Bool.false_and, Bool.not_true, Bool.not_false, decide_true, decide_false, Nat.reduceAdd, Nat.reduceSub, Nat.zero_add, reduceIte, reduceCtorEq, sz0, sz1, sz2, sz3, sz4, sz5, sz6, sz7, sz8, sz9, sz10, sz11, sz12, sz13, sz14, sz15, sz16, seqOf, ev_callv, ev_lcall, keep_d, capsOf, hd]
    exact ⟨(1 + v).toNat, by omega, by omega, by omega⟩
  · simp [evS, ev_v, ev_c, ev_g, ev_fn, ev_bin, ev_neg, ev_no, ev_cmp, ev_chain, ev_and, ev_or, ev_ite, ev_call, ev_kcall, ev_bi, ev_isi, ev_ix, ev_sl, ev_rev, ev_tup, ev_lst, ev_pop, ev_dk, ev_dle, ev_dpop, ev_dmk, evEach, evIt, evs, evF, ops, op1, op2, opA, tst, tsts, truD, Pv.load, look, S.at, S.put, mine, store, setO, appO, drO, mkO, sliceO, seqO, ofRo_ok, lcTurn, Out.calm, hideS, backS, ownFree, bind_ok, bind_bad, bind_exc, ow_ok, ow_bad, ow_exc, ofO, dsOf, lstD, tupD, binop, cmpop, deq, Pv.truthy, builtin, item, item.atI, slice, Pv.bound, Ex.gap, isTy, asInt, Option.map_some, Option.map_none, Option.bind_some, Option.bind_none, List.map_cons, List.map_nil, List.replicate, List.cons_append, List.nil_append, List.append_nil, List.getD_cons_zero, List.getD_cons_succ, List.getD_nil, List.set_cons_zero, List.set_cons_succ, List.set_nil, List.zip_cons_cons, List.zip_nil_left, List.zip_nil_right, List.foldl_cons, List.foldl_nil, List.length_cons, List.length_nil, List.any_cons, List.any_nil, List.all_cons, List.all_nil, if_true, if_false, ite_true, ite_false, Bool.false_eq_true, Bool.true_eq_false, Bool.or_false, Bool.or_true, Bool.and_true, Bool.and_false, Bool.true_and, Bool.false_and, Bool.not_true, Bool.not_false, decide_true, decide_false, Nat.reduceAdd, Nat.reduceSub, Nat.zero_add, reduceIte, reduceCtorEq, sz0, sz1, sz2, sz3, sz4, sz5, sz6, sz7, sz8, sz9, sz10, sz11, sz12, sz13, sz14, sz15, sz16, seqOf, ev_callv, ev_lcall, keep_d, capsOf, c]
    refine ow_nil ?_
    refine ow_cons ?_
    simp [evS, ev_v, ev_c, ev_g, ev_fn, ev_bin, ev_neg, ev_no, ev_cmp, ev_chain, ev_and, ev_or, ev_ite, ev_call, ev_kcall, ev_bi, ev_isi, ev_ix, ev_sl, ev_rev, ev_tup, ev_lst, ev_pop, ev_dk, ev_dle, ev_dpop, ev_dmk, evEach, evIt, evs, evF, ops, op1, op2, opA, tst, tsts, truD, Pv.load, look, S.at, S.put, mine, store, setO, appO, drO, mkO, sliceO, seqO, ofRo_ok, lcTurn, Out.calm, hideS, backS, ownFree, bind_ok, bind_bad, bind_exc, ow_ok, ow_bad, ow_exc, ofO, dsOf, lstD, tupD, binop, cmpop, deq, Pv.truthy, builtin, item, item.atI, slice, Pv.bound, Ex.gap, isTy, asInt, Option.map_some, Option.map_none, Option.bind_some, Option.bind_none, List.map_cons, List.map_nil, List.replicate, List.cons_append, List.nil_append, List.append_nil, List.getD_cons_zero, List.getD_cons_succ, List.getD_nil, List.set_cons_zero, List.set_cons_succ, List.set_nil, List.zip_cons_cons, List.zip_nil_left, List.zip_nil_right, List.foldl_cons, List.foldl_nil, List.length_cons, List.length_nil, List.any_cons, List.any_nil, List.all_cons, List.all_nil, if_true, if_false, ite_true, ite_false, Bool.false_eq_true, Bool.true_eq_false, Bool.or_false, Bool.or_true, Bool.and_true, Bool.and_false, Bool.true_and, Bool.false_and, Bool.not_true, Bool.not_false, decide_true, decide_false, Nat.reduceAdd, Nat.reduceSub, Nat.zero_add, reduceIte, reduceCtorEq, sz0, sz1, sz2, sz3, sz4, sz5, sz6, sz7, sz8, sz9, sz10, sz11, sz12, sz13, sz14, sz15, sz16, seqOf, ev_callv, ev_lcall, keep_d, capsOf, ow_bind]
    refine ow_call0 (run_take (k + 1) st 399 (by decide) (by decide)) ?_
    rintro a fr dr ⟨⟨v, rfl, v0, v1⟩, rfl, hd⟩
    obtain ⟨st, rfl⟩ := Option.isSome_iff_exists.mp hd
    simp [evS, ev_v, ev_c, ev_g, ev_fn, ev_bin, ev_neg, ev_no, ev_cmp, ev_chain, ev_and, ev_or, ev_ite, ev_call, ev_kcall, ev_bi, ev_isi, ev_ix, ev_sl, ev_rev, ev_tup, ev_lst, ev_pop, ev_dk, ev_dle, ev_dpop, ev_dmk, evEach, evIt, evs, evF, ops, op1, op2, opA, tst, tsts, truD, Pv.load, look, S.at, S.put, mine, store, setO, appO, drO, mkO, sliceO, seqO, ofRo_ok, lcTurn, Out.calm, hideS, backS, ownFree, bind_ok, bind_bad, bind_exc, ow_ok, ow_bad, ow_exc, ofO, dsOf, lstD, tupD, binop, cmpop, deq, Pv.truthy, builtin, item, item.atI, slice, Pv.bound, Ex.gap, isTy, asInt, Option.map_some, Option.map_none, Option.bind_some, Option.bind_none, List.map_cons, List.map_nil, List.replicate, List.cons_append, List.nil_append, List.append_nil, List.getD_cons_zero, List.getD_cons_succ, List.getD_nil, List.set_cons_zero, List.set_cons_succ, List.set_nil, List.zip_cons_cons, List.zip_nil_left, List.zip_nil_right, List.foldl_cons, List.foldl_nil, List.length_cons, List.length_nil, List.any_cons, List.any_nil, List.all_cons, List.all_nil, if_true, if_false, ite_true, ite_false, Bool.false_eq_true, Bool.true_eq_false, Bool.or_false, Bool.or_true, Bool.and_true, Bool.and_false, Bool.true_and, Bool.false_and, Bool.not_true, Bool.not_false, decide_true, decide_false, Nat.reduceAdd, Nat.reduceSub, Nat.zero_add, reduceIte, reduceCtorEq, sz0, sz1, sz2, sz3, sz4, sz5, sz6, sz7, sz8, sz9, sz10, sz11, sz12, sz13, sz14, sz15, sz16, seqOf, ev_callv, ev_lcall, keep_d, capsOf]
    have b0 : 1 ≤ 1 + v := by omega
    have b1 : 1 + v ≤ 399 := by omega
    generalize 1 + v = b at b0 b1
    have pw : ∀ z : Int, 0 ≤ z → z ≤ 399 → ∃ B : Int, (2 : Int) ^ z.toNat = B ∧ 0 < B ∧ ∃ n : Nat, B = (n : Int) ∧ n ≤ 2 ^ 399 ∧ (z ≤ 398 → n ≤ 2 ^ 398) := fun z z0 z1 => by
      refine ⟨_, rfl, Int.pow_pos (by decide), 2 ^ z.toNat, by rw [Int.natCast_pow]; rfl, pow_le_pow (by omega), fun h => pow_le_pow (by omega)⟩
    have e400 : 2 ^ 400 = 2 ^ 399 * 2 := Nat.pow_succ _ _
    have e399 : 2 ^ 399 = 2 ^ 398 * 2 := Nat.pow_succ _ _
    refine ow_cons (ow_ifs ?_)
    by_cases c3 : way = 3
    · simp [evS, ev_v, ev_c, ev_g, ev_fn, ev_bin, ev_neg, ev_no, ev_cmp, ev_chain, ev_and, ev_or, ev_ite, ev_call, ev_kcall, ev_bi, ev_isi, ev_ix, ev_sl, ev_rev, ev_tup, ev_lst, ev_pop, ev_dk, ev_dle, ev_dpop, ev_dmk, evEach, evIt, evs, evF, ops, op1, op2, opA, tst, tsts, truD, Pv.load, look, S.at, S.put, mine, store, setO, appO, drO, mkO, sliceO, seqO, ofRo_ok, lcTurn, Out.calm, hideS, backS, ownFree, bind_ok, bind_bad, bind_exc, ow_ok, ow_bad, ow_exc, ofO, dsOf, lstD, tupD, binop, cmpop, deq, Pv.truthy, builtin, item, item.atI, slice, Pv.bound, Ex.gap, isTy, asInt, Option.map_some, Option.map_none, Option.bind_some, Option.bind_none, List.map_cons, List.map_nil, List.replicate, List.cons_append, List.nil_append, List.append_nil, List.getD_cons_zero, List.getD_cons_succ, List.getD_nil, List.set_cons_zero, List.set_cons_succ, List.set_nil, List.zip_cons_cons, List.zip_nil_left, List.zip_nil_right, List.foldl_cons, List.foldl_nil, List.length_cons, List.length_nil, List.any_cons, List.any_nil, List.all_cons, List.all_nil, if_true, if_false, ite_true, ite_false, Bool.false_eq_true, Bool.true_eq_false, Bool.or_false, Bool.or_true, Bool.and_true, Bool.and_false, Bool.true_and, Bool.false_and, Bool.not_true, Bool.not_false, decide_true, decide_false, Nat.reduceAdd, Nat.reduceSub, Nat.zero_add, reduceIte, reduceCtorEq, sz0, sz1, sz2, sz3, sz4, sz5, sz6, sz7, sz8, sz9, sz10, sz11, sz12, sz13, sz14, sz15, sz16, seqOf, ev_callv, ev_lcall, keep_d, capsOf, c3]
      refine ow_cons ?_
      obtain ⟨B, hB, B0, n, hn, n1, n2⟩ := pw b (by omega) b1
      have so : shlOk 1 b = true := shlOk_one (by omega) (by omega)
      by_cases c4 : b < 399
      · have n3 := n2 (by omega)
        simp [evS, ev_v, ev_c, ev_g, ev_fn, ev_bin, ev_neg, ev_no, ev_cmp, ev_chain, ev_and, ev_or, ev_ite, ev_call, ev_kcall, ev_bi, ev_isi, ev_ix, ev_sl, ev_rev, ev_tup, ev_lst, ev_pop, ev_dk, ev_dle, ev_dpop, ev_dmk, evEach, evIt, evs, evF, ops, op1, op2, opA, tst, tsts, truD, Pv.load, look, S.at, S.put, mine, store, setO, appO, drO, mkO, sliceO, seqO, ofRo_ok, lcTurn, Out.calm, hideS, backS, ownFree, bind_ok, bind_bad, bind_exc, ow_ok, ow_bad, ow_exc, ofO, dsOf, lstD, tupD, binop, cmpop, deq, Pv.truthy, builtin, item, item.atI, slice, Pv.bound, Ex.gap, isTy, asInt, Option.map_some, Option.map_none, Option.bind_some, Option.bind_none, List.map_cons, List.map_nil, List.replicate, List.cons_append, List.nil_append, List.append_nil, List.getD_cons_zero, List.getD_cons_succ, List.getD_nil, List.set_cons_zero, List.set_cons_succ, List.set_nil, List.zip_cons_cons, List.zip_nil_left, List.zip_nil_right, List.foldl_cons, List.foldl_nil, List.length_cons, List.length_nil, List.any_cons, List.any_nil, List.all_cons, List.all_nil, if_true, if_false, ite_true, ite_false, Bool.false_eq_true, Bool.true_eq_false, Bool.or_false, Bool.or_true, Bool.and_true, Bool.and_false, Bool.true_and, Bool.false_and, Bool.not_true, Bool.not_false, decide_true, decide_false, Nat.reduceAdd, Nat.reduceSub, Nat.zero_add, reduceIte, reduceCtorEq, sz0, sz1, sz2, sz3, sz4, sz5, sz6, sz7, sz8, sz9, sz10, sz11, sz12, sz13, sz14, sz15, sz16, seqOf, ev_callv, ev_lcall, keep_d, capsOf, ow_bind, c4, so, hB]
        refine ow_call0 (run_take (k + 1) st 7 (by decide) (by decide)) ?_
        rintro a fr dr ⟨⟨v, rfl, v0, v1⟩, rfl, hd⟩
        simp [evS, ev_v, ev_c, ev_g, ev_fn, ev_bin, ev_neg, ev_no, ev_cmp, ev_chain, ev_and, ev_or, ev_ite, ev_call, ev_kcall, ev_bi, ev_isi, ev_ix, ev_sl, ev_rev, ev_tup, ev_lst, ev_pop, ev_dk, ev_dle, ev_dpop, ev_dmk, evEach, evIt, evs, evF, ops, op1, op2, opA, tst, tsts, truD, Pv.load, look, S.at, S.put, mine, store, setO, appO, drO, mkO, sliceO, seqO, ofRo_ok, lcTurn, Out.calm, hideS, backS, ownFree, bind_ok, bind_bad, bind_exc, ow_ok, ow_bad, ow_exc, ofO, dsOf, lstD, tupD, binop, cmpop, deq, Pv.truthy, builtin, item, item.atI, slice, Pv.bound, Ex.gap, isTy, asInt, Option.map_some, Option.map_none, Option.bind_some, Option.bind_none, List.map_cons, List.map_nil, List.replicate, List.cons_append, List.nil_append, List.append_nil, List.getD_cons_zero, List.getD_cons_succ, List.getD_nil, List.set_cons_zero, List.set_cons_succ, List.set_nil, List.zip_cons_cons, List.zip_nil_left, List.zip_nil_right, List.foldl_cons, List.foldl_nil, List.length_cons, List.length_nil, List.any_cons, List.any_nil, List.all_cons, List.all_nil, if_true, if_false, ite_true, ite_false, Bool.false_eq_true, Bool.true_eq_false, Bool.or_false, Bool.or_true, Bool.and_true, Bool.and_false, Bool.true_and, Bool.false_and, Bool.not_true, Bool.not_false, decide_true, decide_false, Nat.reduceAdd, Nat.reduceSub, Nat.zero_add, reduceIte, reduceCtorEq, sz0, sz1, sz2, sz3, sz4, sz5, sz6, sz7, sz8, sz9, sz10, sz11, sz12, sz13, sz14, sz15, sz16, seqOf, ev_callv, ev_lcall, keep_d, capsOf, hd]
        exact ⟨(if 1 < B + v - 3 then B + v - 3 else 1).toNat, by split <;> omega, by split <;> omega, by split <;> omega⟩
      · have s4 : shlOk 1 400 = true := shlOk_one (by decide) (by decide)
        obtain ⟨P4, hP4⟩ : ∃ P4 : Int, (2 : Int) ^ Int.toNat 400 = P4 := ⟨_, rfl⟩
        have hP4n : P4 = ((2 ^ 400 : Nat) : Int) := by rw [← hP4, Int.natCast_pow]; rfl
        have hlt : 1 < P4 := by omega
        have ev1 : Ow (evS G (run G T (k + 3)) (.ret (.bi .max [.c (.int 1), .ite (.cmp .lt (.v 2) (.c (.int 399))) (.bin .sub (.bin .add (.bin .shl (.c (.int 1)) (.v 2)) (.call 24 [.v 0, .c (.int 7)])) (.c (.int 3))) (.bin .shl (.c (.int 1)) (.c (.int 400)))])) ⟨[.va .drw, .va (.d (.int 3)), .va (.d (.int b))], some st⟩) fun f s => f = .rt (.d (.int P4)) false ∧ s.dr = some st := by
          simp only [evS, ev_v, ev_c, ev_g, ev_fn, ev_bin, ev_neg, ev_no, ev_cmp, ev_chain, ev_and, ev_or, ev_ite, ev_call, ev_kcall, ev_bi, ev_isi, ev_ix, ev_sl, ev_rev, ev_tup, ev_lst, ev_pop, ev_dk, ev_dle, ev_dpop, ev_dmk, evEach, evIt, evs, evF, ops, op1, op2, opA, tst, tsts, truD, Pv.load, look, S.at, S.put, mine, store, setO, appO, drO, mkO, sliceO, seqO, ofRo_ok, lcTurn, Out.calm, hideS, backS, ownFree, bind_ok, bind_bad, bind_exc, ow_ok, ow_bad, ow_exc, ofO, dsOf, lstD, tupD, binop, cmpop, deq, Pv.truthy, builtin, item, item.atI, slice, Pv.bound, Ex.gap, isTy, asInt, Option.map_some, Option.map_none, Option.bind_some, Option.bind_none, List.map_cons, List.map_nil, List.replicate, List.cons_append, List.nil_append, List.append_nil, List.getD_cons_zero, List.getD_cons_succ, List.getD_nil, List.set_cons_zero, List.set_cons_succ, List.set_nil, List.zip_cons_cons, List.zip_nil_left, List.zip_nil_right, List.foldl_cons, List.foldl_nil, List.length_cons, List.length_nil, List.any_cons, List.any_nil, List.all_cons, List.all_nil, if_true, if_false, ite_true, ite_false, Bool.false_eq_true, Bool.true_eq_false, Bool.or_false, Bool.or_true, Bool.and_true, Bool.and_false, Bool.true_and, Bool.false_and, Bool.not_true, Bool.not_false, decide_true, decide_false, Nat.reduceAdd, Nat.reduceSub, Nat.zero_add, reduceIte, reduceCtorEq, sz0, sz1, sz2, sz3, sz4, sz5, sz6, sz7, sz8, sz9, sz10, sz11, sz12, sz13, sz14, sz15, sz16, seqOf, ev_callv, ev_lcall, keep_d, capsOf, s4]
          rw [hP4]
          clear hP4 hP4n
          simp [evS, ev_v, ev_c, ev_g, ev_fn, ev_bin, ev_neg, ev_no, ev_cmp, ev_chain, ev_and, ev_or, ev_ite, ev_call, ev_kcall, ev_bi, ev_isi, ev_ix, ev_sl, ev_rev, ev_tup, ev_lst, ev_pop, ev_dk, ev_dle, ev_dpop, ev_dmk, evEach, evIt, evs, evF, ops, op1, op2, opA, tst, tsts, truD, Pv.load, look, S.at, S.put, mine, store, setO, appO, drO, mkO, sliceO, seqO, ofRo_ok, lcTurn, Out.calm, hideS, backS, ownFree, bind_ok, bind_bad, bind_exc, ow_ok, ow_bad, ow_exc, ofO, dsOf, lstD, tupD, binop, cmpop, deq, Pv.truthy, builtin, item, item.atI, slice, Pv.bound, Ex.gap, isTy, asInt, Option.map_some, Option.map_none, Option.bind_some, Option.bind_none, List.map_cons, List.map_nil, List.replicate, List.cons_append, List.nil_append, List.append_nil, List.getD_cons_zero, List.getD_cons_succ, List.getD_nil, List.set_cons_zero, List.set_cons_succ, List.set_nil, List.zip_cons_cons, List.zip_nil_left, List.zip_nil_right, List.foldl_cons, List.foldl_nil, List.length_cons, List.length_nil, List.any_cons, List.any_nil, List.all_cons, List.all_nil, if_true, if_false, ite_true, ite_false, Bool.false_eq_true, Bool.true_eq_false, Bool.or_false, Bool.or_true, Bool.and_true, Bool.and_false, Bool.true_and, Bool.false_and, Bool.not_true, Bool.not_false, decide_true, decide_false, Nat.reduceAdd, Nat.reduceSub, Nat.zero_add, reduceIte, reduceCtorEq, sz0, sz1, sz2, sz3, sz4, sz5, sz6, sz7, sz8, sz9, sz10, sz11, sz12, sz13, sz14, sz15, sz16, seqOf, ev_callv, ev_lcall, keep_d, capsOf, c4, hlt, Int.one_mul]
        refine ow_mono ev1 ?_
        rintro f s ⟨rfl, hs⟩
        simp [hs]
        exact ⟨2 ^ 400, hP4n, by omega, Nat.le_refl _⟩
    · simp [evS, ev_v, ev_c, ev_g, ev_fn, ev_bin, ev_neg, ev_no, ev_cmp, ev_chain, ev_and, ev_or, ev_ite, ev_call, ev_kcall, ev_bi, ev_isi, ev_ix, ev_sl, ev_rev, ev_tup, ev_lst, ev_pop, ev_dk, ev_dle, ev_dpop, ev_dmk, evEach, evIt, evs, evF, ops, op1, op2, opA, tst, tsts, truD, Pv.load, look, S.at, S.put, mine, store, setO, appO, drO, mkO, sliceO, seqO, ofRo_ok, lcTurn, Out.calm, hideS, backS, ownFree, bind_ok, bind_bad, bind_exc, ow_ok, ow_bad, ow_exc, ofO, dsOf, lstD, tupD, binop, cmpop, deq, Pv.truthy, builtin, item, item.atI, slice, Pv.bound, Ex.gap, isTy, asInt, Option.map_some, Option.map_none, Option.bind_some, Option.bind_none, List.map_cons, List.map_nil, List.replicate, List.cons_append, List.nil_append, List.append_nil, List.getD_cons_zero, List.getD_cons_succ, List.getD_nil, List.set_cons_zero, List.set_cons_succ, List.set_nil, List.zip_cons_cons, List.zip_nil_left, List.zip_nil_right, List.foldl_cons, List.foldl_nil, List.length_cons, List.length_nil, List.any_cons, List.any_nil, List.all_cons, List.all_nil, if_true, if_false, ite_true, ite_false, Bool.false_eq_true, Bool.true_eq_false, Bool.or_false, Bool.or_true, Bool.and_true, Bool.and_false, Bool.true_and, Bool.false_and, Bool.not_true, Bool.not_false, decide_true, decide_false, Nat.reduceAdd, Nat.reduceSub, Nat.zero_add, reduceIte, reduceCtorEq, sz0, sz1, sz2, sz3, sz4, sz5, sz6, sz7, sz8, sz9, sz10, sz11, sz12, sz13, sz14, sz15, sz16, seqOf, ev_callv, ev_lcall, keep_d, capsOf, c3]
      refine ow_nil ?_
      refine ow_cons ?_
      simp [evS, ev_v, ev_c, ev_g, ev_fn, ev_bin, ev_neg, ev_no, ev_cmp, ev_chain, ev_and, ev_or, ev_ite, ev_call, ev_kcall, ev_bi, ev_isi, ev_ix, ev_sl, ev_rev, ev_tup, ev_lst, ev_pop, ev_dk, ev_dle, ev_dpop, ev_dmk, evEach, evIt, evs, evF, ops, op1, op2, opA, tst, tsts, truD, Pv.load, look, S.at, S.put, mine, store, setO, appO, drO, mkO, sliceO, seqO, ofRo_ok, lcTurn, Out.calm, hideS, backS, ownFree, bind_ok, bind_bad, bind_exc, ow_ok, ow_bad, ow_exc, ofO, dsOf, lstD, tupD, binop, cmpop, deq, Pv.truthy, builtin, item, item.atI, slice, Pv.bound, Ex.gap, isTy, asInt, Option.map_some, Option.map_none, Option.bind_some, Option.bind_none, List.map_cons, List.map_nil, List.replicate, List.cons_append, List.nil_append, List.append_nil, List.getD_cons_zero, List.getD_cons_succ, List.getD_nil, List.set_cons_zero, List.set_cons_succ, List.set_nil, List.zip_cons_cons, List.zip_nil_left, List.zip_nil_right, List.foldl_cons, List.foldl_nil, List.length_cons, List.length_nil, List.any_cons, List.any_nil, List.all_cons, List.all_nil, if_true, if_false, ite_true, ite_false, Bool.false_eq_true, Bool.true_eq_false, Bool.or_false, Bool.or_true, Bool.and_true, Bool.and_false, Bool.true_and, Bool.false_and, Bool.not_true, Bool.not_false, decide_true, decide_false, Nat.reduceAdd, Nat.reduceSub, Nat.zero_add, reduceIte, reduceCtorEq, sz0, sz1, sz2, sz3, sz4, sz5, sz6, sz7, sz8, sz9, sz10, sz11, sz12, sz13, sz14, sz15, sz16, seqOf, ev_callv, ev_lcall, keep_d, capsOf, ow_bind]
      refine ow_call0 (run_pick k st _ (by simp) (by simp)) ?_
      rintro a fr dr ⟨⟨y, hy, rfl⟩, rfl, hd⟩
      obtain ⟨st, rfl⟩ := Option.isSome_iff_exists.mp hd
      obtain ⟨z, rfl, z0, z1⟩ : ∃ z : Int, y = .int z ∧ 0 ≤ z ∧ z ≤ 399 := by
        simp at hy
        rcases hy with rfl | rfl | rfl
        · exact ⟨_, rfl, by omega, by omega⟩
        · exact ⟨_, rfl, by omega, by omega⟩
        · exact ⟨_, rfl, by omega, by omega⟩
      obtain ⟨B, hB, B0, n, hn, n1, n2⟩ := pw z z0 z1
      have so : shlOk 1 z = true := shlOk_one (by omega) (by omega)
      simp [evS, ev_v, ev_c, ev_g, ev_fn, ev_bin, ev_neg, ev_no, ev_cmp, ev_chain, ev_and, ev_or, ev_ite, ev_call, ev_kcall, ev_bi, ev_isi, ev_ix, ev_sl, ev_rev, ev_tup, ev_lst, ev_pop, ev_dk, ev_dle, ev_dpop, ev_dmk, evEach, evIt, evs, evF, ops, op1, op2, opA, tst, tsts, truD, Pv.load, look, S.at, S.put, mine, store, setO, appO, drO, mkO, sliceO, seqO, ofRo_ok, lcTurn, Out.calm, hideS, backS, ownFree, bind_ok, bind_bad, bind_exc, ow_ok, ow_bad, ow_exc, ofO, dsOf, lstD, tupD, binop, cmpop, deq, Pv.truthy, builtin, item, item.atI, slice, Pv.bound, Ex.gap, isTy, asInt, Option.map_some, Option.map_none, Option.bind_some, Option.bind_none, List.map_cons, List.map_nil, List.replicate, List.cons_append, List.nil_append, List.append_nil, List.getD_cons_zero, List.getD_cons_succ, List.getD_nil, List.set_cons_zero, List.set_cons_succ, List.set_nil, List.zip_cons_cons, List.zip_nil_left, List.zip_nil_right, List.foldl_cons, List.foldl_nil, List.length_cons, List.length_nil, List.any_cons, List.any_nil, List.all_cons, List.all_nil, if_true, if_false, ite_true, ite_false, Bool.false_eq_true, Bool.true_eq_false, Bool.or_false, Bool.or_true, Bool.and_true, Bool.and_false, Bool.true_and, Bool.false_and, Bool.not_true, Bool.not_false, decide_true, decide_false, Nat.reduceAdd, Nat.reduceSub, Nat.zero_add, reduceIte, reduceCtorEq, sz0, sz1, sz2, sz3, sz4, sz5, sz6, sz7, sz8, sz9, sz10, sz11, sz12, sz13, sz14, sz15, sz16, seqOf, ev_callv, ev_lcall, keep_d, capsOf, ow_bind, so, hB]
      refine ow_call0 (run_take (k + 1) st B B0 (divOk_fit B0 (fit_le 399 hn n1 (by decide)))) ?_
      rintro a fr dr ⟨⟨v, rfl, v0, v1⟩, rfl, hd⟩
      simp [evS, ev_v, ev_c, ev_g, ev_fn, ev_bin, ev_neg, ev_no, ev_cmp, ev_chain, ev_and, ev_or, ev_ite, ev_call, ev_kcall, ev_bi, ev_isi, ev_ix, ev_sl, ev_rev, ev_tup, ev_lst, ev_pop, ev_dk, ev_dle, ev_dpop, ev_dmk, evEach, evIt, evs, evF, ops, op1, op2, opA, tst, tsts, truD, Pv.load, look, S.at, S.put, mine, store, setO, appO, drO, mkO, sliceO, seqO, ofRo_ok, lcTurn, Out.calm, hideS, backS, ownFree, bind_ok, bind_bad, bind_exc, ow_ok, ow_bad, ow_exc, ofO, dsOf, lstD, tupD, binop, cmpop, deq, Pv.truthy, builtin, item, item.atI, slice, Pv.bound, Ex.gap, isTy, asInt, Option.map_some, Option.map_none, Option.bind_some, Option.bind_none, List.map_cons, List.map_nil, List.replicate, List.cons_append, List.nil_append, List.append_nil, List.getD_cons_zero, List.getD_cons_succ, List.getD_nil, List.set_cons_zero, List.set_cons_succ, List.set_nil, List.zip_cons_cons, List.zip_nil_left, List.zip_nil_right, List.foldl_cons, List.foldl_nil, List.length_cons, List.length_nil, List.any_cons, List.any_nil, List.all_cons, List.all_nil, if_true, if_false, ite_true, ite_false, Bool.false_eq_true, Bool.true_eq_false, Bool.or_false, Bool.or_true, Bool.and_true, Bool.and_false, Bool.true_and, Bool.false_and, Bool.not_true, Bool.not_false, decide_true, decide_false, Nat.reduceAdd, Nat.reduceSub, Nat.zero_add, reduceIte, reduceCtorEq, sz0, sz1, sz2, sz3, sz4, sz5, sz6, sz7, sz8, sz9, sz10, sz11, sz12, sz13, sz14, sz15, sz16, seqOf, ev_callv, ev_lcall, keep_d, capsOf, hd]
      exact ⟨(1 + v).toNat, by omega, by omega, by omega⟩
theorem run_wide (st : Dr) : Rw (run G T (k + 4) 17 [.drw] (some st)) fun a fr dr => (∃ v : Int, a = .d (.int v) ∧ 1 ≤ v ∧ v ≤ 400) ∧ fr = false ∧ dr.isSome = true := by
  rw [run_fn' (f := 17) (np := 1) (nn := 1) rfl rfl]
  refine rw_ret ?_
  refine ow_cons ?_
  simp [evS, ev_v, ev_c, ev_g, ev_fn, ev_bin, ev_neg, ev_no, ev_cmp, ev_chain, ev_and, ev_or, ev_ite, ev_call, ev_kcall, ev_bi, ev_isi, ev_ix, ev_sl, ev_rev, ev_tup, ev_lst, ev_pop, ev_dk, ev_dle, ev_dpop, ev_dmk, evEach, evIt, evs, evF, ops, op1, op2, opA, tst, tsts, truD, Pv.load, look, S.at, S.put, mine, store, setO, appO, drO, mkO, sliceO, seqO, ofRo_ok, lcTurn, Out.calm, hideS, backS, ownFree, bind_ok, bind_bad, bind_exc, ow_ok, ow_bad, ow_exc, ofO, dsOf, lstD, tupD, binop, cmpop, deq, Pv.truthy, builtin, item, item.atI, slice, Pv.bound, Ex.gap, isTy, asInt, Option.map_some, Option.map_none, Option.bind_some, Option.bind_none, List.map_cons, List.map_nil, List.replicate, List.cons_append, List.nil_append, List.append_nil, List.getD_cons_zero, List.getD_cons_succ, List.getD_nil, List.set_cons_zero, List.set_cons_succ, List.set_nil, List.zip_cons_cons, List.zip_nil_left, List.zip_nil_right, List.foldl_cons, List.foldl_nil, List.length_cons, List.length_nil, List.any_cons, List.any_nil, List.all_cons, List.all_nil, if_true, if_false, ite_true, ite_false, Bool.false_eq_true, Bool.true_eq_false, Bool.or_false, Bool.or_true, Bool.and_true, Bool.and_false, Bool.true_and, Bool.false_and, Bool.not_true, Bool.not_false, decide_true, decide_false, Nat.reduceAdd, Nat.reduceSub, Nat.zero_add, reduceIte, reduceCtorEq, sz0, sz1, sz2, sz3, sz4, sz5, sz6, sz7, sz8, sz9, sz10, sz11, sz12, sz13, sz14, sz15, sz16, seqOf, ev_callv, ev_lcall, keep_d, capsOf, ow_bind]
  refine ow_call0 (run_take (k + 1) st 400 (by decide) (by decide)) ?_
  rintro a fr dr ⟨⟨v, rfl, v0, v1⟩, rfl, hd⟩
  obtain ⟨st, rfl⟩ := Option.isSome_iff_exists.mp hd
  have sz20 : (20 ≤ sizeLine) = True := eq_true (by decide)
  simp [evS, ev_v, ev_c, ev_g, ev_fn, ev_bin, ev_neg, ev_no, ev_cmp, ev_chain, ev_and, ev_or, ev_ite, ev_call, ev_kcall, ev_bi, ev_isi, ev_ix, ev_sl, ev_rev, ev_tup, ev_lst, ev_pop, ev_dk, ev_dle, ev_dpop, ev_dmk, evEach, evIt, evs, evF, ops, op1, op2, opA, tst, tsts, truD, Pv.load, look, S.at, S.put, mine, store, setO, appO, drO, mkO, sliceO, seqO, ofRo_ok, lcTurn, Out.calm, hideS, backS, ownFree, bind_ok, bind_bad, bind_exc, ow_ok, ow_bad, ow_exc, ofO, dsOf, lstD, tupD, binop, cmpop, deq, Pv.truthy, builtin, item, item.atI, slice, Pv.bound, Ex.gap, isTy, asInt, Option.map_some, Option.map_none, Option.bind_some, Option.bind_none, List.map_cons, List.map_nil, List.replicate, List.cons_append, List.nil_append, List.append_nil, List.getD_cons_zero, List.getD_cons_succ, List.getD_nil, List.set_cons_zero, List.set_cons_succ, List.set_nil, List.zip_cons_cons, List.zip_nil_left, List.zip_nil_right, List.foldl_cons, List.foldl_nil, List.length_cons, List.length_nil, List.any_cons, List.any_nil, List.all_cons, List.all_nil, if_true, if_false, ite_true, ite_false, Bool.false_eq_true, Bool.true_eq_false, Bool.or_false, Bool.or_true, Bool.and_true, Bool.and_false, Bool.true_and, Bool.false_and, Bool.not_true, Bool.not_false, decide_true, decide_false, Nat.reduceAdd, Nat.reduceSub, Nat.zero_add, reduceIte, reduceCtorEq, sz0, sz1, sz2, sz3, sz4, sz5, sz6, sz7, sz8, sz9, sz10, sz11, sz12, sz13, sz14, sz15, sz16, seqOf, ev_callv, ev_lcall, keep_d, capsOf, ow_bind, sz20]
  refine ow_call0 (run_pick k st _ (by simp) (by simp)) ?_
  rintro a fr dr ⟨⟨y, hy, rfl⟩, rfl, hd⟩
  have hz : ∃ z : Int, y = .int z ∧ 1 ≤ z ∧ z ≤ 400 := by
    simp only [List.mem_cons, List.not_mem_nil, or_false] at hy
    repeat' (rcases hy with rfl | hy)
    all_goals first | exact ⟨_, rfl, by decide, by decide⟩ | skip
    all_goals first | exact ⟨_, rfl, by omega, by omega⟩ | (subst hy; exact ⟨_, rfl, by omega, by omega⟩)
  obtain ⟨z, rfl, z0, z1⟩ := hz
  simp [evS, ev_v, ev_c, ev_g, ev_fn, ev_bin, ev_neg, ev_no, ev_cmp, ev_chain, ev_and, ev_or, ev_ite, ev_call, ev_kcall, ev_bi, ev_isi, ev_ix, ev_sl, ev_rev, ev_tup, ev_lst, ev_pop, ev_dk, ev_dle, ev_dpop, ev_dmk, evEach, evIt, evs, evF, ops, op1, op2, opA, tst, tsts, truD, Pv.load, look, S.at, S.put, mine, store, setO, appO, drO, mkO, sliceO, seqO, ofRo_ok, lcTurn, Out.calm, hideS, backS, ownFree, bind_ok, bind_bad, bind_exc, ow_ok, ow_bad, ow_exc, ofO, dsOf, lstD, tupD, binop, cmpop, deq, Pv.truthy, builtin, item, item.atI, slice, Pv.bound, Ex.gap, isTy, asInt, Option.map_some, Option.map_none, Option.bind_some, Option.bind_none, List.map_cons, List.map_nil, List.replicate, List.cons_append, List.nil_append, List.append_nil, List.getD_cons_zero, List.getD_cons_succ, List.getD_nil, List.set_cons_zero, List.set_cons_succ, List.set_nil, List.zip_cons_cons, List.zip_nil_left, List.zip_nil_right, List.foldl_cons, List.foldl_nil, List.length_cons, List.length_nil, List.any_cons, List.any_nil, List.all_cons, List.all_nil, if_true, if_false, ite_true, ite_false, Bool.false_eq_true, Bool.true_eq_false, Bool.or_false, Bool.or_true, Bool.and_true, Bool.and_false, Bool.true_and, Bool.false_and, Bool.not_true, Bool.not_false, decide_true, decide_false, Nat.reduceAdd, Nat.reduceSub, Nat.zero_add, reduceIte, reduceCtorEq, sz0, sz1, sz2, sz3, sz4, sz5, sz6, sz7, sz8, sz9, sz10, sz11, sz12, sz13, sz14, sz15, sz16, seqOf, ev_callv, ev_lcall, keep_d, capsOf, hd]
  exact ⟨z0, z1⟩
end
end K85
set_option maxHeartbeats 200000
set_option maxHeartbeats 400000
/-! signed quotients: all pairs at small widths -/
namespace K85
open PySem Pv
def badR (d m r h : Nat) : List Int := natsL 0 h (fun n => !decide (Dv.right d m (2 ^ r) n))
def badB (d m r h : Nat) : List Int := natsL 1 h (fun n => !decide (Dv.rightB d m (2 ^ r) n))
theorem bad_nil (d m r h : Nat) : badR d m r h ++ badB d m r h = [] ↔ Dv.AllS h d m (2 ^ r) := by
  unfold badR badB Dv.AllS
  rw [List.append_eq_nil_iff, natsL_nil, natsL_nil]
  refine and_congr ⟨fun z n a => ?_, fun z n a b => ?_⟩ ⟨fun z n a b => ?_, fun z n a b => ?_⟩
  · have := z n (Nat.zero_le _) (by omega)
    simpa using this
  · have := z n (by omega)
    simp [this]
  · have := z n (by omega) (by omega)
    simpa using this
  · have := z n (by omega) (by omega)
    simp [this]
def Qs (f : Fl) (s : S) : Prop := match f with
  | .nx => False
  | .rt a fr => a = .d (.bool true) ∧ fr = false ∧ s.dr.isSome = true
/-- the due pair so far -/
def dueIs (ms rs m r : Nat) (M R : Int) (due : PyData) : Prop := (due = .none ∧ (r = rs → m ≤ ms)) ∨ (due = .tuple [.int M, .int R] ∧ r = rs)
inductive IO (v ms rs : Nat) (W D : Int) (dr : Option Dr) (l : List PyData) (s : S) : Prop
  | mk (r n : Nat) (x2 x5 x6 : Pv.Slot) (hl : l = nats r n) (hn : r + n = v + 5) (h : r ≤ rs) (e : s = ⟨[.va .drw, iv W, x2, iv D, .va (.d .none), x5, x6, .un], dr⟩)
inductive II (most ms rs r : Nat) (W D R Ms Rs : Int) (dr : Option Dr) (l : List PyData) (s : S) : Prop
  | mk (m n : Nat) (due : PyData) (x5 x6 : Pv.Slot) (hl : l = nats m n) (hn : m + n = most) (h : dueIs ms rs m r Ms Rs due) (e : s = ⟨[.va .drw, iv W, iv R, iv D, .va (.d due), x5, x6, .un], dr⟩)
section
variable (k : Nat)
theorem run_smallright (st : Dr) : Rw (run G T (k + 8) 29 [.drw] (some st)) fun a fr dr => a = .d (.bool true) ∧ fr = false ∧ dr.isSome = true := by
  rw [run_fn' (f := 29) (np := 1) (nn := 8) rfl rfl]
  refine rw_ret (ow_mono (Q := Qs) ?_ fun f s h => by cases f <;> first | exact h.elim | exact h)
  refine ow_cons ?_
  simp [evS, ev_v, ev_c, ev_g, ev_fn, ev_bin, ev_neg, ev_no, ev_cmp, ev_chain, ev_and, ev_or, ev_ite, ev_call, ev_kcall, ev_bi, ev_isi, ev_ix, ev_sl, ev_rev, ev_tup, ev_lst, ev_pop, ev_dk, ev_dle, ev_dpop, ev_dmk, evEach, evIt, evs, evF, ops, op1, op2, opA, tst, tsts, truD, Pv.load, look, S.at, S.put, mine, store, setO, appO, drO, mkO, sliceO, seqO, ofRo_ok, lcTurn, Out.calm, hideS, backS, ownFree, bind_ok, bind_bad, bind_exc, ow_ok, ow_bad, ow_exc, ofO, dsOf, lstD, tupD, binop, cmpop, deq, Pv.truthy, builtin, item, item.atI, slice, Pv.bound, Ex.gap, isTy, asInt, Option.map_some, Option.map_none, Option.bind_some, Option.bind_none, List.map_cons, List.map_nil, List.replicate, List.cons_append, List.nil_append, List.append_nil, List.getD_cons_zero, List.getD_cons_succ, List.getD_nil, List.set_cons_zero, List.set_cons_succ, List.set_nil, List.zip_cons_cons, List.zip_nil_left, List.zip_nil_right, List.foldl_cons, List.foldl_nil, List.length_cons, List.length_nil, List.any_cons, List.any_nil, List.all_cons, List.all_nil, if_true, if_false, ite_true, ite_false, Bool.false_eq_true, Bool.true_eq_false, Bool.or_false, Bool.or_true, Bool.and_true, Bool.and_false, Bool.true_and, Bool.false_and, Bool.not_true, Bool.not_false, decide_true, decide_false, Nat.reduceAdd, Nat.reduceSub, Nat.zero_add, reduceIte, reduceCtorEq, sz0, sz1, sz2, sz3, sz4, sz5, sz6, sz7, sz8, sz9, sz10, sz11, sz12, sz13, sz14, sz15, sz16, seqOf, ev_callv, ev_lcall, keep_d, capsOf, ow_bind]
  refine ow_call0 (run_take (k + 5) st 5 (by decide) (by decide)) ?_
  rintro a fr dr ⟨⟨v0, rfl, v00, v01⟩, rfl, hd⟩
  obtain ⟨st, rfl⟩ := Option.isSome_iff_exists.mp hd
  simp [evS, ev_v, ev_c, ev_g, ev_fn, ev_bin, ev_neg, ev_no, ev_cmp, ev_chain, ev_and, ev_or, ev_ite, ev_call, ev_kcall, ev_bi, ev_isi, ev_ix, ev_sl, ev_rev, ev_tup, ev_lst, ev_pop, ev_dk, ev_dle, ev_dpop, ev_dmk, evEach, evIt, evs, evF, ops, op1, op2, opA, tst, tsts, truD, Pv.load, look, S.at, S.put, mine, store, setO, appO, drO, mkO, sliceO, seqO, ofRo_ok, lcTurn, Out.calm, hideS, backS, ownFree, bind_ok, bind_bad, bind_exc, ow_ok, ow_bad, ow_exc, ofO, dsOf, lstD, tupD, binop, cmpop, deq, Pv.truthy, builtin, item, item.atI, slice, Pv.bound, Ex.gap, isTy, asInt, Option.map_some, Option.map_none, Option.bind_some, Option.bind_none, List.map_cons, List.map_nil, List.replicate, List.cons_append, List.nil_append, List.append_nil, List.getD_cons_zero, List.getD_cons_succ, List.getD_nil, List.set_cons_zero, List.set_cons_succ, List.set_nil, List.zip_cons_cons, List.zip_nil_left, List.zip_nil_right, List.foldl_cons, List.foldl_nil, List.length_cons, List.length_nil, List.any_cons, List.any_nil, List.all_cons, List.all_nil, if_true, if_false, ite_true, ite_false, Bool.false_eq_true, Bool.true_eq_false, Bool.or_false, Bool.or_true, Bool.and_true, Bool.and_false, Bool.true_and, Bool.false_and, Bool.not_true, Bool.not_false, decide_true, decide_false, Nat.reduceAdd, Nat.reduceSub, Nat.zero_add, reduceIte, reduceCtorEq, sz0, sz1, sz2, sz3, sz4, sz5, sz6, sz7, sz8, sz9, sz10, sz11, sz12, sz13, sz14, sz15, sz16, seqOf, ev_callv, ev_lcall, keep_d, capsOf]
  have b0 : 1 ≤ 1 + v0 := by omega
  have b1 : 1 + v0 ≤ 5 := by omega
  generalize 1 + v0 = W at b0 b1
  obtain ⟨v, hW⟩ : ∃ v : Nat, W - 1 = (v : Int) := ⟨(W - 1).toNat, by omega⟩
  obtain ⟨B, hB⟩ : ∃ B : Int, (2 : Int) ^ W.toNat = B := ⟨_, rfl⟩
  obtain ⟨H, hH⟩ : ∃ H : Int, (2 : Int) ^ (W - 1).toNat = H := ⟨_, rfl⟩
  have hH2 : (2 : Int) ^ (W.toNat - 1) = H := by rw [← hH]; congr 1; omega
  have hBn : B = ((2 ^ (v + 1) : Nat) : Int) := by rw [← hB, show W.toNat = v + 1 by omega, Int.natCast_pow]; rfl
  have hHn : H = ((2 ^ v : Nat) : Int) := by rw [← hH, show (W - 1).toNat = v by omega, Int.natCast_pow]; rfl
  have w4 : 2 ^ v ≤ 2 ^ 4 := pow_le_pow (by omega)
  have w5 : 2 ^ (v + 1) = 2 ^ v * 2 := Nat.pow_succ _ _
  have wp : 0 < 2 ^ v := Nat.pow_pos (by decide)
  have so : shlOk 1 W = true := shlOk_one (by omega) (by omega)
  have so1 : shlOk 1 (W - 1) = true := shlOk_one (by omega) (by omega)
  refine ow_cons ?_
  simp [evS, ev_v, ev_c, ev_g, ev_fn, ev_bin, ev_neg, ev_no, ev_cmp, ev_chain, ev_and, ev_or, ev_ite, ev_call, ev_kcall, ev_bi, ev_isi, ev_ix, ev_sl, ev_rev, ev_tup, ev_lst, ev_pop, ev_dk, ev_dle, ev_dpop, ev_dmk, evEach, evIt, evs, evF, ops, op1, op2, opA, tst, tsts, truD, Pv.load, look, S.at, S.put, mine, store, setO, appO, drO, mkO, sliceO, seqO, ofRo_ok, lcTurn, Out.calm, hideS, backS, ownFree, bind_ok, bind_bad, bind_exc, ow_ok, ow_bad, ow_exc, ofO, dsOf, lstD, tupD, binop, cmpop, deq, Pv.truthy, builtin, item, item.atI, slice, Pv.bound, Ex.gap, isTy, asInt, Option.map_some, Option.map_none, Option.bind_some, Option.bind_none, List.map_cons, List.map_nil, List.replicate, List.cons_append, List.nil_append, List.append_nil, List.getD_cons_zero, List.getD_cons_succ, List.getD_nil, List.set_cons_zero, List.set_cons_succ, List.set_nil, List.zip_cons_cons, List.zip_nil_left, List.zip_nil_right, List.foldl_cons, List.foldl_nil, List.length_cons, List.length_nil, List.any_cons, List.any_nil, List.all_cons, List.all_nil, if_true, if_false, ite_true, ite_false, Bool.false_eq_true, Bool.true_eq_false, Bool.or_false, Bool.or_true, Bool.and_true, Bool.and_false, Bool.true_and, Bool.false_and, Bool.not_true, Bool.not_false, decide_true, decide_false, Nat.reduceAdd, Nat.reduceSub, Nat.zero_add, reduceIte, reduceCtorEq, sz0, sz1, sz2, sz3, sz4, sz5, sz6, sz7, sz8, sz9, sz10, sz11, sz12, sz13, sz14, sz15, sz16, seqOf, ev_callv, ev_lcall, keep_d, capsOf, so, hB, ow_bind]
  refine ow_call0 (run_take (k + 5) st (B + 2) (by omega) (divOk_small (by omega) (by omega))) ?_
  rintro a fr dr ⟨⟨v2, rfl, v20, v21⟩, rfl, hd⟩
  obtain ⟨st, rfl⟩ := Option.isSome_iff_exists.mp hd
  simp [evS, ev_v, ev_c, ev_g, ev_fn, ev_bin, ev_neg, ev_no, ev_cmp, ev_chain, ev_and, ev_or, ev_ite, ev_call, ev_kcall, ev_bi, ev_isi, ev_ix, ev_sl, ev_rev, ev_tup, ev_lst, ev_pop, ev_dk, ev_dle, ev_dpop, ev_dmk, evEach, evIt, evs, evF, ops, op1, op2, opA, tst, tsts, truD, Pv.load, look, S.at, S.put, mine, store, setO, appO, drO, mkO, sliceO, seqO, ofRo_ok, lcTurn, Out.calm, hideS, backS, ownFree, bind_ok, bind_bad, bind_exc, ow_ok, ow_bad, ow_exc, ofO, dsOf, lstD, tupD, binop, cmpop, deq, Pv.truthy, builtin, item, item.atI, slice, Pv.bound, Ex.gap, isTy, asInt, Option.map_some, Option.map_none, Option.bind_some, Option.bind_none, List.map_cons, List.map_nil, List.replicate, List.cons_append, List.nil_append, List.append_nil, List.getD_cons_zero, List.getD_cons_succ, List.getD_nil, List.set_cons_zero, List.set_cons_succ, List.set_nil, List.zip_cons_cons, List.zip_nil_left, List.zip_nil_right, List.foldl_cons, List.foldl_nil, List.length_cons, List.length_nil, List.any_cons, List.any_nil, List.all_cons, List.all_nil, if_true, if_false, ite_true, ite_false, Bool.false_eq_true, Bool.true_eq_false, Bool.or_false, Bool.or_true, Bool.and_true, Bool.and_false, Bool.true_and, Bool.false_and, Bool.not_true, Bool.not_false, decide_true, decide_false, Nat.reduceAdd, Nat.reduceSub, Nat.zero_add, reduceIte, reduceCtorEq, sz0, sz1, sz2, sz3, sz4, sz5, sz6, sz7, sz8, sz9, sz10, sz11, sz12, sz13, sz14, sz15, sz16, seqOf, ev_callv, ev_lcall, keep_d, capsOf]
  have d0 : 1 ≤ 1 + v2 := by omega
  have d1 : 1 + v2 ≤ 34 := by omega
  generalize 1 + v2 = D at d0 d1
  obtain ⟨d, hD⟩ : ∃ d : Nat, D = (d : Int) := ⟨D.toNat, by omega⟩
  have hd0 : 0 < d := by omega
  have big : 2 ^ 6 ≤ 2 ^ 400 := pow_le_pow (by decide)
  have big9 : 2 ^ 6 ≤ 2 ^ 900 := pow_le_pow (by decide)
  have big24 : 2 ^ 6 ≤ 2 ^ 2400 := pow_le_pow (by decide)
  have h1 : d ≤ 2 ^ 400 := by omega
  have lex := Dv.bestS_lex (v := v) hd0 (by omega)
  have bnd := Dv.bestS_bound (v := v) hd0 (by omega)
  obtain ⟨Ms, hMs⟩ : ∃ M : Int, M = ((Dv.bestS v d).1 : Int) := ⟨_, rfl⟩
  obtain ⟨Rs, hRs⟩ : ∃ R : Int, R = ((Dv.bestS v d).2 : Int) := ⟨_, rfl⟩
  have qs := run_sm (k + 2) (some st) v d W D Ms Rs hW hD hMs hRs (by omega) hd0 h1
  have rep := rep_i2 (a := Ms) (b := Rs) (by omega) (by
    have : (2 : Int) ^ 6 ≤ 2 ^ 1900 := by decide +kernel
    omega) (by omega) (by
    have : (2 : Int) ^ 6 ≤ 2 ^ 1900 := by decide +kernel
    omega)
  have qsay := run_says (k + 6) (some st) _ rep
  generalize (Dv.bestS v d).1 = ms at *
  generalize (Dv.bestS v d).2 = rs at *
  have rB := rngOk_small (i := B + 2) (by omega) (by omega)
  have rW := rngOk_small (i := W + 4) (by omega) (by omega)
  have rH := rngOk_small (i := H) (by omega) (by omega)
  have rH1 := rngOk_small (i := H + 1) (by omega) (by omega)
  have r01 : rngOk 1 = true := by decide
  have hHt : H.toNat = 2 ^ v := by omega
  have hBt : (B + 2).toNat = 2 ^ (v + 1) + 2 := by omega
  have D0 : 0 < D := by omega
  have dD := divOk_fit D0 (fit_small (a := D) (by omega))
  refine ow_cons ?_
  refine ow_each (IO v ms rs W D (some st)) ?_ ?_ ?_
  · simp only [evS, ev_v, ev_c, ev_g, ev_fn, ev_bin, ev_neg, ev_no, ev_cmp, ev_chain, ev_and, ev_or, ev_ite, ev_call, ev_kcall, ev_bi, ev_isi, ev_ix, ev_sl, ev_rev, ev_tup, ev_lst, ev_pop, ev_dk, ev_dle, ev_dpop, ev_dmk, evEach, evIt, evs, evF, ops, op1, op2, opA, tst, tsts, truD, Pv.load, look, S.at, S.put, mine, store, setO, appO, drO, mkO, sliceO, seqO, ofRo_ok, lcTurn, Out.calm, hideS, backS, ownFree, bind_ok, bind_bad, bind_exc, ow_ok, ow_bad, ow_exc, ofO, dsOf, lstD, tupD, binop, cmpop, deq, Pv.truthy, builtin, item, item.atI, slice, Pv.bound, Ex.gap, isTy, asInt, Option.map_some, Option.map_none, Option.bind_some, Option.bind_none, List.map_cons, List.map_nil, List.replicate, List.cons_append, List.nil_append, List.append_nil, List.getD_cons_zero, List.getD_cons_succ, List.getD_nil, List.set_cons_zero, List.set_cons_succ, List.set_nil, List.zip_cons_cons, List.zip_nil_left, List.zip_nil_right, List.foldl_cons, List.foldl_nil, List.length_cons, List.length_nil, List.any_cons, List.any_nil, List.all_cons, List.all_nil, if_true, if_false, ite_true, ite_false, Bool.false_eq_true, Bool.true_eq_false, Bool.or_false, Bool.or_true, Bool.and_true, Bool.and_false, Bool.true_and, Bool.false_and, Bool.not_true, Bool.not_false, decide_true, decide_false, Nat.reduceAdd, Nat.reduceSub, Nat.zero_add, reduceIte, reduceCtorEq, sz0, sz1, sz2, sz3, sz4, sz5, sz6, sz7, sz8, sz9, sz10, sz11, sz12, sz13, sz14, sz15, sz16, seqOf, ev_callv, ev_lcall, keep_d, capsOf, rW]
    refine .mk 0 (v + 5) _ _ _ ?_ (by omega) (Nat.zero_le _) rfl
    rw [rngI_nats]; congr 1; omega
  · rintro x rr s ⟨r, n, x2, x5, x6, hl, hn, hlo, rfl⟩
    obtain ⟨n', rfl, rfl, rfl⟩ := nats_cons hl
    obtain ⟨R, hR⟩ : ∃ R : Int, R = (r : Int) := ⟨_, rfl⟩
    rw [← hR]
    simp only [evS, ev_v, ev_c, ev_g, ev_fn, ev_bin, ev_neg, ev_no, ev_cmp, ev_chain, ev_and, ev_or, ev_ite, ev_call, ev_kcall, ev_bi, ev_isi, ev_ix, ev_sl, ev_rev, ev_tup, ev_lst, ev_pop, ev_dk, ev_dle, ev_dpop, ev_dmk, evEach, evIt, evs, evF, ops, op1, op2, opA, tst, tsts, truD, Pv.load, look, S.at, S.put, mine, store, setO, appO, drO, mkO, sliceO, seqO, ofRo_ok, lcTurn, Out.calm, hideS, backS, ownFree, bind_ok, bind_bad, bind_exc, ow_ok, ow_bad, ow_exc, ofO, dsOf, lstD, tupD, binop, cmpop, deq, Pv.truthy, builtin, item, item.atI, slice, Pv.bound, Ex.gap, isTy, asInt, Option.map_some, Option.map_none, Option.bind_some, Option.bind_none, List.map_cons, List.map_nil, List.replicate, List.cons_append, List.nil_append, List.append_nil, List.getD_cons_zero, List.getD_cons_succ, List.getD_nil, List.set_cons_zero, List.set_cons_succ, List.set_nil, List.zip_cons_cons, List.zip_nil_left, List.zip_nil_right, List.foldl_cons, List.foldl_nil, List.length_cons, List.length_nil, List.any_cons, List.any_nil, List.all_cons, List.all_nil, if_true, if_false, ite_true, ite_false, Bool.false_eq_true, Bool.true_eq_false, Bool.or_false, Bool.or_true, Bool.and_true, Bool.and_false, Bool.true_and, Bool.false_and, Bool.not_true, Bool.not_false, decide_true, decide_false, Nat.reduceAdd, Nat.reduceSub, Nat.zero_add, reduceIte, reduceCtorEq, sz0, sz1, sz2, sz3, sz4, sz5, sz6, sz7, sz8, sz9, sz10, sz11, sz12, sz13, sz14, sz15, sz16, seqOf, ev_callv, ev_lcall, keep_d, capsOf]
    refine ow_cons ?_
    refine ow_each (II (2 ^ (v + 1) + 2) ms rs r W D R Ms Rs (some st)) ?_ ?_ ?_
    · simp only [evS, ev_v, ev_c, ev_g, ev_fn, ev_bin, ev_neg, ev_no, ev_cmp, ev_chain, ev_and, ev_or, ev_ite, ev_call, ev_kcall, ev_bi, ev_isi, ev_ix, ev_sl, ev_rev, ev_tup, ev_lst, ev_pop, ev_dk, ev_dle, ev_dpop, ev_dmk, evEach, evIt, evs, evF, ops, op1, op2, opA, tst, tsts, truD, Pv.load, look, S.at, S.put, mine, store, setO, appO, drO, mkO, sliceO, seqO, ofRo_ok, lcTurn, Out.calm, hideS, backS, ownFree, bind_ok, bind_bad, bind_exc, ow_ok, ow_bad, ow_exc, ofO, dsOf, lstD, tupD, binop, cmpop, deq, Pv.truthy, builtin, item, item.atI, slice, Pv.bound, Ex.gap, isTy, asInt, Option.map_some, Option.map_none, Option.bind_some, Option.bind_none, List.map_cons, List.map_nil, List.replicate, List.cons_append, List.nil_append, List.append_nil, List.getD_cons_zero, List.getD_cons_succ, List.getD_nil, List.set_cons_zero, List.set_cons_succ, List.set_nil, List.zip_cons_cons, List.zip_nil_left, List.zip_nil_right, List.foldl_cons, List.foldl_nil, List.length_cons, List.length_nil, List.any_cons, List.any_nil, List.all_cons, List.all_nil, if_true, if_false, ite_true, ite_false, Bool.false_eq_true, Bool.true_eq_false, Bool.or_false, Bool.or_true, Bool.and_true, Bool.and_false, Bool.true_and, Bool.false_and, Bool.not_true, Bool.not_false, decide_true, decide_false, Nat.reduceAdd, Nat.reduceSub, Nat.zero_add, reduceIte, reduceCtorEq, sz0, sz1, sz2, sz3, sz4, sz5, sz6, sz7, sz8, sz9, sz10, sz11, sz12, sz13, sz14, sz15, sz16, seqOf, ev_callv, ev_lcall, keep_d, capsOf, iv, so, hB, Int.one_mul, rB, rngI_nats, hBt]
      exact .mk 0 _ _ _ _ rfl (by omega) (.inl ⟨rfl, fun _ => Nat.zero_le _⟩) rfl
    · rintro x rr s ⟨m, n2, due, x5, x6, hl2, hn2, hdue, rfl⟩
      obtain ⟨n2', rfl, rfl, rfl⟩ := nats_cons hl2
      obtain ⟨M, hM⟩ : ∃ M : Int, M = (m : Int) := ⟨_, rfl⟩
      rw [← hM]
      have m9 : m ≤ 2 ^ 900 := by omega
      have rpos : 0 ≤ R := by omega
      have qi := run_issm (k + 1) (some st) v d m r W D M R hW hD hM hR (by omega) hd0 h1 m9 (by omega)
      have e1 : ∀ x6, ev G (run G T (k + 7)) (.lc (.v 7) (.nm 7) (.rng1 (.bin .shl (.c (.int 1)) (.bin .sub (.v 1) (.c (.int 1))))) [.cmp .ne (.bin .shr (.bin .mul (.v 5) (.v 7)) (.v 2)) (.bin .fdiv (.v 7) (.v 3))] [7]) ⟨[.va .drw, iv W, iv R, iv D, .va (.d due), iv M, x6, .un], some st⟩ = .ok (.d (.list ((badR d m r (2 ^ v)).map PyData.int)), true) ⟨[.va .drw, iv W, iv R, iv D, .va (.d due), iv M, x6, .un], some st⟩ := fun x6 => by
        refine ev_lcN 7 0 (2 ^ v) _ (by omega) ?_ rfl (Nat.lt_succ_self 7) ?_
        · simp only [evS, ev_v, ev_c, ev_g, ev_fn, ev_bin, ev_neg, ev_no, ev_cmp, ev_chain, ev_and, ev_or, ev_ite, ev_call, ev_kcall, ev_bi, ev_isi, ev_ix, ev_sl, ev_rev, ev_tup, ev_lst, ev_pop, ev_dk, ev_dle, ev_dpop, ev_dmk, evEach, evIt, evs, evF, ops, op1, op2, opA, tst, tsts, truD, Pv.load, look, S.at, S.put, mine, store, setO, appO, drO, mkO, sliceO, seqO, ofRo_ok, lcTurn, Out.calm, hideS, backS, ownFree, bind_ok, bind_bad, bind_exc, ow_ok, ow_bad, ow_exc, ofO, dsOf, lstD, tupD, binop, cmpop, deq, Pv.truthy, builtin, item, item.atI, slice, Pv.bound, Ex.gap, isTy, asInt, Option.map_some, Option.map_none, Option.bind_some, Option.bind_none, List.map_cons, List.map_nil, List.replicate, List.cons_append, List.nil_append, List.append_nil, List.getD_cons_zero, List.getD_cons_succ, List.getD_nil, List.set_cons_zero, List.set_cons_succ, List.set_nil, List.zip_cons_cons, List.zip_nil_left, List.zip_nil_right, List.foldl_cons, List.foldl_nil, List.length_cons, List.length_nil, List.any_cons, List.any_nil, List.all_cons, List.all_nil, if_true, if_false, ite_true, ite_false, Bool.false_eq_true, Bool.true_eq_false, Bool.or_false, Bool.or_true, Bool.and_true, Bool.and_false, Bool.true_and, Bool.false_and, Bool.not_true, Bool.not_false, decide_true, decide_false, Nat.reduceAdd, Nat.reduceSub, Nat.zero_add, reduceIte, reduceCtorEq, sz0, sz1, sz2, sz3, sz4, sz5, sz6, sz7, sz8, sz9, sz10, sz11, sz12, sz13, sz14, sz15, sz16, seqOf, ev_callv, ev_lcall, keep_d, capsOf, iv, so1, hH, Int.one_mul, rH, rngI_nats, hHt]
        · intro x X hX _ hx
          have o1 : mulOk M X = true := mulOk_fit (fit_small (by omega)) (fit_small (by omega))
          obtain ⟨Bd, hBd⟩ : ∃ B : Int, (2 : Int) ^ R.toNat = B := ⟨_, rfl⟩
          have hBn2 : Bd = ((2 ^ r : Nat) : Int) := by rw [← hBd, hR, Int.toNat_natCast, Int.natCast_pow]; rfl
          have hz : (M * X / Bd = X / D) ↔ Dv.right d m (2 ^ r) x := by
            unfold Dv.right
            rw [hM, hX, hBn2, hD, ← Int.natCast_mul, ← Int.natCast_ediv, ← Int.natCast_ediv]
            exact Int.ofNat_inj
          have hz2 : (!decide (Dv.right d m (2 ^ r) x)) = !(M * X / Bd == X / D) := by
            congr 1
            rw [Bool.eq_iff_iff, decide_eq_true_eq, beq_iff_eq]
            exact hz.symm
          rw [hz2]
          clear hz hz2 hBn2 hX hx
          simp [evS, ev_v, ev_c, ev_g, ev_fn, ev_bin, ev_neg, ev_no, ev_cmp, ev_chain, ev_and, ev_or, ev_ite, ev_call, ev_kcall, ev_bi, ev_isi, ev_ix, ev_sl, ev_rev, ev_tup, ev_lst, ev_pop, ev_dk, ev_dle, ev_dpop, ev_dmk, evEach, evIt, evs, evF, ops, op1, op2, opA, tst, tsts, truD, Pv.load, look, S.at, S.put, mine, store, setO, appO, drO, mkO, sliceO, seqO, ofRo_ok, lcTurn, Out.calm, hideS, backS, ownFree, bind_ok, bind_bad, bind_exc, ow_ok, ow_bad, ow_exc, ofO, dsOf, lstD, tupD, binop, cmpop, deq, Pv.truthy, builtin, item, item.atI, slice, Pv.bound, Ex.gap, isTy, asInt, Option.map_some, Option.map_none, Option.bind_some, Option.bind_none, List.map_cons, List.map_nil, List.replicate, List.cons_append, List.nil_append, List.append_nil, List.getD_cons_zero, List.getD_cons_succ, List.getD_nil, List.set_cons_zero, List.set_cons_succ, List.set_nil, List.zip_cons_cons, List.zip_nil_left, List.zip_nil_right, List.foldl_cons, List.foldl_nil, List.length_cons, List.length_nil, List.any_cons, List.any_nil, List.all_cons, List.all_nil, if_true, if_false, ite_true, ite_false, Bool.false_eq_true, Bool.true_eq_false, Bool.or_false, Bool.or_true, Bool.and_true, Bool.and_false, Bool.true_and, Bool.false_and, Bool.not_true, Bool.not_false, decide_true, decide_false, Nat.reduceAdd, Nat.reduceSub, Nat.zero_add, reduceIte, reduceCtorEq, sz0, sz1, sz2, sz3, sz4, sz5, sz6, sz7, sz8, sz9, sz10, sz11, sz12, sz13, sz14, sz15, sz16, seqOf, ev_callv, ev_lcall, keep_d, capsOf, iv, o1, rpos, hBd, dD, fdiv_pos D0]
      have e2 : ∀ x6, ev G (run G T (k + 7)) (.lc (.v 7) (.nm 7) (.rng2 (.c (.int 1)) (.bin .add (.bin .shl (.c (.int 1)) (.bin .sub (.v 1) (.c (.int 1)))) (.c (.int 1)))) [.call 26 [.v 3, .v 5, .v 2, .v 7]] [7]) ⟨[.va .drw, iv W, iv R, iv D, .va (.d due), iv M, x6, .un], some st⟩ = .ok (.d (.list ((badB d m r (2 ^ v)).map PyData.int)), true) ⟨[.va .drw, iv W, iv R, iv D, .va (.d due), iv M, x6, .un], some st⟩ := fun x6 => by
        refine ev_lcN 7 1 (2 ^ v) _ (by omega) ?_ rfl (Nat.lt_succ_self 7) ?_
        · simp only [evS, ev_v, ev_c, ev_g, ev_fn, ev_bin, ev_neg, ev_no, ev_cmp, ev_chain, ev_and, ev_or, ev_ite, ev_call, ev_kcall, ev_bi, ev_isi, ev_ix, ev_sl, ev_rev, ev_tup, ev_lst, ev_pop, ev_dk, ev_dle, ev_dpop, ev_dmk, evEach, evIt, evs, evF, ops, op1, op2, opA, tst, tsts, truD, Pv.load, look, S.at, S.put, mine, store, setO, appO, drO, mkO, sliceO, seqO, ofRo_ok, lcTurn, Out.calm, hideS, backS, ownFree, bind_ok, bind_bad, bind_exc, ow_ok, ow_bad, ow_exc, ofO, dsOf, lstD, tupD, binop, cmpop, deq, Pv.truthy, builtin, item, item.atI, slice, Pv.bound, Ex.gap, isTy, asInt, Option.map_some, Option.map_none, Option.bind_some, Option.bind_none, List.map_cons, List.map_nil, List.replicate, List.cons_append, List.nil_append, List.append_nil, List.getD_cons_zero, List.getD_cons_succ, List.getD_nil, List.set_cons_zero, List.set_cons_succ, List.set_nil, List.zip_cons_cons, List.zip_nil_left, List.zip_nil_right, List.foldl_cons, List.foldl_nil, List.length_cons, List.length_nil, List.any_cons, List.any_nil, List.all_cons, List.all_nil, if_true, if_false, ite_true, ite_false, Bool.false_eq_true, Bool.true_eq_false, Bool.or_false, Bool.or_true, Bool.and_true, Bool.and_false, Bool.true_and, Bool.false_and, Bool.not_true, Bool.not_false, decide_true, decide_false, Nat.reduceAdd, Nat.reduceSub, Nat.zero_add, reduceIte, reduceCtorEq, sz0, sz1, sz2, sz3, sz4, sz5, sz6, sz7, sz8, sz9, sz10, sz11, sz12, sz13, sz14, sz15, sz16, seqOf, ev_callv, ev_lcall, keep_d, capsOf, iv, so1, hH, Int.one_mul, rH1, r01]
          rw [rngI_nats2 (i := 1) (I := 1) rfl, show (H + 1 - 1).toNat = 2 ^ v by omega]
        · intro x X hX _ hx
          have q := run_off (k + 6) (some st) d m r x D M R X hD hM hR hX hd0 h1 m9 (by omega)
          generalize (!decide (Dv.rightB d m (2 ^ r) x)) = b at q
          clear hX hx
          simp [evS, ev_v, ev_c, ev_g, ev_fn, ev_bin, ev_neg, ev_no, ev_cmp, ev_chain, ev_and, ev_or, ev_ite, ev_call, ev_kcall, ev_bi, ev_isi, ev_ix, ev_sl, ev_rev, ev_tup, ev_lst, ev_pop, ev_dk, ev_dle, ev_dpop, ev_dmk, evEach, evIt, evs, evF, ops, op1, op2, opA, tst, tsts, truD, Pv.load, look, S.at, S.put, mine, store, setO, appO, drO, mkO, sliceO, seqO, ofRo_ok, lcTurn, Out.calm, hideS, backS, ownFree, bind_ok, bind_bad, bind_exc, ow_ok, ow_bad, ow_exc, ofO, dsOf, lstD, tupD, binop, cmpop, deq, Pv.truthy, builtin, item, item.atI, slice, Pv.bound, Ex.gap, isTy, asInt, Option.map_some, Option.map_none, Option.bind_some, Option.bind_none, List.map_cons, List.map_nil, List.replicate, List.cons_append, List.nil_append, List.append_nil, List.getD_cons_zero, List.getD_cons_succ, List.getD_nil, List.set_cons_zero, List.set_cons_succ, List.set_nil, List.zip_cons_cons, List.zip_nil_left, List.zip_nil_right, List.foldl_cons, List.foldl_nil, List.length_cons, List.length_nil, List.any_cons, List.any_nil, List.all_cons, List.all_nil, if_true, if_false, ite_true, ite_false, Bool.false_eq_true, Bool.true_eq_false, Bool.or_false, Bool.or_true, Bool.and_true, Bool.and_false, Bool.true_and, Bool.false_and, Bool.not_true, Bool.not_false, decide_true, decide_false, Nat.reduceAdd, Nat.reduceSub, Nat.zero_add, reduceIte, reduceCtorEq, sz0, sz1, sz2, sz3, sz4, sz5, sz6, sz7, sz8, sz9, sz10, sz11, sz12, sz13, sz14, sz15, sz16, seqOf, ev_callv, ev_lcall, keep_d, capsOf, iv, q]
      have hnil := bad_nil d m r (2 ^ v)
      have hdoes := Dv.doesS_iff (h := 2 ^ v) (m := m) hd0 (Nat.pow_pos (n := r) (by decide : 0 < 2))
      have hlen : (badR d m r (2 ^ v)).length + (badB d m r (2 ^ v)).length ≤ sizeLine := small_len (by
        have := natsL_len 0 (2 ^ v) (fun n => !decide (Dv.right d m (2 ^ r) n))
        have := natsL_len 1 (2 ^ v) (fun n => !decide (Dv.rightB d m (2 ^ r) n))
        unfold badR badB
        omega)
      generalize badR d m r (2 ^ v) = l1 at e1 hnil hlen
      generalize badB d m r (2 ^ v) = l2 at e2 hnil hlen
      have eqv := eqv_ile (l1 ++ l2)
      have shp := shaped_il (l1 ++ l2)
      rw [List.map_append] at eqv shp
      have hb : Dv.doesS (2 ^ v) d m (2 ^ r) = decide (l1 ++ l2 = []) := by
        rw [Bool.eq_iff_iff, hdoes, decide_eq_true_eq]; exact hnil.symm
      rw [hb] at qi
      have sb := run_says (k + 6) (some st) _ (repB (decide (l1 ++ l2 = [])))
      have stepT : l1 ++ l2 = [] → due = .none → M = Ms ∧ R = Rs ∧ r = rs := fun z hz => by
        have ha := hnil.mp z
        have hr : r = rs := by
          refine Nat.le_antisymm hlo (Nat.le_of_not_lt fun q => lex.lo _ _ q ha)
        rcases hdue with ⟨_, h⟩ | ⟨h, _⟩
        · have h := h hr
          have : ¬ m < ms := fun q => lex.lm _ q (hr ▸ ha)
          omega
        · rw [hz] at h; cases h
      have stepF : l1 ++ l2 ≠ [] → due = .none → r = rs → m + 1 ≤ ms := fun z hz hr => by
        rcases hdue with ⟨_, h⟩ | ⟨h, _⟩
        · have h := h hr
          refine Nat.lt_of_le_of_ne h fun q => z (hnil.mpr ?_)
          have := lex.ok
          rw [q, hr]; exact this
        · rw [hz] at h; cases h
      have keep : due ≠ .none → due = .tuple [.int Ms, .int Rs] ∧ r = rs := fun z => by
        rcases hdue with ⟨h, _⟩ | h
        · exact absurd h z
        · exact h
      have nextN : l1 ++ l2 ≠ [] → due = .none → II (2 ^ (v + 1) + 2) ms rs r W D R Ms Rs (some st) (nats (m + 1) n2') ⟨[.va .drw, iv W, iv R, iv D, .va (.d .none), iv M, .ow (.list (l1.map PyData.int ++ l2.map PyData.int)), .un], some st⟩ := fun z hz => .mk (m + 1) n2' _ _ _ rfl (by omega) (.inl ⟨rfl, stepF z hz⟩) rfl
      have nextT : r = rs → II (2 ^ (v + 1) + 2) ms rs r W D R Ms Rs (some st) (nats (m + 1) n2') ⟨[.va .drw, iv W, iv R, iv D, .va (.d (.tuple [.int Ms, .int Rs])), iv M, .ow (.list (l1.map PyData.int ++ l2.map PyData.int)), .un], some st⟩ := fun z => .mk (m + 1) n2' _ _ _ rfl (by omega) (.inr ⟨rfl, z⟩) rfl
      clear hBn hHn w4 w5 hW hD hM hR hMs hRs lex bnd hnil hdoes hb hdue hlo
      generalize hc : decide (l1 ++ l2 = []) = c at qi sb eqv
      simp only [evS, ev_v, ev_c, ev_g, ev_fn, ev_bin, ev_neg, ev_no, ev_cmp, ev_chain, ev_and, ev_or, ev_ite, ev_call, ev_kcall, ev_bi, ev_isi, ev_ix, ev_sl, ev_rev, ev_tup, ev_lst, ev_pop, ev_dk, ev_dle, ev_dpop, ev_dmk, evEach, evIt, evs, evF, ops, op1, op2, opA, tst, tsts, truD, Pv.load, look, S.at, S.put, mine, store, setO, appO, drO, mkO, sliceO, seqO, ofRo_ok, lcTurn, Out.calm, hideS, backS, ownFree, bind_ok, bind_bad, bind_exc, ow_ok, ow_bad, ow_exc, ofO, dsOf, lstD, tupD, binop, cmpop, deq, Pv.truthy, builtin, item, item.atI, slice, Pv.bound, Ex.gap, isTy, asInt, Option.map_some, Option.map_none, Option.bind_some, Option.bind_none, List.map_cons, List.map_nil, List.replicate, List.cons_append, List.nil_append, List.append_nil, List.getD_cons_zero, List.getD_cons_succ, List.getD_nil, List.set_cons_zero, List.set_cons_succ, List.set_nil, List.zip_cons_cons, List.zip_nil_left, List.zip_nil_right, List.foldl_cons, List.foldl_nil, List.length_cons, List.length_nil, List.any_cons, List.any_nil, List.all_cons, List.all_nil, if_true, if_false, ite_true, ite_false, Bool.false_eq_true, Bool.true_eq_false, Bool.or_false, Bool.or_true, Bool.and_true, Bool.and_false, Bool.true_and, Bool.false_and, Bool.not_true, Bool.not_false, decide_true, decide_false, Nat.reduceAdd, Nat.reduceSub, Nat.zero_add, reduceIte, reduceCtorEq, sz0, sz1, sz2, sz3, sz4, sz5, sz6, sz7, sz8, sz9, sz10, sz11, sz12, sz13, sz14, sz15, sz16, seqOf, ev_callv, ev_lcall, keep_d, capsOf]
      refine ow_cons ?_
      simp only [evS, ev_v, ev_c, ev_g, ev_fn, ev_bin, ev_neg, ev_no, ev_cmp, ev_chain, ev_and, ev_or, ev_ite, ev_call, ev_kcall, ev_bi, ev_isi, ev_ix, ev_sl, ev_rev, ev_tup, ev_lst, ev_pop, ev_dk, ev_dle, ev_dpop, ev_dmk, evEach, evIt, evs, evF, ops, op1, op2, opA, tst, tsts, truD, Pv.load, look, S.at, S.put, mine, store, setO, appO, drO, mkO, sliceO, seqO, ofRo_ok, lcTurn, Out.calm, hideS, backS, ownFree, bind_ok, bind_bad, bind_exc, ow_ok, ow_bad, ow_exc, ofO, dsOf, lstD, tupD, binop, cmpop, deq, Pv.truthy, builtin, item, item.atI, slice, Pv.bound, Ex.gap, isTy, asInt, Option.map_some, Option.map_none, Option.bind_some, Option.bind_none, List.map_cons, List.map_nil, List.replicate, List.cons_append, List.nil_append, List.append_nil, List.getD_cons_zero, List.getD_cons_succ, List.getD_nil, List.set_cons_zero, List.set_cons_succ, List.set_nil, List.zip_cons_cons, List.zip_nil_left, List.zip_nil_right, List.foldl_cons, List.foldl_nil, List.length_cons, List.length_nil, List.any_cons, List.any_nil, List.all_cons, List.all_nil, if_true, if_false, ite_true, ite_false, Bool.false_eq_true, Bool.true_eq_false, Bool.or_false, Bool.or_true, Bool.and_true, Bool.and_false, Bool.true_and, Bool.false_and, Bool.not_true, Bool.not_false, decide_true, decide_false, Nat.reduceAdd, Nat.reduceSub, Nat.zero_add, reduceIte, reduceCtorEq, sz0, sz1, sz2, sz3, sz4, sz5, sz6, sz7, sz8, sz9, sz10, sz11, sz12, sz13, sz14, sz15, sz16, seqOf, ev_callv, ev_lcall, keep_d, capsOf, iv] at e1 ⊢
      simp only [e1]
      simp [evS, ev_v, ev_c, ev_g, ev_fn, ev_bin, ev_neg, ev_no, ev_cmp, ev_chain, ev_and, ev_or, ev_ite, ev_call, ev_kcall, ev_bi, ev_isi, ev_ix, ev_sl, ev_rev, ev_tup, ev_lst, ev_pop, ev_dk, ev_dle, ev_dpop, ev_dmk, evEach, evIt, evs, evF, ops, op1, op2, opA, tst, tsts, truD, Pv.load, look, S.at, S.put, mine, store, setO, appO, drO, mkO, sliceO, seqO, ofRo_ok, lcTurn, Out.calm, hideS, backS, ownFree, bind_ok, bind_bad, bind_exc, ow_ok, ow_bad, ow_exc, ofO, dsOf, lstD, tupD, binop, cmpop, deq, Pv.truthy, builtin, item, item.atI, slice, Pv.bound, Ex.gap, isTy, asInt, Option.map_some, Option.map_none, Option.bind_some, Option.bind_none, List.map_cons, List.map_nil, List.replicate, List.cons_append, List.nil_append, List.append_nil, List.getD_cons_zero, List.getD_cons_succ, List.getD_nil, List.set_cons_zero, List.set_cons_succ, List.set_nil, List.zip_cons_cons, List.zip_nil_left, List.zip_nil_right, List.foldl_cons, List.foldl_nil, List.length_cons, List.length_nil, List.any_cons, List.any_nil, List.all_cons, List.all_nil, if_true, if_false, ite_true, ite_false, Bool.false_eq_true, Bool.true_eq_false, Bool.or_false, Bool.or_true, Bool.and_true, Bool.and_false, Bool.true_and, Bool.false_and, Bool.not_true, Bool.not_false, decide_true, decide_false, Nat.reduceAdd, Nat.reduceSub, Nat.zero_add, reduceIte, reduceCtorEq, sz0, sz1, sz2, sz3, sz4, sz5, sz6, sz7, sz8, sz9, sz10, sz11, sz12, sz13, sz14, sz15, sz16, seqOf, ev_callv, ev_lcall, keep_d, capsOf]
      refine ow_cons ?_
      simp [evS, ev_v, ev_c, ev_g, ev_fn, ev_bin, ev_neg, ev_no, ev_cmp, ev_chain, ev_and, ev_or, ev_ite, ev_call, ev_kcall, ev_bi, ev_isi, ev_ix, ev_sl, ev_rev, ev_tup, ev_lst, ev_pop, ev_dk, ev_dle, ev_dpop, ev_dmk, evEach, evIt, evs, evF, ops, op1, op2, opA, tst, tsts, truD, Pv.load, look, S.at, S.put, mine, store, setO, appO, drO, mkO, sliceO, seqO, ofRo_ok, lcTurn, Out.calm, hideS, backS, ownFree, bind_ok, bind_bad, bind_exc, ow_ok, ow_bad, ow_exc, ofO, dsOf, lstD, tupD, binop, cmpop, deq, Pv.truthy, builtin, item, item.atI, slice, Pv.bound, Ex.gap, isTy, asInt, Option.map_some, Option.map_none, Option.bind_some, Option.bind_none, List.map_cons, List.map_nil, List.replicate, List.cons_append, List.nil_append, List.append_nil, List.getD_cons_zero, List.getD_cons_succ, List.getD_nil, List.set_cons_zero, List.set_cons_succ, List.set_nil, List.zip_cons_cons, List.zip_nil_left, List.zip_nil_right, List.foldl_cons, List.foldl_nil, List.length_cons, List.length_nil, List.any_cons, List.any_nil, List.all_cons, List.all_nil, if_true, if_false, ite_true, ite_false, Bool.false_eq_true, Bool.true_eq_false, Bool.or_false, Bool.or_true, Bool.and_true, Bool.and_false, Bool.true_and, Bool.false_and, Bool.not_true, Bool.not_false, decide_true, decide_false, Nat.reduceAdd, Nat.reduceSub, Nat.zero_add, reduceIte, reduceCtorEq, sz0, sz1, sz2, sz3, sz4, sz5, sz6, sz7, sz8, sz9, sz10, sz11, sz12, sz13, sz14, sz15, sz16, seqOf, ev_callv, ev_lcall, keep_d, capsOf, iv] at e2 ⊢
      simp [evS, ev_v, ev_c, ev_g, ev_fn, ev_bin, ev_neg, ev_no, ev_cmp, ev_chain, ev_and, ev_or, ev_ite, ev_call, ev_kcall, ev_bi, ev_isi, ev_ix, ev_sl, ev_rev, ev_tup, ev_lst, ev_pop, ev_dk, ev_dle, ev_dpop, ev_dmk, evEach, evIt, evs, evF, ops, op1, op2, opA, tst, tsts, truD, Pv.load, look, S.at, S.put, mine, store, setO, appO, drO, mkO, sliceO, seqO, ofRo_ok, lcTurn, Out.calm, hideS, backS, ownFree, bind_ok, bind_bad, bind_exc, ow_ok, ow_bad, ow_exc, ofO, dsOf, lstD, tupD, binop, cmpop, deq, Pv.truthy, builtin, item, item.atI, slice, Pv.bound, Ex.gap, isTy, asInt, Option.map_some, Option.map_none, Option.bind_some, Option.bind_none, List.map_cons, List.map_nil, List.replicate, List.cons_append, List.nil_append, List.append_nil, List.getD_cons_zero, List.getD_cons_succ, List.getD_nil, List.set_cons_zero, List.set_cons_succ, List.set_nil, List.zip_cons_cons, List.zip_nil_left, List.zip_nil_right, List.foldl_cons, List.foldl_nil, List.length_cons, List.length_nil, List.any_cons, List.any_nil, List.all_cons, List.all_nil, if_true, if_false, ite_true, ite_false, Bool.false_eq_true, Bool.true_eq_false, Bool.or_false, Bool.or_true, Bool.and_true, Bool.and_false, Bool.true_and, Bool.false_and, Bool.not_true, Bool.not_false, decide_true, decide_false, Nat.reduceAdd, Nat.reduceSub, Nat.zero_add, reduceIte, reduceCtorEq, sz0, sz1, sz2, sz3, sz4, sz5, sz6, sz7, sz8, sz9, sz10, sz11, sz12, sz13, sz14, sz15, sz16, seqOf, ev_callv, ev_lcall, keep_d, capsOf, e2, List.length_map, hlen]
      refine ow_cons (ow_ifs ?_)
      simp [evS, ev_v, ev_c, ev_g, ev_fn, ev_bin, ev_neg, ev_no, ev_cmp, ev_chain, ev_and, ev_or, ev_ite, ev_call, ev_kcall, ev_bi, ev_isi, ev_ix, ev_sl, ev_rev, ev_tup, ev_lst, ev_pop, ev_dk, ev_dle, ev_dpop, ev_dmk, evEach, evIt, evs, evF, ops, op1, op2, opA, tst, tsts, truD, Pv.load, look, S.at, S.put, mine, store, setO, appO, drO, mkO, sliceO, seqO, ofRo_ok, lcTurn, Out.calm, hideS, backS, ownFree, bind_ok, bind_bad, bind_exc, ow_ok, ow_bad, ow_exc, ofO, dsOf, lstD, tupD, binop, cmpop, deq, Pv.truthy, builtin, item, item.atI, slice, Pv.bound, Ex.gap, isTy, asInt, Option.map_some, Option.map_none, Option.bind_some, Option.bind_none, List.map_cons, List.map_nil, List.replicate, List.cons_append, List.nil_append, List.append_nil, List.getD_cons_zero, List.getD_cons_succ, List.getD_nil, List.set_cons_zero, List.set_cons_succ, List.set_nil, List.zip_cons_cons, List.zip_nil_left, List.zip_nil_right, List.foldl_cons, List.foldl_nil, List.length_cons, List.length_nil, List.any_cons, List.any_nil, List.all_cons, List.all_nil, if_true, if_false, ite_true, ite_false, Bool.false_eq_true, Bool.true_eq_false, Bool.or_false, Bool.or_true, Bool.and_true, Bool.and_false, Bool.true_and, Bool.false_and, Bool.not_true, Bool.not_false, decide_true, decide_false, Nat.reduceAdd, Nat.reduceSub, Nat.zero_add, reduceIte, reduceCtorEq, sz0, sz1, sz2, sz3, sz4, sz5, sz6, sz7, sz8, sz9, sz10, sz11, sz12, sz13, sz14, sz15, sz16, seqOf, ev_callv, ev_lcall, keep_d, capsOf, qi, sb, eqv, shp, shaped_nil, layK]
      refine ow_nil ?_
      refine ow_cons ?_
      by_cases hn0 : due = .none
      · subst hn0
        cases c with
        | true =>
          have hc := of_decide_eq_true hc
          obtain ⟨rfl, rfl, q⟩ := stepT hc rfl
          simp [evS, ev_v, ev_c, ev_g, ev_fn, ev_bin, ev_neg, ev_no, ev_cmp, ev_chain, ev_and, ev_or, ev_ite, ev_call, ev_kcall, ev_bi, ev_isi, ev_ix, ev_sl, ev_rev, ev_tup, ev_lst, ev_pop, ev_dk, ev_dle, ev_dpop, ev_dmk, evEach, evIt, evs, evF, ops, op1, op2, opA, tst, tsts, truD, Pv.load, look, S.at, S.put, mine, store, setO, appO, drO, mkO, sliceO, seqO, ofRo_ok, lcTurn, Out.calm, hideS, backS, ownFree, bind_ok, bind_bad, bind_exc, ow_ok, ow_bad, ow_exc, ofO, dsOf, lstD, tupD, binop, cmpop, deq, Pv.truthy, builtin, item, item.atI, slice, Pv.bound, Ex.gap, isTy, asInt, Option.map_some, Option.map_none, Option.bind_some, Option.bind_none, List.map_cons, List.map_nil, List.replicate, List.cons_append, List.nil_append, List.append_nil, List.getD_cons_zero, List.getD_cons_succ, List.getD_nil, List.set_cons_zero, List.set_cons_succ, List.set_nil, List.zip_cons_cons, List.zip_nil_left, List.zip_nil_right, List.foldl_cons, List.foldl_nil, List.length_cons, List.length_nil, List.any_cons, List.any_nil, List.all_cons, List.all_nil, if_true, if_false, ite_true, ite_false, Bool.false_eq_true, Bool.true_eq_false, Bool.or_false, Bool.or_true, Bool.and_true, Bool.and_false, Bool.true_and, Bool.false_and, Bool.not_true, Bool.not_false, decide_true, decide_false, Nat.reduceAdd, Nat.reduceSub, Nat.zero_add, reduceIte, reduceCtorEq, sz0, sz1, sz2, sz3, sz4, sz5, sz6, sz7, sz8, sz9, sz10, sz11, sz12, sz13, sz14, sz15, sz16, seqOf, ev_callv, ev_lcall, keep_d, capsOf, eqv, shp, shaped_nil]
          exact ow_nil (nextT q)
        | false =>
          have hc := of_decide_eq_false hc
          simp [evS, ev_v, ev_c, ev_g, ev_fn, ev_bin, ev_neg, ev_no, ev_cmp, ev_chain, ev_and, ev_or, ev_ite, ev_call, ev_kcall, ev_bi, ev_isi, ev_ix, ev_sl, ev_rev, ev_tup, ev_lst, ev_pop, ev_dk, ev_dle, ev_dpop, ev_dmk, evEach, evIt, evs, evF, ops, op1, op2, opA, tst, tsts, truD, Pv.load, look, S.at, S.put, mine, store, setO, appO, drO, mkO, sliceO, seqO, ofRo_ok, lcTurn, Out.calm, hideS, backS, ownFree, bind_ok, bind_bad, bind_exc, ow_ok, ow_bad, ow_exc, ofO, dsOf, lstD, tupD, binop, cmpop, deq, Pv.truthy, builtin, item, item.atI, slice, Pv.bound, Ex.gap, isTy, asInt, Option.map_some, Option.map_none, Option.bind_some, Option.bind_none, List.map_cons, List.map_nil, List.replicate, List.cons_append, List.nil_append, List.append_nil, List.getD_cons_zero, List.getD_cons_succ, List.getD_nil, List.set_cons_zero, List.set_cons_succ, List.set_nil, List.zip_cons_cons, List.zip_nil_left, List.zip_nil_right, List.foldl_cons, List.foldl_nil, List.length_cons, List.length_nil, List.any_cons, List.any_nil, List.all_cons, List.all_nil, if_true, if_false, ite_true, ite_false, Bool.false_eq_true, Bool.true_eq_false, Bool.or_false, Bool.or_true, Bool.and_true, Bool.and_false, Bool.true_and, Bool.false_and, Bool.not_true, Bool.not_false, decide_true, decide_false, Nat.reduceAdd, Nat.reduceSub, Nat.zero_add, reduceIte, reduceCtorEq, sz0, sz1, sz2, sz3, sz4, sz5, sz6, sz7, sz8, sz9, sz10, sz11, sz12, sz13, sz14, sz15, sz16, seqOf, ev_callv, ev_lcall, keep_d, capsOf, eqv, shp, shaped_nil]
          exact ow_nil (nextN hc rfl)
      · obtain ⟨rfl, q⟩ := keep hn0
        simp [evS, ev_v, ev_c, ev_g, ev_fn, ev_bin, ev_neg, ev_no, ev_cmp, ev_chain, ev_and, ev_or, ev_ite, ev_call, ev_kcall, ev_bi, ev_isi, ev_ix, ev_sl, ev_rev, ev_tup, ev_lst, ev_pop, ev_dk, ev_dle, ev_dpop, ev_dmk, evEach, evIt, evs, evF, ops, op1, op2, opA, tst, tsts, truD, Pv.load, look, S.at, S.put, mine, store, setO, appO, drO, mkO, sliceO, seqO, ofRo_ok, lcTurn, Out.calm, hideS, backS, ownFree, bind_ok, bind_bad, bind_exc, ow_ok, ow_bad, ow_exc, ofO, dsOf, lstD, tupD, binop, cmpop, deq, Pv.truthy, builtin, item, item.atI, slice, Pv.bound, Ex.gap, isTy, asInt, Option.map_some, Option.map_none, Option.bind_some, Option.bind_none, List.map_cons, List.map_nil, List.replicate, List.cons_append, List.nil_append, List.append_nil, List.getD_cons_zero, List.getD_cons_succ, List.getD_nil, List.set_cons_zero, List.set_cons_succ, List.set_nil, List.zip_cons_cons, List.zip_nil_left, List.zip_nil_right, List.foldl_cons, List.foldl_nil, List.length_cons, List.length_nil, List.any_cons, List.any_nil, List.all_cons, List.all_nil, if_true, if_false, ite_true, ite_false, Bool.false_eq_true, Bool.true_eq_false, Bool.or_false, Bool.or_true, Bool.and_true, Bool.and_false, Bool.true_and, Bool.false_and, Bool.not_true, Bool.not_false, decide_true, decide_false, Nat.reduceAdd, Nat.reduceSub, Nat.zero_add, reduceIte, reduceCtorEq, sz0, sz1, sz2, sz3, sz4, sz5, sz6, sz7, sz8, sz9, sz10, sz11, sz12, sz13, sz14, sz15, sz16, seqOf, ev_callv, ev_lcall, keep_d, capsOf]
        exact ow_nil (nextT q)
    · rintro s ⟨m, n2, due, x5, x6, hl2, hn2, hdue, rfl⟩
      have := nats_nil hl2
      subst this
      refine ow_cons (ow_ifs ?_)
      rcases hdue with ⟨rfl, h⟩ | ⟨rfl, h⟩
      · simp [evS, ev_v, ev_c, ev_g, ev_fn, ev_bin, ev_neg, ev_no, ev_cmp, ev_chain, ev_and, ev_or, ev_ite, ev_call, ev_kcall, ev_bi, ev_isi, ev_ix, ev_sl, ev_rev, ev_tup, ev_lst, ev_pop, ev_dk, ev_dle, ev_dpop, ev_dmk, evEach, evIt, evs, evF, ops, op1, op2, opA, tst, tsts, truD, Pv.load, look, S.at, S.put, mine, store, setO, appO, drO, mkO, sliceO, seqO, ofRo_ok, lcTurn, Out.calm, hideS, backS, ownFree, bind_ok, bind_bad, bind_exc, ow_ok, ow_bad, ow_exc, ofO, dsOf, lstD, tupD, binop, cmpop, deq, Pv.truthy, builtin, item, item.atI, slice, Pv.bound, Ex.gap, isTy, asInt, Option.map_some, Option.map_none, Option.bind_some, Option.bind_none, List.map_cons, List.map_nil, List.replicate, List.cons_append, List.nil_append, List.append_nil, List.getD_cons_zero, List.getD_cons_succ, List.getD_nil, List.set_cons_zero, List.set_cons_succ, List.set_nil, List.zip_cons_cons, List.zip_nil_left, List.zip_nil_right, List.foldl_cons, List.foldl_nil, List.length_cons, List.length_nil, List.any_cons, List.any_nil, List.all_cons, List.all_nil, if_true, if_false, ite_true, ite_false, Bool.false_eq_true, Bool.true_eq_false, Bool.or_false, Bool.or_true, Bool.and_true, Bool.and_false, Bool.true_and, Bool.false_and, Bool.not_true, Bool.not_false, decide_true, decide_false, Nat.reduceAdd, Nat.reduceSub, Nat.zero_add, reduceIte, reduceCtorEq, sz0, sz1, sz2, sz3, sz4, sz5, sz6, sz7, sz8, sz9, sz10, sz11, sz12, sz13, sz14, sz15, sz16, seqOf, ev_callv, ev_lcall, keep_d, capsOf]
        refine ow_nil ?_
        refine ow_nil ?_
        refine .mk (r + 1) n' _ _ _ rfl (by omega) ?_ rfl
        refine Nat.lt_of_le_of_ne hlo fun q => ?_
        have := h q
        omega
      · simp [evS, ev_v, ev_c, ev_g, ev_fn, ev_bin, ev_neg, ev_no, ev_cmp, ev_chain, ev_and, ev_or, ev_ite, ev_call, ev_kcall, ev_bi, ev_isi, ev_ix, ev_sl, ev_rev, ev_tup, ev_lst, ev_pop, ev_dk, ev_dle, ev_dpop, ev_dmk, evEach, evIt, evs, evF, ops, op1, op2, opA, tst, tsts, truD, Pv.load, look, S.at, S.put, mine, store, setO, appO, drO, mkO, sliceO, seqO, ofRo_ok, lcTurn, Out.calm, hideS, backS, ownFree, bind_ok, bind_bad, bind_exc, ow_ok, ow_bad, ow_exc, ofO, dsOf, lstD, tupD, binop, cmpop, deq, Pv.truthy, builtin, item, item.atI, slice, Pv.bound, Ex.gap, isTy, asInt, Option.map_some, Option.map_none, Option.bind_some, Option.bind_none, List.map_cons, List.map_nil, List.replicate, List.cons_append, List.nil_append, List.append_nil, List.getD_cons_zero, List.getD_cons_succ, List.getD_nil, List.set_cons_zero, List.set_cons_succ, List.set_nil, List.zip_cons_cons, List.zip_nil_left, List.zip_nil_right, List.foldl_cons, List.foldl_nil, List.length_cons, List.length_nil, List.any_cons, List.any_nil, List.all_cons, List.all_nil, if_true, if_false, ite_true, ite_false, Bool.false_eq_true, Bool.true_eq_false, Bool.or_false, Bool.or_true, Bool.and_true, Bool.and_false, Bool.true_and, Bool.false_and, Bool.not_true, Bool.not_false, decide_true, decide_false, Nat.reduceAdd, Nat.reduceSub, Nat.zero_add, reduceIte, reduceCtorEq, sz0, sz1, sz2, sz3, sz4, sz5, sz6, sz7, sz8, sz9, sz10, sz11, sz12, sz13, sz14, sz15, sz16, seqOf, ev_callv, ev_lcall, keep_d, capsOf]
        refine ow_cons ?_
        simp [evS, ev_v, ev_c, ev_g, ev_fn, ev_bin, ev_neg, ev_no, ev_cmp, ev_chain, ev_and, ev_or, ev_ite, ev_call, ev_kcall, ev_bi, ev_isi, ev_ix, ev_sl, ev_rev, ev_tup, ev_lst, ev_pop, ev_dk, ev_dle, ev_dpop, ev_dmk, evEach, evIt, evs, evF, ops, op1, op2, opA, tst, tsts, truD, Pv.load, look, S.at, S.put, mine, store, setO, appO, drO, mkO, sliceO, seqO, ofRo_ok, lcTurn, Out.calm, hideS, backS, ownFree, bind_ok, bind_bad, bind_exc, ow_ok, ow_bad, ow_exc, ofO, dsOf, lstD, tupD, binop, cmpop, deq, Pv.truthy, builtin, item, item.atI, slice, Pv.bound, Ex.gap, isTy, asInt, Option.map_some, Option.map_none, Option.bind_some, Option.bind_none, List.map_cons, List.map_nil, List.replicate, List.cons_append, List.nil_append, List.append_nil, List.getD_cons_zero, List.getD_cons_succ, List.getD_nil, List.set_cons_zero, List.set_cons_succ, List.set_nil, List.zip_cons_cons, List.zip_nil_left, List.zip_nil_right, List.foldl_cons, List.foldl_nil, List.length_cons, List.length_nil, List.any_cons, List.any_nil, List.all_cons, List.all_nil, if_true, if_false, ite_true, ite_false, Bool.false_eq_true, Bool.true_eq_false, Bool.or_false, Bool.or_true, Bool.and_true, Bool.and_false, Bool.true_and, Bool.false_and, Bool.not_true, Bool.not_false, decide_true, decide_false, Nat.reduceAdd, Nat.reduceSub, Nat.zero_add, reduceIte, reduceCtorEq, sz0, sz1, sz2, sz3, sz4, sz5, sz6, sz7, sz8, sz9, sz10, sz11, sz12, sz13, sz14, sz15, sz16, seqOf, ev_callv, ev_lcall, keep_d, capsOf, iv, qs, qsay, Qs]
  · rintro s ⟨r, n, x2, x5, x6, hl, hn, hlo, rfl⟩
    have := nats_nil hl
    omega
end
end K85
set_option maxHeartbeats 200000
set_option maxHeartbeats 400000
/-! as many bits as there are -/
namespace K85
open PySem Pv
inductive IB (U : Int) (u : Nat) (dr : Option Dr) (mm : Nat) (s : S) : Prop
  | mk (f : Int) (h0 : 0 ≤ f) (h1 : f ≤ u.log2 + 1) (hm : mm = u.log2 + 1 - f.toNat) (e : s = ⟨[iv U, iv f], dr⟩)
section
variable (k : Nat) (dr : Option Dr)
/-- as many bits as there are -/
theorem run_bitlen (u : Nat) (U : Int) (hU : U = (u : Int)) (hb : u < 2 ^ 5000) : ∃ l : Nat, run G T (k + 1) 21 [.d (.int U)] dr = .ok (.d (.int (l : Int))) false dr ∧ u < 2 ^ l ∧ l ≤ 6000 := by
  have hl := log_lt hb (by decide)
  have key : Rw (run G T (k + 1) 21 [.d (.int U)] dr) fun a fr dr' => (∃ L : Int, a = .d (.int L) ∧ 0 ≤ L ∧ u < 2 ^ L.toNat ∧ L ≤ 6000) ∧ fr = false ∧ dr' = dr := by
    rw [run_fn' (f := 21) (np := 1) (nn := 2) rfl rfl]
    refine rw_ret ?_
    refine ow_cons ?_
    simp [evS, ev_v, ev_c, ev_g, ev_fn, ev_bin, ev_neg, ev_no, ev_cmp, ev_chain, ev_and, ev_or, ev_ite, ev_call, ev_kcall, ev_bi, ev_isi, ev_ix, ev_sl, ev_rev, ev_tup, ev_lst, ev_pop, ev_dk, ev_dle, ev_dpop, ev_dmk, evEach, evIt, evs, evF, ops, op1, op2, opA, tst, tsts, truD, Pv.load, look, S.at, S.put, mine, store, setO, appO, drO, mkO, sliceO, seqO, ofRo_ok, lcTurn, Out.calm, hideS, backS, ownFree, bind_ok, bind_bad, bind_exc, ow_ok, ow_bad, ow_exc, ofO, dsOf, lstD, tupD, binop, cmpop, deq, Pv.truthy, builtin, item, item.atI, slice, Pv.bound, Ex.gap, isTy, asInt, Option.map_some, Option.map_none, Option.bind_some, Option.bind_none, List.map_cons, List.map_nil, List.replicate, List.cons_append, List.nil_append, List.append_nil, List.getD_cons_zero, List.getD_cons_succ, List.getD_nil, List.set_cons_zero, List.set_cons_succ, List.set_nil, List.zip_cons_cons, List.zip_nil_left, List.zip_nil_right, List.foldl_cons, List.foldl_nil, List.length_cons, List.length_nil, List.any_cons, List.any_nil, List.all_cons, List.all_nil, if_true, if_false, ite_true, ite_false, Bool.false_eq_true, Bool.true_eq_false, Bool.or_false, Bool.or_true, Bool.and_true, Bool.and_false, Bool.true_and, Bool.false_and, Bool.not_true, Bool.not_false, decide_true, decide_false, Nat.reduceAdd, Nat.reduceSub, Nat.zero_add, reduceIte, reduceCtorEq, sz0, sz1, sz2, sz3, sz4, sz5, sz6, sz7, sz8, sz9, sz10, sz11, sz12, sz13, sz14, sz15, sz16, seqOf, ev_callv, ev_lcall, keep_d, capsOf]
    refine ow_cons ?_
    refine ow_loop (IB U u dr) (u.log2 + 1) (by omega) (.mk 0 (Int.le_refl _) (by omega) rfl rfl) ?_
    rintro mm s ⟨f, h0, h1, rfl, rfl⟩
    have e : U / 2 ^ f.toNat = ((u / 2 ^ f.toNat : Nat) : Int) := by rw [hU, Int.natCast_ediv, Int.natCast_pow]; rfl
    by_cases c : 0 < U / 2 ^ f.toNat
    · have hf : f ≤ u.log2 := by
        refine Int.not_lt.mp fun z => ?_
        have h2 : u < 2 ^ f.toNat := Nat.lt_of_lt_of_le Nat.lt_log2_self (pow_le_pow (by omega))
        rw [e, Nat.div_eq_of_lt h2] at c
        exact absurd c (by decide)
      simp [evS, ev_v, ev_c, ev_g, ev_fn, ev_bin, ev_neg, ev_no, ev_cmp, ev_chain, ev_and, ev_or, ev_ite, ev_call, ev_kcall, ev_bi, ev_isi, ev_ix, ev_sl, ev_rev, ev_tup, ev_lst, ev_pop, ev_dk, ev_dle, ev_dpop, ev_dmk, evEach, evIt, evs, evF, ops, op1, op2, opA, tst, tsts, truD, Pv.load, look, S.at, S.put, mine, store, setO, appO, drO, mkO, sliceO, seqO, ofRo_ok, lcTurn, Out.calm, hideS, backS, ownFree, bind_ok, bind_bad, bind_exc, ow_ok, ow_bad, ow_exc, ofO, dsOf, lstD, tupD, binop, cmpop, deq, Pv.truthy, builtin, item, item.atI, slice, Pv.bound, Ex.gap, isTy, asInt, Option.map_some, Option.map_none, Option.bind_some, Option.bind_none, List.map_cons, List.map_nil, List.replicate, List.cons_append, List.nil_append, List.append_nil, List.getD_cons_zero, List.getD_cons_succ, List.getD_nil, List.set_cons_zero, List.set_cons_succ, List.set_nil, List.zip_cons_cons, List.zip_nil_left, List.zip_nil_right, List.foldl_cons, List.foldl_nil, List.length_cons, List.length_nil, List.any_cons, List.any_nil, List.all_cons, List.all_nil, if_true, if_false, ite_true, ite_false, Bool.false_eq_true, Bool.true_eq_false, Bool.or_false, Bool.or_true, Bool.and_true, Bool.and_false, Bool.true_and, Bool.false_and, Bool.not_true, Bool.not_false, decide_true, decide_false, Nat.reduceAdd, Nat.reduceSub, Nat.zero_add, reduceIte, reduceCtorEq, sz0, sz1, sz2, sz3, sz4, sz5, sz6, sz7, sz8, sz9, sz10, sz11, sz12, sz13, sz14, sz15, sz16, seqOf, ev_callv, ev_lcall, keep_d, capsOf, iv, h0, c]
      refine ow_cons ?_
      simp [evS, ev_v, ev_c, ev_g, ev_fn, ev_bin, ev_neg, ev_no, ev_cmp, ev_chain, ev_and, ev_or, ev_ite, ev_call, ev_kcall, ev_bi, ev_isi, ev_ix, ev_sl, ev_rev, ev_tup, ev_lst, ev_pop, ev_dk, ev_dle, ev_dpop, ev_dmk, evEach, evIt, evs, evF, ops, op1, op2, opA, tst, tsts, truD, Pv.load, look, S.at, S.put, mine, store, setO, appO, drO, mkO, sliceO, seqO, ofRo_ok, lcTurn, Out.calm, hideS, backS, ownFree, bind_ok, bind_bad, bind_exc, ow_ok, ow_bad, ow_exc, ofO, dsOf, lstD, tupD, binop, cmpop, deq, Pv.truthy, builtin, item, item.atI, slice, Pv.bound, Ex.gap, isTy, asInt, Option.map_some, Option.map_none, Option.bind_some, Option.bind_none, List.map_cons, List.map_nil, List.replicate, List.cons_append, List.nil_append, List.append_nil, List.getD_cons_zero, List.getD_cons_succ, List.getD_nil, List.set_cons_zero, List.set_cons_succ, List.set_nil, List.zip_cons_cons, List.zip_nil_left, List.zip_nil_right, List.foldl_cons, List.foldl_nil, List.length_cons, List.length_nil, List.any_cons, List.any_nil, List.all_cons, List.all_nil, if_true, if_false, ite_true, ite_false, Bool.false_eq_true, Bool.true_eq_false, Bool.or_false, Bool.or_true, Bool.and_true, Bool.and_false, Bool.true_and, Bool.false_and, Bool.not_true, Bool.not_false, decide_true, decide_false, Nat.reduceAdd, Nat.reduceSub, Nat.zero_add, reduceIte, reduceCtorEq, sz0, sz1, sz2, sz3, sz4, sz5, sz6, sz7, sz8, sz9, sz10, sz11, sz12, sz13, sz14, sz15, sz16, seqOf, ev_callv, ev_lcall, keep_d, capsOf, iv]
      refine ow_nil ?_
      exact ⟨_, by omega, .mk (f + 1) (by omega) (by omega) rfl rfl⟩
    · have hz : u < 2 ^ f.toNat := by
        refine Nat.lt_of_not_le fun z => c ?_
        have := Nat.div_pos z (Nat.pow_pos (by decide))
        omega
      simp [evS, ev_v, ev_c, ev_g, ev_fn, ev_bin, ev_neg, ev_no, ev_cmp, ev_chain, ev_and, ev_or, ev_ite, ev_call, ev_kcall, ev_bi, ev_isi, ev_ix, ev_sl, ev_rev, ev_tup, ev_lst, ev_pop, ev_dk, ev_dle, ev_dpop, ev_dmk, evEach, evIt, evs, evF, ops, op1, op2, opA, tst, tsts, truD, Pv.load, look, S.at, S.put, mine, store, setO, appO, drO, mkO, sliceO, seqO, ofRo_ok, lcTurn, Out.calm, hideS, backS, ownFree, bind_ok, bind_bad, bind_exc, ow_ok, ow_bad, ow_exc, ofO, dsOf, lstD, tupD, binop, cmpop, deq, Pv.truthy, builtin, item, item.atI, slice, Pv.bound, Ex.gap, isTy, asInt, Option.map_some, Option.map_none, Option.bind_some, Option.bind_none, List.map_cons, List.map_nil, List.replicate, List.cons_append, List.nil_append, List.append_nil, List.getD_cons_zero, List.getD_cons_succ, List.getD_nil, List.set_cons_zero, List.set_cons_succ, List.set_nil, List.zip_cons_cons, List.zip_nil_left, List.zip_nil_right, List.foldl_cons, List.foldl_nil, List.length_cons, List.length_nil, List.any_cons, List.any_nil, List.all_cons, List.all_nil, if_true, if_false, ite_true, ite_false, Bool.false_eq_true, Bool.true_eq_false, Bool.or_false, Bool.or_true, Bool.and_true, Bool.and_false, Bool.true_and, Bool.false_and, Bool.not_true, Bool.not_false, decide_true, decide_false, Nat.reduceAdd, Nat.reduceSub, Nat.zero_add, reduceIte, reduceCtorEq, sz0, sz1, sz2, sz3, sz4, sz5, sz6, sz7, sz8, sz9, sz10, sz11, sz12, sz13, sz14, sz15, sz16, seqOf, ev_callv, ev_lcall, keep_d, capsOf, iv, h0, c]
      refine ow_cons ?_
      simp only [evS, ev_v, ev_c, ev_g, ev_fn, ev_bin, ev_neg, ev_no, ev_cmp, ev_chain, ev_and, ev_or, ev_ite, ev_call, ev_kcall, ev_bi, ev_isi, ev_ix, ev_sl, ev_rev, ev_tup, ev_lst, ev_pop, ev_dk, ev_dle, ev_dpop, ev_dmk, evEach, evIt, evs, evF, ops, op1, op2, opA, tst, tsts, truD, Pv.load, look, S.at, S.put, mine, store, setO, appO, drO, mkO, sliceO, seqO, ofRo_ok, lcTurn, Out.calm, hideS, backS, ownFree, bind_ok, bind_bad, bind_exc, ow_ok, ow_bad, ow_exc, ofO, dsOf, lstD, tupD, binop, cmpop, deq, Pv.truthy, builtin, item, item.atI, slice, Pv.bound, Ex.gap, isTy, asInt, Option.map_some, Option.map_none, Option.bind_some, Option.bind_none, List.map_cons, List.map_nil, List.replicate, List.cons_append, List.nil_append, List.append_nil, List.getD_cons_zero, List.getD_cons_succ, List.getD_nil, List.set_cons_zero, List.set_cons_succ, List.set_nil, List.zip_cons_cons, List.zip_nil_left, List.zip_nil_right, List.foldl_cons, List.foldl_nil, List.length_cons, List.length_nil, List.any_cons, List.any_nil, List.all_cons, List.all_nil, if_true, if_false, ite_true, ite_false, Bool.false_eq_true, Bool.true_eq_false, Bool.or_false, Bool.or_true, Bool.and_true, Bool.and_false, Bool.true_and, Bool.false_and, Bool.not_true, Bool.not_false, decide_true, decide_false, Nat.reduceAdd, Nat.reduceSub, Nat.zero_add, reduceIte, reduceCtorEq, sz0, sz1, sz2, sz3, sz4, sz5, sz6, sz7, sz8, sz9, sz10, sz11, sz12, sz13, sz14, sz15, sz16, seqOf, ev_callv, ev_lcall, keep_d, capsOf, iv]
      exact ⟨⟨f, rfl, h0, hz, by omega⟩, trivial, trivial⟩
  obtain ⟨a, fr, dr', e, ⟨L, rfl, q0, q1, q2⟩, rfl, rfl⟩ := rw_eq key
  refine ⟨L.toNat, ?_, q1, by omega⟩
  rw [e, Int.toNat_of_nonneg q0]
end
end K85
set_option maxHeartbeats 200000
set_option maxHeartbeats 400000
/-! signed quotients: pairs at great widths -/
namespace K85
open PySem Pv
/-- a pair that does not do -/
inductive Nb (v d : Nat) (x : PyData) : Prop
  | mk (m r : Nat) (M R : Int) (hx : x = .tuple [.int M, .int R]) (hM : M = (m : Int)) (hR : R = (r : Int)) (m1 : m ≤ 2 ^ 900) (r1 : r ≤ 900) (h : Dv.doesS (2 ^ v) d m (2 ^ r) = false)
inductive IN (v d : Nat) (W D M R : Int) (x6 : Pv.Slot) (dr : Option Dr) (l : List PyData) (s : S) : Prop
  | mk (x1 x7 x8 : Pv.Slot) (hl : ∀ x ∈ l, Nb v d x) (e : s = ⟨[.va .drw, x1, iv W, iv D, iv M, iv R, x6, x7, x8, .un], dr⟩)
def gNear (N R : Int) : PyData → Option PyData
  | .int i => some (.tuple [.int (if 0 < N + i then N + i else 0), .int (R - 1)])
  | _ => none
theorem rng4 : rngI (-1) 3 = [.int (-1), .int 0, .int 1, .int 2] := rfl
section
variable (k : Nat)
theorem run_greatright (st : Dr) : Rw (run G T (k + 8) 30 [.drw] (some st)) fun a fr dr => a = .d (.bool true) ∧ fr = false ∧ dr.isSome = true := by
  rw [run_fn' (f := 30) (np := 1) (nn := 10) rfl rfl]
  refine rw_ret (ow_mono (Q := Qs) ?_ fun f s h => by cases f <;> first | exact h.elim | exact h)
  refine ow_cons ?_
  simp [evS, ev_v, ev_c, ev_g, ev_fn, ev_bin, ev_neg, ev_no, ev_cmp, ev_chain, ev_and, ev_or, ev_ite, ev_call, ev_kcall, ev_bi, ev_isi, ev_ix, ev_sl, ev_rev, ev_tup, ev_lst, ev_pop, ev_dk, ev_dle, ev_dpop, ev_dmk, evEach, evIt, evs, evF, ops, op1, op2, opA, tst, tsts, truD, Pv.load, look, S.at, S.put, mine, store, setO, appO, drO, mkO, sliceO, seqO, ofRo_ok, lcTurn, Out.calm, hideS, backS, ownFree, bind_ok, bind_bad, bind_exc, ow_ok, ow_bad, ow_exc, ofO, dsOf, lstD, tupD, binop, cmpop, deq, Pv.truthy, builtin, item, item.atI, slice, Pv.bound, Ex.gap, isTy, asInt, Option.map_some, Option.map_none, Option.bind_some, Option.bind_none, List.map_cons, List.map_nil, List.replicate, List.cons_append, List.nil_append, List.append_nil, List.getD_cons_zero, List.getD_cons_succ, List.getD_nil, List.set_cons_zero, List.set_cons_succ, List.set_nil, List.zip_cons_cons, List.zip_nil_left, List.zip_nil_right, List.foldl_cons, List.foldl_nil, List.length_cons, List.length_nil, List.any_cons, List.any_nil, List.all_cons, List.all_nil, if_true, if_false, ite_true, ite_false, Bool.false_eq_true, Bool.true_eq_false, Bool.or_false, Bool.or_true, Bool.and_true, Bool.and_false, Bool.true_and, Bool.false_and, Bool.not_true, Bool.not_false, decide_true, decide_false, Nat.reduceAdd, Nat.reduceSub, Nat.zero_add, reduceIte, reduceCtorEq, sz0, sz1, sz2, sz3, sz4, sz5, sz6, sz7, sz8, sz9, sz10, sz11, sz12, sz13, sz14, sz15, sz16, seqOf, ev_callv, ev_lcall, keep_d, capsOf, ow_bind]
  refine ow_call0 (run_wide (k + 3) st) ?_
  rintro a fr dr ⟨⟨W, rfl, w0, w1⟩, rfl, hd⟩
  obtain ⟨st, rfl⟩ := Option.isSome_iff_exists.mp hd
  simp [evS, ev_v, ev_c, ev_g, ev_fn, ev_bin, ev_neg, ev_no, ev_cmp, ev_chain, ev_and, ev_or, ev_ite, ev_call, ev_kcall, ev_bi, ev_isi, ev_ix, ev_sl, ev_rev, ev_tup, ev_lst, ev_pop, ev_dk, ev_dle, ev_dpop, ev_dmk, evEach, evIt, evs, evF, ops, op1, op2, opA, tst, tsts, truD, Pv.load, look, S.at, S.put, mine, store, setO, appO, drO, mkO, sliceO, seqO, ofRo_ok, lcTurn, Out.calm, hideS, backS, ownFree, bind_ok, bind_bad, bind_exc, ow_ok, ow_bad, ow_exc, ofO, dsOf, lstD, tupD, binop, cmpop, deq, Pv.truthy, builtin, item, item.atI, slice, Pv.bound, Ex.gap, isTy, asInt, Option.map_some, Option.map_none, Option.bind_some, Option.bind_none, List.map_cons, List.map_nil, List.replicate, List.cons_append, List.nil_append, List.append_nil, List.getD_cons_zero, List.getD_cons_succ, List.getD_nil, List.set_cons_zero, List.set_cons_succ, List.set_nil, List.zip_cons_cons, List.zip_nil_left, List.zip_nil_right, List.foldl_cons, List.foldl_nil, List.length_cons, List.length_nil, List.any_cons, List.any_nil, List.all_cons, List.all_nil, if_true, if_false, ite_true, ite_false, Bool.false_eq_true, Bool.true_eq_false, Bool.or_false, Bool.or_true, Bool.and_true, Bool.and_false, Bool.true_and, Bool.false_and, Bool.not_true, Bool.not_false, decide_true, decide_false, Nat.reduceAdd, Nat.reduceSub, Nat.zero_add, reduceIte, reduceCtorEq, sz0, sz1, sz2, sz3, sz4, sz5, sz6, sz7, sz8, sz9, sz10, sz11, sz12, sz13, sz14, sz15, sz16, seqOf, ev_callv, ev_lcall, keep_d, capsOf, ow_bind]
  refine ow_call0 (run_divisor (k + 3) st) ?_
  rintro a fr dr ⟨⟨D, d, rfl, hD, d0, d1⟩, rfl, hd⟩
  obtain ⟨st, rfl⟩ := Option.isSome_iff_exists.mp hd
  simp [evS, ev_v, ev_c, ev_g, ev_fn, ev_bin, ev_neg, ev_no, ev_cmp, ev_chain, ev_and, ev_or, ev_ite, ev_call, ev_kcall, ev_bi, ev_isi, ev_ix, ev_sl, ev_rev, ev_tup, ev_lst, ev_pop, ev_dk, ev_dle, ev_dpop, ev_dmk, evEach, evIt, evs, evF, ops, op1, op2, opA, tst, tsts, truD, Pv.load, look, S.at, S.put, mine, store, setO, appO, drO, mkO, sliceO, seqO, ofRo_ok, lcTurn, Out.calm, hideS, backS, ownFree, bind_ok, bind_bad, bind_exc, ow_ok, ow_bad, ow_exc, ofO, dsOf, lstD, tupD, binop, cmpop, deq, Pv.truthy, builtin, item, item.atI, slice, Pv.bound, Ex.gap, isTy, asInt, Option.map_some, Option.map_none, Option.bind_some, Option.bind_none, List.map_cons, List.map_nil, List.replicate, List.cons_append, List.nil_append, List.append_nil, List.getD_cons_zero, List.getD_cons_succ, List.getD_nil, List.set_cons_zero, List.set_cons_succ, List.set_nil, List.zip_cons_cons, List.zip_nil_left, List.zip_nil_right, List.foldl_cons, List.foldl_nil, List.length_cons, List.length_nil, List.any_cons, List.any_nil, List.all_cons, List.all_nil, if_true, if_false, ite_true, ite_false, Bool.false_eq_true, Bool.true_eq_false, Bool.or_false, Bool.or_true, Bool.and_true, Bool.and_false, Bool.true_and, Bool.false_and, Bool.not_true, Bool.not_false, decide_true, decide_false, Nat.reduceAdd, Nat.reduceSub, Nat.zero_add, reduceIte, reduceCtorEq, sz0, sz1, sz2, sz3, sz4, sz5, sz6, sz7, sz8, sz9, sz10, sz11, sz12, sz13, sz14, sz15, sz16, seqOf, ev_callv, ev_lcall, keep_d, capsOf]
  obtain ⟨v, hW⟩ : ∃ v : Nat, W - 1 = (v : Int) := ⟨(W - 1).toNat, by omega⟩
  have lex := Dv.bestS_lex (v := v) d0 (by omega)
  obtain ⟨bm, br, bp⟩ := Dv.bestS_bound (v := v) d0 (by omega)
  obtain ⟨M, hM⟩ : ∃ M : Int, M = ((Dv.bestS v d).1 : Int) := ⟨_, rfl⟩
  obtain ⟨R, hR⟩ : ∃ R : Int, R = ((Dv.bestS v d).2 : Int) := ⟨_, rfl⟩
  have qs := run_sm (k + 2) (some st) v d W D M R hW hD hM hR (by omega) d0 d1
  generalize (Dv.bestS v d).1 = m at *
  generalize (Dv.bestS v d).2 = r at *
  have w9 : 2 ^ (v + 1) ≤ 2 ^ 400 := pow_le_pow (by omega)
  have b49 : 2 ^ 400 ≤ 2 ^ 800 := pow_le_pow (by decide)
  have b89 : 2 ^ 801 ≤ 2 ^ 900 := pow_le_pow (by decide)
  have b81 : 2 ^ 801 = 2 ^ 800 * 2 := Nat.pow_succ _ _
  have b4 : 4 ≤ 2 ^ 400 := pow_le_pow (r := 2) (by decide)
  have pp : ∀ r : Nat, 0 < 2 ^ r := fun r => Nat.pow_pos (by decide)
  have hdoes : Dv.doesS (2 ^ v) d m (2 ^ r) = true := (Dv.doesS_iff d0 (pp r)).mpr lex.ok
  have q1 := run_lawsd (k + 2) (some st) v d m r W D M R hW hD hM hR (by omega) d0 d1 (by omega) (by omega)
  have q2 := run_issm (k + 1) (some st) v d m r W D M R hW hD hM hR (by omega) d0 d1 (by omega) (by omega)
  rw [hdoes] at q1 q2
  have nob : ∀ m' r', r' < r → Dv.doesS (2 ^ v) d m' (2 ^ r') = false := fun m' r' h => by
    cases e : Dv.doesS (2 ^ v) d m' (2 ^ r') with
    | false => rfl
    | true => exact absurd ((Dv.doesS_iff d0 (pp r')).mp e) (lex.lo _ _ h)
  have nom : Dv.doesS (2 ^ v) d (m - 1) (2 ^ r) = false := by
    cases e : Dv.doesS (2 ^ v) d (m - 1) (2 ^ r) with
    | false => rfl
    | true => exact absurd ((Dv.doesS_iff d0 (pp r)).mp e) (lex.lm _ (by omega))
  obtain ⟨B, hB⟩ : ∃ B : Int, (2 : Int) ^ W.toNat = B := ⟨_, rfl⟩
  have hBn : B = ((2 ^ (v + 1) : Nat) : Int) := by rw [← hB, show W.toNat = v + 1 by omega, Int.natCast_pow]; rfl
  have so : shlOk 1 W = true := shlOk_one (by omega) (by omega)
  have c1 : ¬ B < M := by omega
  have c2 : 0 < M := by omega
  have D0 : 0 < D := by omega
  have dD := divOk_fit D0 (fit_le 400 hD d1 (by decide))
  -- the walk over the pairs
  have walk : ∀ (x6 : Pv.Slot) (l : List PyData), (∀ x ∈ l, Nb v d x) → Ow (evB G (run G T (k + 7)) t30_6 ⟨[.va .drw, .ow (.list l), iv W, iv D, iv M, iv R, x6, .un, .un, .un], some st⟩) Qs := fun x6 l hl => by
    refine ow_cons ?_
    refine ow_each (IN v d W D M R x6 (some st)) ?_ ?_ ?_
    · simp [evS, ev_v, ev_c, ev_g, ev_fn, ev_bin, ev_neg, ev_no, ev_cmp, ev_chain, ev_and, ev_or, ev_ite, ev_call, ev_kcall, ev_bi, ev_isi, ev_ix, ev_sl, ev_rev, ev_tup, ev_lst, ev_pop, ev_dk, ev_dle, ev_dpop, ev_dmk, evEach, evIt, evs, evF, ops, op1, op2, opA, tst, tsts, truD, Pv.load, look, S.at, S.put, mine, store, setO, appO, drO, mkO, sliceO, seqO, ofRo_ok, lcTurn, Out.calm, hideS, backS, ownFree, bind_ok, bind_bad, bind_exc, ow_ok, ow_bad, ow_exc, ofO, dsOf, lstD, tupD, binop, cmpop, deq, Pv.truthy, builtin, item, item.atI, slice, Pv.bound, Ex.gap, isTy, asInt, Option.map_some, Option.map_none, Option.bind_some, Option.bind_none, List.map_cons, List.map_nil, List.replicate, List.cons_append, List.nil_append, List.append_nil, List.getD_cons_zero, List.getD_cons_succ, List.getD_nil, List.set_cons_zero, List.set_cons_succ, List.set_nil, List.zip_cons_cons, List.zip_nil_left, List.zip_nil_right, List.foldl_cons, List.foldl_nil, List.length_cons, List.length_nil, List.any_cons, List.any_nil, List.all_cons, List.all_nil, if_true, if_false, ite_true, ite_false, Bool.false_eq_true, Bool.true_eq_false, Bool.or_false, Bool.or_true, Bool.and_true, Bool.and_false, Bool.true_and, Bool.false_and, Bool.not_true, Bool.not_false, decide_true, decide_false, Nat.reduceAdd, Nat.reduceSub, Nat.zero_add, reduceIte, reduceCtorEq, sz0, sz1, sz2, sz3, sz4, sz5, sz6, sz7, sz8, sz9, sz10, sz11, sz12, sz13, sz14, sz15, sz16, seqOf, ev_callv, ev_lcall, keep_d, capsOf]
      exact .mk _ _ _ hl rfl
    · rintro x rr s ⟨x1, x7, x8, hl, rfl⟩
      obtain ⟨m', r', M', R', rfl, hM', hR', m1, r1, hf⟩ := hl x List.mem_cons_self
      have p1 := run_lawsd (k + 2) (some st) v d m' r' W D M' R' hW hD hM' hR' (by omega) d0 d1 m1 r1
      have p2 := run_issm (k + 1) (some st) v d m' r' W D M' R' hW hD hM' hR' (by omega) d0 d1 m1 r1
      rw [hf] at p1 p2
      have nx : ∀ x7 x8, IN v d W D M R x6 (some st) rr ⟨[.va .drw, x1, iv W, iv D, iv M, iv R, x6, x7, x8, .un], some st⟩ := fun x7 x8 => .mk _ _ _ (fun y hy => hl y (List.mem_cons_of_mem _ hy)) rfl
      clear hW hD hM' hR' m1 r1 hM hR hBn
      simp [evS, ev_v, ev_c, ev_g, ev_fn, ev_bin, ev_neg, ev_no, ev_cmp, ev_chain, ev_and, ev_or, ev_ite, ev_call, ev_kcall, ev_bi, ev_isi, ev_ix, ev_sl, ev_rev, ev_tup, ev_lst, ev_pop, ev_dk, ev_dle, ev_dpop, ev_dmk, evEach, evIt, evs, evF, ops, op1, op2, opA, tst, tsts, truD, Pv.load, look, S.at, S.put, mine, store, setO, appO, drO, mkO, sliceO, seqO, ofRo_ok, lcTurn, Out.calm, hideS, backS, ownFree, bind_ok, bind_bad, bind_exc, ow_ok, ow_bad, ow_exc, ofO, dsOf, lstD, tupD, binop, cmpop, deq, Pv.truthy, builtin, item, item.atI, slice, Pv.bound, Ex.gap, isTy, asInt, Option.map_some, Option.map_none, Option.bind_some, Option.bind_none, List.map_cons, List.map_nil, List.replicate, List.cons_append, List.nil_append, List.append_nil, List.getD_cons_zero, List.getD_cons_succ, List.getD_nil, List.set_cons_zero, List.set_cons_succ, List.set_nil, List.zip_cons_cons, List.zip_nil_left, List.zip_nil_right, List.foldl_cons, List.foldl_nil, List.length_cons, List.length_nil, List.any_cons, List.any_nil, List.all_cons, List.all_nil, if_true, if_false, ite_true, ite_false, Bool.false_eq_true, Bool.true_eq_false, Bool.or_false, Bool.or_true, Bool.and_true, Bool.and_false, Bool.true_and, Bool.false_and, Bool.not_true, Bool.not_false, decide_true, decide_false, Nat.reduceAdd, Nat.reduceSub, Nat.zero_add, reduceIte, reduceCtorEq, sz0, sz1, sz2, sz3, sz4, sz5, sz6, sz7, sz8, sz9, sz10, sz11, sz12, sz13, sz14, sz15, sz16, seqOf, ev_callv, ev_lcall, keep_d, capsOf, iv]
      refine ow_cons (ow_ifs ?_)
      simp [evS, ev_v, ev_c, ev_g, ev_fn, ev_bin, ev_neg, ev_no, ev_cmp, ev_chain, ev_and, ev_or, ev_ite, ev_call, ev_kcall, ev_bi, ev_isi, ev_ix, ev_sl, ev_rev, ev_tup, ev_lst, ev_pop, ev_dk, ev_dle, ev_dpop, ev_dmk, evEach, evIt, evs, evF, ops, op1, op2, opA, tst, tsts, truD, Pv.load, look, S.at, S.put, mine, store, setO, appO, drO, mkO, sliceO, seqO, ofRo_ok, lcTurn, Out.calm, hideS, backS, ownFree, bind_ok, bind_bad, bind_exc, ow_ok, ow_bad, ow_exc, ofO, dsOf, lstD, tupD, binop, cmpop, deq, Pv.truthy, builtin, item, item.atI, slice, Pv.bound, Ex.gap, isTy, asInt, Option.map_some, Option.map_none, Option.bind_some, Option.bind_none, List.map_cons, List.map_nil, List.replicate, List.cons_append, List.nil_append, List.append_nil, List.getD_cons_zero, List.getD_cons_succ, List.getD_nil, List.set_cons_zero, List.set_cons_succ, List.set_nil, List.zip_cons_cons, List.zip_nil_left, List.zip_nil_right, List.foldl_cons, List.foldl_nil, List.length_cons, List.length_nil, List.any_cons, List.any_nil, List.all_cons, List.all_nil, if_true, if_false, ite_true, ite_false, Bool.false_eq_true, Bool.true_eq_false, Bool.or_false, Bool.or_true, Bool.and_true, Bool.and_false, Bool.true_and, Bool.false_and, Bool.not_true, Bool.not_false, decide_true, decide_false, Nat.reduceAdd, Nat.reduceSub, Nat.zero_add, reduceIte, reduceCtorEq, sz0, sz1, sz2, sz3, sz4, sz5, sz6, sz7, sz8, sz9, sz10, sz11, sz12, sz13, sz14, sz15, sz16, seqOf, ev_callv, ev_lcall, keep_d, capsOf, iv, p1, p2]
      exact ow_nil (ow_nil (nx _ _))
    · rintro s ⟨x1, x7, x8, hl, rfl⟩
      refine ow_cons ?_
      simp [evS, ev_v, ev_c, ev_g, ev_fn, ev_bin, ev_neg, ev_no, ev_cmp, ev_chain, ev_and, ev_or, ev_ite, ev_call, ev_kcall, ev_bi, ev_isi, ev_ix, ev_sl, ev_rev, ev_tup, ev_lst, ev_pop, ev_dk, ev_dle, ev_dpop, ev_dmk, evEach, evIt, evs, evF, ops, op1, op2, opA, tst, tsts, truD, Pv.load, look, S.at, S.put, mine, store, setO, appO, drO, mkO, sliceO, seqO, ofRo_ok, lcTurn, Out.calm, hideS, backS, ownFree, bind_ok, bind_bad, bind_exc, ow_ok, ow_bad, ow_exc, ofO, dsOf, lstD, tupD, binop, cmpop, deq, Pv.truthy, builtin, item, item.atI, slice, Pv.bound, Ex.gap, isTy, asInt, Option.map_some, Option.map_none, Option.bind_some, Option.bind_none, List.map_cons, List.map_nil, List.replicate, List.cons_append, List.nil_append, List.append_nil, List.getD_cons_zero, List.getD_cons_succ, List.getD_nil, List.set_cons_zero, List.set_cons_succ, List.set_nil, List.zip_cons_cons, List.zip_nil_left, List.zip_nil_right, List.foldl_cons, List.foldl_nil, List.length_cons, List.length_nil, List.any_cons, List.any_nil, List.all_cons, List.all_nil, if_true, if_false, ite_true, ite_false, Bool.false_eq_true, Bool.true_eq_false, Bool.or_false, Bool.or_true, Bool.and_true, Bool.and_false, Bool.true_and, Bool.false_and, Bool.not_true, Bool.not_false, decide_true, decide_false, Nat.reduceAdd, Nat.reduceSub, Nat.zero_add, reduceIte, reduceCtorEq, sz0, sz1, sz2, sz3, sz4, sz5, sz6, sz7, sz8, sz9, sz10, sz11, sz12, sz13, sz14, sz15, sz16, seqOf, ev_callv, ev_lcall, keep_d, capsOf, Qs]
  have nb0 : Nb v d (.tuple [.int (M - 1), .int R]) := .mk (m - 1) r _ _ rfl (by omega) hR (by omega) (by omega) nom
  have near : 0 < R → ∃ N : Int, (2 : Int) ^ (R - 1).toNat / D = N ∧ ∀ i : Int, -1 ≤ i → i ≤ 2 → Nb v d (.tuple [.int (if 0 < N + i then N + i else 0), .int (R - 1)]) := fun hr0 => by
    refine ⟨_, rfl, fun i i0 i1 => ?_⟩
    have e : (2 : Int) ^ (R - 1).toNat / D = ((2 ^ (r - 1) / d : Nat) : Int) := by
      rw [hD, Int.natCast_ediv, show (R - 1).toNat = r - 1 by omega, Int.natCast_pow]; rfl
    have hle : 2 ^ (r - 1) / d ≤ 2 ^ 800 := Nat.le_trans (Nat.div_le_self _ _) (pow_le_pow (by omega))
    rw [e]
    generalize 2 ^ (r - 1) / d = z at hle
    obtain ⟨y, hy, hy2⟩ : ∃ y : Nat, (if 0 < (z : Int) + i then (z : Int) + i else 0) = (y : Int) ∧ y ≤ z + 2 := by
      split
      · exact ⟨((z : Int) + i).toNat, by omega, by omega⟩
      · exact ⟨0, rfl, by omega⟩
    exact .mk y (r - 1) _ _ rfl hy (by omega) (by omega) (by omega) (nob _ _ (by omega))
  have so1 : 0 < R → shlOk 1 (R - 1) = true := fun h => shlOk_one (by omega) (by omega)
  clear hBn hM hR lex bm br nob nom hdoes hD hW b4 b49 b89 b81 w9
  refine ow_cons ?_
  simp [evS, ev_v, ev_c, ev_g, ev_fn, ev_bin, ev_neg, ev_no, ev_cmp, ev_chain, ev_and, ev_or, ev_ite, ev_call, ev_kcall, ev_bi, ev_isi, ev_ix, ev_sl, ev_rev, ev_tup, ev_lst, ev_pop, ev_dk, ev_dle, ev_dpop, ev_dmk, evEach, evIt, evs, evF, ops, op1, op2, opA, tst, tsts, truD, Pv.load, look, S.at, S.put, mine, store, setO, appO, drO, mkO, sliceO, seqO, ofRo_ok, lcTurn, Out.calm, hideS, backS, ownFree, bind_ok, bind_bad, bind_exc, ow_ok, ow_bad, ow_exc, ofO, dsOf, lstD, tupD, binop, cmpop, deq, Pv.truthy, builtin, item, item.atI, slice, Pv.bound, Ex.gap, isTy, asInt, Option.map_some, Option.map_none, Option.bind_some, Option.bind_none, List.map_cons, List.map_nil, List.replicate, List.cons_append, List.nil_append, List.append_nil, List.getD_cons_zero, List.getD_cons_succ, List.getD_nil, List.set_cons_zero, List.set_cons_succ, List.set_nil, List.zip_cons_cons, List.zip_nil_left, List.zip_nil_right, List.foldl_cons, List.foldl_nil, List.length_cons, List.length_nil, List.any_cons, List.any_nil, List.all_cons, List.all_nil, if_true, if_false, ite_true, ite_false, Bool.false_eq_true, Bool.true_eq_false, Bool.or_false, Bool.or_true, Bool.and_true, Bool.and_false, Bool.true_and, Bool.false_and, Bool.not_true, Bool.not_false, decide_true, decide_false, Nat.reduceAdd, Nat.reduceSub, Nat.zero_add, reduceIte, reduceCtorEq, sz0, sz1, sz2, sz3, sz4, sz5, sz6, sz7, sz8, sz9, sz10, sz11, sz12, sz13, sz14, sz15, sz16, seqOf, ev_callv, ev_lcall, keep_d, capsOf, qs, layK]
  refine ow_cons (ow_ifs ?_)
  simp [evS, ev_v, ev_c, ev_g, ev_fn, ev_bin, ev_neg, ev_no, ev_cmp, ev_chain, ev_and, ev_or, ev_ite, ev_call, ev_kcall, ev_bi, ev_isi, ev_ix, ev_sl, ev_rev, ev_tup, ev_lst, ev_pop, ev_dk, ev_dle, ev_dpop, ev_dmk, evEach, evIt, evs, evF, ops, op1, op2, opA, tst, tsts, truD, Pv.load, look, S.at, S.put, mine, store, setO, appO, drO, mkO, sliceO, seqO, ofRo_ok, lcTurn, Out.calm, hideS, backS, ownFree, bind_ok, bind_bad, bind_exc, ow_ok, ow_bad, ow_exc, ofO, dsOf, lstD, tupD, binop, cmpop, deq, Pv.truthy, builtin, item, item.atI, slice, Pv.bound, Ex.gap, isTy, asInt, Option.map_some, Option.map_none, Option.bind_some, Option.bind_none, List.map_cons, List.map_nil, List.replicate, List.cons_append, List.nil_append, List.append_nil, List.getD_cons_zero, List.getD_cons_succ, List.getD_nil, List.set_cons_zero, List.set_cons_succ, List.set_nil, List.zip_cons_cons, List.zip_nil_left, List.zip_nil_right, List.foldl_cons, List.foldl_nil, List.length_cons, List.length_nil, List.any_cons, List.any_nil, List.all_cons, List.all_nil, if_true, if_false, ite_true, ite_false, Bool.false_eq_true, Bool.true_eq_false, Bool.or_false, Bool.or_true, Bool.and_true, Bool.and_false, Bool.true_and, Bool.false_and, Bool.not_true, Bool.not_false, decide_true, decide_false, Nat.reduceAdd, Nat.reduceSub, Nat.zero_add, reduceIte, reduceCtorEq, sz0, sz1, sz2, sz3, sz4, sz5, sz6, sz7, sz8, sz9, sz10, sz11, sz12, sz13, sz14, sz15, sz16, seqOf, ev_callv, ev_lcall, keep_d, capsOf, so, hB, c1, q1, q2]
  refine ow_nil ?_
  refine ow_cons ?_
  simp [evS, ev_v, ev_c, ev_g, ev_fn, ev_bin, ev_neg, ev_no, ev_cmp, ev_chain, ev_and, ev_or, ev_ite, ev_call, ev_kcall, ev_bi, ev_isi, ev_ix, ev_sl, ev_rev, ev_tup, ev_lst, ev_pop, ev_dk, ev_dle, ev_dpop, ev_dmk, evEach, evIt, evs, evF, ops, op1, op2, opA, tst, tsts, truD, Pv.load, look, S.at, S.put, mine, store, setO, appO, drO, mkO, sliceO, seqO, ofRo_ok, lcTurn, Out.calm, hideS, backS, ownFree, bind_ok, bind_bad, bind_exc, ow_ok, ow_bad, ow_exc, ofO, dsOf, lstD, tupD, binop, cmpop, deq, Pv.truthy, builtin, item, item.atI, slice, Pv.bound, Ex.gap, isTy, asInt, Option.map_some, Option.map_none, Option.bind_some, Option.bind_none, List.map_cons, List.map_nil, List.replicate, List.cons_append, List.nil_append, List.append_nil, List.getD_cons_zero, List.getD_cons_succ, List.getD_nil, List.set_cons_zero, List.set_cons_succ, List.set_nil, List.zip_cons_cons, List.zip_nil_left, List.zip_nil_right, List.foldl_cons, List.foldl_nil, List.length_cons, List.length_nil, List.any_cons, List.any_nil, List.all_cons, List.all_nil, if_true, if_false, ite_true, ite_false, Bool.false_eq_true, Bool.true_eq_false, Bool.or_false, Bool.or_true, Bool.and_true, Bool.and_false, Bool.true_and, Bool.false_and, Bool.not_true, Bool.not_false, decide_true, decide_false, Nat.reduceAdd, Nat.reduceSub, Nat.zero_add, reduceIte, reduceCtorEq, sz0, sz1, sz2, sz3, sz4, sz5, sz6, sz7, sz8, sz9, sz10, sz11, sz12, sz13, sz14, sz15, sz16, seqOf, ev_callv, ev_lcall, keep_d, capsOf, c2]
  refine ow_cons (ow_ifs ?_)
  by_cases hr0 : 0 < R
  · obtain ⟨N, hN, hNb⟩ := near hr0
    have so1 := so1 hr0
    have hN2 : (2 : Int) ^ (R.toNat - 1) / D = N := by rw [← hN]; congr 2; omega
    simp [evS, ev_v, ev_c, ev_g, ev_fn, ev_bin, ev_neg, ev_no, ev_cmp, ev_chain, ev_and, ev_or, ev_ite, ev_call, ev_kcall, ev_bi, ev_isi, ev_ix, ev_sl, ev_rev, ev_tup, ev_lst, ev_pop, ev_dk, ev_dle, ev_dpop, ev_dmk, evEach, evIt, evs, evF, ops, op1, op2, opA, tst, tsts, truD, Pv.load, look, S.at, S.put, mine, store, setO, appO, drO, mkO, sliceO, seqO, ofRo_ok, lcTurn, Out.calm, hideS, backS, ownFree, bind_ok, bind_bad, bind_exc, ow_ok, ow_bad, ow_exc, ofO, dsOf, lstD, tupD, binop, cmpop, deq, Pv.truthy, builtin, item, item.atI, slice, Pv.bound, Ex.gap, isTy, asInt, Option.map_some, Option.map_none, Option.bind_some, Option.bind_none, List.map_cons, List.map_nil, List.replicate, List.cons_append, List.nil_append, List.append_nil, List.getD_cons_zero, List.getD_cons_succ, List.getD_nil, List.set_cons_zero, List.set_cons_succ, List.set_nil, List.zip_cons_cons, List.zip_nil_left, List.zip_nil_right, List.foldl_cons, List.foldl_nil, List.length_cons, List.length_nil, List.any_cons, List.any_nil, List.all_cons, List.all_nil, if_true, if_false, ite_true, ite_false, Bool.false_eq_true, Bool.true_eq_false, Bool.or_false, Bool.or_true, Bool.and_true, Bool.and_false, Bool.true_and, Bool.false_and, Bool.not_true, Bool.not_false, decide_true, decide_false, Nat.reduceAdd, Nat.reduceSub, Nat.zero_add, reduceIte, reduceCtorEq, sz0, sz1, sz2, sz3, sz4, sz5, sz6, sz7, sz8, sz9, sz10, sz11, sz12, sz13, sz14, sz15, sz16, seqOf, ev_callv, ev_lcall, keep_d, capsOf, hr0]
    refine ow_cons ?_
    simp [evS, ev_v, ev_c, ev_g, ev_fn, ev_bin, ev_neg, ev_no, ev_cmp, ev_chain, ev_and, ev_or, ev_ite, ev_call, ev_kcall, ev_bi, ev_isi, ev_ix, ev_sl, ev_rev, ev_tup, ev_lst, ev_pop, ev_dk, ev_dle, ev_dpop, ev_dmk, evEach, evIt, evs, evF, ops, op1, op2, opA, tst, tsts, truD, Pv.load, look, S.at, S.put, mine, store, setO, appO, drO, mkO, sliceO, seqO, ofRo_ok, lcTurn, Out.calm, hideS, backS, ownFree, bind_ok, bind_bad, bind_exc, ow_ok, ow_bad, ow_exc, ofO, dsOf, lstD, tupD, binop, cmpop, deq, Pv.truthy, builtin, item, item.atI, slice, Pv.bound, Ex.gap, isTy, asInt, Option.map_some, Option.map_none, Option.bind_some, Option.bind_none, List.map_cons, List.map_nil, List.replicate, List.cons_append, List.nil_append, List.append_nil, List.getD_cons_zero, List.getD_cons_succ, List.getD_nil, List.set_cons_zero, List.set_cons_succ, List.set_nil, List.zip_cons_cons, List.zip_nil_left, List.zip_nil_right, List.foldl_cons, List.foldl_nil, List.length_cons, List.length_nil, List.any_cons, List.any_nil, List.all_cons, List.all_nil, if_true, if_false, ite_true, ite_false, Bool.false_eq_true, Bool.true_eq_false, Bool.or_false, Bool.or_true, Bool.and_true, Bool.and_false, Bool.true_and, Bool.false_and, Bool.not_true, Bool.not_false, decide_true, decide_false, Nat.reduceAdd, Nat.reduceSub, Nat.zero_add, reduceIte, reduceCtorEq, sz0, sz1, sz2, sz3, sz4, sz5, sz6, sz7, sz8, sz9, sz10, sz11, sz12, sz13, sz14, sz15, sz16, seqOf, ev_callv, ev_lcall, keep_d, capsOf, so1, dD, fdiv_pos D0, hN2]
    refine ow_cons ?_
    have e1 : ev G (run G T (k + 7)) (.lc (.tup [.bi .max [.c (.int 0), .bin .add (.v 6) (.v 9)], .bin .sub (.v 5) (.c (.int 1))]) (.nm 9) (.rng2 (.neg (.c (.int 1))) (.c (.int 3))) [] [9]) ⟨[.va .drw, .ow (.list [.tuple [.int (M - 1), .int R]]), iv W, iv D, iv M, iv R, iv N, .un, .un, .un], some st⟩ = .ok (.d (.list ([PyData.int (-1), .int 0, .int 1, .int 2].filterMap (gNear N R))), true) ⟨[.va .drw, .ow (.list [.tuple [.int (M - 1), .int R]]), iv W, iv D, iv M, iv R, iv N, .un, .un, .un], some st⟩ := by
      refine ow_out (ow_lc (gNear N R) ?_)
      have r1 : rngOk (-1) = true := by decide
      have r3 : rngOk 3 = true := by decide
      simp only [evS, ev_v, ev_c, ev_g, ev_fn, ev_bin, ev_neg, ev_no, ev_cmp, ev_chain, ev_and, ev_or, ev_ite, ev_call, ev_kcall, ev_bi, ev_isi, ev_ix, ev_sl, ev_rev, ev_tup, ev_lst, ev_pop, ev_dk, ev_dle, ev_dpop, ev_dmk, evEach, evIt, evs, evF, ops, op1, op2, opA, tst, tsts, truD, Pv.load, look, S.at, S.put, mine, store, setO, appO, drO, mkO, sliceO, seqO, ofRo_ok, lcTurn, Out.calm, hideS, backS, ownFree, bind_ok, bind_bad, bind_exc, ow_ok, ow_bad, ow_exc, ofO, dsOf, lstD, tupD, binop, cmpop, deq, Pv.truthy, builtin, item, item.atI, slice, Pv.bound, Ex.gap, isTy, asInt, Option.map_some, Option.map_none, Option.bind_some, Option.bind_none, List.map_cons, List.map_nil, List.replicate, List.cons_append, List.nil_append, List.append_nil, List.getD_cons_zero, List.getD_cons_succ, List.getD_nil, List.set_cons_zero, List.set_cons_succ, List.set_nil, List.zip_cons_cons, List.zip_nil_left, List.zip_nil_right, List.foldl_cons, List.foldl_nil, List.length_cons, List.length_nil, List.any_cons, List.any_nil, List.all_cons, List.all_nil, if_true, if_false, ite_true, ite_false, Bool.false_eq_true, Bool.true_eq_false, Bool.or_false, Bool.or_true, Bool.and_true, Bool.and_false, Bool.true_and, Bool.false_and, Bool.not_true, Bool.not_false, decide_true, decide_false, Nat.reduceAdd, Nat.reduceSub, Nat.zero_add, reduceIte, reduceCtorEq, sz0, sz1, sz2, sz3, sz4, sz5, sz6, sz7, sz8, sz9, sz10, sz11, sz12, sz13, sz14, sz15, sz16, seqOf, ev_callv, ev_lcall, keep_d, capsOf, iv, r1, r3, Int.reduceNeg, rng4]
      refine ⟨trivial, ?_, by decide, trivial, trivial⟩
      intro x hx
      obtain ⟨i, rfl⟩ : ∃ i : Int, x = .int i := by
        simp only [List.mem_cons, List.not_mem_nil, or_false] at hx
        rcases hx with rfl | rfl | rfl | rfl <;> exact ⟨_, rfl⟩
      simp [evS, ev_v, ev_c, ev_g, ev_fn, ev_bin, ev_neg, ev_no, ev_cmp, ev_chain, ev_and, ev_or, ev_ite, ev_call, ev_kcall, ev_bi, ev_isi, ev_ix, ev_sl, ev_rev, ev_tup, ev_lst, ev_pop, ev_dk, ev_dle, ev_dpop, ev_dmk, evEach, evIt, evs, evF, ops, op1, op2, opA, tst, tsts, truD, Pv.load, look, S.at, S.put, mine, store, setO, appO, drO, mkO, sliceO, seqO, ofRo_ok, lcTurn, Out.calm, hideS, backS, ownFree, bind_ok, bind_bad, bind_exc, ow_ok, ow_bad, ow_exc, ofO, dsOf, lstD, tupD, binop, cmpop, deq, Pv.truthy, builtin, item, item.atI, slice, Pv.bound, Ex.gap, isTy, asInt, Option.map_some, Option.map_none, Option.bind_some, Option.bind_none, List.map_cons, List.map_nil, List.replicate, List.cons_append, List.nil_append, List.append_nil, List.getD_cons_zero, List.getD_cons_succ, List.getD_nil, List.set_cons_zero, List.set_cons_succ, List.set_nil, List.zip_cons_cons, List.zip_nil_left, List.zip_nil_right, List.foldl_cons, List.foldl_nil, List.length_cons, List.length_nil, List.any_cons, List.any_nil, List.all_cons, List.all_nil, if_true, if_false, ite_true, ite_false, Bool.false_eq_true, Bool.true_eq_false, Bool.or_false, Bool.or_true, Bool.and_true, Bool.and_false, Bool.true_and, Bool.false_and, Bool.not_true, Bool.not_false, decide_true, decide_false, Nat.reduceAdd, Nat.reduceSub, Nat.zero_add, reduceIte, reduceCtorEq, sz0, sz1, sz2, sz3, sz4, sz5, sz6, sz7, sz8, sz9, sz10, sz11, sz12, sz13, sz14, sz15, sz16, seqOf, ev_callv, ev_lcall, keep_d, capsOf, gNear]
    simp only [evS, ev_v, ev_c, ev_g, ev_fn, ev_bin, ev_neg, ev_no, ev_cmp, ev_chain, ev_and, ev_or, ev_ite, ev_call, ev_kcall, ev_bi, ev_isi, ev_ix, ev_sl, ev_rev, ev_tup, ev_lst, ev_pop, ev_dk, ev_dle, ev_dpop, ev_dmk, evEach, evIt, evs, evF, ops, op1, op2, opA, tst, tsts, truD, Pv.load, look, S.at, S.put, mine, store, setO, appO, drO, mkO, sliceO, seqO, ofRo_ok, lcTurn, Out.calm, hideS, backS, ownFree, bind_ok, bind_bad, bind_exc, ow_ok, ow_bad, ow_exc, ofO, dsOf, lstD, tupD, binop, cmpop, deq, Pv.truthy, builtin, item, item.atI, slice, Pv.bound, Ex.gap, isTy, asInt, Option.map_some, Option.map_none, Option.bind_some, Option.bind_none, List.map_cons, List.map_nil, List.replicate, List.cons_append, List.nil_append, List.append_nil, List.getD_cons_zero, List.getD_cons_succ, List.getD_nil, List.set_cons_zero, List.set_cons_succ, List.set_nil, List.zip_cons_cons, List.zip_nil_left, List.zip_nil_right, List.foldl_cons, List.foldl_nil, List.length_cons, List.length_nil, List.any_cons, List.any_nil, List.all_cons, List.all_nil, if_true, if_false, ite_true, ite_false, Bool.false_eq_true, Bool.true_eq_false, Bool.or_false, Bool.or_true, Bool.and_true, Bool.and_false, Bool.true_and, Bool.false_and, Bool.not_true, Bool.not_false, decide_true, decide_false, Nat.reduceAdd, Nat.reduceSub, Nat.zero_add, reduceIte, reduceCtorEq, sz0, sz1, sz2, sz3, sz4, sz5, sz6, sz7, sz8, sz9, sz10, sz11, sz12, sz13, sz14, sz15, sz16, seqOf, ev_callv, ev_lcall, keep_d, capsOf, iv] at e1 ⊢
    simp only [e1]
    simp [evS, ev_v, ev_c, ev_g, ev_fn, ev_bin, ev_neg, ev_no, ev_cmp, ev_chain, ev_and, ev_or, ev_ite, ev_call, ev_kcall, ev_bi, ev_isi, ev_ix, ev_sl, ev_rev, ev_tup, ev_lst, ev_pop, ev_dk, ev_dle, ev_dpop, ev_dmk, evEach, evIt, evs, evF, ops, op1, op2, opA, tst, tsts, truD, Pv.load, look, S.at, S.put, mine, store, setO, appO, drO, mkO, sliceO, seqO, ofRo_ok, lcTurn, Out.calm, hideS, backS, ownFree, bind_ok, bind_bad, bind_exc, ow_ok, ow_bad, ow_exc, ofO, dsOf, lstD, tupD, binop, cmpop, deq, Pv.truthy, builtin, item, item.atI, slice, Pv.bound, Ex.gap, isTy, asInt, Option.map_some, Option.map_none, Option.bind_some, Option.bind_none, List.map_cons, List.map_nil, List.replicate, List.cons_append, List.nil_append, List.append_nil, List.getD_cons_zero, List.getD_cons_succ, List.getD_nil, List.set_cons_zero, List.set_cons_succ, List.set_nil, List.zip_cons_cons, List.zip_nil_left, List.zip_nil_right, List.foldl_cons, List.foldl_nil, List.length_cons, List.length_nil, List.any_cons, List.any_nil, List.all_cons, List.all_nil, if_true, if_false, ite_true, ite_false, Bool.false_eq_true, Bool.true_eq_false, Bool.or_false, Bool.or_true, Bool.and_true, Bool.and_false, Bool.true_and, Bool.false_and, Bool.not_true, Bool.not_false, decide_true, decide_false, Nat.reduceAdd, Nat.reduceSub, Nat.zero_add, reduceIte, reduceCtorEq, sz0, sz1, sz2, sz3, sz4, sz5, sz6, sz7, sz8, sz9, sz10, sz11, sz12, sz13, sz14, sz15, sz16, seqOf, ev_callv, ev_lcall, keep_d, capsOf, gNear]
    refine ow_nil ?_
    refine walk _ _ ?_
    intro x hx
    simp only [List.mem_cons, List.not_mem_nil, or_false] at hx
    rcases hx with rfl | rfl | rfl | rfl | rfl
    · exact nb0
    · exact hNb (-1) (by decide) (by decide)
    · have := hNb 0 (by decide) (by decide)
      rw [Int.add_zero] at this
      exact this
    · exact hNb 1 (by decide) (by decide)
    · exact hNb 2 (by decide) (by decide)
  · simp [evS, ev_v, ev_c, ev_g, ev_fn, ev_bin, ev_neg, ev_no, ev_cmp, ev_chain, ev_and, ev_or, ev_ite, ev_call, ev_kcall, ev_bi, ev_isi, ev_ix, ev_sl, ev_rev, ev_tup, ev_lst, ev_pop, ev_dk, ev_dle, ev_dpop, ev_dmk, evEach, evIt, evs, evF, ops, op1, op2, opA, tst, tsts, truD, Pv.load, look, S.at, S.put, mine, store, setO, appO, drO, mkO, sliceO, seqO, ofRo_ok, lcTurn, Out.calm, hideS, backS, ownFree, bind_ok, bind_bad, bind_exc, ow_ok, ow_bad, ow_exc, ofO, dsOf, lstD, tupD, binop, cmpop, deq, Pv.truthy, builtin, item, item.atI, slice, Pv.bound, Ex.gap, isTy, asInt, Option.map_some, Option.map_none, Option.bind_some, Option.bind_none, List.map_cons, List.map_nil, List.replicate, List.cons_append, List.nil_append, List.append_nil, List.getD_cons_zero, List.getD_cons_succ, List.getD_nil, List.set_cons_zero, List.set_cons_succ, List.set_nil, List.zip_cons_cons, List.zip_nil_left, List.zip_nil_right, List.foldl_cons, List.foldl_nil, List.length_cons, List.length_nil, List.any_cons, List.any_nil, List.all_cons, List.all_nil, if_true, if_false, ite_true, ite_false, Bool.false_eq_true, Bool.true_eq_false, Bool.or_false, Bool.or_true, Bool.and_true, Bool.and_false, Bool.true_and, Bool.false_and, Bool.not_true, Bool.not_false, decide_true, decide_false, Nat.reduceAdd, Nat.reduceSub, Nat.zero_add, reduceIte, reduceCtorEq, sz0, sz1, sz2, sz3, sz4, sz5, sz6, sz7, sz8, sz9, sz10, sz11, sz12, sz13, sz14, sz15, sz16, seqOf, ev_callv, ev_lcall, keep_d, capsOf, hr0]
    refine ow_nil ?_
    refine walk _ _ ?_
    intro x hx
    simp only [List.mem_cons, List.not_mem_nil, or_false] at hx
    rw [hx]
    exact nb0
end
end K85
set_option maxHeartbeats 200000
set_option maxHeartbeats 400000
namespace K85
open PySem Pv
def Ql (f : Fl) (s : S) : Prop := match f with
  | .nx => False
  | .rt a fr => a = .d (.bool true) ∧ fr = false
inductive IQ (A : PyData) (l : List PyData) (s : S) : Prop
  | mk (st : Dr) (x2 x3 x4 x5 x6 x7 x8 x9 x10 x11 : Pv.Slot) (e : s = ⟨[.va (.d A), .va .drw, x2, x3, x4, x5, x6, x7, x8, x9, x10, x11, .un], some st⟩)
inductive IW (A : PyData) (D M R U : Int) (z : PyData) (x2 x4 x5 : Pv.Slot) (dr : Option Dr) (l : List PyData) (s : S) : Prop
  | mk (x6 x11 : Pv.Slot) (hl : ∀ x ∈ l, ∃ W : Int, x = .int W ∧ 1 ≤ W ∧ W ≤ 400) (e : s = ⟨[.va (.d A), .va .drw, x2, iv M, x4, x5, x6, iv D, iv R, .va (.d z), iv U, x11, .un], dr⟩)
structure P3 (d m r : Nat) (D M R : Int) : Prop where
  hD : D = (d : Int)
  hM : M = (m : Int)
  hR : R = (r : Int)
  d0 : 0 < d
  d1 : d ≤ 2 ^ 400
  m1 : m ≤ 2 ^ 900
  r1 : r ≤ 900
theorem sh_int (i : Int) : SeqAt.shaped (.int i) = true := rfl
section
variable (k : Nat) {d m r : Nat} {D M R : Int}
theorem widths (g : P3 d m r D M R) (A : PyData) (x2 x4 x5 x6 x9 x10 x11 : Pv.Slot) (st : Dr) :
    Ow (evB G (run G T (k + 9)) t31_8 ⟨[.va (.d A), .va .drw, x2, iv M, x4, x5, x6, iv D, iv R, x9, x10, x11, .un], some st⟩) fun f s => f = .nx ∧ IQ A [] s := by
  obtain ⟨U, hU⟩ : ∃ U : Int, U = (Dv.unlikeB d m (2 ^ r) : Int) := ⟨_, rfl⟩
  have qa := run_fu (k + 3) (some st) d m r D M R g.hD g.hM g.hR g.d0 g.d1 g.m1 g.r1
  have qb := run_fub (k + 3) (some st) d m r D M R U g.hD g.hM g.hR hU g.d0 g.d1 g.m1 g.r1
  have hUle := Dv.unlikeB_le (m := m) (p := 2 ^ r) g.d0
  have hUpos := (Dv.unlikeB_first (m := m) (p := 2 ^ r) g.d0).pos
  have hrp : 2 ^ r ≤ 2 ^ 900 := pow_le_pow g.r1
  have b1 : 2 ^ 902 < 2 ^ 5000 := Nat.pow_lt_pow_right (by decide) (by decide)
  have b2 : 2 ^ 902 = 2 ^ 900 * 4 := by rw [show (902 : Nat) = 900 + 2 from rfl, Nat.pow_add]
  have b3 : 2 ^ 400 ≤ 2 ^ 900 := pow_le_pow (by decide)
  have b4 : 1 ≤ 2 ^ 900 := Nat.pow_pos (by decide)
  have d1 := g.d1
  obtain ⟨L, qL, hL, hL6⟩ := run_bitlen (k + 8) (some st) _ U hU (by omega)
  have hL1 : 1 ≤ L := by
    rcases Nat.eq_zero_or_pos L with z | z
    · subst z; omega
    · exact z
  obtain ⟨LL, hLL⟩ : ∃ LL : Int, LL = (L : Int) := ⟨_, rfl⟩
  rw [← hLL] at qL
  have due : ∀ (v : Nat) (W : Int), W - 1 = (v : Int) → W ≤ 400 → ∃ b : Bool, (∀ x11 : Pv.Slot, ev G (run G T (k + 9)) (.and (.or (.cmp .is (.v 9) (.c .none)) (.cmp .ge (.v 9) (.bin .shl (.c (.int 1)) (.bin .sub (.v 6) (.c (.int 1)))))) (.cmp .gt (.v 10) (.bin .shl (.c (.int 1)) (.bin .sub (.v 6) (.c (.int 1)))))) ⟨[.va (.d A), .va .drw, x2, iv M, x4, x5, iv W, iv D, iv R, .va (.d (optD (Dv.unlike d m (2 ^ r)))), iv U, x11, .un], some st⟩ = .ok (.d (.bool b), false) ⟨[.va (.d A), .va .drw, x2, iv M, x4, x5, iv W, iv D, iv R, .va (.d (optD (Dv.unlike d m (2 ^ r)))), iv U, x11, .un], some st⟩) ∧
      run G T (k + 9) 13 [.d (.int W), .d (.int D), .d (.int M), .d (.int R)] (some st) = .ok (.d (.bool b)) false (some st) := fun v W hW w4 => by
    refine ⟨Dv.doesS (2 ^ v) d m (2 ^ r), fun x11 => ?_, run_issm (k + 3) (some st) v d m r W D M R hW g.hD g.hM g.hR (by omega) g.d0 g.d1 g.m1 g.r1⟩
    obtain ⟨Q, hQ⟩ : ∃ Q : Int, (2 : Int) ^ (W - 1).toNat = Q := ⟨_, rfl⟩
    have hQn : Q = ((2 ^ v : Nat) : Int) := by rw [← hQ, hW, Int.toNat_natCast, Int.natCast_pow]; rfl
    have hQ2 : (2 : Int) ^ (W.toNat - 1) = Q := by rw [← hQ]; congr 1; omega
    have so : shlOk 1 (W - 1) = true := shlOk_one (by omega) (by omega)
    unfold Dv.doesS Dv.does
    have hz2 : decide (2 ^ v < Dv.unlikeB d m (2 ^ r)) = decide (Q < U) := by
      have : (2 ^ v < Dv.unlikeB d m (2 ^ r)) = (Q < U) := propext (by omega)
      simp only [this]
    rw [hz2]
    cases e : Dv.unlike d m (2 ^ r) with
    | none =>
      clear hQn hU
      simp [evS, ev_v, ev_c, ev_g, ev_fn, ev_bin, ev_neg, ev_no, ev_cmp, ev_chain, ev_and, ev_or, ev_ite, ev_call, ev_kcall, ev_bi, ev_isi, ev_ix, ev_sl, ev_rev, ev_tup, ev_lst, ev_pop, ev_dk, ev_dle, ev_dpop, ev_dmk, evEach, evIt, evs, evF, ops, op1, op2, opA, tst, tsts, truD, Pv.load, look, S.at, S.put, mine, store, setO, appO, drO, mkO, sliceO, seqO, ofRo_ok, lcTurn, Out.calm, hideS, backS, ownFree, bind_ok, bind_bad, bind_exc, ow_ok, ow_bad, ow_exc, ofO, dsOf, lstD, tupD, binop, cmpop, deq, Pv.truthy, builtin, item, item.atI, slice, Pv.bound, Ex.gap, isTy, asInt, Option.map_some, Option.map_none, Option.bind_some, Option.bind_none, List.map_cons, List.map_nil, List.replicate, List.cons_append, List.nil_append, List.append_nil, List.getD_cons_zero, List.getD_cons_succ, List.getD_nil, List.set_cons_zero, List.set_cons_succ, List.set_nil, List.zip_cons_cons, List.zip_nil_left, List.zip_nil_right, List.foldl_cons, List.foldl_nil, List.length_cons, List.length_nil, List.any_cons, List.any_nil, List.all_cons, List.all_nil, if_true, if_false, ite_true, ite_false, Bool.false_eq_true, Bool.true_eq_false, Bool.or_false, Bool.or_true, Bool.and_true, Bool.and_false, Bool.true_and, Bool.false_and, Bool.not_true, Bool.not_false, decide_true, decide_false, Nat.reduceAdd, Nat.reduceSub, Nat.zero_add, reduceIte, reduceCtorEq, sz0, sz1, sz2, sz3, sz4, sz5, sz6, sz7, sz8, sz9, sz10, sz11, sz12, sz13, sz14, sz15, sz16, seqOf, ev_callv, ev_lcall, keep_d, capsOf, iv, optD, so, hQ2]
    | some u =>
      obtain ⟨V, hV⟩ : ∃ V : Int, V = (u : Int) := ⟨_, rfl⟩
      have hz : decide (2 ^ v ≤ u) = decide (Q ≤ V) := by
        have : (2 ^ v ≤ u) = (Q ≤ V) := propext (by omega)
        simp only [this]
      have e0 : optD (some u) = .int V := by rw [hV]; rfl
      rw [e0]
      simp only [hz]
      clear hz hQn hU hV e0
      by_cases c : Q ≤ V <;> simp [evS, ev_v, ev_c, ev_g, ev_fn, ev_bin, ev_neg, ev_no, ev_cmp, ev_chain, ev_and, ev_or, ev_ite, ev_call, ev_kcall, ev_bi, ev_isi, ev_ix, ev_sl, ev_rev, ev_tup, ev_lst, ev_pop, ev_dk, ev_dle, ev_dpop, ev_dmk, evEach, evIt, evs, evF, ops, op1, op2, opA, tst, tsts, truD, Pv.load, look, S.at, S.put, mine, store, setO, appO, drO, mkO, sliceO, seqO, ofRo_ok, lcTurn, Out.calm, hideS, backS, ownFree, bind_ok, bind_bad, bind_exc, ow_ok, ow_bad, ow_exc, ofO, dsOf, lstD, tupD, binop, cmpop, deq, Pv.truthy, builtin, item, item.atI, slice, Pv.bound, Ex.gap, isTy, asInt, Option.map_some, Option.map_none, Option.bind_some, Option.bind_none, List.map_cons, List.map_nil, List.replicate, List.cons_append, List.nil_append, List.append_nil, List.getD_cons_zero, List.getD_cons_succ, List.getD_nil, List.set_cons_zero, List.set_cons_succ, List.set_nil, List.zip_cons_cons, List.zip_nil_left, List.zip_nil_right, List.foldl_cons, List.foldl_nil, List.length_cons, List.length_nil, List.any_cons, List.any_nil, List.all_cons, List.all_nil, if_true, if_false, ite_true, ite_false, Bool.false_eq_true, Bool.true_eq_false, Bool.or_false, Bool.or_true, Bool.and_true, Bool.and_false, Bool.true_and, Bool.false_and, Bool.not_true, Bool.not_false, decide_true, decide_false, Nat.reduceAdd, Nat.reduceSub, Nat.zero_add, reduceIte, reduceCtorEq, sz0, sz1, sz2, sz3, sz4, sz5, sz6, sz7, sz8, sz9, sz10, sz11, sz12, sz13, sz14, sz15, sz16, seqOf, ev_callv, ev_lcall, keep_d, capsOf, iv, so, hQ2, c]
  generalize optD (Dv.unlike d m (2 ^ r)) = z at qa due
  clear hU
  refine ow_cons ?_
  simp [evS, ev_v, ev_c, ev_g, ev_fn, ev_bin, ev_neg, ev_no, ev_cmp, ev_chain, ev_and, ev_or, ev_ite, ev_call, ev_kcall, ev_bi, ev_isi, ev_ix, ev_sl, ev_rev, ev_tup, ev_lst, ev_pop, ev_dk, ev_dle, ev_dpop, ev_dmk, evEach, evIt, evs, evF, ops, op1, op2, opA, tst, tsts, truD, Pv.load, look, S.at, S.put, mine, store, setO, appO, drO, mkO, sliceO, seqO, ofRo_ok, lcTurn, Out.calm, hideS, backS, ownFree, bind_ok, bind_bad, bind_exc, ow_ok, ow_bad, ow_exc, ofO, dsOf, lstD, tupD, binop, cmpop, deq, Pv.truthy, builtin, item, item.atI, slice, Pv.bound, Ex.gap, isTy, asInt, Option.map_some, Option.map_none, Option.bind_some, Option.bind_none, List.map_cons, List.map_nil, List.replicate, List.cons_append, List.nil_append, List.append_nil, List.getD_cons_zero, List.getD_cons_succ, List.getD_nil, List.set_cons_zero, List.set_cons_succ, List.set_nil, List.zip_cons_cons, List.zip_nil_left, List.zip_nil_right, List.foldl_cons, List.foldl_nil, List.length_cons, List.length_nil, List.any_cons, List.any_nil, List.all_cons, List.all_nil, if_true, if_false, ite_true, ite_false, Bool.false_eq_true, Bool.true_eq_false, Bool.or_false, Bool.or_true, Bool.and_true, Bool.and_false, Bool.true_and, Bool.false_and, Bool.not_true, Bool.not_false, decide_true, decide_false, Nat.reduceAdd, Nat.reduceSub, Nat.zero_add, reduceIte, reduceCtorEq, sz0, sz1, sz2, sz3, sz4, sz5, sz6, sz7, sz8, sz9, sz10, sz11, sz12, sz13, sz14, sz15, sz16, seqOf, ev_callv, ev_lcall, keep_d, capsOf, iv, qa, qb]
  refine ow_cons ?_
  refine ow_each (IW A D M R U z x2 x4 x5 (some st)) ?_ ?_ ?_
  · simp [evS, ev_v, ev_c, ev_g, ev_fn, ev_bin, ev_neg, ev_no, ev_cmp, ev_chain, ev_and, ev_or, ev_ite, ev_call, ev_kcall, ev_bi, ev_isi, ev_ix, ev_sl, ev_rev, ev_tup, ev_lst, ev_pop, ev_dk, ev_dle, ev_dpop, ev_dmk, evEach, evIt, evs, evF, ops, op1, op2, opA, tst, tsts, truD, Pv.load, look, S.at, S.put, mine, store, setO, appO, drO, mkO, sliceO, seqO, ofRo_ok, lcTurn, Out.calm, hideS, backS, ownFree, bind_ok, bind_bad, bind_exc, ow_ok, ow_bad, ow_exc, ofO, dsOf, lstD, tupD, binop, cmpop, deq, Pv.truthy, builtin, item, item.atI, slice, Pv.bound, Ex.gap, isTy, asInt, Option.map_some, Option.map_none, Option.bind_some, Option.bind_none, List.map_cons, List.map_nil, List.replicate, List.cons_append, List.nil_append, List.append_nil, List.getD_cons_zero, List.getD_cons_succ, List.getD_nil, List.set_cons_zero, List.set_cons_succ, List.set_nil, List.zip_cons_cons, List.zip_nil_left, List.zip_nil_right, List.foldl_cons, List.foldl_nil, List.length_cons, List.length_nil, List.any_cons, List.any_nil, List.all_cons, List.all_nil, if_true, if_false, ite_true, ite_false, Bool.false_eq_true, Bool.true_eq_false, Bool.or_false, Bool.or_true, Bool.and_true, Bool.and_false, Bool.true_and, Bool.false_and, Bool.not_true, Bool.not_false, decide_true, decide_false, Nat.reduceAdd, Nat.reduceSub, Nat.zero_add, reduceIte, reduceCtorEq, sz0, sz1, sz2, sz3, sz4, sz5, sz6, sz7, sz8, sz9, sz10, sz11, sz12, sz13, sz14, sz15, sz16, seqOf, ev_callv, ev_lcall, keep_d, capsOf, qL]
    refine .mk _ _ ?_ rfl
    intro x hx
    simp only [List.mem_cons, List.not_mem_nil, or_false] at hx
    rcases hx with rfl | rfl | rfl | rfl
    · exact ⟨_, rfl, by decide, by decide⟩
    · exact ⟨_, rfl, by decide, by decide⟩
    · exact ⟨_, rfl, by split <;> omega, by split <;> omega⟩
    · exact ⟨_, rfl, by split <;> omega, by split <;> omega⟩
  · rintro x rr s ⟨x6, x11, hl, rfl⟩
    obtain ⟨W, rfl, w0, w1⟩ := hl x List.mem_cons_self
    obtain ⟨b, e1, e2⟩ := due (W - 1).toNat W (by omega) w1
    have sb := run_says (k + 8) (some st) _ (repB b)
    have nx : ∀ x11, IW A D M R U z x2 x4 x5 (some st) rr ⟨[.va (.d A), .va .drw, x2, iv M, x4, x5, iv W, iv D, iv R, .va (.d z), iv U, x11, .un], some st⟩ := fun x11 => .mk _ _ (fun y hy => hl y (List.mem_cons_of_mem _ hy)) rfl
    have e1 := e1 x11
    simp only [iv] at e1 ⊢
    simp only [evS, ev_v, ev_c, ev_g, ev_fn, ev_bin, ev_neg, ev_no, ev_cmp, ev_chain, ev_and, ev_or, ev_ite, ev_call, ev_kcall, ev_bi, ev_isi, ev_ix, ev_sl, ev_rev, ev_tup, ev_lst, ev_pop, ev_dk, ev_dle, ev_dpop, ev_dmk, evEach, evIt, evs, evF, ops, op1, op2, opA, tst, tsts, truD, Pv.load, look, S.at, S.put, mine, store, setO, appO, drO, mkO, sliceO, seqO, ofRo_ok, lcTurn, Out.calm, hideS, backS, ownFree, bind_ok, bind_bad, bind_exc, ow_ok, ow_bad, ow_exc, ofO, dsOf, lstD, tupD, binop, cmpop, deq, Pv.truthy, builtin, item, item.atI, slice, Pv.bound, Ex.gap, isTy, asInt, Option.map_some, Option.map_none, Option.bind_some, Option.bind_none, List.map_cons, List.map_nil, List.replicate, List.cons_append, List.nil_append, List.append_nil, List.getD_cons_zero, List.getD_cons_succ, List.getD_nil, List.set_cons_zero, List.set_cons_succ, List.set_nil, List.zip_cons_cons, List.zip_nil_left, List.zip_nil_right, List.foldl_cons, List.foldl_nil, List.length_cons, List.length_nil, List.any_cons, List.any_nil, List.all_cons, List.all_nil, if_true, if_false, ite_true, ite_false, Bool.false_eq_true, Bool.true_eq_false, Bool.or_false, Bool.or_true, Bool.and_true, Bool.and_false, Bool.true_and, Bool.false_and, Bool.not_true, Bool.not_false, decide_true, decide_false, Nat.reduceAdd, Nat.reduceSub, Nat.zero_add, reduceIte, reduceCtorEq, sz0, sz1, sz2, sz3, sz4, sz5, sz6, sz7, sz8, sz9, sz10, sz11, sz12, sz13, sz14, sz15, sz16, seqOf, ev_callv, ev_lcall, keep_d, capsOf] at ⊢
    refine ow_cons ?_
    show Ow ((ev G (run G T (k + 9)) (.and _ _) _).bind _) _
    rw [e1]
    simp only [evS, ev_v, ev_c, ev_g, ev_fn, ev_bin, ev_neg, ev_no, ev_cmp, ev_chain, ev_and, ev_or, ev_ite, ev_call, ev_kcall, ev_bi, ev_isi, ev_ix, ev_sl, ev_rev, ev_tup, ev_lst, ev_pop, ev_dk, ev_dle, ev_dpop, ev_dmk, evEach, evIt, evs, evF, ops, op1, op2, opA, tst, tsts, truD, Pv.load, look, S.at, S.put, mine, store, setO, appO, drO, mkO, sliceO, seqO, ofRo_ok, lcTurn, Out.calm, hideS, backS, ownFree, bind_ok, bind_bad, bind_exc, ow_ok, ow_bad, ow_exc, ofO, dsOf, lstD, tupD, binop, cmpop, deq, Pv.truthy, builtin, item, item.atI, slice, Pv.bound, Ex.gap, isTy, asInt, Option.map_some, Option.map_none, Option.bind_some, Option.bind_none, List.map_cons, List.map_nil, List.replicate, List.cons_append, List.nil_append, List.append_nil, List.getD_cons_zero, List.getD_cons_succ, List.getD_nil, List.set_cons_zero, List.set_cons_succ, List.set_nil, List.zip_cons_cons, List.zip_nil_left, List.zip_nil_right, List.foldl_cons, List.foldl_nil, List.length_cons, List.length_nil, List.any_cons, List.any_nil, List.all_cons, List.all_nil, if_true, if_false, ite_true, ite_false, Bool.false_eq_true, Bool.true_eq_false, Bool.or_false, Bool.or_true, Bool.and_true, Bool.and_false, Bool.true_and, Bool.false_and, Bool.not_true, Bool.not_false, decide_true, decide_false, Nat.reduceAdd, Nat.reduceSub, Nat.zero_add, reduceIte, reduceCtorEq, sz0, sz1, sz2, sz3, sz4, sz5, sz6, sz7, sz8, sz9, sz10, sz11, sz12, sz13, sz14, sz15, sz16, seqOf, ev_callv, ev_lcall, keep_d, capsOf]
    refine ow_cons (ow_ifs ?_)
    simp [evS, ev_v, ev_c, ev_g, ev_fn, ev_bin, ev_neg, ev_no, ev_cmp, ev_chain, ev_and, ev_or, ev_ite, ev_call, ev_kcall, ev_bi, ev_isi, ev_ix, ev_sl, ev_rev, ev_tup, ev_lst, ev_pop, ev_dk, ev_dle, ev_dpop, ev_dmk, evEach, evIt, evs, evF, ops, op1, op2, opA, tst, tsts, truD, Pv.load, look, S.at, S.put, mine, store, setO, appO, drO, mkO, sliceO, seqO, ofRo_ok, lcTurn, Out.calm, hideS, backS, ownFree, bind_ok, bind_bad, bind_exc, ow_ok, ow_bad, ow_exc, ofO, dsOf, lstD, tupD, binop, cmpop, deq, Pv.truthy, builtin, item, item.atI, slice, Pv.bound, Ex.gap, isTy, asInt, Option.map_some, Option.map_none, Option.bind_some, Option.bind_none, List.map_cons, List.map_nil, List.replicate, List.cons_append, List.nil_append, List.append_nil, List.getD_cons_zero, List.getD_cons_succ, List.getD_nil, List.set_cons_zero, List.set_cons_succ, List.set_nil, List.zip_cons_cons, List.zip_nil_left, List.zip_nil_right, List.foldl_cons, List.foldl_nil, List.length_cons, List.length_nil, List.any_cons, List.any_nil, List.all_cons, List.all_nil, if_true, if_false, ite_true, ite_false, Bool.false_eq_true, Bool.true_eq_false, Bool.or_false, Bool.or_true, Bool.and_true, Bool.and_false, Bool.true_and, Bool.false_and, Bool.not_true, Bool.not_false, decide_true, decide_false, Nat.reduceAdd, Nat.reduceSub, Nat.zero_add, reduceIte, reduceCtorEq, sz0, sz1, sz2, sz3, sz4, sz5, sz6, sz7, sz8, sz9, sz10, sz11, sz12, sz13, sz14, sz15, sz16, seqOf, ev_callv, ev_lcall, keep_d, capsOf, iv, e2, sb]
    exact ow_nil (ow_nil (nx _))
  · rintro s ⟨x6, x11, hl, rfl⟩
    refine ow_cons (ow_ifs ?_)
    simp [evS, ev_v, ev_c, ev_g, ev_fn, ev_bin, ev_neg, ev_no, ev_cmp, ev_chain, ev_and, ev_or, ev_ite, ev_call, ev_kcall, ev_bi, ev_isi, ev_ix, ev_sl, ev_rev, ev_tup, ev_lst, ev_pop, ev_dk, ev_dle, ev_dpop, ev_dmk, evEach, evIt, evs, evF, ops, op1, op2, opA, tst, tsts, truD, Pv.load, look, S.at, S.put, mine, store, setO, appO, drO, mkO, sliceO, seqO, ofRo_ok, lcTurn, Out.calm, hideS, backS, ownFree, bind_ok, bind_bad, bind_exc, ow_ok, ow_bad, ow_exc, ofO, dsOf, lstD, tupD, binop, cmpop, deq, Pv.truthy, builtin, item, item.atI, slice, Pv.bound, Ex.gap, isTy, asInt, Option.map_some, Option.map_none, Option.bind_some, Option.bind_none, List.map_cons, List.map_nil, List.replicate, List.cons_append, List.nil_append, List.append_nil, List.getD_cons_zero, List.getD_cons_succ, List.getD_nil, List.set_cons_zero, List.set_cons_succ, List.set_nil, List.zip_cons_cons, List.zip_nil_left, List.zip_nil_right, List.foldl_cons, List.foldl_nil, List.length_cons, List.length_nil, List.any_cons, List.any_nil, List.all_cons, List.all_nil, if_true, if_false, ite_true, ite_false, Bool.false_eq_true, Bool.true_eq_false, Bool.or_false, Bool.or_true, Bool.and_true, Bool.and_false, Bool.true_and, Bool.false_and, Bool.not_true, Bool.not_false, decide_true, decide_false, Nat.reduceAdd, Nat.reduceSub, Nat.zero_add, reduceIte, reduceCtorEq, sz0, sz1, sz2, sz3, sz4, sz5, sz6, sz7, sz8, sz9, sz10, sz11, sz12, sz13, sz14, sz15, sz16, seqOf, ev_callv, ev_lcall, keep_d, capsOf, ow_bind]
    refine ow_call0 (run_smallright (k + 1) st) ?_
    rintro a fr dr ⟨rfl, rfl, hd⟩
    obtain ⟨st, rfl⟩ := Option.isSome_iff_exists.mp hd
    simp [evS, ev_v, ev_c, ev_g, ev_fn, ev_bin, ev_neg, ev_no, ev_cmp, ev_chain, ev_and, ev_or, ev_ite, ev_call, ev_kcall, ev_bi, ev_isi, ev_ix, ev_sl, ev_rev, ev_tup, ev_lst, ev_pop, ev_dk, ev_dle, ev_dpop, ev_dmk, evEach, evIt, evs, evF, ops, op1, op2, opA, tst, tsts, truD, Pv.load, look, S.at, S.put, mine, store, setO, appO, drO, mkO, sliceO, seqO, ofRo_ok, lcTurn, Out.calm, hideS, backS, ownFree, bind_ok, bind_bad, bind_exc, ow_ok, ow_bad, ow_exc, ofO, dsOf, lstD, tupD, binop, cmpop, deq, Pv.truthy, builtin, item, item.atI, slice, Pv.bound, Ex.gap, isTy, asInt, Option.map_some, Option.map_none, Option.bind_some, Option.bind_none, List.map_cons, List.map_nil, List.replicate, List.cons_append, List.nil_append, List.append_nil, List.getD_cons_zero, List.getD_cons_succ, List.getD_nil, List.set_cons_zero, List.set_cons_succ, List.set_nil, List.zip_cons_cons, List.zip_nil_left, List.zip_nil_right, List.foldl_cons, List.foldl_nil, List.length_cons, List.length_nil, List.any_cons, List.any_nil, List.all_cons, List.all_nil, if_true, if_false, ite_true, ite_false, Bool.false_eq_true, Bool.true_eq_false, Bool.or_false, Bool.or_true, Bool.and_true, Bool.and_false, Bool.true_and, Bool.false_and, Bool.not_true, Bool.not_false, decide_true, decide_false, Nat.reduceAdd, Nat.reduceSub, Nat.zero_add, reduceIte, reduceCtorEq, sz0, sz1, sz2, sz3, sz4, sz5, sz6, sz7, sz8, sz9, sz10, sz11, sz12, sz13, sz14, sz15, sz16, seqOf, ev_callv, ev_lcall, keep_d, capsOf, ow_bind]
    refine ow_call0 (run_greatright (k + 1) st) ?_
    rintro a fr dr ⟨rfl, rfl, hd⟩
    obtain ⟨st, rfl⟩ := Option.isSome_iff_exists.mp hd
    simp [evS, ev_v, ev_c, ev_g, ev_fn, ev_bin, ev_neg, ev_no, ev_cmp, ev_chain, ev_and, ev_or, ev_ite, ev_call, ev_kcall, ev_bi, ev_isi, ev_ix, ev_sl, ev_rev, ev_tup, ev_lst, ev_pop, ev_dk, ev_dle, ev_dpop, ev_dmk, evEach, evIt, evs, evF, ops, op1, op2, opA, tst, tsts, truD, Pv.load, look, S.at, S.put, mine, store, setO, appO, drO, mkO, sliceO, seqO, ofRo_ok, lcTurn, Out.calm, hideS, backS, ownFree, bind_ok, bind_bad, bind_exc, ow_ok, ow_bad, ow_exc, ofO, dsOf, lstD, tupD, binop, cmpop, deq, Pv.truthy, builtin, item, item.atI, slice, Pv.bound, Ex.gap, isTy, asInt, Option.map_some, Option.map_none, Option.bind_some, Option.bind_none, List.map_cons, List.map_nil, List.replicate, List.cons_append, List.nil_append, List.append_nil, List.getD_cons_zero, List.getD_cons_succ, List.getD_nil, List.set_cons_zero, List.set_cons_succ, List.set_nil, List.zip_cons_cons, List.zip_nil_left, List.zip_nil_right, List.foldl_cons, List.foldl_nil, List.length_cons, List.length_nil, List.any_cons, List.any_nil, List.all_cons, List.all_nil, if_true, if_false, ite_true, ite_false, Bool.false_eq_true, Bool.true_eq_false, Bool.or_false, Bool.or_true, Bool.and_true, Bool.and_false, Bool.true_and, Bool.false_and, Bool.not_true, Bool.not_false, decide_true, decide_false, Nat.reduceAdd, Nat.reduceSub, Nat.zero_add, reduceIte, reduceCtorEq, sz0, sz1, sz2, sz3, sz4, sz5, sz6, sz7, sz8, sz9, sz10, sz11, sz12, sz13, sz14, sz15, sz16, seqOf, ev_callv, ev_lcall, keep_d, capsOf]
    refine ow_nil (ow_nil ⟨rfl, .mk st _ _ _ _ _ _ _ _ _ _ rfl⟩)
theorem great (A : PyData) (x2 x3 x4 x5 x6 x7 x8 x9 x10 x11 : Pv.Slot) (st : Dr) :
    Ow (evB G (run G T (k + 9)) t31_11 ⟨[.va (.d A), .va .drw, x2, x3, x4, x5, x6, x7, x8, x9, x10, x11, .un], some st⟩) fun f s => f = .nx ∧ IQ A [] s := by
  refine ow_cons ?_
  simp [evS, ev_v, ev_c, ev_g, ev_fn, ev_bin, ev_neg, ev_no, ev_cmp, ev_chain, ev_and, ev_or, ev_ite, ev_call, ev_kcall, ev_bi, ev_isi, ev_ix, ev_sl, ev_rev, ev_tup, ev_lst, ev_pop, ev_dk, ev_dle, ev_dpop, ev_dmk, evEach, evIt, evs, evF, ops, op1, op2, opA, tst, tsts, truD, Pv.load, look, S.at, S.put, mine, store, setO, appO, drO, mkO, sliceO, seqO, ofRo_ok, lcTurn, Out.calm, hideS, backS, ownFree, bind_ok, bind_bad, bind_exc, ow_ok, ow_bad, ow_exc, ofO, dsOf, lstD, tupD, binop, cmpop, deq, Pv.truthy, builtin, item, item.atI, slice, Pv.bound, Ex.gap, isTy, asInt, Option.map_some, Option.map_none, Option.bind_some, Option.bind_none, List.map_cons, List.map_nil, List.replicate, List.cons_append, List.nil_append, List.append_nil, List.getD_cons_zero, List.getD_cons_succ, List.getD_nil, List.set_cons_zero, List.set_cons_succ, List.set_nil, List.zip_cons_cons, List.zip_nil_left, List.zip_nil_right, List.foldl_cons, List.foldl_nil, List.length_cons, List.length_nil, List.any_cons, List.any_nil, List.all_cons, List.all_nil, if_true, if_false, ite_true, ite_false, Bool.false_eq_true, Bool.true_eq_false, Bool.or_false, Bool.or_true, Bool.and_true, Bool.and_false, Bool.true_and, Bool.false_and, Bool.not_true, Bool.not_false, decide_true, decide_false, Nat.reduceAdd, Nat.reduceSub, Nat.zero_add, reduceIte, reduceCtorEq, sz0, sz1, sz2, sz3, sz4, sz5, sz6, sz7, sz8, sz9, sz10, sz11, sz12, sz13, sz14, sz15, sz16, seqOf, ev_callv, ev_lcall, keep_d, capsOf, ow_bind]
  refine ow_call0 (run_divisor (k + 5) st) ?_
  rintro a fr dr ⟨⟨D, d, rfl, hD, d0, d1⟩, rfl, hd⟩
  obtain ⟨st, rfl⟩ := Option.isSome_iff_exists.mp hd
  simp [evS, ev_v, ev_c, ev_g, ev_fn, ev_bin, ev_neg, ev_no, ev_cmp, ev_chain, ev_and, ev_or, ev_ite, ev_call, ev_kcall, ev_bi, ev_isi, ev_ix, ev_sl, ev_rev, ev_tup, ev_lst, ev_pop, ev_dk, ev_dle, ev_dpop, ev_dmk, evEach, evIt, evs, evF, ops, op1, op2, opA, tst, tsts, truD, Pv.load, look, S.at, S.put, mine, store, setO, appO, drO, mkO, sliceO, seqO, ofRo_ok, lcTurn, Out.calm, hideS, backS, ownFree, bind_ok, bind_bad, bind_exc, ow_ok, ow_bad, ow_exc, ofO, dsOf, lstD, tupD, binop, cmpop, deq, Pv.truthy, builtin, item, item.atI, slice, Pv.bound, Ex.gap, isTy, asInt, Option.map_some, Option.map_none, Option.bind_some, Option.bind_none, List.map_cons, List.map_nil, List.replicate, List.cons_append, List.nil_append, List.append_nil, List.getD_cons_zero, List.getD_cons_succ, List.getD_nil, List.set_cons_zero, List.set_cons_succ, List.set_nil, List.zip_cons_cons, List.zip_nil_left, List.zip_nil_right, List.foldl_cons, List.foldl_nil, List.length_cons, List.length_nil, List.any_cons, List.any_nil, List.all_cons, List.all_nil, if_true, if_false, ite_true, ite_false, Bool.false_eq_true, Bool.true_eq_false, Bool.or_false, Bool.or_true, Bool.and_true, Bool.and_false, Bool.true_and, Bool.false_and, Bool.not_true, Bool.not_false, decide_true, decide_false, Nat.reduceAdd, Nat.reduceSub, Nat.zero_add, reduceIte, reduceCtorEq, sz0, sz1, sz2, sz3, sz4, sz5, sz6, sz7, sz8, sz9, sz10, sz11, sz12, sz13, sz14, sz15, sz16, seqOf, ev_callv, ev_lcall, keep_d, capsOf, ow_bind]
  refine ow_call0 (run_take (k + 7) st 901 (by decide) (by decide)) ?_
  rintro a fr dr ⟨⟨R, rfl, r0, r1⟩, rfl, hd⟩
  obtain ⟨st, rfl⟩ := Option.isSome_iff_exists.mp hd
  simp [evS, ev_v, ev_c, ev_g, ev_fn, ev_bin, ev_neg, ev_no, ev_cmp, ev_chain, ev_and, ev_or, ev_ite, ev_call, ev_kcall, ev_bi, ev_isi, ev_ix, ev_sl, ev_rev, ev_tup, ev_lst, ev_pop, ev_dk, ev_dle, ev_dpop, ev_dmk, evEach, evIt, evs, evF, ops, op1, op2, opA, tst, tsts, truD, Pv.load, look, S.at, S.put, mine, store, setO, appO, drO, mkO, sliceO, seqO, ofRo_ok, lcTurn, Out.calm, hideS, backS, ownFree, bind_ok, bind_bad, bind_exc, ow_ok, ow_bad, ow_exc, ofO, dsOf, lstD, tupD, binop, cmpop, deq, Pv.truthy, builtin, item, item.atI, slice, Pv.bound, Ex.gap, isTy, asInt, Option.map_some, Option.map_none, Option.bind_some, Option.bind_none, List.map_cons, List.map_nil, List.replicate, List.cons_append, List.nil_append, List.append_nil, List.getD_cons_zero, List.getD_cons_succ, List.getD_nil, List.set_cons_zero, List.set_cons_succ, List.set_nil, List.zip_cons_cons, List.zip_nil_left, List.zip_nil_right, List.foldl_cons, List.foldl_nil, List.length_cons, List.length_nil, List.any_cons, List.any_nil, List.all_cons, List.all_nil, if_true, if_false, ite_true, ite_false, Bool.false_eq_true, Bool.true_eq_false, Bool.or_false, Bool.or_true, Bool.and_true, Bool.and_false, Bool.true_and, Bool.false_and, Bool.not_true, Bool.not_false, decide_true, decide_false, Nat.reduceAdd, Nat.reduceSub, Nat.zero_add, reduceIte, reduceCtorEq, sz0, sz1, sz2, sz3, sz4, sz5, sz6, sz7, sz8, sz9, sz10, sz11, sz12, sz13, sz14, sz15, sz16, seqOf, ev_callv, ev_lcall, keep_d, capsOf]
  have D0 : 0 < D := by omega
  have dD := divOk_fit D0 (fit_le 400 hD d1 (by decide))
  have so : shlOk 1 R = true := shlOk_one (by omega) (by omega)
  obtain ⟨Q, hQ⟩ : ∃ Q : Int, (2 : Int) ^ R.toNat / D = Q := ⟨_, rfl⟩
  have s9 : shlOk 1 900 = true := shlOk_one (by decide) (by decide)
  obtain ⟨B, hB⟩ : ∃ B : Int, (2 : Int) ^ Int.toNat 900 = B := ⟨_, rfl⟩
  have hBn : B = ((2 ^ 900 : Nat) : Int) := by rw [← hB, Int.natCast_pow]; rfl
  have hB0 : 0 < B := by rw [← hB]; exact Int.pow_pos (by decide)
  clear hBn
  refine ow_cons ?_
  have e1 : Ow (evS G (run G T (k + 9)) (.asg (.nm 3) (.bi .min [.bin .shl (.c (.int 1)) (.c (.int 900)), .bi .max [.c (.int 0), .bin .sub (.bin .add (.bin .fdiv (.bin .shl (.c (.int 1)) (.v 8)) (.v 7)) (.call 24 [.v 1, .c (.int 5)])) (.c (.int 2))]])) ⟨[.va (.d A), .va .drw, x2, x3, x4, x5, x6, iv D, iv R, x9, x10, x11, .un], some st⟩) fun f s => f = .nx ∧ ∃ (M : Int) (st : Dr), 0 ≤ M ∧ M ≤ B ∧ s = ⟨[.va (.d A), .va .drw, x2, iv M, x4, x5, x6, iv D, iv R, x9, x10, x11, .un], some st⟩ := by
    simp only [evS, ev_v, ev_c, ev_g, ev_fn, ev_bin, ev_neg, ev_no, ev_cmp, ev_chain, ev_and, ev_or, ev_ite, ev_call, ev_kcall, ev_bi, ev_isi, ev_ix, ev_sl, ev_rev, ev_tup, ev_lst, ev_pop, ev_dk, ev_dle, ev_dpop, ev_dmk, evEach, evIt, evs, evF, ops, op1, op2, opA, tst, tsts, truD, Pv.load, look, S.at, S.put, mine, store, setO, appO, drO, mkO, sliceO, seqO, ofRo_ok, lcTurn, Out.calm, hideS, backS, ownFree, bind_ok, bind_bad, bind_exc, ow_ok, ow_bad, ow_exc, ofO, dsOf, lstD, tupD, binop, cmpop, deq, Pv.truthy, builtin, item, item.atI, slice, Pv.bound, Ex.gap, isTy, asInt, Option.map_some, Option.map_none, Option.bind_some, Option.bind_none, List.map_cons, List.map_nil, List.replicate, List.cons_append, List.nil_append, List.append_nil, List.getD_cons_zero, List.getD_cons_succ, List.getD_nil, List.set_cons_zero, List.set_cons_succ, List.set_nil, List.zip_cons_cons, List.zip_nil_left, List.zip_nil_right, List.foldl_cons, List.foldl_nil, List.length_cons, List.length_nil, List.any_cons, List.any_nil, List.all_cons, List.all_nil, if_true, if_false, ite_true, ite_false, Bool.false_eq_true, Bool.true_eq_false, Bool.or_false, Bool.or_true, Bool.and_true, Bool.and_false, Bool.true_and, Bool.false_and, Bool.not_true, Bool.not_false, decide_true, decide_false, Nat.reduceAdd, Nat.reduceSub, Nat.zero_add, reduceIte, reduceCtorEq, sz0, sz1, sz2, sz3, sz4, sz5, sz6, sz7, sz8, sz9, sz10, sz11, sz12, sz13, sz14, sz15, sz16, seqOf, ev_callv, ev_lcall, keep_d, capsOf, iv, s9]
    rw [hB]
    clear hB
    simp [evS, ev_v, ev_c, ev_g, ev_fn, ev_bin, ev_neg, ev_no, ev_cmp, ev_chain, ev_and, ev_or, ev_ite, ev_call, ev_kcall, ev_bi, ev_isi, ev_ix, ev_sl, ev_rev, ev_tup, ev_lst, ev_pop, ev_dk, ev_dle, ev_dpop, ev_dmk, evEach, evIt, evs, evF, ops, op1, op2, opA, tst, tsts, truD, Pv.load, look, S.at, S.put, mine, store, setO, appO, drO, mkO, sliceO, seqO, ofRo_ok, lcTurn, Out.calm, hideS, backS, ownFree, bind_ok, bind_bad, bind_exc, ow_ok, ow_bad, ow_exc, ofO, dsOf, lstD, tupD, binop, cmpop, deq, Pv.truthy, builtin, item, item.atI, slice, Pv.bound, Ex.gap, isTy, asInt, Option.map_some, Option.map_none, Option.bind_some, Option.bind_none, List.map_cons, List.map_nil, List.replicate, List.cons_append, List.nil_append, List.append_nil, List.getD_cons_zero, List.getD_cons_succ, List.getD_nil, List.set_cons_zero, List.set_cons_succ, List.set_nil, List.zip_cons_cons, List.zip_nil_left, List.zip_nil_right, List.foldl_cons, List.foldl_nil, List.length_cons, List.length_nil, List.any_cons, List.any_nil, List.all_cons, List.all_nil, if_true, if_false, ite_true, ite_false, Bool.false_eq_true, Bool.true_eq_false, Bool.or_false, Bool.or_true, Bool.and_true, Bool.and_false, Bool.true_and, Bool.false_and, Bool.not_true, Bool.not_false, decide_true, decide_false, Nat.reduceAdd, Nat.reduceSub, Nat.zero_add, reduceIte, reduceCtorEq, sz0, sz1, sz2, sz3, sz4, sz5, sz6, sz7, sz8, sz9, sz10, sz11, sz12, sz13, sz14, sz15, sz16, seqOf, ev_callv, ev_lcall, keep_d, capsOf, so, hQ, dD, fdiv_pos D0, ow_bind]
    refine ow_call0 (run_take (k + 7) st 5 (by decide) (by decide)) ?_
    rintro a fr dr ⟨⟨v, rfl, v0, v1⟩, rfl, hd⟩
    obtain ⟨st, rfl⟩ := Option.isSome_iff_exists.mp hd
    simp [evS, ev_v, ev_c, ev_g, ev_fn, ev_bin, ev_neg, ev_no, ev_cmp, ev_chain, ev_and, ev_or, ev_ite, ev_call, ev_kcall, ev_bi, ev_isi, ev_ix, ev_sl, ev_rev, ev_tup, ev_lst, ev_pop, ev_dk, ev_dle, ev_dpop, ev_dmk, evEach, evIt, evs, evF, ops, op1, op2, opA, tst, tsts, truD, Pv.load, look, S.at, S.put, mine, store, setO, appO, drO, mkO, sliceO, seqO, ofRo_ok, lcTurn, Out.calm, hideS, backS, ownFree, bind_ok, bind_bad, bind_exc, ow_ok, ow_bad, ow_exc, ofO, dsOf, lstD, tupD, binop, cmpop, deq, Pv.truthy, builtin, item, item.atI, slice, Pv.bound, Ex.gap, isTy, asInt, Option.map_some, Option.map_none, Option.bind_some, Option.bind_none, List.map_cons, List.map_nil, List.replicate, List.cons_append, List.nil_append, List.append_nil, List.getD_cons_zero, List.getD_cons_succ, List.getD_nil, List.set_cons_zero, List.set_cons_succ, List.set_nil, List.zip_cons_cons, List.zip_nil_left, List.zip_nil_right, List.foldl_cons, List.foldl_nil, List.length_cons, List.length_nil, List.any_cons, List.any_nil, List.all_cons, List.all_nil, if_true, if_false, ite_true, ite_false, Bool.false_eq_true, Bool.true_eq_false, Bool.or_false, Bool.or_true, Bool.and_true, Bool.and_false, Bool.true_and, Bool.false_and, Bool.not_true, Bool.not_false, decide_true, decide_false, Nat.reduceAdd, Nat.reduceSub, Nat.zero_add, reduceIte, reduceCtorEq, sz0, sz1, sz2, sz3, sz4, sz5, sz6, sz7, sz8, sz9, sz10, sz11, sz12, sz13, sz14, sz15, sz16, seqOf, ev_callv, ev_lcall, keep_d, capsOf]
    refine ⟨?_, ?_⟩
    · repeat' split
      all_goals omega
    · repeat' split
      all_goals omega
  refine ow_mono e1 ?_
  rintro f s ⟨rfl, M, st, m0, m1, rfl⟩
  have g : P3 d M.toNat R.toNat D M R := ⟨hD, by omega, by omega, d0, d1, by
    have hBn : B = ((2 ^ 900 : Nat) : Int) := by rw [← hB, Int.natCast_pow]; rfl
    omega, by omega⟩
  obtain ⟨U, hU⟩ : ∃ U : Int, U = (Dv.unlikeB d M.toNat (2 ^ R.toNat) : Int) := ⟨_, rfl⟩
  have qb := run_fub (k + 3) (some st) d _ _ D M R U g.hD g.hM g.hR hU g.d0 g.d1 g.m1 g.r1
  have qo := run_firstoff (k + 5) (some st) d _ _ D M R U g.hD g.hM g.hR hU g.d0 g.d1 g.m1 g.r1
  have w := widths k g A x2 x4 x5 x6 x9 x10 x11 st
  clear hB hU g hD m0 m1 hQ
  refine ow_cons (ow_ifs ?_)
  simp [evS, ev_v, ev_c, ev_g, ev_fn, ev_bin, ev_neg, ev_no, ev_cmp, ev_chain, ev_and, ev_or, ev_ite, ev_call, ev_kcall, ev_bi, ev_isi, ev_ix, ev_sl, ev_rev, ev_tup, ev_lst, ev_pop, ev_dk, ev_dle, ev_dpop, ev_dmk, evEach, evIt, evs, evF, ops, op1, op2, opA, tst, tsts, truD, Pv.load, look, S.at, S.put, mine, store, setO, appO, drO, mkO, sliceO, seqO, ofRo_ok, lcTurn, Out.calm, hideS, backS, ownFree, bind_ok, bind_bad, bind_exc, ow_ok, ow_bad, ow_exc, ofO, dsOf, lstD, tupD, binop, cmpop, deq, Pv.truthy, builtin, item, item.atI, slice, Pv.bound, Ex.gap, isTy, asInt, Option.map_some, Option.map_none, Option.bind_some, Option.bind_none, List.map_cons, List.map_nil, List.replicate, List.cons_append, List.nil_append, List.append_nil, List.getD_cons_zero, List.getD_cons_succ, List.getD_nil, List.set_cons_zero, List.set_cons_succ, List.set_nil, List.zip_cons_cons, List.zip_nil_left, List.zip_nil_right, List.foldl_cons, List.foldl_nil, List.length_cons, List.length_nil, List.any_cons, List.any_nil, List.all_cons, List.all_nil, if_true, if_false, ite_true, ite_false, Bool.false_eq_true, Bool.true_eq_false, Bool.or_false, Bool.or_true, Bool.and_true, Bool.and_false, Bool.true_and, Bool.false_and, Bool.not_true, Bool.not_false, decide_true, decide_false, Nat.reduceAdd, Nat.reduceSub, Nat.zero_add, reduceIte, reduceCtorEq, sz0, sz1, sz2, sz3, sz4, sz5, sz6, sz7, sz8, sz9, sz10, sz11, sz12, sz13, sz14, sz15, sz16, seqOf, ev_callv, ev_lcall, keep_d, capsOf, iv, qb, qo, layK]
  refine ow_nil ?_
  simp only [iv] at w
  exact w
theorem lap (A : PyData) (x2 x3 x4 x5 x6 x7 x8 x9 x10 x11 : Pv.Slot) (st : Dr) :
    Ow (evB G (run G T (k + 9)) t31_16 ⟨[.va (.d A), .va .drw, x2, x3, x4, x5, x6, x7, x8, x9, x10, x11, .un], some st⟩) fun f s => f = .nx ∧ IQ A [] s := by
  refine ow_cons ?_
  simp [evS, ev_v, ev_c, ev_g, ev_fn, ev_bin, ev_neg, ev_no, ev_cmp, ev_chain, ev_and, ev_or, ev_ite, ev_call, ev_kcall, ev_bi, ev_isi, ev_ix, ev_sl, ev_rev, ev_tup, ev_lst, ev_pop, ev_dk, ev_dle, ev_dpop, ev_dmk, evEach, evIt, evs, evF, ops, op1, op2, opA, tst, tsts, truD, Pv.load, look, S.at, S.put, mine, store, setO, appO, drO, mkO, sliceO, seqO, ofRo_ok, lcTurn, Out.calm, hideS, backS, ownFree, bind_ok, bind_bad, bind_exc, ow_ok, ow_bad, ow_exc, ofO, dsOf, lstD, tupD, binop, cmpop, deq, Pv.truthy, builtin, item, item.atI, slice, Pv.bound, Ex.gap, isTy, asInt, Option.map_some, Option.map_none, Option.bind_some, Option.bind_none, List.map_cons, List.map_nil, List.replicate, List.cons_append, List.nil_append, List.append_nil, List.getD_cons_zero, List.getD_cons_succ, List.getD_nil, List.set_cons_zero, List.set_cons_succ, List.set_nil, List.zip_cons_cons, List.zip_nil_left, List.zip_nil_right, List.foldl_cons, List.foldl_nil, List.length_cons, List.length_nil, List.any_cons, List.any_nil, List.all_cons, List.all_nil, if_true, if_false, ite_true, ite_false, Bool.false_eq_true, Bool.true_eq_false, Bool.or_false, Bool.or_true, Bool.and_true, Bool.and_false, Bool.true_and, Bool.false_and, Bool.not_true, Bool.not_false, decide_true, decide_false, Nat.reduceAdd, Nat.reduceSub, Nat.zero_add, reduceIte, reduceCtorEq, sz0, sz1, sz2, sz3, sz4, sz5, sz6, sz7, sz8, sz9, sz10, sz11, sz12, sz13, sz14, sz15, sz16, seqOf, ev_callv, ev_lcall, keep_d, capsOf, ow_bind]
  refine ow_call0 (run_take (k + 7) st 30 (by decide) (by decide)) ?_
  rintro a fr dr ⟨⟨v1, rfl, v10, v11⟩, rfl, hd⟩
  obtain ⟨st, rfl⟩ := Option.isSome_iff_exists.mp hd
  simp [evS, ev_v, ev_c, ev_g, ev_fn, ev_bin, ev_neg, ev_no, ev_cmp, ev_chain, ev_and, ev_or, ev_ite, ev_call, ev_kcall, ev_bi, ev_isi, ev_ix, ev_sl, ev_rev, ev_tup, ev_lst, ev_pop, ev_dk, ev_dle, ev_dpop, ev_dmk, evEach, evIt, evs, evF, ops, op1, op2, opA, tst, tsts, truD, Pv.load, look, S.at, S.put, mine, store, setO, appO, drO, mkO, sliceO, seqO, ofRo_ok, lcTurn, Out.calm, hideS, backS, ownFree, bind_ok, bind_bad, bind_exc, ow_ok, ow_bad, ow_exc, ofO, dsOf, lstD, tupD, binop, cmpop, deq, Pv.truthy, builtin, item, item.atI, slice, Pv.bound, Ex.gap, isTy, asInt, Option.map_some, Option.map_none, Option.bind_some, Option.bind_none, List.map_cons, List.map_nil, List.replicate, List.cons_append, List.nil_append, List.append_nil, List.getD_cons_zero, List.getD_cons_succ, List.getD_nil, List.set_cons_zero, List.set_cons_succ, List.set_nil, List.zip_cons_cons, List.zip_nil_left, List.zip_nil_right, List.foldl_cons, List.foldl_nil, List.length_cons, List.length_nil, List.any_cons, List.any_nil, List.all_cons, List.all_nil, if_true, if_false, ite_true, ite_false, Bool.false_eq_true, Bool.true_eq_false, Bool.or_false, Bool.or_true, Bool.and_true, Bool.and_false, Bool.true_and, Bool.false_and, Bool.not_true, Bool.not_false, decide_true, decide_false, Nat.reduceAdd, Nat.reduceSub, Nat.zero_add, reduceIte, reduceCtorEq, sz0, sz1, sz2, sz3, sz4, sz5, sz6, sz7, sz8, sz9, sz10, sz11, sz12, sz13, sz14, sz15, sz16, seqOf, ev_callv, ev_lcall, keep_d, capsOf, ow_bind]
  refine ow_call0 (run_take (k + 7) st 10 (by decide) (by decide)) ?_
  rintro a fr dr ⟨⟨R, rfl, r0, r1⟩, rfl, hd⟩
  obtain ⟨st, rfl⟩ := Option.isSome_iff_exists.mp hd
  simp [evS, ev_v, ev_c, ev_g, ev_fn, ev_bin, ev_neg, ev_no, ev_cmp, ev_chain, ev_and, ev_or, ev_ite, ev_call, ev_kcall, ev_bi, ev_isi, ev_ix, ev_sl, ev_rev, ev_tup, ev_lst, ev_pop, ev_dk, ev_dle, ev_dpop, ev_dmk, evEach, evIt, evs, evF, ops, op1, op2, opA, tst, tsts, truD, Pv.load, look, S.at, S.put, mine, store, setO, appO, drO, mkO, sliceO, seqO, ofRo_ok, lcTurn, Out.calm, hideS, backS, ownFree, bind_ok, bind_bad, bind_exc, ow_ok, ow_bad, ow_exc, ofO, dsOf, lstD, tupD, binop, cmpop, deq, Pv.truthy, builtin, item, item.atI, slice, Pv.bound, Ex.gap, isTy, asInt, Option.map_some, Option.map_none, Option.bind_some, Option.bind_none, List.map_cons, List.map_nil, List.replicate, List.cons_append, List.nil_append, List.append_nil, List.getD_cons_zero, List.getD_cons_succ, List.getD_nil, List.set_cons_zero, List.set_cons_succ, List.set_nil, List.zip_cons_cons, List.zip_nil_left, List.zip_nil_right, List.foldl_cons, List.foldl_nil, List.length_cons, List.length_nil, List.any_cons, List.any_nil, List.all_cons, List.all_nil, if_true, if_false, ite_true, ite_false, Bool.false_eq_true, Bool.true_eq_false, Bool.or_false, Bool.or_true, Bool.and_true, Bool.and_false, Bool.true_and, Bool.false_and, Bool.not_true, Bool.not_false, decide_true, decide_false, Nat.reduceAdd, Nat.reduceSub, Nat.zero_add, reduceIte, reduceCtorEq, sz0, sz1, sz2, sz3, sz4, sz5, sz6, sz7, sz8, sz9, sz10, sz11, sz12, sz13, sz14, sz15, sz16, seqOf, ev_callv, ev_lcall, keep_d, capsOf]
  have d0 : 1 ≤ 1 + v1 := by omega
  have d1 : 1 + v1 ≤ 30 := by omega
  generalize 1 + v1 = D at d0 d1
  have D0 : 0 < D := by omega
  have dD := divOk_fit D0 (fit_small (a := D) (by omega))
  have so : shlOk 1 R = true := shlOk_one (by omega) (by omega)
  have so2 : shlOk 2 R = true := shlOk_fit (fit_small (by decide)) (by omega) (by omega)
  obtain ⟨B, hB⟩ : ∃ B : Int, (2 : Int) ^ R.toNat = B := ⟨_, rfl⟩
  have hBn : B = ((2 ^ R.toNat : Nat) : Int) := by rw [← hB, Int.natCast_pow]; rfl
  have hB1 : 2 ^ R.toNat ≤ 2 ^ 9 := pow_le_pow (by omega)
  have hB0 : 0 < 2 ^ R.toNat := Nat.pow_pos (by decide)
  have hq0 : 0 ≤ B / D := Int.ediv_nonneg (by omega) (by omega)
  have hq1 : B / D ≤ B := Int.ediv_le_self D (by omega)
  generalize hQ : B / D = Q at hq0 hq1
  refine ow_cons ?_
  have e1 : Ow (evS G (run G T (k + 9)) (.asg (.nm 3) (.ite (.cmp .gt (.call 24 [.v 1, .c (.int 4)]) (.c (.int 0))) (.bi .max [.c (.int 0), .bin .sub (.bin .add (.bin .fdiv (.bin .shl (.c (.int 1)) (.v 8)) (.v 7)) (.call 24 [.v 1, .c (.int 5)])) (.c (.int 2))]) (.call 24 [.v 1, .bin .shl (.c (.int 2)) (.v 8)]))) ⟨[.va (.d A), .va .drw, x2, x3, x4, x5, x6, iv D, iv R, x9, x10, x11, .un], some st⟩) fun f s => f = .nx ∧ ∃ (M : Int) (st : Dr), 0 ≤ M ∧ M ≤ 1024 ∧ s = ⟨[.va (.d A), .va .drw, x2, iv M, x4, x5, x6, iv D, iv R, x9, x10, x11, .un], some st⟩ := by
    simp [evS, ev_v, ev_c, ev_g, ev_fn, ev_bin, ev_neg, ev_no, ev_cmp, ev_chain, ev_and, ev_or, ev_ite, ev_call, ev_kcall, ev_bi, ev_isi, ev_ix, ev_sl, ev_rev, ev_tup, ev_lst, ev_pop, ev_dk, ev_dle, ev_dpop, ev_dmk, evEach, evIt, evs, evF, ops, op1, op2, opA, tst, tsts, truD, Pv.load, look, S.at, S.put, mine, store, setO, appO, drO, mkO, sliceO, seqO, ofRo_ok, lcTurn, Out.calm, hideS, backS, ownFree, bind_ok, bind_bad, bind_exc, ow_ok, ow_bad, ow_exc, ofO, dsOf, lstD, tupD, binop, cmpop, deq, Pv.truthy, builtin, item, item.atI, slice, Pv.bound, Ex.gap, isTy, asInt, Option.map_some, Option.map_none, Option.bind_some, Option.bind_none, List.map_cons, List.map_nil, List.replicate, List.cons_append, List.nil_append, List.append_nil, List.getD_cons_zero, List.getD_cons_succ, List.getD_nil, List.set_cons_zero, List.set_cons_succ, List.set_nil, List.zip_cons_cons, List.zip_nil_left, List.zip_nil_right, List.foldl_cons, List.foldl_nil, List.length_cons, List.length_nil, List.any_cons, List.any_nil, List.all_cons, List.all_nil, if_true, if_false, ite_true, ite_false, Bool.false_eq_true, Bool.true_eq_false, Bool.or_false, Bool.or_true, Bool.and_true, Bool.and_false, Bool.true_and, Bool.false_and, Bool.not_true, Bool.not_false, decide_true, decide_false, Nat.reduceAdd, Nat.reduceSub, Nat.zero_add, reduceIte, reduceCtorEq, sz0, sz1, sz2, sz3, sz4, sz5, sz6, sz7, sz8, sz9, sz10, sz11, sz12, sz13, sz14, sz15, sz16, seqOf, ev_callv, ev_lcall, keep_d, capsOf, iv, ow_bind]
    refine ow_call0 (run_take (k + 7) st 4 (by decide) (by decide)) ?_
    rintro a fr dr ⟨⟨v, rfl, v0, v1⟩, rfl, hd⟩
    obtain ⟨st, rfl⟩ := Option.isSome_iff_exists.mp hd
    by_cases c : 0 < v
    · simp [evS, ev_v, ev_c, ev_g, ev_fn, ev_bin, ev_neg, ev_no, ev_cmp, ev_chain, ev_and, ev_or, ev_ite, ev_call, ev_kcall, ev_bi, ev_isi, ev_ix, ev_sl, ev_rev, ev_tup, ev_lst, ev_pop, ev_dk, ev_dle, ev_dpop, ev_dmk, evEach, evIt, evs, evF, ops, op1, op2, opA, tst, tsts, truD, Pv.load, look, S.at, S.put, mine, store, setO, appO, drO, mkO, sliceO, seqO, ofRo_ok, lcTurn, Out.calm, hideS, backS, ownFree, bind_ok, bind_bad, bind_exc, ow_ok, ow_bad, ow_exc, ofO, dsOf, lstD, tupD, binop, cmpop, deq, Pv.truthy, builtin, item, item.atI, slice, Pv.bound, Ex.gap, isTy, asInt, Option.map_some, Option.map_none, Option.bind_some, Option.bind_none, List.map_cons, List.map_nil, List.replicate, List.cons_append, List.nil_append, List.append_nil, List.getD_cons_zero, List.getD_cons_succ, List.getD_nil, List.set_cons_zero, List.set_cons_succ, List.set_nil, List.zip_cons_cons, List.zip_nil_left, List.zip_nil_right, List.foldl_cons, List.foldl_nil, List.length_cons, List.length_nil, List.any_cons, List.any_nil, List.all_cons, List.all_nil, if_true, if_false, ite_true, ite_false, Bool.false_eq_true, Bool.true_eq_false, Bool.or_false, Bool.or_true, Bool.and_true, Bool.and_false, Bool.true_and, Bool.false_and, Bool.not_true, Bool.not_false, decide_true, decide_false, Nat.reduceAdd, Nat.reduceSub, Nat.zero_add, reduceIte, reduceCtorEq, sz0, sz1, sz2, sz3, sz4, sz5, sz6, sz7, sz8, sz9, sz10, sz11, sz12, sz13, sz14, sz15, sz16, seqOf, ev_callv, ev_lcall, keep_d, capsOf, c, so, hB, dD, fdiv_pos D0, hQ, ow_bind]
      refine ow_call0 (run_take (k + 7) st 5 (by decide) (by decide)) ?_
      rintro a fr dr ⟨⟨v2, rfl, v20, v21⟩, rfl, hd⟩
      obtain ⟨st, rfl⟩ := Option.isSome_iff_exists.mp hd
      simp [evS, ev_v, ev_c, ev_g, ev_fn, ev_bin, ev_neg, ev_no, ev_cmp, ev_chain, ev_and, ev_or, ev_ite, ev_call, ev_kcall, ev_bi, ev_isi, ev_ix, ev_sl, ev_rev, ev_tup, ev_lst, ev_pop, ev_dk, ev_dle, ev_dpop, ev_dmk, evEach, evIt, evs, evF, ops, op1, op2, opA, tst, tsts, truD, Pv.load, look, S.at, S.put, mine, store, setO, appO, drO, mkO, sliceO, seqO, ofRo_ok, lcTurn, Out.calm, hideS, backS, ownFree, bind_ok, bind_bad, bind_exc, ow_ok, ow_bad, ow_exc, ofO, dsOf, lstD, tupD, binop, cmpop, deq, Pv.truthy, builtin, item, item.atI, slice, Pv.bound, Ex.gap, isTy, asInt, Option.map_some, Option.map_none, Option.bind_some, Option.bind_none, List.map_cons, List.map_nil, List.replicate, List.cons_append, List.nil_append, List.append_nil, List.getD_cons_zero, List.getD_cons_succ, List.getD_nil, List.set_cons_zero, List.set_cons_succ, List.set_nil, List.zip_cons_cons, List.zip_nil_left, List.zip_nil_right, List.foldl_cons, List.foldl_nil, List.length_cons, List.length_nil, List.any_cons, List.any_nil, List.all_cons, List.all_nil, if_true, if_false, ite_true, ite_false, Bool.false_eq_true, Bool.true_eq_false, Bool.or_false, Bool.or_true, Bool.and_true, Bool.and_false, Bool.true_and, Bool.false_and, Bool.not_true, Bool.not_false, decide_true, decide_false, Nat.reduceAdd, Nat.reduceSub, Nat.zero_add, reduceIte, reduceCtorEq, sz0, sz1, sz2, sz3, sz4, sz5, sz6, sz7, sz8, sz9, sz10, sz11, sz12, sz13, sz14, sz15, sz16, seqOf, ev_callv, ev_lcall, keep_d, capsOf]
      refine ⟨?_, ?_⟩
      · split <;> omega
      · split <;> omega
    · simp [evS, ev_v, ev_c, ev_g, ev_fn, ev_bin, ev_neg, ev_no, ev_cmp, ev_chain, ev_and, ev_or, ev_ite, ev_call, ev_kcall, ev_bi, ev_isi, ev_ix, ev_sl, ev_rev, ev_tup, ev_lst, ev_pop, ev_dk, ev_dle, ev_dpop, ev_dmk, evEach, evIt, evs, evF, ops, op1, op2, opA, tst, tsts, truD, Pv.load, look, S.at, S.put, mine, store, setO, appO, drO, mkO, sliceO, seqO, ofRo_ok, lcTurn, Out.calm, hideS, backS, ownFree, bind_ok, bind_bad, bind_exc, ow_ok, ow_bad, ow_exc, ofO, dsOf, lstD, tupD, binop, cmpop, deq, Pv.truthy, builtin, item, item.atI, slice, Pv.bound, Ex.gap, isTy, asInt, Option.map_some, Option.map_none, Option.bind_some, Option.bind_none, List.map_cons, List.map_nil, List.replicate, List.cons_append, List.nil_append, List.append_nil, List.getD_cons_zero, List.getD_cons_succ, List.getD_nil, List.set_cons_zero, List.set_cons_succ, List.set_nil, List.zip_cons_cons, List.zip_nil_left, List.zip_nil_right, List.foldl_cons, List.foldl_nil, List.length_cons, List.length_nil, List.any_cons, List.any_nil, List.all_cons, List.all_nil, if_true, if_false, ite_true, ite_false, Bool.false_eq_true, Bool.true_eq_false, Bool.or_false, Bool.or_true, Bool.and_true, Bool.and_false, Bool.true_and, Bool.false_and, Bool.not_true, Bool.not_false, decide_true, decide_false, Nat.reduceAdd, Nat.reduceSub, Nat.zero_add, reduceIte, reduceCtorEq, sz0, sz1, sz2, sz3, sz4, sz5, sz6, sz7, sz8, sz9, sz10, sz11, sz12, sz13, sz14, sz15, sz16, seqOf, ev_callv, ev_lcall, keep_d, capsOf, c, so2, hB, ow_bind]
      refine ow_call0 (run_take (k + 7) st (2 * B) (by omega) (divOk_small (by omega) (by omega))) ?_
      rintro a fr dr ⟨⟨v2, rfl, v20, v21⟩, rfl, hd⟩
      obtain ⟨st, rfl⟩ := Option.isSome_iff_exists.mp hd
      simp [evS, ev_v, ev_c, ev_g, ev_fn, ev_bin, ev_neg, ev_no, ev_cmp, ev_chain, ev_and, ev_or, ev_ite, ev_call, ev_kcall, ev_bi, ev_isi, ev_ix, ev_sl, ev_rev, ev_tup, ev_lst, ev_pop, ev_dk, ev_dle, ev_dpop, ev_dmk, evEach, evIt, evs, evF, ops, op1, op2, opA, tst, tsts, truD, Pv.load, look, S.at, S.put, mine, store, setO, appO, drO, mkO, sliceO, seqO, ofRo_ok, lcTurn, Out.calm, hideS, backS, ownFree, bind_ok, bind_bad, bind_exc, ow_ok, ow_bad, ow_exc, ofO, dsOf, lstD, tupD, binop, cmpop, deq, Pv.truthy, builtin, item, item.atI, slice, Pv.bound, Ex.gap, isTy, asInt, Option.map_some, Option.map_none, Option.bind_some, Option.bind_none, List.map_cons, List.map_nil, List.replicate, List.cons_append, List.nil_append, List.append_nil, List.getD_cons_zero, List.getD_cons_succ, List.getD_nil, List.set_cons_zero, List.set_cons_succ, List.set_nil, List.zip_cons_cons, List.zip_nil_left, List.zip_nil_right, List.foldl_cons, List.foldl_nil, List.length_cons, List.length_nil, List.any_cons, List.any_nil, List.all_cons, List.all_nil, if_true, if_false, ite_true, ite_false, Bool.false_eq_true, Bool.true_eq_false, Bool.or_false, Bool.or_true, Bool.and_true, Bool.and_false, Bool.true_and, Bool.false_and, Bool.not_true, Bool.not_false, decide_true, decide_false, Nat.reduceAdd, Nat.reduceSub, Nat.zero_add, reduceIte, reduceCtorEq, sz0, sz1, sz2, sz3, sz4, sz5, sz6, sz7, sz8, sz9, sz10, sz11, sz12, sz13, sz14, sz15, sz16, seqOf, ev_callv, ev_lcall, keep_d, capsOf]
      exact ⟨v20, by omega⟩
  refine ow_mono e1 ?_
  rintro f s ⟨rfl, M, st, m0, m1, rfl⟩
  have big : 2 ^ 10 ≤ 2 ^ 400 := pow_le_pow (by decide)
  have big9 : 2 ^ 10 ≤ 2 ^ 900 := pow_le_pow (by decide)
  have big24 : 2 ^ 10 ≤ 2 ^ 2400 := pow_le_pow (by decide)
  have g : P3 D.toNat M.toNat R.toNat D M R := ⟨by omega, by omega, by omega, by omega, by omega, by omega, by omega⟩
  obtain ⟨U, hU⟩ : ∃ U : Int, U = (Dv.unlikeB D.toNat M.toNat (2 ^ R.toNat) : Int) := ⟨_, rfl⟩
  have qb := run_fub (k + 3) (some st) _ _ _ D M R U g.hD g.hM g.hR hU g.d0 g.d1 g.m1 g.r1
  have qo := run_firstoff (k + 5) (some st) _ _ _ D M R U g.hD g.hM g.hR hU g.d0 g.d1 g.m1 g.r1
  have ff := Dv.unlikeB_first (m := M.toNat) (p := 2 ^ R.toNat) g.d0
  have e2 : ∀ x4 : Pv.Slot, ev G (run G T (k + 9)) (.lc (.v 12) (.nm 12) (.rng2 (.c (.int 1)) (.c (.int 600))) [.call 26 [.v 7, .v 3, .v 8, .v 12]] [12]) ⟨[.va (.d A), .va .drw, x2, iv M, x4, x5, x6, iv D, iv R, x9, x10, x11, .un], some st⟩ = .ok (.d (.list ((natsL 1 599 (fun n => !decide (Dv.rightB D.toNat M.toNat (2 ^ R.toNat) n))).map PyData.int)), true) ⟨[.va (.d A), .va .drw, x2, iv M, x4, x5, x6, iv D, iv R, x9, x10, x11, .un], some st⟩ := fun x4 => by
    refine ev_lcN 12 1 599 _ (by omega) ?_ rfl (Nat.lt_succ_self 12) ?_
    · have r1 : rngOk 1 = true := by decide
      have r6 : rngOk 600 = true := by decide
      simp only [evS, ev_v, ev_c, ev_g, ev_fn, ev_bin, ev_neg, ev_no, ev_cmp, ev_chain, ev_and, ev_or, ev_ite, ev_call, ev_kcall, ev_bi, ev_isi, ev_ix, ev_sl, ev_rev, ev_tup, ev_lst, ev_pop, ev_dk, ev_dle, ev_dpop, ev_dmk, evEach, evIt, evs, evF, ops, op1, op2, opA, tst, tsts, truD, Pv.load, look, S.at, S.put, mine, store, setO, appO, drO, mkO, sliceO, seqO, ofRo_ok, lcTurn, Out.calm, hideS, backS, ownFree, bind_ok, bind_bad, bind_exc, ow_ok, ow_bad, ow_exc, ofO, dsOf, lstD, tupD, binop, cmpop, deq, Pv.truthy, builtin, item, item.atI, slice, Pv.bound, Ex.gap, isTy, asInt, Option.map_some, Option.map_none, Option.bind_some, Option.bind_none, List.map_cons, List.map_nil, List.replicate, List.cons_append, List.nil_append, List.append_nil, List.getD_cons_zero, List.getD_cons_succ, List.getD_nil, List.set_cons_zero, List.set_cons_succ, List.set_nil, List.zip_cons_cons, List.zip_nil_left, List.zip_nil_right, List.foldl_cons, List.foldl_nil, List.length_cons, List.length_nil, List.any_cons, List.any_nil, List.all_cons, List.all_nil, if_true, if_false, ite_true, ite_false, Bool.false_eq_true, Bool.true_eq_false, Bool.or_false, Bool.or_true, Bool.and_true, Bool.and_false, Bool.true_and, Bool.false_and, Bool.not_true, Bool.not_false, decide_true, decide_false, Nat.reduceAdd, Nat.reduceSub, Nat.zero_add, reduceIte, reduceCtorEq, sz0, sz1, sz2, sz3, sz4, sz5, sz6, sz7, sz8, sz9, sz10, sz11, sz12, sz13, sz14, sz15, sz16, seqOf, ev_callv, ev_lcall, keep_d, capsOf, iv, r1, r6]
      rw [rngI_nats2 (i := 1) (I := 1) rfl]
      rfl
    · intro x X hX _ hx
      have q := run_off (k + 8) (some st) _ _ _ x D M R X g.hD g.hM g.hR hX g.d0 g.d1 g.m1 (by omega)
      generalize (!decide (Dv.rightB D.toNat M.toNat (2 ^ R.toNat) x)) = b at q
      clear hX hx
      simp [evS, ev_v, ev_c, ev_g, ev_fn, ev_bin, ev_neg, ev_no, ev_cmp, ev_chain, ev_and, ev_or, ev_ite, ev_call, ev_kcall, ev_bi, ev_isi, ev_ix, ev_sl, ev_rev, ev_tup, ev_lst, ev_pop, ev_dk, ev_dle, ev_dpop, ev_dmk, evEach, evIt, evs, evF, ops, op1, op2, opA, tst, tsts, truD, Pv.load, look, S.at, S.put, mine, store, setO, appO, drO, mkO, sliceO, seqO, ofRo_ok, lcTurn, Out.calm, hideS, backS, ownFree, bind_ok, bind_bad, bind_exc, ow_ok, ow_bad, ow_exc, ofO, dsOf, lstD, tupD, binop, cmpop, deq, Pv.truthy, builtin, item, item.atI, slice, Pv.bound, Ex.gap, isTy, asInt, Option.map_some, Option.map_none, Option.bind_some, Option.bind_none, List.map_cons, List.map_nil, List.replicate, List.cons_append, List.nil_append, List.append_nil, List.getD_cons_zero, List.getD_cons_succ, List.getD_nil, List.set_cons_zero, List.set_cons_succ, List.set_nil, List.zip_cons_cons, List.zip_nil_left, List.zip_nil_right, List.foldl_cons, List.foldl_nil, List.length_cons, List.length_nil, List.any_cons, List.any_nil, List.all_cons, List.all_nil, if_true, if_false, ite_true, ite_false, Bool.false_eq_true, Bool.true_eq_false, Bool.or_false, Bool.or_true, Bool.and_true, Bool.and_false, Bool.true_and, Bool.false_and, Bool.not_true, Bool.not_false, decide_true, decide_false, Nat.reduceAdd, Nat.reduceSub, Nat.zero_add, reduceIte, reduceCtorEq, sz0, sz1, sz2, sz3, sz4, sz5, sz6, sz7, sz8, sz9, sz10, sz11, sz12, sz13, sz14, sz15, sz16, seqOf, ev_callv, ev_lcall, keep_d, capsOf, iv, q]
  have hl : (∃ r, (natsL 1 599 (fun n => !decide (Dv.rightB D.toNat M.toNat (2 ^ R.toNat) n))).map PyData.int = .int U :: r) ∨ ((natsL 1 599 (fun n => !decide (Dv.rightB D.toNat M.toNat (2 ^ R.toNat) n))).map PyData.int = [] ∧ 600 ≤ U) := by
    cases e : natsL 1 599 (fun n => !decide (Dv.rightB D.toNat M.toNat (2 ^ R.toNat) n)) with
    | nil =>
      refine .inr ⟨rfl, ?_⟩
      have := natsL_nil.mp e
      have h : ¬ Dv.unlikeB D.toNat M.toNat (2 ^ R.toNat) < 600 := fun z => by
        have := this _ ff.pos (by omega)
        simp at this
        exact ff.no this
      omega
    | cons X l =>
      obtain ⟨j, rfl, a, b, hj, lo⟩ := natsL_cons e
      have hj : ¬ Dv.rightB D.toNat M.toNat (2 ^ R.toNat) j := by simpa using hj
      have : Dv.unlikeB D.toNat M.toNat (2 ^ R.toNat) = j := ff.uniq ⟨a, hj, fun n n0 h => by
        have := lo n n0 h
        simpa using this⟩
      exact .inl ⟨l.map PyData.int, by rw [hU, this]; rfl⟩
  generalize (natsL 1 599 (fun n => !decide (Dv.rightB D.toNat M.toNat (2 ^ R.toNat) n))).map PyData.int = l at e2 hl
  have gr := fun x4 x5 => great k A x2 (iv M) x4 x5 x6 (iv D) (iv R) x9 x10 x11 st
  clear hU g ff hBn hB1 hB0 m0 m1 hQ hq0 hq1
  simp only [iv] at e2 gr ⊢
  refine ow_cons ?_
  rcases hl with ⟨rr, rfl⟩ | ⟨rfl, hu⟩
  · simp [evS, ev_v, ev_c, ev_g, ev_fn, ev_bin, ev_neg, ev_no, ev_cmp, ev_chain, ev_and, ev_or, ev_ite, ev_call, ev_kcall, ev_bi, ev_isi, ev_ix, ev_sl, ev_rev, ev_tup, ev_lst, ev_pop, ev_dk, ev_dle, ev_dpop, ev_dmk, evEach, evIt, evs, evF, ops, op1, op2, opA, tst, tsts, truD, Pv.load, look, S.at, S.put, mine, store, setO, appO, drO, mkO, sliceO, seqO, ofRo_ok, lcTurn, Out.calm, hideS, backS, ownFree, bind_ok, bind_bad, bind_exc, ow_ok, ow_bad, ow_exc, ofO, dsOf, lstD, tupD, binop, cmpop, deq, Pv.truthy, builtin, item, item.atI, slice, Pv.bound, Ex.gap, isTy, asInt, Option.map_some, Option.map_none, Option.bind_some, Option.bind_none, List.map_cons, List.map_nil, List.replicate, List.cons_append, List.nil_append, List.append_nil, List.getD_cons_zero, List.getD_cons_succ, List.getD_nil, List.set_cons_zero, List.set_cons_succ, List.set_nil, List.zip_cons_cons, List.zip_nil_left, List.zip_nil_right, List.foldl_cons, List.foldl_nil, List.length_cons, List.length_nil, List.any_cons, List.any_nil, List.all_cons, List.all_nil, if_true, if_false, ite_true, ite_false, Bool.false_eq_true, Bool.true_eq_false, Bool.or_false, Bool.or_true, Bool.and_true, Bool.and_false, Bool.true_and, Bool.false_and, Bool.not_true, Bool.not_false, decide_true, decide_false, Nat.reduceAdd, Nat.reduceSub, Nat.zero_add, reduceIte, reduceCtorEq, sz0, sz1, sz2, sz3, sz4, sz5, sz6, sz7, sz8, sz9, sz10, sz11, sz12, sz13, sz14, sz15, sz16, seqOf, ev_callv, ev_lcall, keep_d, capsOf, e2, cut1]
    refine ow_cons ?_
    simp [evS, ev_v, ev_c, ev_g, ev_fn, ev_bin, ev_neg, ev_no, ev_cmp, ev_chain, ev_and, ev_or, ev_ite, ev_call, ev_kcall, ev_bi, ev_isi, ev_ix, ev_sl, ev_rev, ev_tup, ev_lst, ev_pop, ev_dk, ev_dle, ev_dpop, ev_dmk, evEach, evIt, evs, evF, ops, op1, op2, opA, tst, tsts, truD, Pv.load, look, S.at, S.put, mine, store, setO, appO, drO, mkO, sliceO, seqO, ofRo_ok, lcTurn, Out.calm, hideS, backS, ownFree, bind_ok, bind_bad, bind_exc, ow_ok, ow_bad, ow_exc, ofO, dsOf, lstD, tupD, binop, cmpop, deq, Pv.truthy, builtin, item, item.atI, slice, Pv.bound, Ex.gap, isTy, asInt, Option.map_some, Option.map_none, Option.bind_some, Option.bind_none, List.map_cons, List.map_nil, List.replicate, List.cons_append, List.nil_append, List.append_nil, List.getD_cons_zero, List.getD_cons_succ, List.getD_nil, List.set_cons_zero, List.set_cons_succ, List.set_nil, List.zip_cons_cons, List.zip_nil_left, List.zip_nil_right, List.foldl_cons, List.foldl_nil, List.length_cons, List.length_nil, List.any_cons, List.any_nil, List.all_cons, List.all_nil, if_true, if_false, ite_true, ite_false, Bool.false_eq_true, Bool.true_eq_false, Bool.or_false, Bool.or_true, Bool.and_true, Bool.and_false, Bool.true_and, Bool.false_and, Bool.not_true, Bool.not_false, decide_true, decide_false, Nat.reduceAdd, Nat.reduceSub, Nat.zero_add, reduceIte, reduceCtorEq, sz0, sz1, sz2, sz3, sz4, sz5, sz6, sz7, sz8, sz9, sz10, sz11, sz12, sz13, sz14, sz15, sz16, seqOf, ev_callv, ev_lcall, keep_d, capsOf, qb]
    refine ow_cons (ow_ifs ?_)
    have e3 : PyData.eqv (.list [.int U]) (.list []) = false := rfl
    have s3 : SeqAt.shaped (.list [.int U]) = true := shaped_il [U]
    simp [evS, ev_v, ev_c, ev_g, ev_fn, ev_bin, ev_neg, ev_no, ev_cmp, ev_chain, ev_and, ev_or, ev_ite, ev_call, ev_kcall, ev_bi, ev_isi, ev_ix, ev_sl, ev_rev, ev_tup, ev_lst, ev_pop, ev_dk, ev_dle, ev_dpop, ev_dmk, evEach, evIt, evs, evF, ops, op1, op2, opA, tst, tsts, truD, Pv.load, look, S.at, S.put, mine, store, setO, appO, drO, mkO, sliceO, seqO, ofRo_ok, lcTurn, Out.calm, hideS, backS, ownFree, bind_ok, bind_bad, bind_exc, ow_ok, ow_bad, ow_exc, ofO, dsOf, lstD, tupD, binop, cmpop, deq, Pv.truthy, builtin, item, item.atI, slice, Pv.bound, Ex.gap, isTy, asInt, Option.map_some, Option.map_none, Option.bind_some, Option.bind_none, List.map_cons, List.map_nil, List.replicate, List.cons_append, List.nil_append, List.append_nil, List.getD_cons_zero, List.getD_cons_succ, List.getD_nil, List.set_cons_zero, List.set_cons_succ, List.set_nil, List.zip_cons_cons, List.zip_nil_left, List.zip_nil_right, List.foldl_cons, List.foldl_nil, List.length_cons, List.length_nil, List.any_cons, List.any_nil, List.all_cons, List.all_nil, if_true, if_false, ite_true, ite_false, Bool.false_eq_true, Bool.true_eq_false, Bool.or_false, Bool.or_true, Bool.and_true, Bool.and_false, Bool.true_and, Bool.false_and, Bool.not_true, Bool.not_false, decide_true, decide_false, Nat.reduceAdd, Nat.reduceSub, Nat.zero_add, reduceIte, reduceCtorEq, sz0, sz1, sz2, sz3, sz4, sz5, sz6, sz7, sz8, sz9, sz10, sz11, sz12, sz13, sz14, sz15, sz16, seqOf, ev_callv, ev_lcall, keep_d, capsOf, qo, e3, s3, shaped_nil, L2.atI, L2.ixN]
    exact ow_nil (gr _ _)
  · simp [evS, ev_v, ev_c, ev_g, ev_fn, ev_bin, ev_neg, ev_no, ev_cmp, ev_chain, ev_and, ev_or, ev_ite, ev_call, ev_kcall, ev_bi, ev_isi, ev_ix, ev_sl, ev_rev, ev_tup, ev_lst, ev_pop, ev_dk, ev_dle, ev_dpop, ev_dmk, evEach, evIt, evs, evF, ops, op1, op2, opA, tst, tsts, truD, Pv.load, look, S.at, S.put, mine, store, setO, appO, drO, mkO, sliceO, seqO, ofRo_ok, lcTurn, Out.calm, hideS, backS, ownFree, bind_ok, bind_bad, bind_exc, ow_ok, ow_bad, ow_exc, ofO, dsOf, lstD, tupD, binop, cmpop, deq, Pv.truthy, builtin, item, item.atI, slice, Pv.bound, Ex.gap, isTy, asInt, Option.map_some, Option.map_none, Option.bind_some, Option.bind_none, List.map_cons, List.map_nil, List.replicate, List.cons_append, List.nil_append, List.append_nil, List.getD_cons_zero, List.getD_cons_succ, List.getD_nil, List.set_cons_zero, List.set_cons_succ, List.set_nil, List.zip_cons_cons, List.zip_nil_left, List.zip_nil_right, List.foldl_cons, List.foldl_nil, List.length_cons, List.length_nil, List.any_cons, List.any_nil, List.all_cons, List.all_nil, if_true, if_false, ite_true, ite_false, Bool.false_eq_true, Bool.true_eq_false, Bool.or_false, Bool.or_true, Bool.and_true, Bool.and_false, Bool.true_and, Bool.false_and, Bool.not_true, Bool.not_false, decide_true, decide_false, Nat.reduceAdd, Nat.reduceSub, Nat.zero_add, reduceIte, reduceCtorEq, sz0, sz1, sz2, sz3, sz4, sz5, sz6, sz7, sz8, sz9, sz10, sz11, sz12, sz13, sz14, sz15, sz16, seqOf, ev_callv, ev_lcall, keep_d, capsOf, e2, cut1]
    refine ow_cons ?_
    simp [evS, ev_v, ev_c, ev_g, ev_fn, ev_bin, ev_neg, ev_no, ev_cmp, ev_chain, ev_and, ev_or, ev_ite, ev_call, ev_kcall, ev_bi, ev_isi, ev_ix, ev_sl, ev_rev, ev_tup, ev_lst, ev_pop, ev_dk, ev_dle, ev_dpop, ev_dmk, evEach, evIt, evs, evF, ops, op1, op2, opA, tst, tsts, truD, Pv.load, look, S.at, S.put, mine, store, setO, appO, drO, mkO, sliceO, seqO, ofRo_ok, lcTurn, Out.calm, hideS, backS, ownFree, bind_ok, bind_bad, bind_exc, ow_ok, ow_bad, ow_exc, ofO, dsOf, lstD, tupD, binop, cmpop, deq, Pv.truthy, builtin, item, item.atI, slice, Pv.bound, Ex.gap, isTy, asInt, Option.map_some, Option.map_none, Option.bind_some, Option.bind_none, List.map_cons, List.map_nil, List.replicate, List.cons_append, List.nil_append, List.append_nil, List.getD_cons_zero, List.getD_cons_succ, List.getD_nil, List.set_cons_zero, List.set_cons_succ, List.set_nil, List.zip_cons_cons, List.zip_nil_left, List.zip_nil_right, List.foldl_cons, List.foldl_nil, List.length_cons, List.length_nil, List.any_cons, List.any_nil, List.all_cons, List.all_nil, if_true, if_false, ite_true, ite_false, Bool.false_eq_true, Bool.true_eq_false, Bool.or_false, Bool.or_true, Bool.and_true, Bool.and_false, Bool.true_and, Bool.false_and, Bool.not_true, Bool.not_false, decide_true, decide_false, Nat.reduceAdd, Nat.reduceSub, Nat.zero_add, reduceIte, reduceCtorEq, sz0, sz1, sz2, sz3, sz4, sz5, sz6, sz7, sz8, sz9, sz10, sz11, sz12, sz13, sz14, sz15, sz16, seqOf, ev_callv, ev_lcall, keep_d, capsOf, qb]
    refine ow_cons (ow_ifs ?_)
    have e3 : PyData.eqv (.list []) (.list []) = true := rfl
    have hu' : ¬ U < 600 := by omega
    simp [evS, ev_v, ev_c, ev_g, ev_fn, ev_bin, ev_neg, ev_no, ev_cmp, ev_chain, ev_and, ev_or, ev_ite, ev_call, ev_kcall, ev_bi, ev_isi, ev_ix, ev_sl, ev_rev, ev_tup, ev_lst, ev_pop, ev_dk, ev_dle, ev_dpop, ev_dmk, evEach, evIt, evs, evF, ops, op1, op2, opA, tst, tsts, truD, Pv.load, look, S.at, S.put, mine, store, setO, appO, drO, mkO, sliceO, seqO, ofRo_ok, lcTurn, Out.calm, hideS, backS, ownFree, bind_ok, bind_bad, bind_exc, ow_ok, ow_bad, ow_exc, ofO, dsOf, lstD, tupD, binop, cmpop, deq, Pv.truthy, builtin, item, item.atI, slice, Pv.bound, Ex.gap, isTy, asInt, Option.map_some, Option.map_none, Option.bind_some, Option.bind_none, List.map_cons, List.map_nil, List.replicate, List.cons_append, List.nil_append, List.append_nil, List.getD_cons_zero, List.getD_cons_succ, List.getD_nil, List.set_cons_zero, List.set_cons_succ, List.set_nil, List.zip_cons_cons, List.zip_nil_left, List.zip_nil_right, List.foldl_cons, List.foldl_nil, List.length_cons, List.length_nil, List.any_cons, List.any_nil, List.all_cons, List.all_nil, if_true, if_false, ite_true, ite_false, Bool.false_eq_true, Bool.true_eq_false, Bool.or_false, Bool.or_true, Bool.and_true, Bool.and_false, Bool.true_and, Bool.false_and, Bool.not_true, Bool.not_false, decide_true, decide_false, Nat.reduceAdd, Nat.reduceSub, Nat.zero_add, reduceIte, reduceCtorEq, sz0, sz1, sz2, sz3, sz4, sz5, sz6, sz7, sz8, sz9, sz10, sz11, sz12, sz13, sz14, sz15, sz16, seqOf, ev_callv, ev_lcall, keep_d, capsOf, qo, e3, shaped_nil, hu']
    exact ow_nil (gr _ _)
theorem run_law (ns : List Int) (hl : ns.length ≤ 63) : Rw (run G T (k + 10) 31 [.d (.list (ns.map PyData.int))] none) fun a fr dr => a = .d (.bool true) ∧ fr = false := by
  rw [run_fn' (f := 31) (np := 1) (nn := 13) rfl rfl]
  refine rw_ret (ow_mono (Q := Ql) ?_ fun f s h => by cases f <;> first | exact h.elim | exact h)
  refine ow_cons ?_
  simp [evS, ev_v, ev_c, ev_g, ev_fn, ev_bin, ev_neg, ev_no, ev_cmp, ev_chain, ev_and, ev_or, ev_ite, ev_call, ev_kcall, ev_bi, ev_isi, ev_ix, ev_sl, ev_rev, ev_tup, ev_lst, ev_pop, ev_dk, ev_dle, ev_dpop, ev_dmk, evEach, evIt, evs, evF, ops, op1, op2, opA, tst, tsts, truD, Pv.load, look, S.at, S.put, mine, store, setO, appO, drO, mkO, sliceO, seqO, ofRo_ok, lcTurn, Out.calm, hideS, backS, ownFree, bind_ok, bind_bad, bind_exc, ow_ok, ow_bad, ow_exc, ofO, dsOf, lstD, tupD, binop, cmpop, deq, Pv.truthy, builtin, item, item.atI, slice, Pv.bound, Ex.gap, isTy, asInt, Option.map_some, Option.map_none, Option.bind_some, Option.bind_none, List.map_cons, List.map_nil, List.replicate, List.cons_append, List.nil_append, List.append_nil, List.getD_cons_zero, List.getD_cons_succ, List.getD_nil, List.set_cons_zero, List.set_cons_succ, List.set_nil, List.zip_cons_cons, List.zip_nil_left, List.zip_nil_right, List.foldl_cons, List.foldl_nil, List.length_cons, List.length_nil, List.any_cons, List.any_nil, List.all_cons, List.all_nil, if_true, if_false, ite_true, ite_false, Bool.false_eq_true, Bool.true_eq_false, Bool.or_false, Bool.or_true, Bool.and_true, Bool.and_false, Bool.true_and, Bool.false_and, Bool.not_true, Bool.not_false, decide_true, decide_false, Nat.reduceAdd, Nat.reduceSub, Nat.zero_add, reduceIte, reduceCtorEq, sz0, sz1, sz2, sz3, sz4, sz5, sz6, sz7, sz8, sz9, sz10, sz11, sz12, sz13, sz14, sz15, sz16, seqOf, ev_callv, ev_lcall, keep_d, capsOf, ow_bind]
  refine ow_call0 (run_begun (k + 8) ns hl) ?_
  rintro a fr dr ⟨rfl, rfl, hd⟩
  obtain ⟨st, rfl⟩ := Option.isSome_iff_exists.mp hd
  simp [evS, ev_v, ev_c, ev_g, ev_fn, ev_bin, ev_neg, ev_no, ev_cmp, ev_chain, ev_and, ev_or, ev_ite, ev_call, ev_kcall, ev_bi, ev_isi, ev_ix, ev_sl, ev_rev, ev_tup, ev_lst, ev_pop, ev_dk, ev_dle, ev_dpop, ev_dmk, evEach, evIt, evs, evF, ops, op1, op2, opA, tst, tsts, truD, Pv.load, look, S.at, S.put, mine, store, setO, appO, drO, mkO, sliceO, seqO, ofRo_ok, lcTurn, Out.calm, hideS, backS, ownFree, bind_ok, bind_bad, bind_exc, ow_ok, ow_bad, ow_exc, ofO, dsOf, lstD, tupD, binop, cmpop, deq, Pv.truthy, builtin, item, item.atI, slice, Pv.bound, Ex.gap, isTy, asInt, Option.map_some, Option.map_none, Option.bind_some, Option.bind_none, List.map_cons, List.map_nil, List.replicate, List.cons_append, List.nil_append, List.append_nil, List.getD_cons_zero, List.getD_cons_succ, List.getD_nil, List.set_cons_zero, List.set_cons_succ, List.set_nil, List.zip_cons_cons, List.zip_nil_left, List.zip_nil_right, List.foldl_cons, List.foldl_nil, List.length_cons, List.length_nil, List.any_cons, List.any_nil, List.all_cons, List.all_nil, if_true, if_false, ite_true, ite_false, Bool.false_eq_true, Bool.true_eq_false, Bool.or_false, Bool.or_true, Bool.and_true, Bool.and_false, Bool.true_and, Bool.false_and, Bool.not_true, Bool.not_false, decide_true, decide_false, Nat.reduceAdd, Nat.reduceSub, Nat.zero_add, reduceIte, reduceCtorEq, sz0, sz1, sz2, sz3, sz4, sz5, sz6, sz7, sz8, sz9, sz10, sz11, sz12, sz13, sz14, sz15, sz16, seqOf, ev_callv, ev_lcall, keep_d, capsOf]
  refine ow_cons ?_
  refine ow_each (IQ (.list (ns.map PyData.int))) ?_ ?_ ?_
  · have hr : rngOk (3 + (if (3 : Int) < (ns.length : Int) then 3 else (ns.length : Int))) = true := by
      unfold rngOk
      split <;> simp <;> omega
    simp [evS, ev_v, ev_c, ev_g, ev_fn, ev_bin, ev_neg, ev_no, ev_cmp, ev_chain, ev_and, ev_or, ev_ite, ev_call, ev_kcall, ev_bi, ev_isi, ev_ix, ev_sl, ev_rev, ev_tup, ev_lst, ev_pop, ev_dk, ev_dle, ev_dpop, ev_dmk, evEach, evIt, evs, evF, ops, op1, op2, opA, tst, tsts, truD, Pv.load, look, S.at, S.put, mine, store, setO, appO, drO, mkO, sliceO, seqO, ofRo_ok, lcTurn, Out.calm, hideS, backS, ownFree, bind_ok, bind_bad, bind_exc, ow_ok, ow_bad, ow_exc, ofO, dsOf, lstD, tupD, binop, cmpop, deq, Pv.truthy, builtin, item, item.atI, slice, Pv.bound, Ex.gap, isTy, asInt, Option.map_some, Option.map_none, Option.bind_some, Option.bind_none, List.map_cons, List.map_nil, List.replicate, List.cons_append, List.nil_append, List.append_nil, List.getD_cons_zero, List.getD_cons_succ, List.getD_nil, List.set_cons_zero, List.set_cons_succ, List.set_nil, List.zip_cons_cons, List.zip_nil_left, List.zip_nil_right, List.foldl_cons, List.foldl_nil, List.length_cons, List.length_nil, List.any_cons, List.any_nil, List.all_cons, List.all_nil, if_true, if_false, ite_true, ite_false, Bool.false_eq_true, Bool.true_eq_false, Bool.or_false, Bool.or_true, Bool.and_true, Bool.and_false, Bool.true_and, Bool.false_and, Bool.not_true, Bool.not_false, decide_true, decide_false, Nat.reduceAdd, Nat.reduceSub, Nat.zero_add, reduceIte, reduceCtorEq, sz0, sz1, sz2, sz3, sz4, sz5, sz6, sz7, sz8, sz9, sz10, sz11, sz12, sz13, sz14, sz15, sz16, seqOf, ev_callv, ev_lcall, keep_d, capsOf, hr]
    exact .mk _ _ _ _ _ _ _ _ _ _ _ rfl
  · rintro x rr s ⟨st, x2, x3, x4, x5, x6, x7, x8, x9, x10, x11, rfl⟩
    simp only [evS, ev_v, ev_c, ev_g, ev_fn, ev_bin, ev_neg, ev_no, ev_cmp, ev_chain, ev_and, ev_or, ev_ite, ev_call, ev_kcall, ev_bi, ev_isi, ev_ix, ev_sl, ev_rev, ev_tup, ev_lst, ev_pop, ev_dk, ev_dle, ev_dpop, ev_dmk, evEach, evIt, evs, evF, ops, op1, op2, opA, tst, tsts, truD, Pv.load, look, S.at, S.put, mine, store, setO, appO, drO, mkO, sliceO, seqO, ofRo_ok, lcTurn, Out.calm, hideS, backS, ownFree, bind_ok, bind_bad, bind_exc, ow_ok, ow_bad, ow_exc, ofO, dsOf, lstD, tupD, binop, cmpop, deq, Pv.truthy, builtin, item, item.atI, slice, Pv.bound, Ex.gap, isTy, asInt, Option.map_some, Option.map_none, Option.bind_some, Option.bind_none, List.map_cons, List.map_nil, List.replicate, List.cons_append, List.nil_append, List.append_nil, List.getD_cons_zero, List.getD_cons_succ, List.getD_nil, List.set_cons_zero, List.set_cons_succ, List.set_nil, List.zip_cons_cons, List.zip_nil_left, List.zip_nil_right, List.foldl_cons, List.foldl_nil, List.length_cons, List.length_nil, List.any_cons, List.any_nil, List.all_cons, List.all_nil, if_true, if_false, ite_true, ite_false, Bool.false_eq_true, Bool.true_eq_false, Bool.or_false, Bool.or_true, Bool.and_true, Bool.and_false, Bool.true_and, Bool.false_and, Bool.not_true, Bool.not_false, decide_true, decide_false, Nat.reduceAdd, Nat.reduceSub, Nat.zero_add, reduceIte, reduceCtorEq, sz0, sz1, sz2, sz3, sz4, sz5, sz6, sz7, sz8, sz9, sz10, sz11, sz12, sz13, sz14, sz15, sz16, seqOf, ev_callv, ev_lcall, keep_d, capsOf]
    refine ow_mono (lap k _ _ x3 x4 x5 x6 x7 x8 x9 x10 x11 st) ?_
    rintro f s ⟨rfl, ⟨st, x2, x3, x4, x5, x6, x7, x8, x9, x10, x11, rfl⟩⟩
    exact .mk _ _ _ _ _ _ _ _ _ _ _ rfl
  · rintro s ⟨st, x2, x3, x4, x5, x6, x7, x8, x9, x10, x11, rfl⟩
    refine ow_cons ?_
    simp [evS, ev_v, ev_c, ev_g, ev_fn, ev_bin, ev_neg, ev_no, ev_cmp, ev_chain, ev_and, ev_or, ev_ite, ev_call, ev_kcall, ev_bi, ev_isi, ev_ix, ev_sl, ev_rev, ev_tup, ev_lst, ev_pop, ev_dk, ev_dle, ev_dpop, ev_dmk, evEach, evIt, evs, evF, ops, op1, op2, opA, tst, tsts, truD, Pv.load, look, S.at, S.put, mine, store, setO, appO, drO, mkO, sliceO, seqO, ofRo_ok, lcTurn, Out.calm, hideS, backS, ownFree, bind_ok, bind_bad, bind_exc, ow_ok, ow_bad, ow_exc, ofO, dsOf, lstD, tupD, binop, cmpop, deq, Pv.truthy, builtin, item, item.atI, slice, Pv.bound, Ex.gap, isTy, asInt, Option.map_some, Option.map_none, Option.bind_some, Option.bind_none, List.map_cons, List.map_nil, List.replicate, List.cons_append, List.nil_append, List.append_nil, List.getD_cons_zero, List.getD_cons_succ, List.getD_nil, List.set_cons_zero, List.set_cons_succ, List.set_nil, List.zip_cons_cons, List.zip_nil_left, List.zip_nil_right, List.foldl_cons, List.foldl_nil, List.length_cons, List.length_nil, List.any_cons, List.any_nil, List.all_cons, List.all_nil, if_true, if_false, ite_true, ite_false, Bool.false_eq_true, Bool.true_eq_false, Bool.or_false, Bool.or_true, Bool.and_true, Bool.and_false, Bool.true_and, Bool.false_and, Bool.not_true, Bool.not_false, decide_true, decide_false, Nat.reduceAdd, Nat.reduceSub, Nat.zero_add, reduceIte, reduceCtorEq, sz0, sz1, sz2, sz3, sz4, sz5, sz6, sz7, sz8, sz9, sz10, sz11, sz12, sz13, sz14, sz15, sz16, seqOf, ev_callv, ev_lcall, keep_d, capsOf, Ql]
end
def deep : Nat := 40
theorem law_true (ns : List Int) (hl : ns.length ≤ 63) : ∃ dr, run G T deep 31 [.d (.list (ns.map PyData.int))] none = .ok (.d (.bool true)) false dr := by
  obtain ⟨a, fr, dr, e, rfl, rfl⟩ := rw_eq (run_law 30 ns hl)
  exact ⟨dr, e⟩
end K85
set_option maxHeartbeats 200000
namespace K85
open PySem PySem.W PyProof.Rows Pv L2
def stAt (i : Nat) : Stmt := PySem.Challenge.pw_whichwidths_k85_whole_signed_division.main.body.getD i (.Pass ⟨0, 0, 0, 0⟩)
def M : Nm := ⟨fnames, gnames, enames, [(13, 3, ["drop"], [0, 1, 2, 3]), (14, 0, ["width", "divisor"], [0, 1]), (11, 1, ["many", "drop"], [0, 1, 2])]⟩
def r_0 : Row := ⟨"power", ["many"], ["many"], stAt 1, d_power, false⟩
theorem o_0 : okRow M T r_0 = true := by decide +kernel
def r_1 : Row := ⟨"is_number", ["thing"], ["thing"], stAt 3, d_is_number, false⟩
theorem o_1 : okRow M T r_1 = true := by decide +kernel
def r_2 : Row := ⟨"is_from_to", ["thing", "least", "most"], ["thing", "least", "most"], stAt 4, d_is_from_to, false⟩
theorem o_2 : okRow M T r_2 = true := by decide +kernel
def r_3 : Row := ⟨"need_width", ["width"], ["width"], stAt 11, d_need_width, false⟩
theorem o_3 : okRow M T r_3 = true := by decide +kernel
def r_4 : Row := ⟨"need_number", ["thing", "least", "most"], ["thing", "least", "most"], stAt 15, d_need_number, false⟩
theorem o_4 : okRow M T r_4 = true := by decide +kernel
def r_5 : Row := ⟨"need_divisor", ["divisor"], ["divisor"], stAt 16, d_need_divisor, false⟩
theorem o_5 : okRow M T r_5 = true := by decide +kernel
def r_6 : Row := ⟨"need_three", ["divisor", "many", "drop"], ["divisor", "many", "drop"], stAt 17, d_need_three, false⟩
theorem o_6 : okRow M T r_6 = true := by decide +kernel
def r_7 : Row := ⟨"divided_up", ["one", "other"], ["one", "other"], stAt 18, d_divided_up, false⟩
theorem o_7 : okRow M T r_7 = true := by decide +kernel
def r_8 : Row := ⟨"unlike_in", ["divisor", "many", "drop"], ["divisor", "many", "drop", "over", "least"], stAt 19, d_unlike_in, false⟩
theorem o_8 : okRow M T r_8 = true := by decide +kernel
def r_9 : Row := ⟨"first_unlike", ["divisor", "many", "drop"], ["divisor", "many", "drop"], stAt 20, d_first_unlike, false⟩
theorem o_9 : okRow M T r_9 = true := by decide +kernel
def r_10 : Row := ⟨"unlike_below", ["divisor", "many", "drop"], ["divisor", "many", "drop", "over", "least"], stAt 22, d_unlike_below, false⟩
theorem o_10 : okRow M T r_10 = true := by decide +kernel
def r_11 : Row := ⟨"first_unlike_below", ["divisor", "many", "drop"], ["divisor", "many", "drop"], stAt 23, d_first_unlike_below, false⟩
theorem o_11 : okRow M T r_11 = true := by decide +kernel
def r_12 : Row := ⟨"does_signed", ["width", "divisor", "many", "drop"], ["width", "divisor", "many", "drop", "found", "half"], stAt 24, d_does_signed, false⟩
theorem o_12 : okRow M T r_12 = true := by decide +kernel
def r_13 : Row := ⟨"is_signed_multiplier", ["width", "divisor", "many", "drop"], ["width", "divisor", "many", "drop"], stAt 25, d_is_signed_multiplier, false⟩
theorem o_13 : okRow M T r_13 = true := by decide +kernel
def r_14 : Row := ⟨"signed_multiplier", ["width", "divisor"], ["width", "divisor", "drop"], stAt 26, d_signed_multiplier, false⟩
theorem o_14 : okRow M T r_14 = true := by decide +kernel
def r_15 : Row := ⟨"_law_says", ["told_here", "due"], ["told_here", "due"], stAt 28, d_law_says, false⟩
theorem o_15 : okRow M T r_15 = true := by decide +kernel
def r_16 : Row := ⟨"_law_divisor", ["draw"], ["draw", "way", "bits"], stAt 29, d_law_divisor, false⟩
theorem o_16 : okRow M T r_16 = true := by decide +kernel
def r_17 : Row := ⟨"_law_wide", ["draw"], ["draw"], stAt 30, d_law_wide, false⟩
theorem o_17 : okRow M T r_17 = true := by decide +kernel
def r_18 : Row := ⟨"_law_halved", ["low", "high", "is_on"], ["low", "high", "is_on", "middle"], stAt 31, d_law_halved, false⟩
theorem o_18 : okRow M T r_18 = true := by decide +kernel
def r_19 : Row := ⟨"_law_wrong", ["divisor", "many", "drop", "number"], ["divisor", "many", "drop", "number"], stAt 32, d_law_wrong, false⟩
theorem o_19 : okRow M T r_19 = true := by decide +kernel
def r_20 : Row := ⟨"_law_first_wrong", ["divisor", "many", "drop"], ["divisor", "many", "drop", "over", "high", "turns", "top"], stAt 33, d_law_first_wrong, true⟩
theorem o_20 : okRow M T r_20 = true := by decide +kernel
def r_21 : Row := ⟨"_law_bit_length", ["number"], ["number", "found"], stAt 34, d_law_bit_length, false⟩
theorem o_21 : okRow M T r_21 = true := by decide +kernel
def r_22 : Row := ⟨"_law_begun", ["script"], ["script", "large", "cell"], stAt 35, d_law_begun, false⟩
theorem o_22 : okRow M T r_22 = true := by decide +kernel
def r_23 : Row := ⟨"_law_mixed", ["draw"], ["draw", "great", "turn", "found", "blend", "cell"], stAt 36, d_law_mixed, false⟩
theorem o_23 : okRow M T r_23 = true := by decide +kernel
def r_24 : Row := ⟨"_law_take", ["draw", "amount"], ["draw", "amount", "found"], stAt 37, d_law_take, false⟩
theorem o_24 : okRow M T r_24 = true := by decide +kernel
def r_25 : Row := ⟨"_law_pick", ["draw", "some"], ["draw", "some"], stAt 38, d_law_pick, false⟩
theorem o_25 : okRow M T r_25 = true := by decide +kernel
def r_26 : Row := ⟨"_law_off", ["divisor", "many", "drop", "number"], ["divisor", "many", "drop", "number"], stAt 39, d_law_off, false⟩
theorem o_26 : okRow M T r_26 = true := by decide +kernel
def r_27 : Row := ⟨"_law_first_off", ["divisor", "many", "drop"], ["divisor", "many", "drop", "over", "high", "turn"], stAt 40, d_law_first_off, true⟩
theorem o_27 : okRow M T r_27 = true := by decide +kernel
def r_28 : Row := ⟨"_law_signed_does", ["width", "divisor", "many", "drop"], ["width", "divisor", "many", "drop", "up", "down"], stAt 41, d_law_signed_does, false⟩
theorem o_28 : okRow M T r_28 = true := by decide +kernel
def r_29 : Row := ⟨"_law_small_right", ["draw"], ["draw", "width", "drop", "divisor", "due", "many", "bad", "number"], stAt 42, d_law_small_right, false⟩
theorem o_29 : okRow M T r_29 = true := by decide +kernel
def r_30 : Row := ⟨"_law_great_right", ["draw"], ["draw", "some", "width", "divisor", "many", "drop", "near", "one", "less", "more"], stAt 43, d_law_great_right, false⟩
theorem o_30 : okRow M T r_30 = true := by decide +kernel
def r_31 : Row := ⟨"law", ["script"], ["script", "draw", "turn", "many", "tried", "told", "width", "divisor", "drop", "up", "down", "due", "number"], stAt 44, d_law, false⟩
theorem o_31 : okRow M T r_31 = true := by decide +kernel
def rows : List Row := [r_0, r_1, r_2, r_3, r_4, r_5, r_6, r_7, r_8, r_9, r_10, r_11, r_12, r_13, r_14, r_15, r_16, r_17, r_18, r_19, r_20, r_21, r_22, r_23, r_24, r_25, r_26, r_27, r_28, r_29, r_30, r_31]
theorem rows_T : rows.map (·.df) ++ lams = T := rfl
theorem rows_ok : ∀ r ∈ rows, okRow M (rows.map (·.df) ++ lams) r = true := by
  rw [rows_T]
  simp only [rows, List.forall_mem_cons]
  exact ⟨o_0, o_1, o_2, o_3, o_4, o_5, o_6, o_7, o_8, o_9, o_10, o_11, o_12, o_13, o_14, o_15, o_16, o_17, o_18, o_19, o_20, o_21, o_22, o_23, o_24, o_25, o_26, o_27, o_28, o_29, o_30, o_31, fun _ h => nomatch h⟩
def mks : List Str := ["_law_first_wrong", "_law_first_off"]
theorem rows_mk : ∀ r ∈ rows, r.lam = true → r.nm ∈ mks := by decide +kernel
theorem w_0 : KwOk r_13 (13, 3, ["drop"], [0, 1, 2, 3]) := fun _ _ _ _ _ _ us ws h h2 => match us, ws, h, h2 with | [_, _, _], [_], _, _ => ⟨[_, _, _, _], rfl, rfl, rfl⟩
theorem w_1 : KwOk r_14 (14, 0, ["width", "divisor"], [0, 1]) := fun _ _ _ _ _ _ us ws h h2 => match us, ws, h, h2 with | [], [_, _], _, _ => ⟨[_, _], rfl, rfl, rfl⟩
theorem w_2 : KwOk r_11 (11, 1, ["many", "drop"], [0, 1, 2]) := fun _ _ _ _ _ _ us ws h h2 => match us, ws, h, h2 with | [_], [_, _], _, _ => ⟨[_, _, _], rfl, rfl, rfl⟩
theorem kws_ok : ∀ p ∈ M.kws, ∀ r, rows[p.1]? = some r → KwOk r p := by
  simp only [M, List.forall_mem_cons]
  exact ⟨fun r h => (Option.some.inj h) ▸ w_0, fun r h => (Option.some.inj h) ▸ w_1, fun r h => (Option.some.inj h) ▸ w_2, fun _ h => nomatch h⟩
end K85
open PySem PySem.W PyProof.Rows
set_option maxHeartbeats 0 in
theorem PySem.Challenge.cw_whichwidths_k85_whole_signed_division_holds : PySem.Challenge.rw_whichwidths_k85_whole_signed_division.Holds := by
  w_on; o_law; k_head; (case hw => w_witness2)
  k_fill
  refine Pv.row_end (l := PySem.Challenge.rw_whichwidths_k85_whole_signed_division) (m := 63) (deep := K85.deep) (fl := 31) (M := K85.M) (G := K85.G) (rows := K85.rows) (lams := K85.lams) (mks := K85.mks) (x := "script") rfl (by decide) rfl ⟨rfl, by decide, by decide⟩ (fun w h Y => PySem.W.km_in_of Y) rfl ?hRec ?hTab ?hMk ?hMo K85.law_true
  case hRec => kernel_rfl
  case hTab => exact .inr fun w => by kernel_rfl
  case hMk =>
    intro w
    refine' ⟨_, .cons ?k0 (.cons ?k1 (.nil)), ?n⟩
    (case k0 => refine' Pv.tab_at ?a ?b ?c ?d ?e; (case a => k_is); (case b => k_is); (case c => exact rfl); (case d => k_is); (case e => exact rfl))
    (case k1 => refine' Pv.tab_at ?a ?b ?c ?d ?e; (case a => k_is); (case b => k_is); (case c => exact rfl); (case d => k_is); (case e => exact rfl))
    case n => decide
  intro w mg h base hx kin nsp tb mkl
  refine Pv.mo_of kin nsp rfl ?D K85.rows_ok K85.kws_ok ?E ?B ?G K85.rows_mk mkl tb
  case D =>
    simp only [K85.rows, List.forall_mem_cons]
    refine ⟨?d0, ?d1, ?d2, ?d3, ?d4, ?d5, ?d6, ?d7, ?d8, ?d9, ?d10, ?d11, ?d12, ?d13, ?d14, ?d15, ?d16, ?d17, ?d18, ?d19, ?d20, ?d21, ?d22, ?d23, ?d24, ?d25, ?d26, ?d27, ?d28, ?d29, ?d30, ?d31, fun _ h => nomatch h⟩
    (case d0 => refine' Pv.def_at ?a ?b ?c ?d; (case a => k_is); (case b => k_is); (case c => k_is); (case d => k_is))
    (case d1 => refine' Pv.def_at ?a ?b ?c ?d; (case a => k_is); (case b => k_is); (case c => k_is); (case d => k_is))
    (case d2 => refine' Pv.def_at ?a ?b ?c ?d; (case a => k_is); (case b => k_is); (case c => k_is); (case d => k_is))
    (case d3 => refine' Pv.def_at ?a ?b ?c ?d; (case a => k_is); (case b => k_is); (case c => k_is); (case d => k_is))
    (case d4 => refine' Pv.def_at ?a ?b ?c ?d; (case a => k_is); (case b => k_is); (case c => k_is); (case d => k_is))
    (case d5 => refine' Pv.def_at ?a ?b ?c ?d; (case a => k_is); (case b => k_is); (case c => k_is); (case d => k_is))
    (case d6 => refine' Pv.def_at ?a ?b ?c ?d; (case a => k_is); (case b => k_is); (case c => k_is); (case d => k_is))
    (case d7 => refine' Pv.def_at ?a ?b ?c ?d; (case a => k_is); (case b => k_is); (case c => k_is); (case d => k_is))
    (case d8 => refine' Pv.def_at ?a ?b ?c ?d; (case a => k_is); (case b => k_is); (case c => k_is); (case d => k_is))
    (case d9 => refine' Pv.def_at ?a ?b ?c ?d; (case a => k_is); (case b => k_is); (case c => k_is); (case d => k_is))
    (case d10 => refine' Pv.def_at ?a ?b ?c ?d; (case a => k_is); (case b => k_is); (case c => k_is); (case d => k_is))
    (case d11 => refine' Pv.def_at ?a ?b ?c ?d; (case a => k_is); (case b => k_is); (case c => k_is); (case d => k_is))
    (case d12 => refine' Pv.def_at ?a ?b ?c ?d; (case a => k_is); (case b => k_is); (case c => k_is); (case d => k_is))
    (case d13 => refine' Pv.def_at ?a ?b ?c ?d; (case a => k_is); (case b => k_is); (case c => k_is); (case d => k_is))
    (case d14 => refine' Pv.def_at ?a ?b ?c ?d; (case a => k_is); (case b => k_is); (case c => k_is); (case d => k_is))
    (case d15 => refine' Pv.def_at ?a ?b ?c ?d; (case a => k_is); (case b => k_is); (case c => k_is); (case d => k_is))
    (case d16 => refine' Pv.def_at ?a ?b ?c ?d; (case a => k_is); (case b => k_is); (case c => k_is); (case d => k_is))
    (case d17 => refine' Pv.def_at ?a ?b ?c ?d; (case a => k_is); (case b => k_is); (case c => k_is); (case d => k_is))
    (case d18 => refine' Pv.def_at ?a ?b ?c ?d; (case a => k_is); (case b => k_is); (case c => k_is); (case d => k_is))
    (case d19 => refine' Pv.def_at ?a ?b ?c ?d; (case a => k_is); (case b => k_is); (case c => k_is); (case d => k_is))
    (case d20 => refine' Pv.def_at ?a ?b ?c ?d; (case a => k_is); (case b => k_is); (case c => k_is); (case d => k_is))
    (case d21 => refine' Pv.def_at ?a ?b ?c ?d; (case a => k_is); (case b => k_is); (case c => k_is); (case d => k_is))
    (case d22 => refine' Pv.def_at ?a ?b ?c ?d; (case a => k_is); (case b => k_is); (case c => k_is); (case d => k_is))
    (case d23 => refine' Pv.def_at ?a ?b ?c ?d; (case a => k_is); (case b => k_is); (case c => k_is); (case d => k_is))
    (case d24 => refine' Pv.def_at ?a ?b ?c ?d; (case a => k_is); (case b => k_is); (case c => k_is); (case d => k_is))
    (case d25 => refine' Pv.def_at ?a ?b ?c ?d; (case a => k_is); (case b => k_is); (case c => k_is); (case d => k_is))
    (case d26 => refine' Pv.def_at ?a ?b ?c ?d; (case a => k_is); (case b => k_is); (case c => k_is); (case d => k_is))
    (case d27 => refine' Pv.def_at ?a ?b ?c ?d; (case a => k_is); (case b => k_is); (case c => k_is); (case d => k_is))
    (case d28 => refine' Pv.def_at ?a ?b ?c ?d; (case a => k_is); (case b => k_is); (case c => k_is); (case d => k_is))
    (case d29 => refine' Pv.def_at ?a ?b ?c ?d; (case a => k_is); (case b => k_is); (case c => k_is); (case d => k_is))
    (case d30 => refine' Pv.def_at ?a ?b ?c ?d; (case a => k_is); (case b => k_is); (case c => k_is); (case d => k_is))
    (case d31 => refine' Pv.def_at ?a ?b ?c ?d; (case a => k_is); (case b => k_is); (case c => k_is); (case d => k_is))
  case E =>
    simp only [K85.M, K85.enames, List.forall_mem_cons]
    refine ⟨?e0, ?e1, ?e2, fun _ h => nomatch h⟩
    (case e0 => refine' Pv.err_at ?a ?b ?c ?d ?e; (case a => k_is); (case b => k_exc); (case c => k_is); (case d => k_is); (case e => k_is))
    (case e1 => refine' Pv.err_at ?a ?b ?c ?d ?e; (case a => k_is); (case b => k_exc); (case c => k_is); (case d => k_is); (case e => k_is))
    (case e2 => refine' Pv.err_at ?a ?b ?c ?d ?e; (case a => k_is); (case b => k_exc); (case c => k_is); (case d => k_is); (case e => k_is))
  case B =>
    simp only [Pv.bnames, List.forall_mem_cons]
    refine ⟨?b0, ?b1, ?b2, ?b3, ?b4, ?b5, ?b6, ?b7, ?b8, ?b9, ?b10, ?b11, ?b12, ?b13, ?b14, ?b15, ?b16, ?b17, ?b18, fun _ h => nomatch h⟩
    (case b0 => k_is)
    (case b1 => k_is)
    (case b2 => k_is)
    (case b3 => k_is)
    (case b4 => k_is)
    (case b5 => k_is)
    (case b6 => k_is)
    (case b7 => k_is)
    (case b8 => k_is)
    (case b9 => k_is)
    (case b10 => k_is)
    (case b11 => k_is)
    (case b12 => k_is)
    (case b13 => k_is)
    (case b14 => k_is)
    (case b15 => k_is)
    (case b16 => k_is)
    (case b17 => k_is)
    (case b18 => k_is)
  case G =>
    intro i nm d h1 h2
    rcases i with _ | i
    · cases h1; cases h2
      refine' Pv.gc_int kin nsp ?a; (case a => k_is)
    rcases i with _ | i
    · cases h1; cases h2
      refine' Pv.gc_int kin nsp ?a; (case a => k_is)
    rcases i with _ | i
    · cases h1; cases h2
      refine' Pv.gc_int kin nsp ?a; (case a => k_is)
    · cases h1
