import PyProof.Rows.All
import Wide.All
import OpenK.AllK
import Wide.FinOn
import HandS.ForMost
import HandS.Wide
import HandS.Gcd
import HandS.TupAny
import HandS.IsInst
import HandS.Deep
import HandS.Conv
import HandS.Style
import HandS.EndBits
import PySem.Challenge.RW_lotdraws_k56_whole_ranges_that_fail
set_option Elab.async false
set_option linter.all false
set_option maxRecDepth 100000
/-! L3A: a small pure Python: terms, values, what they evaluate to. -/
namespace L3
open PySem

abbrev FV := PyData
abbrev LIM : Nat := 16777216

/-- a value in hand: frozen data, or a thing of one's own store that may change -/
inductive PV where
  | v (d : FV)
  | loc (l : Nat)
inductive OB where
  | lst (xs : List PV)
abbrev Sto := List (Option OB)
abbrev En := List (Option PV)
structure XV where
  cls : Str
  fs : List (Str × FV)
inductive Rs (α : Type) where
  | ok (a : α) (s : Sto)
  | ex (x : XV) (s : Sto)
  | no
def Rs.bnd {α β : Type} (r : Rs α) (k : α → Sto → Rs β) : Rs β := match r with
  | .ok a s => k a s
  | .ex x s => .ex x s
  | .no => .no
@[simp] theorem Rs.bnd_ok {α β : Type} (a : α) (s : Sto) (k : α → Sto → Rs β) : (Rs.ok a s).bnd k = k a s := rfl
@[simp] theorem Rs.bnd_no {α β : Type} (k : α → Sto → Rs β) : (Rs.no : Rs α).bnd k = .no := rfl
@[simp] theorem Rs.bnd_ex {α β : Type} (x : XV) (s : Sto) (k : α → Sto → Rs β) : (Rs.ex x s : Rs α).bnd k = .ex x s := rfl
def Rs.of {α : Type} (o : Option α) (s : Sto) : Rs α := match o with
  | some a => .ok a s
  | none => .no
@[simp] theorem Rs.of_some {α : Type} (a : α) (s : Sto) : Rs.of (some a) s = .ok a s := rfl
@[simp] theorem Rs.of_none {α : Type} (s : Sto) : (Rs.of none s : Rs α) = .no := rfl
/-- where nothing may be raised -/
def Rs.nx {α : Type} (r : Rs α) : Rs α := match r with
  | .ok a s => .ok a s
  | _ => .no
@[simp] theorem Rs.nx_ok {α : Type} (a : α) (s : Sto) : (Rs.ok a s).nx = .ok a s := rfl
@[simp] theorem Rs.nx_no {α : Type} : (Rs.no : Rs α).nx = .no := rfl
/-- how a statement ends -/
inductive Fl where
  | nx (e : En)
  | rt (p : PV)
  | bk (e : En)
  | ct (e : En)

/-- what is handed to a def and back: data, or the contents of a list that it may change -/
inductive OF where
  | lst (xs : List FV)
inductive AV where
  | v (d : FV)
  | o (b : OF)
inductive Out where
  | ret (r : AV) (os : List OF)
  | ex (x : XV) (os : List OF)
abbrev Fn := List AV → Option Out

/-! ### terms -/
inductive Bl where
  | len | abs | int | all | any | sum | tuple | list | divmod | gcd | max | min
  deriving DecidableEq
inductive Ty where
  | int | bool | str | tuple | list | dict
  deriving DecidableEq
mutual
inductive CE where
  | var (i : Nat)
  | lit (d : FV)
  | glo (x : Str) (d : FV)
  | bin (op : Operator) (a b : CE)
  | neg (a : CE)
  | no (a : CE)
  | cmp (op : CmpOp) (a b : CE)
  | chn (op op' : CmpOp) (a b c : CE)
  | and (as : CEs)
  | or (as : CEs)
  | ifx (c a b : CE)
  | tup (as : CEs)
  | lst (as : CEs)
  | mls (as : CEs)
  | ix (a i : CE)
  | sl (a : CE) (lo hi : CO)
  | fn (F : Fn) (x : Str) (as : CEs)
  | fnk (F : Fn) (x : Str) (np : Nat) (as : CEs) (ks : List Str) (bs : CEs) (perm : List Nat)
  | bl (b : Bl) (as : CEs)
  | lnl (as : CEs)
  | isi (a : CE) (T : Ty)
  | lc (t : CT) (it : CI) (c e : CE) (own : List Nat)
  | mlc (t : CT) (it : CI) (c e : CE) (own : List Nat)
  | fz (a : CE)
  | rgl (tp : Bool) (a : CE)
  | rgl2 (tp : Bool) (a b : CE)
inductive CO where
  | none
  | some (a : CE)
inductive CEs where
  | nil
  | cons (a : CE) (as : CEs)
/-- targets -/
inductive CT where
  | nm (i : Nat)
  | tp (ts : CTs)
  | sb (o i : CE)
inductive CTs where
  | nil
  | cons (t : CT) (ts : CTs)
/-- what is walked -/
inductive CI where
  | seq (a : CE)
  | rng1 (a : CE)
  | rng2 (a b : CE)
  | enm (a : CE)
end
mutual
inductive CS where
  | asg (t : CT) (e : CE)
  | asgs (ts : CTs) (as : CEs)
  | exp (e : CE)
  | app (i : Nat) (e : CE)
  | ife (c : CE) (a b : CB)
  | for_ (t : CT) (it : CI) (b : CB)
  | whl (c : CE) (b : CB)
  | ret (e : CE)
  | retN
  | brk
  | cnt
  | pas
  | nev
inductive CB where
  | nil
  | cons (s : CS) (b : CB)
end

def CTs.len : CTs → Nat
  | .nil => 0
  | .cons _ ts => ts.len + 1
/-! ### operations on data -/
def opAdd : FV → FV → Option FV
  | .int i, .int j => some (.int (i + j))
  | .str x, .str y => if x.length + y.length ≤ LIM then some (.str (x ++ y)) else none
  | .list xs, .list ys => if xs.length + ys.length ≤ LIM then some (.list (xs ++ ys)) else none
  | .tuple xs, .tuple ys => if xs.length + ys.length ≤ LIM then some (.tuple (xs ++ ys)) else none
  | _, _ => none
def opSub : FV → FV → Option FV
  | .int i, .int j => some (.int (i - j))
  | _, _ => none
def mulOk (i j : Int) : Bool := decide (i.natAbs.log2 + j.natAbs.log2 < 1000000)
def opMul : FV → FV → Option FV
  | .int i, .int j => if mulOk i j then some (.int (i * j)) else none
  | _, _ => none
def divOk (j : Int) : Bool := decide (j ≠ 0) && decide (j.natAbs.log2 < 9000)
def opDiv : FV → FV → Option FV
  | .int i, .int j => if divOk j then some (.int (i.fdiv j)) else none
  | _, _ => none
def opMod : FV → FV → Option FV
  | .int i, .int j => if j ≠ 0 then some (.int (i.fmod j)) else none
  | _, _ => none
def powOk (i j : Int) : Bool := decide (0 ≤ j) && decide (j ≤ 1000000) && decide (i.natAbs < 2 ^ 64)
def opPow : FV → FV → Option FV
  | .int i, .int j => if powOk i j then some (.int (i ^ j.toNat)) else none
  | _, _ => none
def bop : Operator → FV → FV → Option FV
  | .Add => opAdd
  | .Sub => opSub
  | .Mult => opMul
  | .FloorDiv => opDiv
  | .Mod => opMod
  | .Pow => opPow
  | _ => fun _ _ => none
def opNeg : FV → Option FV
  | .int i => some (.int (-i))
  | _ => none
def truth : FV → Option Bool
  | .bool b => some b
  | _ => none
def cpEq (a b : FV) : Option Bool := if SeqAt.shaped a && SeqAt.shaped b then some (PyData.eqv a b) else none
def cpNe (a b : FV) : Option Bool := if SeqAt.shaped a && SeqAt.shaped b then some (!PyData.eqv a b) else none
def cpI (f : Int → Int → Bool) : FV → FV → Option Bool
  | .int i, .int j => some (f i j)
  | _, _ => none
def isNone : FV → Bool
  | .none => true
  | _ => false
def cpIs (a b : FV) : Option Bool := if isNone b then some (isNone a) else none
def cpIsNot (a b : FV) : Option Bool := if isNone b then some (!isNone a) else none
def flat : FV → Bool
  | .none | .bool _ | .int _ | .str _ => true
  | _ => false
def inItems (x : FV) (xs : List FV) : Option Bool := if SeqAt.shaped x && SeqAt.shaped (.list xs) then some (xs.any fun z => PyData.eqv z x) else none
def cpIn (x : FV) : FV → Option Bool
  | .list xs => inItems x xs
  | .tuple xs => inItems x xs
  | _ => none
def cpNotIn (x : FV) : FV → Option Bool
  | .list xs => (inItems x xs).map (!·)
  | .tuple xs => (inItems x xs).map (!·)
  | _ => none
def cop : CmpOp → FV → FV → Option Bool
  | .Eq => cpEq
  | .NotEq => cpNe
  | .Lt => cpI fun i j => decide (i < j)
  | .LtE => cpI fun i j => decide (i ≤ j)
  | .Gt => cpI fun i j => decide (j < i)
  | .GtE => cpI fun i j => decide (j ≤ i)
  | .Is => cpIs
  | .IsNot => cpIsNot
  | .In => cpIn
  | .NotIn => cpNotIn
/-- an index -/
def ixOf {α : Type} (xs : List α) (i : Int) : Option α := L2.atI xs i
def opIx : FV → FV → Option FV
  | .list xs, .int i => ixOf xs i
  | .tuple xs, .int i => ixOf xs i
  | .str x, .int i => if x.length ≤ LIM then (ixOf x.cps.toList i).map fun c => .str ⟨#[c]⟩ else none
  | _, _ => none
def cutOf {α : Type} (xs : List α) (lo hi : Option Int) : List α :=
  (xs.drop (HT.sIx xs.length 0 lo)).take (HT.sIx xs.length xs.length hi - HT.sIx xs.length 0 lo)
def opSl (d : FV) (lo hi : Option Int) : Option FV := match d with
  | .list xs => some (.list (cutOf xs lo hi))
  | .tuple xs => some (.tuple (cutOf xs lo hi))
  | _ => none
def toInts : List FV → Option (List Int)
  | [] => some []
  | .int i :: r => (toInts r).map (i :: ·)
  | _ :: _ => none
def toBools : List FV → Option (List Bool)
  | [] => some []
  | .bool i :: r => (toBools r).map (i :: ·)
  | _ :: _ => none
def maxOf : List Int → Option Int
  | [] => none
  | x :: r => some (r.foldl (fun m y => if y > m then y else m) x)
def minOf : List Int → Option Int
  | [] => none
  | x :: r => some (r.foldl (fun m y => if y < m then y else m) x)
def bfn : Bl → List FV → Option FV
  | .len, [.list xs] => some (.int xs.length)
  | .len, [.tuple xs] => some (.int xs.length)
  | .len, [.str x] => if x.length ≤ LIM then some (.int x.length) else none
  | .abs, [.int i] => some (.int (if i < 0 then -i else i))
  | .int, [.int i] => some (.int i)
  | .int, [.bool b] => some (.int (if b then 1 else 0))
  | .all, [.list xs] => (toBools xs).map fun bs => .bool (bs.all id)
  | .any, [.list xs] => (toBools xs).map fun bs => .bool (bs.any id)
  | .sum, [.list xs] => (toInts xs).map fun is => .int is.sum
  | .tuple, [.list xs] => some (.tuple xs)
  | .tuple, [.tuple xs] => some (.tuple xs)
  | .list, [.list xs] => some (.list xs)
  | .list, [.tuple xs] => some (.list xs)
  | .divmod, [.int i, .int j] => if 0 < j ∧ j < 1073741824 then some (.tuple [.int (i / j), .int (i % j)]) else none
  | .gcd, [.int i, .int j] => some (.int (Nat.gcd i.natAbs j.natAbs))
  | .max, [.int i, .int j] => some (.int (if j > i then j else i))
  | .min, [.int i, .int j] => some (.int (if j < i then j else i))
  | .max, [.list xs] => (toInts xs).bind fun is => (maxOf is).map .int
  | .min, [.list xs] => (toInts xs).bind fun is => (minOf is).map .int
  | _, _ => none
def tyName : FV → String
  | .none => "NoneType"
  | .bool _ => "bool"
  | .int _ => "int"
  | .str _ => "str"
  | .list _ => "list"
  | .tuple _ => "tuple"
  | .dict _ => "dict"
def isTy : FV → Ty → Bool
  | .bool _, .int => true
  | .bool _, .bool => true
  | .int _, .int => true
  | .str _, .str => true
  | .tuple _, .tuple => true
  | .list _, .list => true
  | .dict _, .dict => true
  | _, _ => false

/-! ### the store -/
def flatL : List PV → Option (List FV)
  | [] => some []
  | .v d :: r => (flatL r).map (d :: ·)
  | .loc _ :: _ => none
def obAt (st : Sto) (l : Nat) : Option OB := (st[l]?).bind id
/-- a value as data, now -/
def vw (st : Sto) : PV → Option FV
  | .v d => some d
  | .loc l => match obAt st l with
    | some (.lst xs) => (flatL xs).map .list
    | none => none
def vws (st : Sto) : List PV → Option (List FV)
  | [] => some []
  | p :: r => (vw st p).bind fun d => (vws st r).map (d :: ·)
def obOf : OF → OB
  | .lst xs => .lst (xs.map .v)
def ofOb : OB → Option OF
  | .lst xs => (flatL xs).map .lst
/-- the arguments of a call, and which things of one's own are among them -/
def avs (st : Sto) : List PV → Option (List AV × List Nat)
  | [] => some ([], [])
  | .v d :: r => (avs st r).map fun (as, ls) => (.v d :: as, ls)
  | .loc l :: r => match obAt st l with
    | some b => (ofOb b).bind fun o => (avs st r).bind fun (as, ls) => if l ∈ ls then none else some (.o o :: as, l :: ls)
    | none => none
def putAll (st : Sto) : List Nat → List OF → Option Sto
  | [], [] => some st
  | l :: ls, o :: os => putAll (st.set l (some (obOf o))) ls os
  | _, _ => none
/-- a call, by what the def is -/
def callF (F : Fn) (ps : List PV) (st : Sto) : Rs PV := match avs st ps with
  | none => .no
  | some (as, ls) => match F as with
    | none => .no
    | some (.ret r os) => match putAll st ls os with
      | none => .no
      | some st' => match r with
        | .v d => .ok (.v d) st'
        | .o b => .ok (.loc st'.length) (st' ++ [some (obOf b)])
    | some (.ex x os) => match putAll st ls os with
      | none => .no
      | some st' => .ex x st'
def permute {α : Type} (xs : List α) : List Nat → Option (List α)
  | [] => some []
  | i :: r => match xs[i]? with
    | some x => (permute xs r).map (x :: ·)
    | none => none

/-- the length of one's own list -/
def lenOf (st : Sto) : List PV → Option Nat
  | [.loc l] => match obAt st l with
    | some (.lst xs) => some xs.length
    | none => none
  | _ => none
/-! ### evaluation -/
def wipeE (e : En) : List Nat → En
  | [] => e
  | v :: vs => (wipeE e vs).set v none
/-- over the items: binding, test, element -/
def lcL (bd : PV → En → Sto → Rs En) (c : En → Sto → Rs PV) (el : En → Sto → Rs PV) (e : En) : List FV → Sto → Rs (List PV)
  | [], st => .ok [] st
  | d :: ds, st => (bd (.v d) e st).nx.bnd fun e1 s1 => (c e1 s1).nx.bnd fun t s2 => match t with
    | .v (.bool true) => (el e1 s2).nx.bnd fun p s3 => (lcL bd c el e ds s3).bnd fun ps s4 => .ok (p :: ps) s4
    | .v (.bool false) => lcL bd c el e ds s2
    | _ => .no
def rangeI (lo hi : Int) : List FV := (List.range (hi - lo).toNat).map fun (i : Nat) => .int (lo + i)
def enumI (i : Nat) : List FV → List FV
  | [] => []
  | d :: ds => .tuple [.int i, d] :: enumI (i + 1) ds
def seqItems : FV → Option (List FV)
  | .list xs => some xs
  | .tuple xs => some xs
  | _ => none
def rngOk (i : Int) : Bool := decide (-8000000 ≤ i) && decide (i ≤ 8000000)
def intOf : FV → Option Int
  | .int i => some i
  | _ => none
mutual
def evE : CE → En → Sto → Rs PV
  | .var i, e, st => match e[i]? with
    | some (some p) => .ok p st
    | _ => .no
  | .lit d, _, st => .ok (.v d) st
  | .glo _ d, _, st => .ok (.v d) st
  | .bin op a b, e, st => (evE a e st).bnd fun p s1 => (evE b e s1).bnd fun q s2 =>
    Rs.of ((vw s2 p).bind fun x => (vw s2 q).bind fun y => (bop op x y).map .v) s2
  | .neg a, e, st => (evE a e st).bnd fun p s1 => Rs.of ((vw s1 p).bind fun x => (opNeg x).map .v) s1
  | .no a, e, st => (evE a e st).bnd fun p s1 => match p with
    | .v (.bool b) => .ok (.v (.bool (!b))) s1
    | _ => .no
  | .cmp op a b, e, st => (evE a e st).bnd fun p s1 => (evE b e s1).bnd fun q s2 =>
    Rs.of ((vw s2 p).bind fun x => (vw s2 q).bind fun y => (cop op x y).map fun b => .v (.bool b)) s2
  | .chn op op' a b c, e, st => (evE a e st).bnd fun p s1 => (evE b e s1).bnd fun q s2 =>
    match (vw s2 p).bind fun x => (vw s2 q).bind fun y => cop op x y with
    | some true => (evE c e s2).bnd fun r s3 => Rs.of ((vw s3 q).bind fun y => (vw s3 r).bind fun z => (cop op' y z).map fun b => .v (.bool b)) s3
    | some false => .ok (.v (.bool false)) s2
    | none => .no
  | .and as, e, st => evAnd as e st
  | .or as, e, st => evOr as e st
  | .ifx c a b, e, st => (evE c e st).bnd fun p s1 => match p with
    | .v (.bool true) => evE a e s1
    | .v (.bool false) => evE b e s1
    | _ => .no
  | .tup as, e, st => (evA as e st).bnd fun ps s1 => Rs.of ((flatL ps).bind fun ds => if ds.length ≤ LIM then some (.v (.tuple ds)) else none) s1
  | .lst as, e, st => (evA as e st).bnd fun ps s1 => Rs.of ((flatL ps).bind fun ds => if ds.length ≤ LIM then some (.v (.list ds)) else none) s1
  | .mls as, e, st => (evA as e st).bnd fun ps s1 => if ps.length ≤ LIM then .ok (.loc s1.length) (s1 ++ [some (.lst ps)]) else .no
  | .ix a i, e, st => (evE a e st).bnd fun p s1 => (evE i e s1).bnd fun q s2 => match p with
    | .v x => Rs.of ((vw s2 q).bind fun y => (opIx x y).map .v) s2
    | .loc l => match obAt s2 l, q with
      | some (.lst xs), .v (.int k) => Rs.of (ixOf xs k) s2
      | _, _ => .no
  | .sl a lo hi, e, st => (evE a e st).bnd fun p s1 => (evO lo e s1).bnd fun l s2 => (evO hi e s2).bnd fun h s3 =>
    Rs.of ((vw s3 p).bind fun x => (opSl x l h).map .v) s3
  | .fn F _ as, e, st => (evA as e st).bnd fun ps s1 => callF F ps s1
  | .fnk F _ np as ks bs perm, e, st => (evA as e st).bnd fun ps s1 => (evA bs e s1).bnd fun qs s2 => if ps.length = np ∧ qs.length = ks.length then match permute (ps ++ qs) perm with
    | some rs => callF F rs s2
    | none => .no else .no
  | .bl b as, e, st => (evA as e st).bnd fun ps s1 => Rs.of ((vws s1 ps).bind fun ds => (bfn b ds).map .v) s1
  | .lnl as, e, st => (evA as e st).bnd fun ps s1 => Rs.of ((lenOf s1 ps).map fun n => .v (.int n)) s1
  | .isi a T, e, st => (evE a e st).bnd fun p s1 => Rs.of ((vw s1 p).map fun d => .v (.bool (isTy d T))) s1
  | .lc t it c el own, e, st => (evI it e st).bnd fun ds s1 =>
    (lcL (fun p e s => evT t p e s) (fun e s => evE c e s) (fun e s => evE el e s) (wipeE e own) ds s1).bnd fun ps s2 => Rs.of ((flatL ps).map fun ds => .v (.list ds)) s2
  | .mlc t it c el own, e, st => (evI it e st).bnd fun ds s1 =>
    (lcL (fun p e s => evT t p e s) (fun e s => evE c e s) (fun e s => evE el e s) (wipeE e own) ds s1).bnd fun ps s2 => .ok (.loc s2.length) (s2 ++ [some (.lst ps)])
  | .fz a, e, st => (evE a e st).bnd fun p s1 => match p with
    | .loc l => Rs.of ((vw s1 p).map .v) (s1.set l none)
    | .v d => .ok (.v d) s1
  | .rgl tp a, e, st => (evE a e st).bnd fun p s1 => match p with
    | .v (.int i) => if rngOk i then .ok (.v (if tp then .tuple (rangeI 0 i) else .list (rangeI 0 i))) s1 else .no
    | _ => .no
  | .rgl2 tp a b, e, st => (evE a e st).bnd fun p s1 => (evE b e s1).bnd fun q s2 => match p, q with
    | .v (.int i), .v (.int j) => if rngOk i && rngOk j then .ok (.v (if tp then .tuple (rangeI i j) else .list (rangeI i j))) s2 else .no
    | _, _ => .no
def evO : CO → En → Sto → Rs (Option Int)
  | .none, _, st => .ok none st
  | .some a, e, st => (evE a e st).bnd fun p s1 => match p with
    | .v (.int i) => .ok (some i) s1
    | _ => .no
def evA : CEs → En → Sto → Rs (List PV)
  | .nil, _, st => .ok [] st
  | .cons a as, e, st => (evE a e st).bnd fun p s1 => (evA as e s1).bnd fun ps s2 => .ok (p :: ps) s2
def evAnd : CEs → En → Sto → Rs PV
  | .nil, _, _ => .no
  | .cons a .nil, e, st => evE a e st
  | .cons a (.cons b as), e, st => (evE a e st).bnd fun p s1 => match p with
    | .v (.bool true) => evAnd (.cons b as) e s1
    | .v (.bool false) => .ok (.v (.bool false)) s1
    | _ => .no
def evOr : CEs → En → Sto → Rs PV
  | .nil, _, _ => .no
  | .cons a .nil, e, st => evE a e st
  | .cons a (.cons b as), e, st => (evE a e st).bnd fun p s1 => match p with
    | .v (.bool false) => evOr (.cons b as) e s1
    | .v (.bool true) => .ok (.v (.bool true)) s1
    | _ => .no
def evT : CT → PV → En → Sto → Rs En
  | .nm i, p, e, st => .ok (e.set i (some p)) st
  | .tp ts, p, e, st => match p with
    | .v (.tuple ds) => if ds.length = ts.len then evTs ts (ds.map .v) e st else .no
    | _ => .no
  | .sb o i, p, e, st => (evE o e st).bnd fun q s1 => (evE i e s1).bnd fun k s2 => match q, k with
    | .loc l, .v (.int k) => match obAt s2 l with
      | some (.lst xs) => match L2.ixN xs.length k with
        | some j => .ok e (s2.set l (some (.lst (xs.set j p))))
        | none => .no
      | none => .no
    | _, _ => .no
def evTs : CTs → List PV → En → Sto → Rs En
  | .nil, ps, e, st => match ps with
    | [] => .ok e st
    | _ => .no
  | .cons t ts, ps, e, st => match ps with
    | p :: ps => (evT t p e st).bnd fun e1 s1 => evTs ts ps e1 s1
    | [] => .no
def evI : CI → En → Sto → Rs (List FV)
  | .seq a, e, st => (evE a e st).bnd fun p s1 => match p with
    | .v d => Rs.of ((seqItems d).bind fun ds => if ds.length ≤ LIM then some ds else none) s1
    | _ => .no
  | .rng1 a, e, st => (evE a e st).bnd fun p s1 => match p with
    | .v (.int i) => if rngOk i then .ok (rangeI 0 i) s1 else .no
    | _ => .no
  | .rng2 a b, e, st => (evE a e st).bnd fun p s1 => (evE b e s1).bnd fun q s2 => match p, q with
    | .v (.int i), .v (.int j) => if rngOk i && rngOk j then .ok (rangeI i j) s2 else .no
    | _, _ => .no
  | .enm a, e, st => (evE a e st).bnd fun p s1 => match p with
    | .v d => Rs.of ((seqItems d).map (enumI 0)) s1
    | _ => .no
end
def forL (bd : PV → En → Sto → Rs En) (body : En → Sto → Rs Fl) : List FV → En → Sto → Rs Fl
  | [], e, st => .ok (.nx e) st
  | d :: ds, e, st => (bd (.v d) e st).bnd fun e1 s1 => (body e1 s1).bnd fun f s2 => match f with
    | .nx e2 => forL bd body ds e2 s2
    | .ct e2 => forL bd body ds e2 s2
    | .bk e2 => .ok (.nx e2) s2
    | .rt p => .ok (.rt p) s2
def whlL (c : En → Sto → Rs PV) (body : En → Sto → Rs Fl) : Nat → En → Sto → Rs Fl
  | 0, _, _ => .no
  | n + 1, e, st => (c e st).bnd fun p s1 => match p with
    | .v (.bool true) => (body e s1).bnd fun f s2 => match f with
      | .nx e2 => whlL c body n e2 s2
      | .ct e2 => whlL c body n e2 s2
      | .bk e2 => .ok (.nx e2) s2
      | .rt p => .ok (.rt p) s2
    | .v (.bool false) => .ok (.nx e) s1
    | _ => .no
def lenEq (ps : List PV) (n : Nat) : Bool := decide (ps.length = n) && decide (ps.length ≤ LIM)
def FUEL : Nat := 1000000
mutual
def evS : CS → En → Sto → Rs Fl
  | .asg t c, e, st => (evE c e st).bnd fun p s1 => (evT t p e s1).bnd fun e1 s2 => .ok (.nx e1) s2
  | .asgs ts as, e, st => (evA as e st).bnd fun ps s1 => if lenEq ps ts.len = true then (evTs ts ps e s1).bnd fun e1 s2 => .ok (.nx e1) s2 else .no
  | .exp c, e, st => (evE c e st).bnd fun _ s1 => .ok (.nx e) s1
  | .app i c, e, st => match e[i]? with
    | some (some (.loc l)) => match obAt st l with
      | some (.lst _) => (evE c e st).bnd fun p s1 => match obAt s1 l with
        | some (.lst xs) => if xs.length < LIM then .ok (.nx e) (s1.set l (some (.lst (xs ++ [p])))) else .no
        | none => .no
      | none => .no
    | _ => .no
  | .ife c a b, e, st => (evE c e st).bnd fun p s1 => match p with
    | .v (.bool true) => evB a e s1
    | .v (.bool false) => evB b e s1
    | _ => .no
  | .for_ t it b, e, st => (evI it e st).bnd fun ds s1 => forL (fun p e s => evT t p e s) (fun e s => evB b e s) ds e s1
  | .whl c b, e, st => whlL (fun e s => evE c e s) (fun e s => evB b e s) FUEL e st
  | .ret c, e, st => (evE c e st).bnd fun p s1 => .ok (.rt p) s1
  | .retN, _, st => .ok (.rt (.v .none)) st
  | .brk, e, st => .ok (.bk e) st
  | .cnt, e, st => .ok (.ct e) st
  | .pas, e, st => .ok (.nx e) st
  | .nev, _, _ => .no
def evB : CB → En → Sto → Rs Fl
  | .nil, e, st => .ok (.nx e) st
  | .cons s b, e, st => (evS s e st).bnd fun f s1 => match f with
    | .nx e1 => evB b e1 s1
    | f => .ok f s1
end

/-! ### a def as a function -/
def enter : List AV → Nat → List (Option PV) × Sto
  | [], _ => ([], [])
  | .v d :: r, n => let (e, s) := enter r n; (some (.v d) :: e, s)
  | .o b :: r, n => let (e, s) := enter r (n + 1); (some (.loc n) :: e, some (obOf b) :: s)
def nObj : List AV → Nat
  | [] => 0
  | .v _ :: r => nObj r
  | .o _ :: r => nObj r + 1
def takeOF (st : Sto) : Nat → Nat → Option (List OF)
  | _, 0 => some []
  | l, n + 1 => match obAt st l with
    | some b => (ofOb b).bind fun o => (takeOF st (l + 1) n).map (o :: ·)
    | none => none
def leave (n : Nat) (p : PV) (st : Sto) : Option Out := match takeOF st 0 n with
  | none => none
  | some os => match p with
    | .v d => some (.ret (.v d) os)
    | .loc l => if l < n then none else match obAt st l with
      | some b => (ofOb b).map fun o => .ret (.o o) os
      | none => none
/-- the def of n parameters, N names in all, by its body -/
def runFn (n N : Nat) (b : CB) : Fn := fun as => if as.length = n then
    match evB b ((enter as 0).1 ++ List.replicate (N - n) none) (enter as 0).2 with
    | .ok (.rt p) st => leave (nObj as) p st
    | .ok (.nx _) st => leave (nObj as) (.v .none) st
    | .ok _ _ => none
    | .ex x st => (takeOF st 0 (nObj as)).map fun os => .ex x os
    | .no => none
  else none
end L3
/-! L3B: how the small Python's values lie in the layer's abstract heap; what a reading is worth. -/
namespace L3
open PySem PySem.Spec PyProof.Rows L2

mutual
inductive Rp (K : PySem.W.Frag) (D : Hp) : FV → V → Prop
  | non : Rp K D .none .non
  | bl (b : Bool) : Rp K D (.bool b) (.bl b)
  | int (i : Int) : Rp K D (.int i) (.int i)
  | str (x : Str) : Rp K D (.str x) (.str x)
  | lst {a : Addr} {vs : List V} {ds : List FV} : SqL K D a vs → RpA K D ds vs → Rp K D (.list ds) (.ref a)
  | tup {a : Addr} {vs : List V} {ds : List FV} : SqT K D a vs → RpA K D ds vs → Rp K D (.tuple ds) (.ref a)
inductive RpA (K : PySem.W.Frag) (D : Hp) : List FV → List V → Prop
  | nil : RpA K D [] []
  | cons {d : FV} {ds : List FV} {v : V} {vs : List V} : Rp K D d v → RpA K D ds vs → RpA K D (d :: ds) (v :: vs)
end
/-- what is told stays told -/
def Le (D D' : Hp) : Prop := ∀ a o, D a = some o → D' a = some o
theorem Le.refl (D : Hp) : Le D D := fun _ _ h => h
theorem Le.trans {A B C : Hp} (h : Le A B) (k : Le B C) : Le A C := fun a o e => k a o (h a o e)
section
variable {K : PySem.W.Frag} {D D' : Hp}
theorem Le.sqL (h : Le D D') {a : Addr} {xs : List V} (s : SqL K D a xs) : SqL K D' a xs := by
  rcases s with (s | ⟨o, s⟩) | s
  · exact .inl (.inl (h _ _ s))
  · exact .inl (.inr ⟨o, h _ _ s⟩)
  · exact .inr s
theorem Le.rd (h : Le D D') {a : Addr} {u : HO} (s : Rd D a u) : Rd D' a u := by
  rcases s with s | ⟨o, s⟩
  · exact .inl (h _ _ s)
  · exact .inr ⟨o, h _ _ s⟩
theorem Le.sqT (h : Le D D') {a : Addr} {xs : List V} (s : SqT K D a xs) : SqT K D' a xs := by
  rcases s with (s | ⟨o, s⟩) | s
  · exact .inl (.inl (h _ _ s))
  · exact .inl (.inr ⟨o, h _ _ s⟩)
  · exact .inr s
mutual
theorem Rp.mono (h : Le D D') : ∀ {d : FV} {v : V}, Rp K D d v → Rp K D' d v
  | _, _, .non => .non
  | _, _, .bl b => .bl b
  | _, _, .int i => .int i
  | _, _, .str x => .str x
  | _, _, .lst s r => .lst (h.sqL s) (RpA.mono h r)
  | _, _, .tup s r => .tup (h.sqT s) (RpA.mono h r)
theorem RpA.mono (h : Le D D') : ∀ {ds : List FV} {vs : List V}, RpA K D ds vs → RpA K D' ds vs
  | _, _, .nil => .nil
  | _, _, .cons r t => .cons (Rp.mono h r) (RpA.mono h t)
end
theorem RpA.length : ∀ {ds : List FV} {vs : List V}, RpA K D ds vs → ds.length = vs.length
  | _, _, .nil => rfl
  | _, _, .cons _ t => by rw [List.length_cons, List.length_cons, RpA.length t]
theorem RpA.get : ∀ {ds : List FV} {vs : List V} {i : Nat} {d : FV}, RpA K D ds vs → ds[i]? = some d → ∃ v, vs[i]? = some v ∧ Rp K D d v
  | _, _, _, _, .nil, e => by simp at e
  | _, _, 0, _, .cons r _, e => by simp at e; subst e; exact ⟨_, rfl, r⟩
  | _, _, i + 1, d, .cons _ t, e => by
    obtain ⟨v, h1, h2⟩ := RpA.get (i := i) (d := d) t (by simpa using e)
    exact ⟨v, by simpa using h1, h2⟩
theorem RpA.getV : ∀ {ds : List FV} {vs : List V} {i : Nat} {v : V}, RpA K D ds vs → vs[i]? = some v → ∃ d, ds[i]? = some d ∧ Rp K D d v
  | _, _, _, _, .nil, e => by simp at e
  | _, _, 0, _, .cons r _, e => by simp at e; subst e; exact ⟨_, rfl, r⟩
  | _, _, i + 1, d, .cons _ t, e => by
    obtain ⟨v, h1, h2⟩ := RpA.getV (i := i) (v := d) t (by simpa using e)
    exact ⟨v, by simpa using h1, h2⟩
theorem RpA.append : ∀ {ds es : List FV} {vs us : List V}, RpA K D ds vs → RpA K D es us → RpA K D (ds ++ es) (vs ++ us)
  | _, _, _, _, .nil, t => t
  | _, _, _, _, .cons r t, s => .cons r (RpA.append t s)
theorem RpA.take : ∀ {ds : List FV} {vs : List V} (n : Nat), RpA K D ds vs → RpA K D (ds.take n) (vs.take n)
  | _, _, 0, _ => .nil
  | _, _, _ + 1, .nil => .nil
  | _, _, n + 1, .cons r t => .cons r (RpA.take n t)
theorem RpA.drop : ∀ {ds : List FV} {vs : List V} (n : Nat), RpA K D ds vs → RpA K D (ds.drop n) (vs.drop n)
  | _, _, 0, r => r
  | _, _, _ + 1, .nil => .nil
  | _, _, n + 1, .cons _ t => RpA.drop n t
theorem RpA.snoc {ds : List FV} {vs : List V} {d : FV} {v : V} (r : RpA K D ds vs) (q : Rp K D d v) : RpA K D (ds ++ [d]) (vs ++ [v]) := r.append (.cons q .nil)
theorem RpA.ints : ∀ {ds : List FV} {vs : List V} {is : List Int}, RpA K D ds vs → toInts ds = some is → vs = is.map V.int
  | _, _, _, .nil, e => by simp [toInts] at e; subst e; rfl
  | _, _, is, .cons (d := d) (ds := ds) r t, e => by
    cases r with
    | int i =>
      simp only [toInts, Option.map_eq_some_iff] at e
      obtain ⟨js, e1, rfl⟩ := e
      rw [RpA.ints t e1]
      rfl
    | _ => simp [toInts] at e
theorem RpA.bools : ∀ {ds : List FV} {vs : List V} {is : List Bool}, RpA K D ds vs → toBools ds = some is → vs = is.map V.bl
  | _, _, _, .nil, e => by simp [toBools] at e; subst e; rfl
  | _, _, is, .cons (d := d) (ds := ds) r t, e => by
    cases r with
    | bl i =>
      simp only [toBools, Option.map_eq_some_iff] at e
      obtain ⟨js, e1, rfl⟩ := e
      rw [RpA.bools t e1]
      rfl
    | _ => simp [toBools] at e
mutual
theorem Rp.dp : ∀ {d : FV} {v : V}, Rp K D d v → Dp K D v d
  | _, _, .non => .non
  | _, _, .bl b => .bl b
  | _, _, .int i => .int i
  | _, _, .str x => .str x
  | _, _, .lst s r => .lst s (RpA.dp r)
  | _, _, .tup s r => .tup s (RpA.dp r)
theorem RpA.dp : ∀ {ds : List FV} {vs : List V}, RpA K D ds vs → DpAll K D vs ds
  | _, _, .nil => .nil
  | _, _, .cons r t => .cons (Rp.dp r) (RpA.dp t)
end
end

/-! ### the store -/
abbrev Mp := Nat → Option Addr
inductive Rv (K : PySem.W.Frag) (D : Hp) (m : Mp) : PV → V → Prop
  | v {d : FV} {x : V} : Rp K D d x → Rv K D m (.v d) x
  | loc {l : Nat} {a : Addr} : m l = some a → Rv K D m (.loc l) (.ref a)
abbrev RvA (K : PySem.W.Frag) (D : Hp) (m : Mp) : List PV → List V → Prop := Paired (Rv K D m)
theorem RpA.rv {K : PySem.W.Frag} {D : Hp} {m : Mp} : ∀ {ds : List FV} {xs : List V}, RpA K D ds xs → RvA K D m (ds.map .v) xs
  | _, _, .nil => .nil
  | _, _, .cons r t => .cons (.v r) (RpA.rv t)
def LeM (m m' : Mp) : Prop := ∀ l a, m l = some a → m' l = some a
theorem Rv.mono {K : PySem.W.Frag} {D D' : Hp} {m m' : Mp} (h : Le D D') (k : LeM m m') {p : PV} {x : V} : Rv K D m p x → Rv K D' m' p x
  | .v r => .v (r.mono h)
  | .loc e => .loc (k _ _ e)
theorem RvA.mono {K : PySem.W.Frag} {D D' : Hp} {m m' : Mp} (h : Le D D') (k : LeM m m') : ∀ {ps : List PV} {xs : List V}, RvA K D m ps xs → RvA K D' m' ps xs
  | _, _, .nil => .nil
  | _, _, .cons r t => .cons (r.mono h k) (RvA.mono h k t)
def ObR (K : PySem.W.Frag) (D : Hp) (m : Mp) : OB → HO → Prop
  | .lst ps, ho => ∃ vs, ho = .lst vs ∧ RvA K D m ps vs
theorem ObR.mono {K : PySem.W.Frag} {D D' : Hp} {m m' : Mp} (h : Le D D') (k : LeM m m') {b : OB} {o : HO} (r : ObR K D m b o) : ObR K D' m' b o := by
  cases b with
  | lst ps =>
    obtain ⟨vs, e, r⟩ := r
    exact ⟨vs, e, r.mono h k⟩
structure Wd (K : PySem.W.Frag) (D : Hp) (m : Mp) (st : Sto) (H : Hp) : Prop where
  le : Le D H
  ob : ∀ l b, obAt st l = some b → ∃ a o, m l = some a ∧ D a = none ∧ H a = some o ∧ ObR K D m b o
  inj : ∀ l l' b b' a, obAt st l = some b → obAt st l' = some b' → m l = some a → m l' = some a → l = l'
  nx : ∀ l, st.length ≤ l → m l = none
  tr : ∀ l a, m l = some a → ∃ o, H a = some o
structure Ext (D : Hp) (m : Mp) (H : Hp) (D' : Hp) (m' : Mp) (H' : Hp) : Prop where
  le : Le D D'
  lm : LeM m m'
  nd : ∀ a o, D' a = some o → D a = some o ∨ H a = none ∨ ∃ l, m l = some a
  nm : ∀ l a, m' l = some a → m l = some a ∨ H a = none
  fr : ∀ a o, H a = some o → (∀ l, m l ≠ some a) → H' a = some o
  tk : ∀ a o, H a = some o → ∃ o', H' a = some o'
theorem Ext.refl (D : Hp) (m : Mp) (H : Hp) : Ext D m H D m H :=
  ⟨Le.refl D, fun _ _ h => h, fun _ _ h => .inl h, fun _ _ h => .inl h, fun _ _ h _ => h, fun _ o h => ⟨o, h⟩⟩
theorem Ext.trans {D D1 D2 H H1 H2 : Hp} {m m1 m2 : Mp} (a : Ext D m H D1 m1 H1) (b : Ext D1 m1 H1 D2 m2 H2) : Ext D m H D2 m2 H2 := by
  have back : ∀ x, H1 x = none → H x = none := fun x e => by
    cases q : H x with
    | none => rfl
    | some o =>
      obtain ⟨o', e'⟩ := a.tk x o q
      rw [e] at e'
      cases e'
  refine ⟨a.le.trans b.le, fun l x e => b.lm l x (a.lm l x e), fun x o e => ?_, fun l x e => ?_, fun x o e n => ?_, fun x o e => ?_⟩
  · rcases b.nd x o e with q | q | ⟨l, q⟩
    · exact a.nd x o q
    · exact .inr (.inl (back x q))
    · rcases a.nm l x q with q | q
      · exact .inr (.inr ⟨l, q⟩)
      · exact .inr (.inl q)
  · rcases b.nm l x e with q | q
    · exact a.nm l x q
    · exact .inr (back x q)
  · refine b.fr x o (a.fr x o e n) fun l q => ?_
    rcases a.nm l x q with q | q
    · exact n l q
    · rw [e] at q
      cases q
  · obtain ⟨o1, e1⟩ := a.tk x o e
    exact b.tk x o1 e1
/-- names -/
def EnR (K : PySem.W.Frag) (D : Hp) (m : Mp) (e : En) (σ : L2.St) : Prop := e.length = σ.length ∧ ∀ (i : Nat) (p : PV), e[i]? = some (some p) → ∃ x, σ[i]? = some (some x) ∧ Rv K D m p x
theorem EnR.mono {K : PySem.W.Frag} {D D' : Hp} {m m' : Mp} (h : Le D D') (k : LeM m m') {e : En} {σ : L2.St} (r : EnR K D m e σ) : EnR K D' m' e σ :=
  ⟨r.1, fun i p q => let ⟨x, e1, e2⟩ := r.2 i p q; ⟨x, e1, e2.mono h k⟩⟩
theorem EnR.set {K : PySem.W.Frag} {D : Hp} {m : Mp} {e : En} {σ : L2.St} {p : PV} {x : V} (r : EnR K D m e σ) (q : Rv K D m p x) (i : Nat) : EnR K D m (e.set i (some p)) (σ.set i (some x)) := by
  refine ⟨by rw [List.length_set, List.length_set, r.1], fun j u h => ?_⟩
  by_cases hj : i = j
  · subst hj
    by_cases hi : i < e.length
    · rw [List.getElem?_set_self hi] at h
      cases h
      exact ⟨x, List.getElem?_set_self (by rw [← r.1]; exact hi), q⟩
    · rw [List.getElem?_eq_none (by rw [List.length_set]; omega)] at h
      cases h
  · rw [List.getElem?_set_ne hj] at h ⊢
    exact r.2 j u h
theorem EnR.wipe {K : PySem.W.Frag} {D : Hp} {m : Mp} {e : En} {σ : L2.St} (r : EnR K D m e σ) : ∀ vs : List Nat, EnR K D m (wipeE e vs) (L2.wipe σ vs)
  | [] => r
  | v :: vs => by
    have q := EnR.wipe r vs
    refine ⟨by show ((wipeE e vs).set v none).length = ((L2.wipe σ vs).set v none).length; rw [List.length_set, List.length_set, q.1], fun j u h => ?_⟩
    have h' : ((wipeE e vs).set v none)[j]? = some (some u) := h
    show ∃ x, ((L2.wipe σ vs).set v none)[j]? = _ ∧ _
    by_cases hj : v = j
    · subst hj
      by_cases hi : v < (wipeE e vs).length
      · rw [List.getElem?_set_self hi] at h'
        cases h'
      · rw [List.getElem?_eq_none (by rw [List.length_set]; omega)] at h'
        cases h'
    · rw [List.getElem?_set_ne hj] at h' ⊢
      exact q.2 j u h'

/-- an exception -/
def XR (mg : Str → Option Value) (K : PySem.W.Frag) (D : Hp) (x : XV) (c : Value) (d : Option Addr) (H : Hp) : Prop :=
  ∃ C a vs, c = .ref C ∧ mg x.cls = some (.ref C) ∧ d = some a ∧ H a = some (.xd vs) ∧ Paired (fun (p : Str × FV) (q : Str × V) => p.1 = q.1 ∧ Rp K D p.2 q.2) x.fs vs

/-! ### what a reading is worth -/
structure Sx where
  K : PySem.W.Frag
  mg : Str → Option Value
  E : XK
/-- what must be shown of a result: at the value, at the exception -/
def After {α : Type} (Z : Sx) (D : Hp) (m : Mp) (H : Hp) (r : Rs α) (Q : α → Sto → Hp → Mp → Hp → Prop) : Prop := match r with
  | .ok a st' => ∀ D' m' H', Ext D m H D' m' H' → Wd Z.K D' m' st' H' → Q a st' D' m' H'
  | .ex x st' => ∀ D' m' H' c d, Ext D m H D' m' H' → Wd Z.K D' m' st' H' → XR Z.mg Z.K D' x c d H' → Z.E c d H'
  | .no => False
theorem After.bnd {α β : Type} {Z : Sx} {D : Hp} {m : Mp} {H : Hp} {r : Rs α} {k : α → Sto → Rs β} {Q : β → Sto → Hp → Mp → Hp → Prop}
    (h : After Z D m H (r.bnd k) Q) : After Z D m H r fun a st D' m' H' => After Z D' m' H' (k a st) Q := by
  cases r with
  | no => exact h
  | ex x st => exact h
  | ok a st =>
    intro D' m' H' e w
    have h' : After Z D m H (k a st) Q := h
    show After Z D' m' H' (k a st) Q
    cases hk : k a st with
    | no => rw [hk] at h'; exact h'
    | ex x s2 =>
      rw [hk] at h'
      intro D2 m2 H2 c d e2 w2 q
      exact h' D2 m2 H2 c d (e.trans e2) w2 q
    | ok b s2 =>
      rw [hk] at h'
      intro D2 m2 H2 e2 w2
      exact h' D2 m2 H2 (e.trans e2) w2
theorem After.imp {α : Type} {Z : Sx} {D : Hp} {m : Mp} {H : Hp} {r : Rs α} {Q Q' : α → Sto → Hp → Mp → Hp → Prop} (h : After Z D m H r Q)
    (k : ∀ a st D' m' H', Ext D m H D' m' H' → Wd Z.K D' m' st H' → Q a st D' m' H' → Q' a st D' m' H') : After Z D m H r Q' := by
  cases r with
  | no => exact h
  | ex x st => exact h
  | ok a st => exact fun D' m' H' e w => k a st D' m' H' e w (h D' m' H' e w)
abbrev SemE := En → Sto → Rs PV
def LE (Z : Sx) (t : TE) (f : SemE) : Prop := ∀ (D : Hp) (m : Mp) (e : En) (st : Sto) (σ : L2.St) (H : Hp) (Q : VK), Wd Z.K D m st H → EnR Z.K D m e σ →
  After Z D m H (f e st) (fun p st' D' m' H' => ∀ x, Rv Z.K D' m' p x → Q x H') → t σ H Q
def LT (Z : Sx) (t : TT) (f : SemE) : Prop := ∀ (D : Hp) (m : Mp) (e : En) (st : Sto) (σ : L2.St) (H : Hp) (Q : Bool → Hp → Prop), Wd Z.K D m st H → EnR Z.K D m e σ →
  After Z D m H (f e st) (fun p st' D' m' H' => ∃ b, p = .v (.bool b) ∧ Q b H') → t σ H Q
def LA (Z : Sx) (t : TA) (f : En → Sto → Rs (List PV)) : Prop := ∀ (D : Hp) (m : Mp) (e : En) (st : Sto) (σ : L2.St) (H : Hp) (Q : List V → Hp → Prop), Wd Z.K D m st H → EnR Z.K D m e σ →
  After Z D m H (f e st) (fun ps st' D' m' H' => ∀ xs, RvA Z.K D' m' ps xs → Q xs H') → t σ H Q
def LO (Z : Sx) (t : TO) (f : En → Sto → Rs (Option Int)) : Prop := ∀ (D : Hp) (m : Mp) (e : En) (st : Sto) (σ : L2.St) (H : Hp) (Q : Option Int → Hp → Prop), Wd Z.K D m st H → EnR Z.K D m e σ →
  After Z D m H (f e st) (fun o st' D' m' H' => Q o H') → t σ H Q
/-- a target: it is asked only where nothing is raised -/
def LG (Z : Sx) (t : TG) (f : PV → En → Sto → Rs En) : Prop := ∀ (D : Hp) (m : Mp) (e : En) (st : Sto) (σ : L2.St) (H : Hp) (p : PV) (x : V) (Q : L2.St → Hp → Prop), Wd Z.K D m st H → EnR Z.K D m e σ → Rv Z.K D m p x →
  After Z D m H (f p e st) (fun e' st' D' m' H' => ∀ σ', EnR Z.K D' m' e' σ' → Q σ' H') → t x σ H Q
def LGs (Z : Sx) (t : TGs) (f : List PV → En → Sto → Rs En) : Prop := ∀ (D : Hp) (m : Mp) (e : En) (st : Sto) (σ : L2.St) (H : Hp) (ds : List PV) (xs : List V) (Q : L2.St → Hp → Prop), Wd Z.K D m st H → EnR Z.K D m e σ → RvA Z.K D m ds xs →
  After Z D m H (f ds e st) (fun e' st' D' m' H' => ∀ σ', EnR Z.K D' m' e' σ' → Q σ' H') → t xs σ H Q
def FlQ (Z : Sx) (DD : Ends) (f : Fl) (D' : Hp) (m' : Mp) (H' : Hp) : Prop := match f with
  | .nx e' => ∀ σ', EnR Z.K D' m' e' σ' → DD.nx σ' H'
  | .bk e' => ∀ σ', EnR Z.K D' m' e' σ' → DD.bk σ' H'
  | .ct e' => ∀ σ', EnR Z.K D' m' e' σ' → DD.ct σ' H'
  | .rt p => ∀ x, Rv Z.K D' m' p x → DD.rt x H'
def LS (Z : Sx) (t : TS) (f : En → Sto → Rs Fl) : Prop := ∀ (D : Hp) (m : Mp) (e : En) (st : Sto) (σ : L2.St) (H : Hp) (DD : Ends), Wd Z.K D m st H → EnR Z.K D m e σ →
  After Z D m H (f e st) (fun f st' D' m' H' => FlQ Z DD f D' m' H') → t DD σ H

/-! ### new things -/
section
variable {Z : Sx} {D : Hp} {m : Mp} {st : Sto} {H : Hp}
theorem Wd.free (w : Wd Z.K D m st H) {p : Addr} (h : H p = none) : D p = none := by
  cases q : D p with
  | none => rfl
  | some o => rw [w.le p o q] at h; cases h
/-- a new frozen thing at p -/
theorem Wd.grow (w : Wd Z.K D m st H) {p : Addr} (h : H p = none) (o : HO) : Wd Z.K (upd D p o) m st (upd H p o) := by
  have hle : Le D (upd D p o) := fun a u e => by rw [upd_ne (ne_of_none e (w.free h))]; exact e
  refine ⟨fun a u e => ?_, fun l b e => ?_, w.inj, w.nx, fun l a e => let ⟨u, q⟩ := w.tr l a e; ⟨u, by rw [upd_ne (ne_of_none q h)]; exact q⟩⟩
  · by_cases z : a = p
    · subst z; rw [upd_same] at e ⊢; exact e
    · rw [upd_ne z] at e ⊢; exact w.le a u e
  · obtain ⟨a, u, h1, h2, h3, h4⟩ := w.ob l b e
    have z : a ≠ p := ne_of_none h3 h
    exact ⟨a, u, h1, by rw [upd_ne z]; exact h2, by rw [upd_ne z]; exact h3, h4.mono hle fun _ _ q => q⟩
theorem Wd.growE (w : Wd Z.K D m st H) {p : Addr} (h : H p = none) (o : HO) : Ext D m H (upd D p o) m (upd H p o) where
  le := fun a u e => by rw [upd_ne (ne_of_none e (w.free h))]; exact e
  lm := fun _ _ e => e
  nd := fun a u e => by
    by_cases z : a = p
    · subst z; exact .inr (.inl h)
    · rw [upd_ne z] at e; exact .inl e
  nm := fun _ _ e => .inl e
  fr := fun a u e _ => by rw [upd_ne (ne_of_none e h)]; exact e
  tk := fun a u e => ⟨u, by rw [upd_ne (ne_of_none e h)]; exact e⟩
theorem obAt_app {l : Nat} {b : OB} : obAt (st ++ [some b]) l = if l = st.length then some b else obAt st l := by
  unfold obAt
  by_cases h : l < st.length
  · rw [List.getElem?_append_left h, if_neg (by omega)]
  · by_cases e : l = st.length
    · subst e; rw [if_pos rfl]; simp
    · rw [if_neg e, List.getElem?_eq_none (by simp; omega), List.getElem?_eq_none (by omega)]
theorem obAt_set {l l' : Nat} {o : Option OB} : obAt (st.set l o) l' = if l = l' then (if l < st.length then o else none) else obAt st l' := by
  unfold obAt
  by_cases h : l = l'
  · subst h
    rw [if_pos rfl]
    by_cases hl : l < st.length
    · rw [List.getElem?_set_self hl, if_pos hl]; cases o <;> rfl
    · rw [List.getElem?_eq_none (by rw [List.length_set]; omega), if_neg hl]; rfl
  · rw [List.getElem?_set_ne h, if_neg h]
theorem obAt_lt {l : Nat} {b : OB} (h : obAt st l = some b) : l < st.length := by
  unfold obAt at h
  by_cases q : l < st.length
  · exact q
  · rw [List.getElem?_eq_none (by omega)] at h; cases h
/-- a new thing of one's own at p -/
theorem Wd.own (w : Wd Z.K D m st H) {p : Addr} (h : H p = none) {o : HO} {b : OB} (r : ObR Z.K D m b o) :
    Wd Z.K D (fun l => if l = st.length then some p else m l) (st ++ [some b]) (upd H p o) ∧ Ext D m H D (fun l => if l = st.length then some p else m l) (upd H p o) ∧ LeM m (fun l => if l = st.length then some p else m l) := by
  have lm : LeM m (fun l => if l = st.length then some p else m l) := fun l a e => by
    have : l ≠ st.length := fun z => by rw [w.nx l (by omega)] at e; cases e
    show (if l = st.length then some p else m l) = some a
    rw [if_neg this]; exact e
  refine ⟨⟨fun a u e => ?_, fun l b' e => ?_, fun l l' b1 b2 a e1 e2 h1 h2 => ?_, fun l hl => ?_, fun l a e => ?_⟩, ⟨Le.refl D, lm, fun _ _ e => .inl e, fun l a e => ?_, fun a u e _ => by rw [upd_ne (ne_of_none e h)]; exact e, fun a u e => ⟨u, by rw [upd_ne (ne_of_none e h)]; exact e⟩⟩, lm⟩
  · rw [upd_ne (ne_of_none (w.le a u e) h)]; exact w.le a u e
  · rw [obAt_app] at e
    by_cases z : l = st.length
    · rw [if_pos z] at e
      cases e
      exact ⟨p, o, by rw [if_pos z], w.free h, upd_same, r.mono (Le.refl D) lm⟩
    · rw [if_neg z] at e
      obtain ⟨a, u, h1, h2, h3, h4⟩ := w.ob l b' e
      exact ⟨a, u, by rw [if_neg z]; exact h1, h2, by rw [upd_ne (ne_of_none h3 h)]; exact h3, h4.mono (Le.refl D) lm⟩
  · rw [obAt_app] at e1 e2
    by_cases z1 : l = st.length
    · by_cases z2 : l' = st.length
      · omega
      · rw [if_neg z2] at e2 h2
        rw [if_pos z1] at h1
        cases h1
        obtain ⟨a', u, k1, k2, k3, _⟩ := w.ob l' b2 e2
        rw [h2] at k1
        cases k1
        rw [h] at k3
        cases k3
    · by_cases z2 : l' = st.length
      · rw [if_neg z1] at e1 h1
        rw [if_pos z2] at h2
        cases h2
        obtain ⟨a', u, k1, k2, k3, _⟩ := w.ob l b1 e1
        rw [h1] at k1
        cases k1
        rw [h] at k3
        cases k3
      · rw [if_neg z1] at e1 h1
        rw [if_neg z2] at e2 h2
        exact w.inj l l' b1 b2 a e1 e2 h1 h2
  · have : l ≠ st.length := fun z => by simp at hl; omega
    show (if l = st.length then some p else m l) = none
    rw [if_neg this]
    exact w.nx l (by simp at hl; omega)
  · by_cases z : l = st.length
    · have e' : (if l = st.length then some p else m l) = some a := e
      rw [if_pos z] at e'
      cases e'
      exact ⟨_, upd_same⟩
    · have e' : (if l = st.length then some p else m l) = some a := e
      rw [if_neg z] at e'
      obtain ⟨u, q⟩ := w.tr l a e'
      exact ⟨u, by rw [upd_ne (ne_of_none q h)]; exact q⟩
  · by_cases z : l = st.length
    · have e' : (if l = st.length then some p else m l) = some a := e
      rw [if_pos z] at e'
      cases e'
      exact .inr h
    · have e' : (if l = st.length then some p else m l) = some a := e
      rw [if_neg z] at e'
      exact .inl e'
/-- one's own thing at l is changed -/
theorem Wd.put (w : Wd Z.K D m st H) {l : Nat} {b b' : OB} {a : Addr} {o : HO} (hb : obAt st l = some b) (ha : m l = some a) (r : ObR Z.K D m b' o) :
    Wd Z.K D m (st.set l (some b')) (upd H a o) ∧ Ext D m H D m (upd H a o) := by
  obtain ⟨a', u', k1, k2, k3, k4⟩ := w.ob l b hb
  rw [ha] at k1
  cases k1
  refine ⟨⟨fun x u e => ?_, fun l' b1 e => ?_, fun l1 l2 b1 b2 x e1 e2 h1 h2 => ?_, fun l' hl => w.nx l' (by rw [List.length_set] at hl; exact hl), fun l x e => ?_⟩, ⟨Le.refl D, fun _ _ e => e, fun _ _ e => .inl e, fun _ _ e => .inl e, fun x u e n => ?_, fun x u e => ?_⟩⟩
  · have : x ≠ a := ne_of_none e k2
    rw [upd_ne this]; exact w.le x u e
  · rw [obAt_set] at e
    by_cases z : l = l'
    · subst z
      rw [if_pos rfl, if_pos (obAt_lt hb)] at e
      cases e
      exact ⟨a, o, ha, k2, upd_same, r⟩
    · rw [if_neg z] at e
      obtain ⟨x, u, h1, h2, h3, h4⟩ := w.ob l' b1 e
      refine ⟨x, u, h1, h2, ?_, h4⟩
      rw [upd_ne]; exact h3
      intro q
      subst q
      exact z (w.inj l l' b b1 x hb e ha h1)
  · have up : ∀ {l1 : Nat} {b1 : OB}, obAt (st.set l (some b')) l1 = some b1 → ∃ b2, obAt st l1 = some b2 := fun {l1 b1} e => by
      rw [obAt_set] at e
      by_cases z : l = l1
      · subst z; exact ⟨b, hb⟩
      · rw [if_neg z] at e; exact ⟨b1, e⟩
    obtain ⟨c1, f1⟩ := up e1
    obtain ⟨c2, f2⟩ := up e2
    exact w.inj l1 l2 c1 c2 x f1 f2 h1 h2
  · obtain ⟨u, q⟩ := w.tr l x e
    by_cases z : x = a
    · subst z; exact ⟨o, upd_same⟩
    · exact ⟨u, by rw [upd_ne z]; exact q⟩
  · rw [upd_ne]; exact e
    intro q
    subst q
    exact n l ha
  · by_cases z : x = a
    · subst z; exact ⟨o, upd_same⟩
    · exact ⟨u, by rw [upd_ne z]; exact e⟩
end
end L3
/-! L3C: the operations on data, over the layer's rules by values. -/
namespace L3
open PySem PySem.Spec PyProof.Rows L2

structure Rst where
  s_0 : Shared
  H_0 : Hp
  env : Env
  outer : List Env
  stack : List Env
  ex : List Addr
  fn : Str → Bool
  pn : List (Addr × Obj)
  xe : Value → Shared → Prop
abbrev mkX (X : Cx) (r : Rst) : Cx :=
  { X with s_0 := r.s_0, H_0 := r.H_0, env := r.env, outer := r.outer, stack := r.stack, ex := r.ex, fn := r.fn, pn := r.pn, xe := r.xe }
/-- a value as data, now -/
inductive VwR (K : PySem.W.Frag) (D H : Hp) : FV → V → Prop
  | of {d : FV} {x : V} : Rp K D d x → VwR K D H d x
  | lst {a : Addr} {vs : List V} {ds : List FV} : H a = some (.lst vs) → RpA K D ds vs → VwR K D H (.list ds) (.ref a)
section
variable {K : PySem.W.Frag} {D H : Hp}
theorem VwR.list {ds : List FV} {x : V} (h : VwR K D H (.list ds) x) (l : Le D H) : ∃ a vs, x = .ref a ∧ SqL K H a vs ∧ RpA K D ds vs := by
  cases h with
  | of r => cases r with
    | lst s r => exact ⟨_, _, rfl, l.sqL s, r⟩
  | lst e r => exact ⟨_, _, rfl, SqL.of e, r⟩
theorem VwR.tuple {ds : List FV} {x : V} (h : VwR K D H (.tuple ds) x) (l : Le D H) : ∃ a vs, x = .ref a ∧ SqT K H a vs ∧ RpA K D ds vs := by
  cases h with
  | of r => cases r with
    | tup s r => exact ⟨_, _, rfl, l.sqT s, r⟩
theorem VwR.int {i : Int} {x : V} (h : VwR K D H (.int i) x) : x = .int i := by
  cases h with
  | of r => cases r; rfl
theorem VwR.bool {i : Bool} {x : V} (h : VwR K D H (.bool i) x) : x = .bl i := by
  cases h with
  | of r => cases r; rfl
theorem VwR.str {i : Str} {x : V} (h : VwR K D H (.str i) x) : x = .str i := by
  cases h with
  | of r => cases r; rfl
theorem VwR.none {x : V} (h : VwR K D H .none x) : x = .non := by
  cases h with
  | of r => cases r; rfl
theorem VwR.dp {d : FV} {x : V} (h : VwR K D H d x) (l : Le D H) : Dp K H x d := by
  cases h with
  | of r => exact (r.mono l).dp
  | lst e r => exact .lst (SqL.of e) (r.mono l).dp
theorem VwR.isNone {d : FV} {x : V} (h : VwR K D H d x) : decide (x = V.non) = isNone d := by
  cases h with
  | of r => cases r <;> first | rfl | simp [L3.isNone]
  | lst e r => simp [L3.isNone]
theorem flatL_rp {m : Mp} : ∀ {ps : List PV} {xs : List V} {ds : List FV}, RvA K D m ps xs → flatL ps = some ds → RpA K D ds xs
  | _, _, _, .nil, e => by simp [flatL] at e; subst e; exact .nil
  | _, _, _, .cons (a := p) r t, e => by
    cases r with
    | v r =>
      simp only [flatL, Option.map_eq_some_iff] at e
      obtain ⟨ds', e1, rfl⟩ := e
      exact .cons r (flatL_rp t e1)
    | loc e' => simp [flatL] at e
theorem vw_rp {m : Mp} {st : Sto} {p : PV} {x : V} {d : FV} (w : Wd K D m st H) (r : Rv K D m p x) (e : vw st p = some d) : VwR K D H d x := by
  cases r with
  | v r => cases e; exact .of r
  | loc hm =>
    rename_i l a
    cases ho : obAt st l with
    | none => simp [vw, ho] at e
    | some b =>
      cases b with
      | lst ps =>
        simp only [vw, ho, Option.map_eq_some_iff] at e
        obtain ⟨ds, e1, rfl⟩ := e
        obtain ⟨a', o, h1, h2, h3, vs, rfl, h4⟩ := w.ob l _ ho
        rw [hm] at h1
        cases h1
        exact .lst h3 (flatL_rp h4 e1)
theorem vws_rp {m : Mp} {st : Sto} (w : Wd K D m st H) : ∀ {ps : List PV} {xs : List V} {ds : List FV}, RvA K D m ps xs → vws st ps = some ds → Paired (VwR K D H) ds xs
  | _, _, _, .nil, e => by simp [vws] at e; subst e; exact .nil
  | _, _, _, .cons (a := p) r t, e => by
    simp only [vws, Option.bind_eq_some_iff, Option.map_eq_some_iff] at e
    obtain ⟨d, e1, ds, e2, rfl⟩ := e
    exact .cons (vw_rp w r e1) (vws_rp w t e2)
/-- what an operation gives: a plain value, or a new thing -/
def Res (K : PySem.W.Frag) (D H : Hp) (d : FV) (Q : VK) : Prop :=
  (∀ z, Rp K D d z → Q z H) ∧ ∀ p o, H p = none → Rp K (upd D p o) d (.ref p) → Q (.ref p) (upd H p o)
theorem upd_le {p : Addr} {o : HO} (h : D p = none) : Le D (upd D p o) := fun a u e => by rw [upd_ne (ne_of_none e h)]; exact e
theorem Le.free {p : Addr} (l : Le D H) (h : H p = none) : D p = none := by
  cases q : D p with
  | none => rfl
  | some o => rw [l p o q] at h; cases h
theorem Res.lst {ds : List FV} {vs : List V} {Q : VK} (h : Res K D H (.list ds) Q) (l : Le D H) (r : RpA K D ds vs) (p : Addr) (hp : H p = none) : Q (.ref p) (upd H p (.lst vs)) :=
  h.2 p _ hp (.lst (SqL.of upd_same) (r.mono (upd_le (l.free hp))))
theorem Res.tup {ds : List FV} {vs : List V} {Q : VK} (h : Res K D H (.tuple ds) Q) (l : Le D H) (r : RpA K D ds vs) (p : Addr) (hp : H p = none) : Q (.ref p) (upd H p (.tup vs)) :=
  h.2 p _ hp (.tup (.inl (.inl upd_same)) (r.mono (upd_le (l.free hp))))
theorem Res.int {i : Int} {Q : VK} (h : Res K D H (.int i) Q) : Q (.int i) H := h.1 _ (.int i)
theorem Res.bool {i : Bool} {Q : VK} (h : Res K D H (.bool i) Q) : Q (.bl i) H := h.1 _ (.bl i)
theorem Res.str {i : Str} {Q : VK} (h : Res K D H (.str i) Q) : Q (.str i) H := h.1 _ (.str i)
end
theorem lim_line {n : Nat} (h : n ≤ LIM) : n ≤ sizeLine := by rw [sizeLine_eq]; exact h

section
variable {X : Cx}
def rCatL (K : PySem.W.Frag) : R2 := fun x y H Q => ∃ l b xs zs, x = .ref l ∧ y = .ref b ∧ SqL K H l xs ∧ SqL K H b zs ∧ xs.length + zs.length ≤ sizeLine ∧ ∀ p, H p = none → Q (.ref p) (upd H p (.lst (xs ++ zs)))
theorem op_catL : OpR X (binaryOp .Add) (rCatL X.K) := by
  intro pins s σ H x y v u Q I rx ry h
  obtain ⟨l, b, xs, zs, rfl, rfl, hH, hB, hz, q⟩ := h
  cases rx
  cases ry
  obtain ⟨its, r, e, _⟩ := I.list hH
  obtain ⟨its2, r2, e2, _⟩ := I.list hB
  have hl := r.length
  have hl2 := r2.length
  obtain ⟨⟨cls, dd, data, sl⟩, ho, hc, n, hd⟩ := e.isList
  obtain ⟨⟨cls2, dd2, data2, sl2⟩, ho2, hc2, n2, hd2⟩ := e2.isList
  simp only at hc hd hc2 hd2
  subst hc hd hc2 hd2
  have ea : its.toArray ++ its2.toArray = (its ++ its2).toArray := by simp
  refine concat_meets ⟨_, ho, rfl⟩ ⟨_, ho2, rfl⟩ noFill_list_add seq_list_add PySem.F.slot_list_add PySem.F.entry_list_add (PySem.F.args_list_add_2 _ _) (list_addW l b its.toArray its2.toArray n n2 dd dd2 sl sl2 (by rw [List.size_toArray, List.size_toArray]; omega)) ⟨ho, ho2, ?_⟩
  rw [ea]
  have hn : H s.heap.objs.size = none := I.hok.fresh (Nat.le_refl _)
  refine ⟨.ref _, _, I.laid (t' := s.toks) (o := .lst (xs ++ zs)) (fun b ob q => Heap.get?_push_of_some _ q) (Nat.le_refl _) ?_, rfl, q _ hn⟩
  exact ⟨by rw [List.length_append]; exact hz, _, 0, r.append r2, Heap.get?_push_size _ rfl⟩
/-- // by any divisor but 0, below 2 ^ 9000 -/
theorem op_fdivA : OpR X (binaryOp .FloorDiv) (rI (fun _ j => j ≠ 0 ∧ j.natAbs.log2 < 9000) fun i j => .int (i.fdiv j)) := opI fun i j _ _ _ _ _ hc q =>
  floordiv_int hc.1 q (.inl (PyProof.noPylong_of_log2 hc.2))
/-- a two-place operation is what F says -/
def Op2 (X : Cx) (f : Value → Value → Sem Value) (F : FV → FV → Option FV) : Prop :=
  ∃ r : R2, (∀ s, OpR (mkX X s) f r) ∧ ∀ (D H : Hp) (x y : V) (dx dy dz : FV) (Q : VK), Le D H → VwR X.K D H dx x → VwR X.K D H dy y → F dx dy = some dz → Res X.K D H dz Q → r x y H Q
theorem o2_add : Op2 X (binaryOp .Add) opAdd := by
  refine ⟨_, fun s => op_add.or (op_add_str.or (OpR.or (show OpR (mkX X s) (binaryOp .Add) (rCatL X.K) from op_catL) (show OpR (mkX X s) (binaryOp .Add) (rCatA X.K) from op_catA))), fun D H x y dx dy dz Q l rx ry e h => ?_⟩
  unfold opAdd at e
  split at e
  · cases e
    exact .inl ⟨_, _, rx.int, ry.int, h.int⟩
  · split at e
    · rename_i hl
      cases e
      exact .inr (.inl ⟨_, _, rx.str, ry.str, lim_line hl, h.str⟩)
    · cases e
  · split at e
    · rename_i hl
      cases e
      obtain ⟨a, vs, rfl, ha, ra⟩ := rx.list l
      obtain ⟨b, us, rfl, hb, rb⟩ := ry.list l
      exact .inr (.inr (.inl ⟨a, b, vs, us, rfl, rfl, ha, hb, by rw [← ra.length, ← rb.length]; exact lim_line hl, fun p hp => h.lst l (ra.append rb) p hp⟩))
    · cases e
  · split at e
    · rename_i hl
      cases e
      obtain ⟨a, vs, ea, ha, ra⟩ := rx.tuple l
      obtain ⟨b, us, eb, hb, rb⟩ := ry.tuple l
      refine .inr (.inr (.inr ⟨a, b, vs, us, ea, eb, ha, hb, by rw [← ra.length, ← rb.length]; exact lim_line hl, fun z => ?_, fun _ z => ?_, fun _ _ p hp => h.tup l (ra.append rb) p hp⟩))
      · subst z
        cases ra
        rw [← eb]
        cases ry with
        | of r => exact h.1 _ r
      · subst z
        cases rb
        rw [← ea]
        rw [List.append_nil] at h
        cases rx with
        | of r => exact h.1 _ r
    · cases e
  · cases e
theorem o2_sub : Op2 X (binaryOp .Sub) opSub := by
  refine ⟨_, fun s => op_sub, fun D H x y dx dy dz Q l rx ry e h => ?_⟩
  unfold opSub at e
  split at e
  · cases e
    exact ⟨_, _, rx.int, ry.int, h.int⟩
  · cases e
theorem o2_mul : Op2 X (binaryOp .Mult) opMul := by
  refine ⟨_, fun s => op_mulW, fun D H x y dx dy dz Q l rx ry e h => ?_⟩
  unfold opMul at e
  split at e
  · split at e
    · rename_i hm
      cases e
      exact ⟨_, _, rx.int, ry.int, by unfold mulOk at hm; unfold CMulW; simpa using hm, h.int⟩
    · cases e
  · cases e
theorem o2_div : Op2 X (binaryOp .FloorDiv) opDiv := by
  refine ⟨_, fun s => op_fdivA, fun D H x y dx dy dz Q l rx ry e h => ?_⟩
  unfold opDiv at e
  split at e
  · split at e
    · rename_i hm
      cases e
      unfold divOk at hm
      simp only [Bool.and_eq_true, decide_eq_true_eq] at hm
      exact ⟨_, _, rx.int, ry.int, hm, h.int⟩
    · cases e
  · cases e
theorem o2_mod : Op2 X (binaryOp .Mod) opMod := by
  refine ⟨_, fun s => op_modN, fun D H x y dx dy dz Q l rx ry e h => ?_⟩
  unfold opMod at e
  split at e
  · split at e
    · rename_i hm
      cases e
      exact ⟨_, _, rx.int, ry.int, hm, h.int⟩
    · cases e
  · cases e
theorem o2_pow : Op2 X (binaryOp .Pow) opPow := by
  refine ⟨_, fun s => op_pow, fun D H x y dx dy dz Q l rx ry e h => ?_⟩
  unfold opPow at e
  split at e
  · split at e
    · rename_i hm
      cases e
      unfold powOk at hm
      simp only [Bool.and_eq_true, decide_eq_true_eq] at hm
      exact ⟨_, _, rx.int, ry.int, ⟨hm.1.1, hm.1.2, hm.2⟩, h.int⟩
    · cases e
  · cases e
theorem o2_any {op : Operator} : ∃ r : R2, (∀ s, OpR (mkX X s) (binaryOp op) r) ∧ ∀ (D H : Hp) (x y : V) (dx dy dz : FV) (Q : VK), Le D H → VwR X.K D H dx x → VwR X.K D H dy y → bop op dx dy = some dz → Res X.K D H dz Q → r x y H Q := by
  have no : ∀ op, (∀ a b, bop op a b = none) → ∃ r : R2, (∀ s, OpR (mkX X s) (binaryOp op) r) ∧ ∀ (D H : Hp) (x y : V) (dx dy dz : FV) (Q : VK), Le D H → VwR X.K D H dx x → VwR X.K D H dy y → bop op dx dy = some dz → Res X.K D H dz Q → r x y H Q := fun op h =>
    ⟨fun _ _ _ _ => False, fun _ _ _ _ _ _ _ _ _ _ _ _ _ z => z.elim, fun _ _ _ _ dx dy dz _ _ _ _ e _ => by rw [h] at e; cases e⟩
  cases op with
  | Add => exact o2_add
  | Sub => exact o2_sub
  | Mult => exact o2_mul
  | FloorDiv => exact o2_div
  | Mod => exact o2_mod
  | Pow => exact o2_pow
  | _ => exact no _ fun _ _ => rfl
/-- a comparison is what F says -/
def Cp2 (X : Cx) (op : CmpOp) (F : FV → FV → Option Bool) : Prop :=
  ∃ r : R2, (∀ s, OpR (mkX X s) (compareOp op) r) ∧ ∀ (D H : Hp) (x y : V) (dx dy : FV) (k : Bool) (Q : VK), Le D H → VwR X.K D H dx x → VwR X.K D H dy y → F dx dy = some k → Q (.bl k) H → r x y H Q
theorem c2_int {op : CmpOp} {f : Int → Int → Bool} (h : ∀ s, OpR (mkX X s) (compareOp op) (rI0 fun i j => .bl (f i j))) : Cp2 X op (cpI f) := by
  refine ⟨_, h, fun D H x y dx dy k Q l rx ry e q => ?_⟩
  unfold cpI at e
  split at e
  · cases e
    exact ⟨_, _, rx.int, ry.int, q⟩
  · cases e
theorem c2_eq (hu : X.A.units + 64 < cLine) : Cp2 X .Eq cpEq := by
  refine ⟨_, fun s => (show OpR (mkX X s) (compareOp .Eq) (rEqD X.K) from op_eqD hu), fun D H x y dx dy k Q l rx ry e q => ?_⟩
  unfold cpEq at e
  split at e
  · rename_i hs
    cases e
    simp only [Bool.and_eq_true] at hs
    exact ⟨dx, dy, rx.dp l, ry.dp l, hs.1, hs.2, q⟩
  · cases e
theorem c2_ne (hu : X.A.units + 64 < cLine) : Cp2 X .NotEq cpNe := by
  refine ⟨_, fun s => (show OpR (mkX X s) (compareOp .NotEq) (rNeD X.K) from op_neD hu), fun D H x y dx dy k Q l rx ry e q => ?_⟩
  unfold cpNe at e
  split at e
  · rename_i hs
    cases e
    simp only [Bool.and_eq_true] at hs
    exact ⟨dx, dy, rx.dp l, ry.dp l, hs.1, hs.2, q⟩
  · cases e
theorem c2_is : Cp2 X .Is cpIs := by
  refine ⟨_, fun s => op_isN, fun D H x y dx dy k Q l rx ry e q => ?_⟩
  unfold cpIs at e
  split at e
  · rename_i hn
    cases e
    have e2 := ry.isNone
    rw [hn] at e2
    exact ⟨of_decide_eq_true e2, by rw [rx.isNone]; exact q⟩
  · cases e
theorem c2_isnot : Cp2 X .IsNot cpIsNot := by
  refine ⟨_, fun s => op_notN, fun D H x y dx dy k Q l rx ry e q => ?_⟩
  unfold cpIsNot at e
  split at e
  · rename_i hn
    cases e
    have e2 := ry.isNone
    rw [hn] at e2
    exact ⟨of_decide_eq_true e2, by rw [rx.isNone]; exact q⟩
  · cases e
end
end L3
/-! L3C2: in, built-in calls, subscripts, slices, isinstance. -/
namespace L3
open PySem PySem.Spec PyProof.Rows L2
section
variable {X : Cx}
def rInLT (K : PySem.W.Frag) (neg : Bool) : R2 := fun x y H Q => ∃ d ds, Dp K H x d ∧ (Dp K H y (.list ds) ∨ Dp K H y (.tuple ds)) ∧ SeqAt.shaped d = true ∧ SeqAt.shaped (.list ds) = true ∧ Q (.bl (if neg then !ds.any fun z => PyData.eqv z d else ds.any fun z => PyData.eqv z d)) H
theorem op_inLT (hu : X.A.units + 65 < cLine) : OpR X (compareOp .In) (rInLT X.K false) := by
  intro pins s σ H x y v u Q I rx ry h
  obtain ⟨d, ds, hd, he, sd, se, q⟩ := h
  obtain ⟨as, r1⟩ := Dp.reads I d x v hd rx
  rcases he with he | he
  · obtain ⟨bs, r2⟩ := Dp.reads I (.list ds) y u he ry
    exact SeqAt.in_list_reads r2 r1 (SeqAt.canLay_of_shaped se) (SeqAt.canLay_of_shaped sd) (room_in_shaped sd hu) ⟨.bl _, H, I, rfl, q⟩
  · obtain ⟨bs, r2⟩ := Dp.reads I (.tuple ds) y u he ry
    exact SeqAt.in_tuple_reads r2 r1 (SeqAt.canLay_of_shaped se) (SeqAt.canLay_of_shaped sd) (room_in_shaped sd hu) ⟨.bl _, H, I, rfl, q⟩
theorem op_notInLT (hu : X.A.units + 65 < cLine) : OpR X (compareOp .NotIn) (rInLT X.K true) := by
  intro pins s σ H x y v u Q I rx ry h
  obtain ⟨d, ds, hd, he, sd, se, q⟩ := h
  obtain ⟨as, r1⟩ := Dp.reads I d x v hd rx
  rcases he with he | he
  · obtain ⟨bs, r2⟩ := Dp.reads I (.list ds) y u he ry
    exact SeqAt.notIn_list_reads r2 r1 (SeqAt.canLay_of_shaped se) (SeqAt.canLay_of_shaped sd) (room_in_shaped sd hu) ⟨.bl _, H, I, rfl, q⟩
  · obtain ⟨bs, r2⟩ := Dp.reads I (.tuple ds) y u he ry
    exact SeqAt.notIn_tuple_reads r2 r1 (SeqAt.canLay_of_shaped se) (SeqAt.canLay_of_shaped sd) (room_in_shaped sd hu) ⟨.bl _, H, I, rfl, q⟩
theorem c2_in (hu : X.A.units + 65 < cLine) : Cp2 X .In cpIn := by
  refine ⟨_, fun s => (show OpR (mkX X s) (compareOp .In) (rInLT X.K false) from op_inLT hu), fun D H x y dx dy k Q l rx ry e q => ?_⟩
  unfold cpIn at e
  split at e <;> first | (cases e; done) | skip
  all_goals
    unfold inItems at e
    split at e
    · rename_i hs
      cases e
      simp only [Bool.and_eq_true] at hs
      first
        | exact ⟨dx, _, rx.dp l, .inl (ry.dp l), hs.1, hs.2, q⟩
        | exact ⟨dx, _, rx.dp l, .inr (ry.dp l), hs.1, hs.2, q⟩
    · cases e
theorem c2_notin (hu : X.A.units + 65 < cLine) : Cp2 X .NotIn cpNotIn := by
  refine ⟨_, fun s => (show OpR (mkX X s) (compareOp .NotIn) (rInLT X.K true) from op_notInLT hu), fun D H x y dx dy k Q l rx ry e q => ?_⟩
  unfold cpNotIn at e
  split at e <;> first | (cases e; done) | skip
  all_goals
    unfold inItems at e
    split at e
    · rename_i hs
      cases e
      simp only [Bool.and_eq_true] at hs
      first
        | exact ⟨dx, _, rx.dp l, .inl (ry.dp l), hs.1, hs.2, q⟩
        | exact ⟨dx, _, rx.dp l, .inr (ry.dp l), hs.1, hs.2, q⟩
    · cases e
theorem c2_any (hu : X.A.units + 65 < cLine) (op : CmpOp) : Cp2 X op (cop op) := by
  cases op with
  | Eq => exact c2_eq (by omega)
  | NotEq => exact c2_ne (by omega)
  | Lt => exact c2_int fun _ => op_lt
  | LtE => exact c2_int fun _ => op_le
  | Gt => exact c2_int fun _ => op_gt
  | GtE => exact c2_int fun _ => op_ge
  | Is => exact c2_is
  | IsNot => exact c2_isnot
  | In => exact c2_in hu
  | NotIn => exact c2_notin hu

/-! ### built-in functions and types, called -/
end
def Bl.val : Bl → Value
  | .len => .builtin "len"
  | .abs => .builtin "abs"
  | .int => .type "int"
  | .all => .builtin "all"
  | .any => .builtin "any"
  | .sum => .builtin "sum"
  | .tuple => .type "tuple"
  | .list => .type "list"
  | .divmod => .builtin "divmod"
  | .gcd => .builtin "math.gcd"
  | .max => .builtin "max"
  | .min => .builtin "min"
def Bl.nm : Bl → Str
  | .len => "len"
  | .abs => "abs"
  | .int => "int"
  | .all => "all"
  | .any => "any"
  | .sum => "sum"
  | .tuple => "tuple"
  | .list => "list"
  | .divmod => "divmod"
  | .gcd => "gcd"
  | .max => "max"
  | .min => "min"
def Bl.imp : Bl → Bool
  | .gcd => true
  | _ => false
theorem Bl.boot : ∀ b : Bl, b.imp = false → bootBuiltins b.nm = some b.val
  | .len, _ => by decide +kernel
  | .abs, _ => by decide +kernel
  | .int, _ => by decide +kernel
  | .all, _ => by decide +kernel
  | .any, _ => by decide +kernel
  | .sum, _ => by decide +kernel
  | .tuple, _ => by decide +kernel
  | .list, _ => by decide +kernel
  | .divmod, _ => by decide +kernel
  | .gcd, h => by cases h
  | .max, _ => by decide +kernel
  | .min, _ => by decide +kernel
theorem foldl_max : ∀ (r : List Int) (x : Int), let m := r.foldl (fun m y => if y > m then y else m) x; (m = x ∨ m ∈ r) ∧ x ≤ m ∧ ∀ y ∈ r, y ≤ m
  | [], x => by simp
  | z :: r, x => by
    have ih := foldl_max r (if z > x then z else x)
    simp only [List.foldl_cons]
    obtain ⟨h1, h2, h3⟩ := ih
    generalize List.foldl (fun m y => if y > m then y else m) (if z > x then z else x) r = m at h1 h2 h3
    refine ⟨?_, ?_, ?_⟩
    · rcases h1 with h1 | h1
      · split at h1
        · exact .inr (by simp [h1])
        · exact .inl h1
      · exact .inr (by simp [h1])
    · split at h2 <;> omega
    · intro y hy
      rcases List.mem_cons.mp hy with rfl | hy
      · split at h2 <;> omega
      · exact h3 y hy
theorem foldl_min : ∀ (r : List Int) (x : Int), let m := r.foldl (fun m y => if y < m then y else m) x; (m = x ∨ m ∈ r) ∧ m ≤ x ∧ ∀ y ∈ r, m ≤ y
  | [], x => by simp
  | z :: r, x => by
    have ih := foldl_min r (if z < x then z else x)
    simp only [List.foldl_cons]
    obtain ⟨h1, h2, h3⟩ := ih
    generalize List.foldl (fun m y => if y < m then y else m) (if z < x then z else x) r = m at h1 h2 h3
    refine ⟨?_, ?_, ?_⟩
    · rcases h1 with h1 | h1
      · split at h1
        · exact .inr (by simp [h1])
        · exact .inl h1
      · exact .inr (by simp [h1])
    · split at h2 <;> omega
    · intro y hy
      rcases List.mem_cons.mp hy with rfl | hy
      · split at h2 <;> omega
      · exact h3 y hy
theorem maxOf_spec {is : List Int} {m : Int} (h : maxOf is = some m) : 0 < is.length ∧ ∀ m', m' ∈ is → (∀ y ∈ is, y ≤ m') → m' = m := by
  cases is with
  | nil => simp [maxOf] at h
  | cons x r =>
    simp only [maxOf, Option.some.injEq] at h
    have := foldl_max r x
    simp only at this
    rw [h] at this
    obtain ⟨h1, h2, h3⟩ := this
    refine ⟨by simp, fun m' hm hy => ?_⟩
    have a1 : m ≤ m' := by
      rcases h1 with h1 | h1
      · rw [h1]; exact hy x (by simp)
      · exact hy m (by simp [h1])
    have a2 : m' ≤ m := by
      rcases List.mem_cons.mp hm with e | e
      · rw [e]; exact h2
      · exact h3 m' e
    omega
theorem minOf_spec {is : List Int} {m : Int} (h : minOf is = some m) : 0 < is.length ∧ ∀ m', m' ∈ is → (∀ y ∈ is, m' ≤ y) → m' = m := by
  cases is with
  | nil => simp [minOf] at h
  | cons x r =>
    simp only [minOf, Option.some.injEq] at h
    have := foldl_min r x
    simp only at this
    rw [h] at this
    obtain ⟨h1, h2, h3⟩ := this
    refine ⟨by simp, fun m' hm hy => ?_⟩
    have a1 : m' ≤ m := by
      rcases h1 with h1 | h1
      · rw [h1]; exact hy x (by simp)
      · exact hy m (by simp [h1])
    have a2 : m ≤ m' := by
      rcases List.mem_cons.mp hm with e | e
      · rw [e]; exact h2
      · exact h3 m' e
    omega
section
variable {X : Cx}
/-- a call of a built-in is what F says -/
def Cb (X : Cx) (u : Value) (F : List FV → Option FV) : Prop :=
  ∃ r, (∀ s, CallR (mkX X s) u r) ∧ ∀ (D H : Hp) (xs : List V) (ds : List FV) (dz : FV) (Q : VK), Le D H → Paired (VwR X.K D H) ds xs → F ds = some dz → Res X.K D H dz Q → r xs H Q
theorem pv1 {D H : Hp} {d : FV} {xs : List V} (h : Paired (VwR X.K D H) [d] xs) : ∃ x, xs = [x] ∧ VwR X.K D H d x := by
  cases h with
  | cons r t => cases t; exact ⟨_, rfl, r⟩
theorem pv2 {D H : Hp} {d e : FV} {xs : List V} (h : Paired (VwR X.K D H) [d, e] xs) : ∃ x y, xs = [x, y] ∧ VwR X.K D H d x ∧ VwR X.K D H e y := by
  cases h with
  | cons r t =>
    cases t with
    | cons r2 t => cases t; exact ⟨_, _, rfl, r, r2⟩
theorem VwR.sq {K : PySem.W.Frag} {D H : Hp} {ds : List FV} {x : V} (h : VwR K D H (.list ds) x) (l : Le D H) : ∃ a vs, x = .ref a ∧ SqL K H a vs ∧ RpA K D ds vs := by
  exact h.list l
theorem cb_len : Cb X (.builtin "len") (bfn .len) := by
  refine ⟨_, fun s => (show CallR (mkX X s) (.builtin "len") (fun xs H Q => ∃ p ys, xs = [.ref p] ∧ (SqL X.K H p ys ∨ SqT X.K H p ys) ∧ Q (.int ys.length) H) from call_len_seq).or call_len_str, fun D H xs ds dz Q l r e q => ?_⟩
  unfold bfn at e
  split at e <;> try (first | contradiction | cases e; done)
  · obtain ⟨x, rfl, rx⟩ := pv1 r
    obtain ⟨a, vs, rfl, ha, ra⟩ := rx.sq l
    cases e
    exact .inl ⟨a, vs, rfl, .inl ha, by rw [← ra.length]; exact q.int⟩
  · obtain ⟨x, rfl, rx⟩ := pv1 r
    obtain ⟨a, vs, rfl, ha, ra⟩ := rx.tuple l
    cases e
    exact .inl ⟨a, vs, rfl, .inr ha, by rw [← ra.length]; exact q.int⟩
  · split at e
    · rename_i hl
      obtain ⟨x, rfl, rx⟩ := pv1 r
      cases e
      exact .inr ⟨_, by rw [rx.str], lim_line hl, q.int⟩
    · cases e
theorem cb_abs : Cb X (.builtin "abs") (bfn .abs) := by
  refine ⟨_, fun s => call_abs, fun D H xs ds dz Q l r e q => ?_⟩
  unfold bfn at e
  split at e <;> try (first | contradiction | cases e; done)
  obtain ⟨x, rfl, rx⟩ := pv1 r
  cases e
  exact ⟨_, by rw [rx.int], q.int⟩
theorem cb_int : Cb X (.type "int") (bfn .int) := by
  refine ⟨_, fun s => call_int1, fun D H xs ds dz Q l r e q => ?_⟩
  unfold bfn at e
  split at e <;> try (first | contradiction | cases e; done)
  · obtain ⟨x, rfl, rx⟩ := pv1 r
    cases e
    exact .inl ⟨_, by rw [rx.int], q.int⟩
  · obtain ⟨x, rfl, rx⟩ := pv1 r
    cases e
    exact .inr ⟨_, by rw [rx.bool], q.int⟩
theorem cb_all (hc : X.calm = true) : Cb X (.builtin "all") (bfn .all) := by
  refine ⟨_, fun s => (show CallR (mkX X s) (.builtin "all") (rAll X.K) from cr_all hc), fun D H xs ds dz Q l r e q => ?_⟩
  unfold bfn at e
  split at e <;> try (first | contradiction | cases e; done)
  simp only [Option.map_eq_some_iff] at e
  obtain ⟨bs, e1, rfl⟩ := e
  obtain ⟨x, rfl, rx⟩ := pv1 r
  obtain ⟨a, vs, rfl, ha, ra⟩ := rx.sq l
  exact ⟨a, bs, rfl, by rw [← ra.bools e1]; exact ha, q.bool⟩
theorem cb_any (hc : X.calm = true) : Cb X (.builtin "any") (bfn .any) := by
  refine ⟨_, fun s => (show CallR (mkX X s) (.builtin "any") (rAny X.K) from cr_any hc), fun D H xs ds dz Q l r e q => ?_⟩
  unfold bfn at e
  split at e <;> try (first | contradiction | cases e; done)
  simp only [Option.map_eq_some_iff] at e
  obtain ⟨bs, e1, rfl⟩ := e
  obtain ⟨x, rfl, rx⟩ := pv1 r
  obtain ⟨a, vs, rfl, ha, ra⟩ := rx.sq l
  exact ⟨a, bs, rfl, by rw [← ra.bools e1]; exact ha, q.bool⟩
theorem cb_sum (hc : X.calm = true) : Cb X (.builtin "sum") (bfn .sum) := by
  refine ⟨_, fun s => (show CallR (mkX X s) (.builtin "sum") (rSum X.K) from cr_sum hc), fun D H xs ds dz Q l r e q => ?_⟩
  unfold bfn at e
  split at e <;> try (first | contradiction | cases e; done)
  simp only [Option.map_eq_some_iff] at e
  obtain ⟨bs, e1, rfl⟩ := e
  obtain ⟨x, rfl, rx⟩ := pv1 r
  obtain ⟨a, vs, rfl, ha, ra⟩ := rx.sq l
  exact ⟨a, bs, rfl, by rw [← ra.ints e1]; exact ha, q.int⟩
theorem cb_tuple : Cb X (.type "tuple") (bfn .tuple) := by
  refine ⟨_, fun s => (show CallR (mkX X s) (.type "tuple") (fun xs H Q => ∃ p ys, xs = [.ref p] ∧ ((SqL X.K H p ys ∧ ∀ l, H l = none → Q (.ref l) (upd H l (.tup ys))) ∨ (SqT X.K H p ys ∧ Q (.ref p) H))) from call_tuple_of), fun D H xs ds dz Q l r e q => ?_⟩
  unfold bfn at e
  split at e <;> try (first | contradiction | cases e; done)
  · obtain ⟨x, rfl, rx⟩ := pv1 r
    obtain ⟨a, vs, rfl, ha, ra⟩ := rx.sq l
    cases e
    exact ⟨a, vs, rfl, .inl ⟨ha, fun p hp => q.tup l ra p hp⟩⟩
  · obtain ⟨x, rfl, rx⟩ := pv1 r
    obtain ⟨a, vs, ex, ha, ra⟩ := rx.tuple l
    cases e
    refine ⟨a, vs, by rw [ex], .inr ⟨ha, ?_⟩⟩
    rw [← ex]
    cases rx with
    | of r => exact q.1 _ r
theorem cb_list : Cb X (.type "list") (bfn .list) := by
  refine ⟨_, fun s => (show CallR (mkX X s) (.type "list") (fun xs H Q => ∃ p ys, xs = [.ref p] ∧ (SqL X.K H p ys ∨ SqT X.K H p ys) ∧ ∀ l, H l = none → Q (.ref l) (upd H l (.lst ys))) from call_list_of), fun D H xs ds dz Q l r e q => ?_⟩
  unfold bfn at e
  split at e <;> try (first | contradiction | cases e; done)
  · obtain ⟨x, rfl, rx⟩ := pv1 r
    obtain ⟨a, vs, rfl, ha, ra⟩ := rx.sq l
    cases e
    exact ⟨a, vs, rfl, .inl ha, fun p hp => q.lst l ra p hp⟩
  · obtain ⟨x, rfl, rx⟩ := pv1 r
    obtain ⟨a, vs, rfl, ha, ra⟩ := rx.tuple l
    cases e
    exact ⟨a, vs, rfl, .inr ha, fun p hp => q.lst l ra p hp⟩
theorem cb_divmod : Cb X (.builtin "divmod") (bfn .divmod) := by
  refine ⟨_, fun s => call_divmod, fun D H xs ds dz Q l r e q => ?_⟩
  unfold bfn at e
  split at e <;> try (first | contradiction | cases e; done)
  split at e
  · rename_i hj
    obtain ⟨x, y, rfl, rx, ry⟩ := pv2 r
    cases e
    exact ⟨_, _, by rw [rx.int, ry.int], hj, fun p hp => q.tup l (.cons (.int _) (.cons (.int _) .nil)) p hp⟩
  · cases e
theorem cb_gcd : Cb X (.builtin "math.gcd") (bfn .gcd) := by
  refine ⟨_, fun s => L2.cr_gcd, fun D H xs ds dz Q l r e q => ?_⟩
  unfold bfn at e
  split at e <;> try (first | contradiction | cases e; done)
  obtain ⟨x, y, rfl, rx, ry⟩ := pv2 r
  cases e
  exact ⟨_, _, by rw [rx.int, ry.int], q.int⟩
theorem cb_max (hc : X.calm = true) : Cb X (.builtin "max") (bfn .max) := by
  refine ⟨_, fun s => (call_max2 (X := mkX X s) hc).or (show CallR (mkX X s) (.builtin "max") (rMax X.K) from cr_max hc), fun D H xs ds dz Q l r e q => ?_⟩
  unfold bfn at e
  split at e <;> try (first | contradiction | cases e; done)
  · obtain ⟨x, y, rfl, rx, ry⟩ := pv2 r
    cases e
    exact .inl ⟨_, _, by rw [rx.int, ry.int], q.int⟩
  · simp only [Option.bind_eq_some_iff, Option.map_eq_some_iff] at e
    obtain ⟨bs, e1, m, e2, rfl⟩ := e
    obtain ⟨x, rfl, rx⟩ := pv1 r
    obtain ⟨a, vs, rfl, ha, ra⟩ := rx.sq l
    obtain ⟨h1, h2⟩ := maxOf_spec e2
    exact .inr ⟨a, bs, rfl, by rw [← ra.ints e1]; exact ha, h1, fun m' hm hy => by rw [h2 m' hm hy]; exact q.int⟩
theorem cb_min (hc : X.calm = true) : Cb X (.builtin "min") (bfn .min) := by
  refine ⟨_, fun s => (call_min2 (X := mkX X s) hc).or (show CallR (mkX X s) (.builtin "min") (rMin X.K) from cr_min hc), fun D H xs ds dz Q l r e q => ?_⟩
  unfold bfn at e
  split at e <;> try (first | contradiction | cases e; done)
  · obtain ⟨x, y, rfl, rx, ry⟩ := pv2 r
    cases e
    exact .inl ⟨_, _, by rw [rx.int, ry.int], q.int⟩
  · simp only [Option.bind_eq_some_iff, Option.map_eq_some_iff] at e
    obtain ⟨bs, e1, m, e2, rfl⟩ := e
    obtain ⟨x, rfl, rx⟩ := pv1 r
    obtain ⟨a, vs, rfl, ha, ra⟩ := rx.sq l
    obtain ⟨h1, h2⟩ := minOf_spec e2
    exact .inr ⟨a, bs, rfl, by rw [← ra.ints e1]; exact ha, h1, fun m' hm hy => by rw [h2 m' hm hy]; exact q.int⟩
theorem cb_of (hc : X.calm = true) : ∀ b : Bl, Cb X b.val (bfn b)
  | .len => cb_len
  | .abs => cb_abs
  | .int => cb_int
  | .all => cb_all hc
  | .any => cb_any hc
  | .sum => cb_sum hc
  | .tuple => cb_tuple
  | .list => cb_list
  | .divmod => cb_divmod
  | .gcd => cb_gcd
  | .max => cb_max hc
  | .min => cb_min hc

/-! ### subscripts -/
theorem atI_rp {K : PySem.W.Frag} {D : Hp} {ds : List FV} {vs : List V} {i : Int} {d : FV} (r : RpA K D ds vs) (h : atI ds i = some d) : ∃ v, atI vs i = some v ∧ Rp K D d v := by
  unfold atI at h ⊢
  rw [← r.length]
  simp only [Option.bind_eq_some_iff] at h ⊢
  obtain ⟨j, h1, h2⟩ := h
  obtain ⟨v, h3, h4⟩ := r.get h2
  exact ⟨v, ⟨j, h1, h3⟩, h4⟩
theorem atI_rv {K : PySem.W.Frag} {D : Hp} {m : Mp} {ds : List PV} {vs : List V} {i : Int} {d : PV} (r : RvA K D m ds vs) (h : atI ds i = some d) : ∃ v, atI vs i = some v ∧ Rv K D m d v := by
  unfold atI at h ⊢
  rw [← Paired.length r]
  simp only [Option.bind_eq_some_iff] at h ⊢
  obtain ⟨j, h1, h2⟩ := h
  have go : ∀ {ds : List PV} {vs : List V} {j : Nat}, RvA K D m ds vs → ds[j]? = some d → ∃ v, vs[j]? = some v ∧ Rv K D m d v := by
    intro ds vs j r
    induction r generalizing j with
    | nil => intro e; simp at e
    | cons a t ih =>
      intro e
      cases j with
      | zero => simp at e; subst e; exact ⟨_, rfl, a⟩
      | succ j => obtain ⟨v, q1, q2⟩ := ih (j := j) (by simpa using e); exact ⟨v, by simpa using q1, q2⟩
  obtain ⟨v, h3, h4⟩ := go r h2
  exact ⟨v, ⟨j, h1, h3⟩, h4⟩
/-- x[i] of data -/
theorem ix_fv {D H : Hp} {x y : V} {dx dy dz : FV} {Q : VK} (l : Le D H) (rx : Rp X.K D dx x) (ry : VwR X.K D H dy y) (e : opIx dx dy = some dz) (q : ∀ z, Rp X.K D dz z → Q z H) : rIx X.K x y H Q := by
  unfold opIx at e
  split at e
  · cases rx with
    | lst s r =>
      obtain ⟨v, h1, h2⟩ := atI_rp r e
      exact .inl ⟨_, _, _, v, rfl, ry.int, l.sqL s, h1, q v h2⟩
  · cases rx with
    | tup s r =>
      obtain ⟨v, h1, h2⟩ := atI_rp r e
      exact .inr (.inl ⟨_, _, _, v, rfl, ry.int, l.sqT s, h1, q v h2⟩)
  · split at e
    · rename_i hl
      simp only [Option.map_eq_some_iff] at e
      obtain ⟨c, e1, rfl⟩ := e
      cases rx
      exact .inr (.inr ⟨_, _, c, rfl, ry.int, lim_line hl, e1, q _ (.str _)⟩)
    · cases e
  · cases e
theorem cut_rp {K : PySem.W.Frag} {D : Hp} {ds : List FV} {vs : List V} (lo hi : Option Int) (r : RpA K D ds vs) : RpA K D (cutOf ds lo hi) (cutV vs lo hi) := by
  unfold cutOf cutV
  rw [← r.length]
  exact (r.drop _).take _
theorem sIx_le (n : Nat) : ∀ (o : Option Int) (d : Nat), d ≤ n → HT.sIx n d o ≤ n := by
  intro o d h
  unfold HT.sIx
  cases o with
  | none => exact h
  | some i =>
    dsimp only
    split <;> omega
theorem cut_whole {α : Type} {xs : List α} {lo hi : Option Int} (h : HT.sIx xs.length 0 lo = 0 ∧ HT.sIx xs.length xs.length hi = xs.length) : cutOf xs lo hi = xs := by
  unfold cutOf
  rw [h.1, h.2]
  simp
/-- x[lo:hi] of data -/
theorem sl_fv {D H : Hp} {x : V} {dx dz : FV} {lo hi : Option Int} {Q : VK} (l : Le D H) (rx : VwR X.K D H dx x) (e : opSl dx lo hi = some dz) (q : Res X.K D H dz Q) : rSlL X.K x lo hi H Q ∨ rSlA X.K x lo hi H Q := by
  unfold opSl at e
  split at e
  · cases e
    obtain ⟨a, vs, rfl, ha, ra⟩ := rx.sq l
    exact .inl ⟨a, vs, rfl, ha, fun p hp => q.lst l (cut_rp lo hi ra) p hp⟩
  · cases e
    obtain ⟨a, vs, ex, ha, ra⟩ := rx.tuple l
    refine .inr ⟨a, vs, ex, ha, fun w => ?_, fun _ p hp => q.tup l (cut_rp lo hi ra) p hp⟩
    rw [← ra.length] at w
    rw [cut_whole w] at q
    rw [← ex]
    cases rx with
    | of r => exact q.1 _ r
  · cases e

/-! ### isinstance -/
theorem tyx_of {K : PySem.W.Frag} {D H : Hp} {d : FV} {x : V} (l : Le D H) (r : VwR K D H d x) : TyX K H x (.type (tyName d)) := by
  cases r with
  | lst e r => exact .base (.lst e)
  | of r =>
    cases r with
    | non => exact .base .non
    | bl b => exact .base (.bl b)
    | int i => exact .base (.int i)
    | str x => exact .base (.str x)
    | lst s r =>
      rcases l.sqL s with (s | ⟨o, s⟩) | ⟨o, its, n, h1, h2, _⟩
      · exact .base (.lst s)
      · exact .base (.frz s)
      · exact .kList h1 h2
    | tup s r =>
      rcases l.sqT s with (s | ⟨o, s⟩) | ⟨o, its, n, h1, h2, _⟩
      · exact .base (.tup s)
      · exact .fTuple s
      · exact .kTuple h1 h2
def Ty.nm : Ty → String
  | .int => "int"
  | .bool => "bool"
  | .str => "str"
  | .tuple => "tuple"
  | .list => "list"
  | .dict => "dict"
theorem Ty.boot : ∀ t : Ty, bootBuiltins (Str.ofString t.nm) = some (.type t.nm)
  | .int => by decide +kernel
  | .bool => by decide +kernel
  | .str => by decide +kernel
  | .tuple => by decide +kernel
  | .list => by decide +kernel
  | .dict => by decide +kernel
theorem isTy_kit {d : FV} {T : Ty} : kitB (tyName d) T.nm = some (isTy d T) := by
  cases d <;> cases T <;> (simp only [tyName, isTy, Ty.nm]; decide +kernel)
end
end L3
/-! L3D: the syntax, rule by rule. -/
namespace L3
open PySem PySem.Spec PyProof.Rows L2

structure Sc where
  sc : Scope
  fn : Str → Bool
def Fits (S : Sc) (r : Rst) : Prop := r.env.scope = S.sc ∧ r.fn = S.fn
/-- what holds throughout a def -/
structure Base (X : Cx) (CX : CXT) : Prop where
  calm : X.calm = true
  nd : X.N.Nodup
  un : X.A.units + 65 < cLine
  un1 : X.A.units + 1 < cLine
  nox : ∀ r, Passes CX (mkX X r) E0
abbrev Zx (X : Cx) (E : XK) : Sx := ⟨X.K, X.mg, E⟩
variable {X : Cx} {CX : CXT} {S : Sc} {E : XK}
def QE (X : Cx) (CX : CXT) (S : Sc) (E : XK) (e : Expr) (f : SemE) : Prop := ∃ t, LE (Zx X E) t f ∧ ∀ r, Fits S r → Passes CX (mkX X r) E → PE (mkX X r) e t
def QT (X : Cx) (CX : CXT) (S : Sc) (E : XK) (e : Expr) (f : SemE) : Prop := ∃ t, LT (Zx X E) t f ∧ ∀ r, Fits S r → Passes CX (mkX X r) E → PT (mkX X r) e t
def QW (X : Cx) (CX : CXT) (S : Sc) (E : XK) (e : Expr) (f : SemE) : Prop := ∃ t, LT (Zx X E) t f ∧ ∀ r, Fits S r → Passes CX (mkX X r) E → PW (mkX X r) e t
def QA (X : Cx) (CX : CXT) (S : Sc) (E : XK) (es : List Expr) (f : En → Sto → Rs (List PV)) : Prop := ∃ t, LA (Zx X E) t f ∧ ∀ r, Fits S r → Passes CX (mkX X r) E → PA (mkX X r) es t
def QO (X : Cx) (CX : CXT) (S : Sc) (E : XK) (e : Option Expr) (f : En → Sto → Rs (Option Int)) : Prop := ∃ t, LO (Zx X E) t f ∧ ∀ r, Fits S r → Passes CX (mkX X r) E → PO (mkX X r) e t
/-- vs: the slots that the target may store into (where it is one of names alone) -/
def Keeps (vs : List Nat) (g : TG) : Prop := ∀ (x : V) (σ0 σ : L2.St) (H : Hp) (Q Q' : L2.St → Hp → Prop), wipe σ vs = wipe σ0 vs → (∀ σ2 H2, wipe σ2 vs = wipe σ0 vs → Q σ2 H2 → Q' σ2 H2) → g x σ H Q → g x σ H Q'
def KeepsL (vs : List Nat) (g : TGs) : Prop := ∀ (x : List V) (σ0 σ : L2.St) (H : Hp) (Q Q' : L2.St → Hp → Prop), wipe σ vs = wipe σ0 vs → (∀ σ2 H2, wipe σ2 vs = wipe σ0 vs → Q σ2 H2 → Q' σ2 H2) → g x σ H Q → g x σ H Q'
def QG (X : Cx) (CX : CXT) (S : Sc) (E : XK) (vs : Option (List Nat)) (e : Expr) (f : PV → En → Sto → Rs En) : Prop := ∃ t, (LG (Zx X E) t f ∧ ∀ v, vs = some v → Keeps v t) ∧ ∀ r, Fits S r → Passes CX (mkX X r) E → PG (mkX X r) e t
def QGs (X : Cx) (CX : CXT) (S : Sc) (E : XK) (vs : Option (List Nat)) (es : List Expr) (f : List PV → En → Sto → Rs En) : Prop := ∃ t, (LGs (Zx X E) t f ∧ ∀ v, vs = some v → KeepsL v t) ∧ ∀ r, Fits S r → Passes CX (mkX X r) E → PGs (mkX X r) es t
/-- an iterator that yields these data -/
def ItR (K : PySem.W.Frag) (D : Hp) (J : It) (ds : List FV) : Prop := ∀ D2 H2, Le D D2 → Le D2 H2 →
  (∀ i, i < ds.length → J.go i H2) ∧ (∀ i, ds.length ≤ i → J.stop i H2) ∧
  ∀ (i : Nat) (d : FV) (x : V) (H' : Hp), ds[i]? = some d → J.yld i H2 x H' → (H' = H2 ∧ Rp K D2 d x) ∨ ∃ p o, H2 p = none ∧ H' = upd H2 p o ∧ Rp K (upd D2 p o) d x
def LI (Z : Sx) (t : TI) (f : En → Sto → Rs (List FV)) : Prop := ∀ (D : Hp) (m : Mp) (e : En) (st : Sto) (σ : L2.St) (H : Hp) (R : It → Hp → Prop), Wd Z.K D m st H → EnR Z.K D m e σ →
  After Z D m H (f e st) (fun ds st' D' m' H' => ∀ J, ItR Z.K D' J ds → ds.length ≤ sizeLine → R J H') → t σ H R
def QI (X : Cx) (CX : CXT) (S : Sc) (E : XK) (tg it : Expr) (f : En → Sto → Rs (List FV)) : Prop := ∃ t, LI (Zx X E) t f ∧ ∀ r, Fits S r → Passes CX (mkX X r) E → PI (mkX X r) tg it t
def QS (X : Cx) (CX : CXT) (S : Sc) (E : XK) (s : Stmt) (f : En → Sto → Rs Fl) : Prop := ∃ t, LS (Zx X E) t f ∧ ∀ r, Fits S r → Passes CX (mkX X r) E → PassesOwn (model X.prog X.w) X.A r.env r.xe → PS (mkX X r) s t
def QB (X : Cx) (CX : CXT) (S : Sc) (E : XK) (s : List Stmt) (f : En → Sto → Rs Fl) : Prop := ∃ t, LS (Zx X E) t f ∧ ∀ r, Fits S r → Passes CX (mkX X r) E → PassesOwn (model X.prog X.w) X.A r.env r.xe → PSs (mkX X r) s t

/-! ### results -/
theorem after_of {α : Type} {Z : Sx} {D : Hp} {m : Mp} {H : Hp} {o : Option α} {st : Sto} {Q : α → Sto → Hp → Mp → Hp → Prop} (h : After Z D m H (Rs.of o st) Q) :
    ∃ a, o = some a ∧ After Z D m H (.ok a st) Q := by
  cases o with
  | none => exact False.elim h
  | some a => exact ⟨a, rfl, h⟩
theorem After.here {α : Type} {Z : Sx} {D : Hp} {m : Mp} {H : Hp} {a : α} {st : Sto} {Q : α → Sto → Hp → Mp → Hp → Prop} (h : After Z D m H (.ok a st) Q) (w : Wd Z.K D m st H) : Q a st D m H := h D m H (Ext.refl D m H) w
theorem After.move {α : Type} {Z : Sx} {D D2 : Hp} {m m2 : Mp} {H H2 : Hp} {r : Rs α} {Q : α → Sto → Hp → Mp → Hp → Prop} (h : After Z D m H r Q) (e : Ext D m H D2 m2 H2) : After Z D2 m2 H2 r Q := by
  cases r with
  | no => exact h
  | ex x st => exact fun D' m' H' c d e' w q => h D' m' H' c d (e.trans e') w q
  | ok a st => exact fun D' m' H' e' w => h D' m' H' (e.trans e') w
theorem res_of {Z : Sx} {D : Hp} {m : Mp} {st : Sto} {H : Hp} {d : FV} {Q : VK} (w : Wd Z.K D m st H) (h : After Z D m H (.ok (.v d) st) (fun p st' D' m' H' => ∀ x, Rv Z.K D' m' p x → Q x H')) : Res Z.K D H d Q :=
  ⟨fun z rz => h.here w z (.v rz), fun p o hp r => h _ _ _ (w.growE hp o) (w.grow hp o) _ (.v r)⟩

/-! ### names, constants -/
theorem qe_var {i : Nat} {x : Str} {pos : Pos} (hN : X.N[i]? = some x) (hv : Vis S.sc x) (hd : (x == ("__debug__" : Str)) = false) (hcd : (x == ("__classdict__" : Str)) = false) :
    QE X CX S E (.Name x pos) (evE (.var i)) := by
  refine ⟨tVar i, fun D m e st σ H Q w er h => ?_, fun r hf _ => pe_var hN (by rw [show (mkX X r).env.scope = S.sc from hf.1]; exact hv) hd hcd⟩
  rw [evE] at h
  split at h
  · rename_i p he
    obtain ⟨x, e1, rx⟩ := er.2 i p he
    exact ⟨x, e1, h.here w x rx⟩
  · exact False.elim h
theorem qe_const {e : Expr} {d : FV} {v : V} (hp : ∀ r, PE (mkX X r) e (tC v)) (hr : ∀ K D, Rp K D d v) : QE X CX S E e (evE (.lit d)) := by
  refine ⟨tC v, fun D m e st σ H Q w er h => ?_, fun r _ _ => hp r⟩
  rw [evE] at h
  exact h.here w v (.v (hr _ _))
def GlOk (X : Cx) (x : Str) (d : FV) : Prop := ∃ u v, X.mg x = some u ∧ RelV v u ∧ Rp X.K (fun _ => none) d v
theorem qe_glo {x : Str} {d : FV} {pos : Pos} (hg : S.sc.names.lookup x = some .globalImplicit) (h : GlOk X x d) (hd : (x == ("__debug__" : Str)) = false) : QE X CX S E (.Name x pos) (evE (.glo x d)) := by
  obtain ⟨u, v, hm, rv, rp⟩ := h
  refine ⟨tC v, fun D m e st σ H Q w er h => ?_, fun r hf _ => pe_glob (by unfold Gl; show (mkX X r).env.scope.names.lookup x = _; rw [show (mkX X r).env.scope = S.sc from hf.1]; exact hg) hm rv hd⟩
  rw [evE] at h
  exact h.here w v (.v (rp.mono fun _ _ z => by cases z))

/-! ### operators -/
theorem qe_bin {op : Operator} {a b : Expr} {pos : Pos} {f g : SemE} (ha : QE X CX S E a f) (hb : QE X CX S E b g) :
    QE X CX S E (.BinOp a op b pos) (fun e st => (f e st).bnd fun p s1 => (g e s1).bnd fun q s2 => Rs.of ((vw s2 p).bind fun x => (vw s2 q).bind fun y => (bop op x y).map .v) s2) := by
  obtain ⟨ta, la, pa⟩ := ha
  obtain ⟨tb, lb, pb⟩ := hb
  obtain ⟨r0, h1, h2⟩ := o2_any (X := X) (op := op)
  refine ⟨tOp r0 ta tb, fun D m e st σ H Q w er h => ?_, fun r hf hp => pe_op (h1 r) (pa r hf hp) (pb r hf hp)⟩
  refine la D m e st σ H _ w er (h.bnd.imp fun p s1 D1 m1 H1 e1 w1 k x rx => ?_)
  refine lb D1 m1 e s1 σ H1 _ w1 (er.mono e1.le e1.lm) (k.bnd.imp fun q s2 D2 m2 H2 e2 w2 k2 y ry => ?_)
  obtain ⟨p', hp, k3⟩ := after_of k2
  simp only [Option.bind_eq_some_iff, Option.map_eq_some_iff] at hp
  obtain ⟨dx, hx, dy, hy, dz, hz, rfl⟩ := hp
  exact h2 D2 H2 x y dx dy dz Q w2.le (vw_rp w2 (rx.mono e2.le e2.lm) hx) (vw_rp w2 ry hy) hz (res_of w2 k3)
theorem qe_neg {a : Expr} {pos : Pos} {f : SemE} (ha : QE X CX S E a f) :
    QE X CX S E (.UnaryOp .USub a pos) (fun e st => (f e st).bnd fun p s1 => Rs.of ((vw s1 p).bind fun x => (opNeg x).map .v) s1) := by
  obtain ⟨ta, la, pa⟩ := ha
  refine ⟨tUn _ ta, fun D m e st σ H Q w er h => ?_, fun r hf hp => pe_un un_neg (pa r hf hp)⟩
  refine la D m e st σ H _ w er (h.bnd.imp fun p s1 D1 m1 H1 e1 w1 k x rx => ?_)
  obtain ⟨p', hp, k3⟩ := after_of k
  simp only [Option.bind_eq_some_iff, Option.map_eq_some_iff] at hp
  obtain ⟨dx, hx, dz, hz, rfl⟩ := hp
  unfold opNeg at hz
  split at hz
  · cases hz
    exact ⟨_, (vw_rp w1 rx hx).int, (res_of w1 k3).int⟩
  · cases hz
/-- a value as a test -/
theorem qt_val {a : Expr} {f : SemE} (ha : QE X CX S E a f) (he : ∀ env whole, isTrue a env whole = (do let v ← whole; standAt a.pos; holding [v] (truthy v))) : QT X CX S E a f := by
  obtain ⟨ta, la, pa⟩ := ha
  refine ⟨tB ta, fun D m e st σ H Q w er h => ?_, fun r hf hp => pt_val (pa r hf hp) (he _)⟩
  refine la D m e st σ H _ w er (h.imp fun p s1 D1 m1 H1 e1 w1 k x rx => ?_)
  obtain ⟨b, rfl, k⟩ := k
  cases rx with
  | v rx => cases rx; exact ⟨b, rfl, k⟩
theorem qe_not {a : Expr} {pos : Pos} {f : SemE} (ha : QE X CX S E a f) :
    QE X CX S E (.UnaryOp .Not a pos) (fun e st => (f e st).bnd fun p s1 => match p with | .v (.bool b) => .ok (.v (.bool (!b))) s1 | _ => .no) := by
  obtain ⟨ta, la, pa⟩ := ha
  refine ⟨tNotV ta, fun D m e st σ H Q w er h => ?_, fun r hf hp => pe_not (pa r hf hp)⟩
  refine la D m e st σ H _ w er (h.bnd.imp fun p s1 D1 m1 H1 e1 w1 k x rx => ?_)
  split at k
  · cases rx with
    | v rx => cases rx; exact ⟨_, rfl, k.here w1 _ (.v (.bl _))⟩
  · exact False.elim k
theorem qt_not {a : Expr} {pos : Pos} {f : SemE} (ha : QT X CX S E a f) :
    QT X CX S E (.UnaryOp .Not a pos) (fun e st => (f e st).bnd fun p s1 => match p with | .v (.bool b) => .ok (.v (.bool (!b))) s1 | _ => .no) := by
  obtain ⟨ta, la, pa⟩ := ha
  refine ⟨tNot ta, fun D m e st σ H Q w er h => ?_, fun r hf hp => pt_not (pa r hf hp)⟩
  refine la D m e st σ H _ w er (h.bnd.imp fun p s1 D1 m1 H1 e1 w1 k => ?_)
  split at k
  · rename_i b
    obtain ⟨b', e2, k'⟩ := k.here w1
    cases e2
    exact ⟨b, rfl, k'⟩
  · exact False.elim k
def semCmp (op : CmpOp) (f g : SemE) : SemE := fun e st => (f e st).bnd fun p s1 => (g e s1).bnd fun q s2 =>
    Rs.of ((vw s2 p).bind fun x => (vw s2 q).bind fun y => (cop op x y).map fun b => .v (.bool b)) s2
theorem le_cmp (B : Base X CX) {op : CmpOp} {ta tb : TE} {f g : SemE} (la : LE (Zx X E) ta f) (lb : LE (Zx X E) tb g) :
    ∃ r : R2, (∀ s, OpR (mkX X s) (compareOp op) r) ∧ LE (Zx X E) (tOp r ta tb) (semCmp op f g) ∧ LT (Zx X E) (tTest (tOp r ta tb)) (semCmp op f g) := by
  obtain ⟨r0, h1, h2⟩ := c2_any (X := X) B.un op
  refine ⟨r0, h1, fun D m e st σ H Q w er h => ?_, fun D m e st σ H Q w er h => ?_⟩
  · refine la D m e st σ H _ w er (h.bnd.imp fun p s1 D1 m1 H1 e1 w1 k x rx => ?_)
    refine lb D1 m1 e s1 σ H1 _ w1 (er.mono e1.le e1.lm) (k.bnd.imp fun q s2 D2 m2 H2 e2 w2 k2 y ry => ?_)
    obtain ⟨p', hp, k3⟩ := after_of k2
    simp only [Option.bind_eq_some_iff, Option.map_eq_some_iff] at hp
    obtain ⟨dx, hx, dy, hy, b, hz, rfl⟩ := hp
    exact h2 D2 H2 x y dx dy b Q w2.le (vw_rp w2 (rx.mono e2.le e2.lm) hx) (vw_rp w2 ry hy) hz (k3.here w2 _ (.v (.bl b)))
  · refine la D m e st σ H _ w er (h.bnd.imp fun p s1 D1 m1 H1 e1 w1 k x rx => ?_)
    refine lb D1 m1 e s1 σ H1 _ w1 (er.mono e1.le e1.lm) (k.bnd.imp fun q s2 D2 m2 H2 e2 w2 k2 y ry => ?_)
    obtain ⟨p', hp, k3⟩ := after_of k2
    simp only [Option.bind_eq_some_iff, Option.map_eq_some_iff] at hp
    obtain ⟨dx, hx, dy, hy, b, hz, rfl⟩ := hp
    obtain ⟨b', e3, k4⟩ := k3.here w2
    cases e3
    exact h2 D2 H2 x y dx dy b _ w2.le (vw_rp w2 (rx.mono e2.le e2.lm) hx) (vw_rp w2 ry hy) hz ⟨b, rfl, k4⟩
theorem q_cmp (B : Base X CX) {op : CmpOp} {a b : Expr} {pos : Pos} {f g : SemE} (ha : QE X CX S E a f) (hb : QE X CX S E b g) (hm : behindInMarks op b = false) :
    QE X CX S E (.Compare a [op] [b] pos) (semCmp op f g) ∧ QT X CX S E (.Compare a [op] [b] pos) (semCmp op f g) := by
  obtain ⟨ta, la, pa⟩ := ha
  obtain ⟨tb, lb, pb⟩ := hb
  obtain ⟨r0, h1, h2, h3⟩ := le_cmp B (op := op) la lb
  exact ⟨⟨_, h2, fun r hf hp => pe_cmpR (h1 r) (pa r hf hp) (pb r hf hp) hm⟩, ⟨_, h3, fun r hf hp => pt_cmpR (h1 r) (pa r hf hp) (pb r hf hp) hm⟩⟩
def semChn (op op' : CmpOp) (f g k : SemE) : SemE := fun e st => (f e st).bnd fun p s1 => (g e s1).bnd fun q s2 =>
    match (vw s2 p).bind fun x => (vw s2 q).bind fun y => cop op x y with
    | some true => (k e s2).bnd fun r s3 => Rs.of ((vw s3 q).bind fun y => (vw s3 r).bind fun z => (cop op' y z).map fun b => .v (.bool b)) s3
    | some false => .ok (.v (.bool false)) s2
    | none => .no
theorem le_chn (B : Base X CX) {op op' : CmpOp} {ta tb tc : TE} {f g k : SemE} (la : LE (Zx X E) ta f) (lb : LE (Zx X E) tb g) (lc : LE (Zx X E) tc k) :
    ∃ r r' : R2, (∀ s, OpR (mkX X s) (compareOp op) r) ∧ (∀ s, OpR (mkX X s) (compareOp op') r') ∧ LE (Zx X E) (tChain r r' ta tb tc) (semChn op op' f g k) := by
  obtain ⟨r0, h1, h2⟩ := c2_any (X := X) B.un op
  obtain ⟨r1, h3, h4⟩ := c2_any (X := X) B.un op'
  refine ⟨r0, r1, h1, h3, fun D m e st σ H Q w er h => ?_⟩
  refine la D m e st σ H _ w er (h.bnd.imp fun p s1 D1 m1 H1 e1 w1 k1 x rx => ?_)
  refine lb D1 m1 e s1 σ H1 _ w1 (er.mono e1.le e1.lm) (k1.bnd.imp fun q s2 D2 m2 H2 e2 w2 k2 y ry => ?_)
  split at k2
  · rename_i hp
    simp only [Option.bind_eq_some_iff] at hp
    obtain ⟨dx, hx, dy, hy, hz⟩ := hp
    refine h2 D2 H2 x y dx dy true _ w2.le (vw_rp w2 (rx.mono e2.le e2.lm) hx) (vw_rp w2 ry hy) hz ⟨true, rfl, iteT ?_⟩
    have er2 := (er.mono e1.le e1.lm).mono e2.le e2.lm
    refine lc D2 m2 e s2 σ H2 _ w2 er2 (k2.bnd.imp fun r s3 D3 m3 H3 e3 w3 k3 z rz => ?_)
    obtain ⟨p', hp, k4⟩ := after_of k3
    simp only [Option.bind_eq_some_iff, Option.map_eq_some_iff] at hp
    obtain ⟨dy', hy', dz, hz', b, hb, rfl⟩ := hp
    exact h4 D3 H3 y z dy' dz b Q w3.le (vw_rp w3 (ry.mono e3.le e3.lm) hy') (vw_rp w3 rz hz') hb (k4.here w3 _ (.v (.bl b)))
  · rename_i hp
    simp only [Option.bind_eq_some_iff] at hp
    obtain ⟨dx, hx, dy, hy, hz⟩ := hp
    exact h2 D2 H2 x y dx dy false _ w2.le (vw_rp w2 (rx.mono e2.le e2.lm) hx) (vw_rp w2 ry hy) hz ⟨false, rfl, iteF (k2.here w2 _ (.v (.bl false)))⟩
  · exact False.elim k2
theorem lt_of_le {t : TE} {f : SemE} (l : LE (Zx X E) t f) : LT (Zx X E) (tTest t) f := fun D m e st σ H Q w er h =>
  l D m e st σ H _ w er (h.imp fun p s1 D1 m1 H1 e1 w1 k x rx => by
    obtain ⟨b, rfl, k⟩ := k
    cases rx with
    | v rx => cases rx; exact ⟨b, rfl, k⟩)
theorem q_chn (B : Base X CX) {op op' : CmpOp} {a b c : Expr} {pos : Pos} {f g k : SemE} (ha : QE X CX S E a f) (hb : QE X CX S E b g) (hc : QE X CX S E c k) (hm : lastMarks [op, op'] [b, c] = false) :
    QE X CX S E (.Compare a [op, op'] [b, c] pos) (semChn op op' f g k) ∧ QT X CX S E (.Compare a [op, op'] [b, c] pos) (semChn op op' f g k) := by
  obtain ⟨ta, la, pa⟩ := ha
  obtain ⟨tb, lb, pb⟩ := hb
  obtain ⟨tc, lc, pc⟩ := hc
  obtain ⟨r0, r1, h1, h2, h3⟩ := le_chn B (op := op) (op' := op') la lb lc
  exact ⟨⟨_, h3, fun r hf hp => pe_chain (h1 r) (h2 r) (pa r hf hp) (pb r hf hp) (pc r hf hp) hm⟩,
    ⟨_, lt_of_le h3, fun r hf hp => pt_chain (h1 r) (h2 r) (pa r hf hp) (pb r hf hp) (pc r hf hp) hm⟩⟩
def semAnd (f g : SemE) : SemE := fun e st => (f e st).bnd fun p s1 => match p with
    | .v (.bool true) => g e s1
    | .v (.bool false) => .ok (.v (.bool false)) s1
    | _ => .no
def semOr (f g : SemE) : SemE := fun e st => (f e st).bnd fun p s1 => match p with
    | .v (.bool false) => g e s1
    | .v (.bool true) => .ok (.v (.bool true)) s1
    | _ => .no
theorem qe_and {a b : Expr} {rest : List Expr} {pos : Pos} {f g : SemE} (ha : QE X CX S E a f) (hb : QE X CX S E (.BoolOp .And (b :: rest) pos) g) : QE X CX S E (.BoolOp .And (a :: b :: rest) pos) (semAnd f g) := by
  obtain ⟨ta, la, pa⟩ := ha
  obtain ⟨tb, lb, pb⟩ := hb
  refine ⟨tAndV ta tb, fun D m e st σ H Q w er h => ?_, fun r hf hp => pe_and (pa r hf hp) (pb r hf hp)⟩
  refine la D m e st σ H _ w er (h.bnd.imp fun p s1 D1 m1 H1 e1 w1 k x rx => ?_)
  split at k
  · cases rx with
    | v rx => cases rx; exact ⟨true, rfl, iteT (lb D1 m1 e s1 σ H1 Q w1 (er.mono e1.le e1.lm) k)⟩
  · cases rx with
    | v rx => cases rx; exact ⟨false, rfl, iteF (k.here w1 _ (.v (.bl false)))⟩
  · exact False.elim k
theorem qe_or {a b : Expr} {rest : List Expr} {pos : Pos} {f g : SemE} (ha : QE X CX S E a f) (hb : QE X CX S E (.BoolOp .Or (b :: rest) pos) g) : QE X CX S E (.BoolOp .Or (a :: b :: rest) pos) (semOr f g) := by
  obtain ⟨ta, la, pa⟩ := ha
  obtain ⟨tb, lb, pb⟩ := hb
  refine ⟨tOrV ta tb, fun D m e st σ H Q w er h => ?_, fun r hf hp => pe_or (pa r hf hp) (pb r hf hp)⟩
  refine la D m e st σ H _ w er (h.bnd.imp fun p s1 D1 m1 H1 e1 w1 k x rx => ?_)
  split at k
  · cases rx with
    | v rx => cases rx; exact ⟨false, rfl, iteF (lb D1 m1 e s1 σ H1 Q w1 (er.mono e1.le e1.lm) k)⟩
  · cases rx with
    | v rx => cases rx; exact ⟨true, rfl, iteT (k.here w1 _ (.v (.bl true)))⟩
  · exact False.elim k
theorem qe_one {op : BoolOp} {a : Expr} {pos : Pos} {f : SemE} (ha : QE X CX S E a f) : QE X CX S E (.BoolOp op [a] pos) f := by
  obtain ⟨ta, la, pa⟩ := ha
  exact ⟨ta, la, fun r hf hp => pe_one (pa r hf hp)⟩
theorem qw_and {a b : Expr} {rest : List Expr} {pos : Pos} {f g : SemE} (ha : QT X CX S E a f) (hb : QW X CX S E (.BoolOp .And (b :: rest) pos) g) : QW X CX S E (.BoolOp .And (a :: b :: rest) pos) (semAnd f g) := by
  obtain ⟨ta, la, pa⟩ := ha
  obtain ⟨tb, lb, pb⟩ := hb
  refine ⟨tAnd ta tb, fun D m e st σ H Q w er h => ?_, fun r hf hp => pw_and (pa r hf hp) (pb r hf hp)⟩
  refine la D m e st σ H _ w er (h.bnd.imp fun p s1 D1 m1 H1 e1 w1 k => ?_)
  split at k
  · exact ⟨true, rfl, iteT (lb D1 m1 e s1 σ H1 Q w1 (er.mono e1.le e1.lm) k)⟩
  · obtain ⟨b, e2, k⟩ := k.here w1
    cases e2
    exact ⟨false, rfl, iteF k⟩
  · exact False.elim k
theorem qw_or {a b : Expr} {rest : List Expr} {pos : Pos} {f g : SemE} (ha : QT X CX S E a f) (hb : QW X CX S E (.BoolOp .Or (b :: rest) pos) g) : QW X CX S E (.BoolOp .Or (a :: b :: rest) pos) (semOr f g) := by
  obtain ⟨ta, la, pa⟩ := ha
  obtain ⟨tb, lb, pb⟩ := hb
  refine ⟨tOr ta tb, fun D m e st σ H Q w er h => ?_, fun r hf hp => pw_or (pa r hf hp) (pb r hf hp)⟩
  refine la D m e st σ H _ w er (h.bnd.imp fun p s1 D1 m1 H1 e1 w1 k => ?_)
  split at k
  · exact ⟨false, rfl, iteF (lb D1 m1 e s1 σ H1 Q w1 (er.mono e1.le e1.lm) k)⟩
  · obtain ⟨b, e2, k⟩ := k.here w1
    cases e2
    exact ⟨true, rfl, iteT k⟩
  · exact False.elim k
theorem qw_and1 {a : Expr} {pos : Pos} {f : SemE} (ha : QT X CX S E a f) : QW X CX S E (.BoolOp .And [a] pos) f := by
  obtain ⟨ta, la, pa⟩ := ha
  exact ⟨ta, la, fun r hf hp => pw_and1 (pa r hf hp)⟩
theorem qw_or1 {a : Expr} {pos : Pos} {f : SemE} (ha : QT X CX S E a f) : QW X CX S E (.BoolOp .Or [a] pos) f := by
  obtain ⟨ta, la, pa⟩ := ha
  exact ⟨ta, la, fun r hf hp => pw_or1 (pa r hf hp)⟩
theorem qt_w {a : Expr} {f : SemE} (h : QW X CX S E a f) : QT X CX S E a f := by
  obtain ⟨ta, la, pa⟩ := h
  exact ⟨ta, la, fun r hf hp => (pa r hf hp).pt⟩
def semIf (c f g : SemE) : SemE := fun e st => (c e st).bnd fun p s1 => match p with
    | .v (.bool true) => f e s1
    | .v (.bool false) => g e s1
    | _ => .no
theorem qe_ifx {c a b : Expr} {pos : Pos} {k f g : SemE} (hc : QT X CX S E c k) (ha : QE X CX S E a f) (hb : QE X CX S E b g) : QE X CX S E (.IfExp c a b pos) (semIf k f g) := by
  obtain ⟨tc, lc, pc⟩ := hc
  obtain ⟨ta, la, pa⟩ := ha
  obtain ⟨tb, lb, pb⟩ := hb
  refine ⟨tIf tc ta tb, fun D m e st σ H Q w er h => ?_, fun r hf hp => pe_ifExp (pc r hf hp) (pa r hf hp) (pb r hf hp)⟩
  refine lc D m e st σ H _ w er (h.bnd.imp fun p s1 D1 m1 H1 e1 w1 k => ?_)
  split at k
  · exact ⟨true, rfl, iteT (la D1 m1 e s1 σ H1 Q w1 (er.mono e1.le e1.lm) k)⟩
  · exact ⟨false, rfl, iteF (lb D1 m1 e s1 σ H1 Q w1 (er.mono e1.le e1.lm) k)⟩
  · exact False.elim k
end L3
/-! L3D2: arguments, displays, subscripts, built-in calls, iterables, targets. -/
namespace L3
open PySem PySem.Spec PyProof.Rows L2
variable {X : Cx} {CX : CXT} {S : Sc} {E : XK}
/-! ### arguments -/
def plainE : Expr → Bool
  | .Starred _ _ => false
  | _ => true
theorem starEach_cons {e : Expr} {es : List Expr} {env : Env} (h : plainE e = true) : starEach (e :: es) env = (false, eval e env) :: starEach es env := by
  cases e <;> first | rfl | cases h
theorem plain_any {pos : Pos} {env : Env} : ∀ {es : List Expr}, es.all plainE = true → (backTo pos (starEach es env)).any (·.1) = false
  | [], _ => rfl
  | e :: es, h => by
    simp only [List.all_cons, Bool.and_eq_true] at h
    rw [starEach_cons h.1]
    show (false || (backTo pos (starEach es env)).any (·.1)) = false
    rw [plain_any h.2]
    rfl
theorem qa_nil : QA X CX S E [] (evA .nil) := by
  refine ⟨tNil, fun D m e st σ H Q w er h => ?_, fun r hf hp => pa_nil⟩
  rw [evA] at h
  exact h.here w [] .nil
def semCons (f : SemE) (g : En → Sto → Rs (List PV)) : En → Sto → Rs (List PV) := fun e st => (f e st).bnd fun p s1 => (g e s1).bnd fun ps s2 => .ok (p :: ps) s2
theorem qa_cons {a : Expr} {as : List Expr} {f : SemE} {g : En → Sto → Rs (List PV)} (hpl : plainE a = true) (ha : QE X CX S E a f) (hb : QA X CX S E as g) : QA X CX S E (a :: as) (semCons f g) := by
  obtain ⟨ta, la, pa⟩ := ha
  obtain ⟨tb, lb, pb⟩ := hb
  refine ⟨tCons ta tb, fun D m e st σ H Q w er h => ?_, fun r hf hp => pa_cons (pa r hf hp) (pb r hf hp) (starEach_cons hpl)⟩
  refine la D m e st σ H _ w er (h.bnd.imp fun p s1 D1 m1 H1 e1 w1 k x rx => ?_)
  refine lb D1 m1 e s1 σ H1 _ w1 (er.mono e1.le e1.lm) (k.bnd.imp fun ps s2 D2 m2 H2 e2 w2 k2 xs rxs => ?_)
  exact k2.here w2 (x :: xs) (.cons (rx.mono e2.le e2.lm) rxs)
/-! ### displays -/
theorem qe_tup {es : List Expr} {k : Nat} {pos : Pos} {g : En → Sto → Rs (List PV)} (ha : QA X CX S E es g) :
    QE X CX S E (.Tuple es k pos) (fun e st => (g e st).bnd fun ps s1 => Rs.of ((flatL ps).bind fun ds => if ds.length ≤ LIM then some (.v (.tuple ds)) else none) s1) := by
  obtain ⟨ta, la, pa⟩ := ha
  refine ⟨tTup ta, fun D m e st σ H Q w er h => ?_, fun r hf hp => pe_tup (pa r hf hp)⟩
  refine la D m e st σ H _ w er (h.bnd.imp fun ps s1 D1 m1 H1 e1 w1 k xs rx => ?_)
  obtain ⟨p', hp, k3⟩ := after_of k
  simp only [Option.bind_eq_some_iff, Option.ite_none_right_eq_some, Option.some.injEq] at hp
  obtain ⟨ds, hx, hl, rfl⟩ := hp
  have r := flatL_rp rx hx
  exact ⟨by rw [← r.length]; exact lim_line hl, fun p hp => (res_of w1 k3).tup w1.le r p hp⟩
theorem qe_lst {es : List Expr} {pos : Pos} {g : En → Sto → Rs (List PV)} (ha : QA X CX S E es g) :
    QE X CX S E (.List es pos) (fun e st => (g e st).bnd fun ps s1 => Rs.of ((flatL ps).bind fun ds => if ds.length ≤ LIM then some (.v (.list ds)) else none) s1) := by
  obtain ⟨ta, la, pa⟩ := ha
  refine ⟨tLst ta, fun D m e st σ H Q w er h => ?_, fun r hf hp => pe_lst (pa r hf hp)⟩
  refine la D m e st σ H _ w er (h.bnd.imp fun ps s1 D1 m1 H1 e1 w1 k xs rx => ?_)
  obtain ⟨p', hp, k3⟩ := after_of k
  simp only [Option.bind_eq_some_iff, Option.ite_none_right_eq_some, Option.some.injEq] at hp
  obtain ⟨ds, hx, hl, rfl⟩ := hp
  have r := flatL_rp rx hx
  exact ⟨by rw [← r.length]; exact lim_line hl, fun p hp => (res_of w1 k3).lst w1.le r p hp⟩
theorem qe_mls {es : List Expr} {pos : Pos} {g : En → Sto → Rs (List PV)} (ha : QA X CX S E es g) :
    QE X CX S E (.List es pos) (fun e st => (g e st).bnd fun ps s1 => if ps.length ≤ LIM then .ok (.loc s1.length) (s1 ++ [some (.lst ps)]) else .no) := by
  obtain ⟨ta, la, pa⟩ := ha
  refine ⟨tLst ta, fun D m e st σ H Q w er h => ?_, fun r hf hp => pe_lst (pa r hf hp)⟩
  refine la D m e st σ H _ w er (h.bnd.imp fun ps s1 D1 m1 H1 e1 w1 k xs rx => ?_)
  split at k
  · rename_i hl
    refine ⟨by rw [← Paired.length rx]; exact lim_line hl, fun p hp => ?_⟩
    obtain ⟨w2, e2, _⟩ := w1.own hp (b := .lst ps) (o := .lst xs) ⟨xs, rfl, rx⟩
    exact k _ _ _ e2 w2 _ (.loc (if_pos rfl))
  · exact False.elim k
/-! ### subscripts -/
def plainIxE : Expr → Bool
  | .Slice _ _ _ _ => false
  | _ => true
theorem plainIx_of {b : Expr} (h : plainIxE b = true) : PlainIx b := fun o i => by
  cases b <;> first | rfl | cases h
def semIx (f g : SemE) : SemE := fun e st => (f e st).bnd fun p s1 => (g e s1).bnd fun q s2 => match p with
    | .v x => Rs.of ((vw s2 q).bind fun y => (opIx x y).map .v) s2
    | .loc l => match obAt s2 l, q with
      | some (.lst xs), .v (.int k) => Rs.of (ixOf xs k) s2
      | _, _ => .no
theorem qe_ix {a b : Expr} {pos : Pos} {f g : SemE} (hpl : plainIxE b = true) (ha : QE X CX S E a f) (hb : QE X CX S E b g) : QE X CX S E (.Subscript a b pos) (semIx f g) := by
  obtain ⟨ta, la, pa⟩ := ha
  obtain ⟨tb, lb, pb⟩ := hb
  refine ⟨tOp (rIx X.K) ta tb, fun D m e st σ H Q w er h => ?_, fun r hf hp => pe_ix (show IxR (mkX X r) (rIx X.K) from ix_seq) (pa r hf hp) (pb r hf hp) (plainIx_of hpl)⟩
  refine la D m e st σ H _ w er (h.bnd.imp fun p s1 D1 m1 H1 e1 w1 k x rx => ?_)
  refine lb D1 m1 e s1 σ H1 _ w1 (er.mono e1.le e1.lm) (k.bnd.imp fun q s2 D2 m2 H2 e2 w2 k2 y ry => ?_)
  have rx2 := rx.mono e2.le e2.lm
  split at k2
  · cases rx2 with
    | v rx2 =>
      obtain ⟨p', hp, k3⟩ := after_of k2
      simp only [Option.bind_eq_some_iff, Option.map_eq_some_iff] at hp
      obtain ⟨dy, hy, dz, hz, rfl⟩ := hp
      exact ix_fv w2.le rx2 (vw_rp w2 ry hy) hz fun z rz => k3.here w2 z (.v rz)
  · split at k2
    · rename_i ho
      obtain ⟨p', hp, k3⟩ := after_of k2
      cases rx2 with
      | loc hm =>
        obtain ⟨a, o, h1, h2, h3, vs, rfl, h4⟩ := w2.ob _ _ ho
        rw [hm] at h1
        cases h1
        obtain ⟨v, q1, q2⟩ := atI_rv h4 hp
        cases ry with
        | v ry =>
          cases ry
          exact .inl ⟨_, vs, _, v, rfl, rfl, SqL.of h3, q1, k3.here w2 v q2⟩
    · exact False.elim k2
theorem qo_none : QO X CX S E none (evO .none) := by
  refine ⟨tNoPart, fun D m e st σ H Q w er h => ?_, fun r hf hp => po_none⟩
  rw [evO] at h
  exact h.here w
def semO (f : SemE) : En → Sto → Rs (Option Int) := fun e st => (f e st).bnd fun p s1 => match p with
    | .v (.int i) => .ok (some i) s1
    | _ => .no
theorem qo_some {a : Expr} {f : SemE} (ha : QE X CX S E a f) : QO X CX S E (some a) (semO f) := by
  obtain ⟨ta, la, pa⟩ := ha
  refine ⟨tPart ta, fun D m e st σ H Q w er h => ?_, fun r hf hp => po_some (pa r hf hp)⟩
  refine la D m e st σ H _ w er (h.bnd.imp fun p s1 D1 m1 H1 e1 w1 k x rx => ?_)
  split at k
  · cases rx with
    | v rx => cases rx; exact ⟨_, rfl, k.here w1⟩
  · exact False.elim k
theorem qe_sl {a : Expr} {lo hi : Option Expr} {p2 pos : Pos} {f : SemE} {g h' : En → Sto → Rs (Option Int)} (ha : QE X CX S E a f) (hl : QO X CX S E lo g) (hh : QO X CX S E hi h') :
    QE X CX S E (.Subscript a (.Slice lo hi none p2) pos) (fun e st => (f e st).bnd fun p s1 => (g e s1).bnd fun l s2 => (h' e s2).bnd fun h s3 => Rs.of ((vw s3 p).bind fun x => (opSl x l h).map .v) s3) := by
  obtain ⟨ta, la, pa⟩ := ha
  obtain ⟨tl, ll, pl⟩ := hl
  obtain ⟨th, lh, ph⟩ := hh
  refine ⟨tSl (fun x lo hi H Q => rSlL X.K x lo hi H Q ∨ rSlA X.K x lo hi H Q) ta tl th, fun D m e st σ H Q w er h => ?_,
    fun r hf hp => pe_slice (show SlR (mkX X r) (fun x lo hi H Q => rSlL X.K x lo hi H Q ∨ rSlA X.K x lo hi H Q) from SlR.or sl_list sl_tupA) (pa r hf hp) (pl r hf hp) (ph r hf hp)⟩
  refine la D m e st σ H _ w er (h.bnd.imp fun p s1 D1 m1 H1 e1 w1 k x rx => ?_)
  have er1 := er.mono e1.le e1.lm
  refine ll D1 m1 e s1 σ H1 _ w1 er1 (k.bnd.imp fun l s2 D2 m2 H2 e2 w2 k2 => ?_)
  have er2 := er1.mono e2.le e2.lm
  refine lh D2 m2 e s2 σ H2 _ w2 er2 (k2.bnd.imp fun u s3 D3 m3 H3 e3 w3 k3 => ?_)
  obtain ⟨p', hp, k4⟩ := after_of k3
  simp only [Option.bind_eq_some_iff, Option.map_eq_some_iff] at hp
  obtain ⟨dx, hx, dz, hz, rfl⟩ := hp
  exact sl_fv w3.le (vw_rp w3 ((rx.mono e2.le e2.lm).mono e3.le e3.lm) hx) hz (res_of w3 k4)
/-! ### built-in calls -/
def BlOk (X : Cx) (b : Bl) : Prop := if b.imp = true then X.mg b.nm = some b.val else X.mg b.nm = none
theorem gl_of {r : Rst} {x : Str} (hf : Fits S r) (hg : S.sc.names.lookup x = some .globalImplicit) : Gl (mkX X r) x := by
  unfold Gl
  show (mkX X r).env.scope.names.lookup x = _
  rw [show (mkX X r).env.scope = S.sc from hf.1]
  exact hg
theorem qe_bl (B : Base X CX) {b : Bl} {p pos : Pos} {a : Expr} {as : List Expr} {g : En → Sto → Rs (List PV)} (hb : BlOk X b) (hg : S.sc.names.lookup b.nm = some .globalImplicit) (hpl : (a :: as).all plainE = true) (ha : QA X CX S E (a :: as) g) :
    QE X CX S E (.Call (.Name b.nm p) (a :: as) [] pos) (fun e st => (g e st).bnd fun ps s1 => Rs.of ((vws s1 ps).bind fun ds => (bfn b ds).map .v) s1) := by
  obtain ⟨ta, la, pa⟩ := ha
  obtain ⟨r0, h1, h2⟩ := cb_of (X := X) B.calm b
  have hp1 : plainE a = true ∧ as.all plainE = true := by simpa using hpl
  refine ⟨tCB r0 ta, fun D m e st σ H Q w er h => ?_, fun r hf hp => ?_⟩
  · refine la D m e st σ H _ w er (h.bnd.imp fun ps s1 D1 m1 H1 e1 w1 k xs rx => ?_)
    obtain ⟨p', hp, k3⟩ := after_of k
    simp only [Option.bind_eq_some_iff, Option.map_eq_some_iff] at hp
    obtain ⟨ds, hx, dz, hz, rfl⟩ := hp
    exact h2 D1 H1 xs ds dz Q w1.le (vws_rp w1 rx hx) hz (res_of w1 k3)
  · have G := gl_of (X := X) hf hg
    have P := pa r hf hp
    have C := h1 r
    have bt := b.boot
    cases b <;> first
      | exact pe_callB C G (show X.mg _ = none from hb) (bt rfl) P (by decide) (by decide) (starEach_cons hp1.1) (plain_any hp1.2)
      | exact pe_callTy C G (show X.mg _ = none from hb) (bt rfl) P (by decide) (by decide) (starEach_cons hp1.1) (plain_any hp1.2)
      | exact pe_callBfun C G (show X.mg _ = some _ from hb) P (by decide) (starEach_cons hp1.1) (plain_any hp1.2)
/-- the length of one's own list -/
theorem qe_lnl {p pos : Pos} {a : Expr} {as : List Expr} {g : En → Sto → Rs (List PV)} (hb : X.mg ("len" : Str) = none) (hg : S.sc.names.lookup ("len" : Str) = some .globalImplicit) (hpl : (a :: as).all plainE = true) (ha : QA X CX S E (a :: as) g) :
    QE X CX S E (.Call (.Name "len" p) (a :: as) [] pos) (fun e st => (g e st).bnd fun ps s1 => Rs.of ((lenOf s1 ps).map fun n => .v (.int n)) s1) := by
  obtain ⟨ta, la, pa⟩ := ha
  have hp1 : plainE a = true ∧ as.all plainE = true := by simpa using hpl
  refine ⟨tCB (fun xs H Q => ∃ p ys, xs = [.ref p] ∧ (SqL X.K H p ys ∨ SqT X.K H p ys) ∧ Q (.int ys.length) H) ta, fun D m e st σ H Q w er h => ?_, fun r hf hp => ?_⟩
  · refine la D m e st σ H _ w er (h.bnd.imp fun ps s1 D1 m1 H1 e1 w1 k xs rx => ?_)
    obtain ⟨p', hp, k3⟩ := after_of k
    simp only [Option.map_eq_some_iff] at hp
    obtain ⟨n, hn, rfl⟩ := hp
    unfold lenOf at hn
    split at hn
    · split at hn
      · rename_i ho
        cases hn
        cases rx with
        | cons rx t =>
          cases t
          cases rx with
          | loc hm =>
            obtain ⟨a, o, q1, q2, q3, vs, rfl, q4⟩ := w1.ob _ _ ho
            rw [hm] at q1
            cases q1
            exact ⟨_, vs, rfl, .inl (SqL.of q3), by rw [← Paired.length q4]; exact k3.here w1 _ (.v (.int _))⟩
      · cases hn
    · cases hn
  · have G := gl_of (X := X) hf hg
    have P := pa r hf hp
    exact pe_callB (show CallR (mkX X r) (.builtin "len") _ from call_len_seq) G (show X.mg _ = none from hb) rfl P (by decide) (by decide) (starEach_cons hp1.1) (plain_any hp1.2)
theorem qe_isi {T : Ty} {a : Expr} {p p2 pos : Pos} {f : SemE} (hi : X.mg "isinstance" = none) (hT : X.mg (Str.ofString T.nm) = none) (hg : S.sc.names.lookup ("isinstance" : Str) = some .globalImplicit)
    (hg2 : S.sc.names.lookup (Str.ofString T.nm) = some .globalImplicit) (hpl : plainE a = true) (ha : QE X CX S E a f) :
    QE X CX S E (.Call (.Name "isinstance" p) [a, .Name (Str.ofString T.nm) p2] [] pos) (fun e st => (f e st).bnd fun p s1 => Rs.of ((vw s1 p).map fun d => .v (.bool (isTy d T))) s1) := by
  obtain ⟨ta, la, pa⟩ := ha
  refine ⟨tCB (rIsi X.K) (tCons ta (tCons (tC (.ty T.nm)) tNil)), fun D m e st σ H Q w er h => ?_, fun r hf hp => ?_⟩
  · refine la D m e st σ H _ w er (h.bnd.imp fun p s1 D1 m1 H1 e1 w1 k x rx => ?_)
    obtain ⟨p', hp, k3⟩ := after_of k
    simp only [Option.map_eq_some_iff] at hp
    obtain ⟨d, hd, rfl⟩ := hp
    exact ⟨x, .ty T.nm, .type (tyName d), .type T.nm, isTy d T, rfl, .ty _, tyx_of w1.le (vw_rp w1 rx hd), kit_ty isTy_kit, (res_of w1 k3).bool⟩
  · have bt := T.boot
    have p3 : PE (mkX X r) (.Name (Str.ofString T.nm) p2) (tC (.ty T.nm)) := by
      cases T <;> exact pe_bltn (gl_of (X := X) hf hg2) hT bt rfl (by decide) (by decide)
    exact pe_callB (show CallR (mkX X r) (.builtin "isinstance") (rIsi X.K) from call_isi) (gl_of (X := X) hf hg) hi boot_isinstance (pa_cons (pa r hf hp) (pa_cons p3 pa_nil) (starEach_cons hpl)) (by decide) (by decide) (starEach_cons hpl) (by rfl)
end L3
/-! L3D3: what is walked, targets, comprehensions. -/
namespace L3
open PySem PySem.Spec PyProof.Rows L2
variable {X : Cx} {CX : CXT} {S : Sc} {E : XK}
/-! ### iterables -/
theorem range_len (lo hi : Int) : (rangeI lo hi).length = (hi - lo).toNat := by unfold rangeI; rw [List.length_map, List.length_range]
theorem range_get {lo hi : Int} {i : Nat} {d : FV} (h : (rangeI lo hi)[i]? = some d) : d = .int (lo + i) := by
  unfold rangeI at h
  rw [List.getElem?_map] at h
  cases q : (List.range (hi - lo).toNat)[i]? with
  | none => rw [q] at h; cases h
  | some j =>
    rw [q] at h
    have := List.getElem?_range (n := (hi - lo).toNat) (i := i)
    obtain ⟨h1, h2⟩ := List.getElem?_eq_some_iff.mp q
    rw [List.getElem_range] at h2
    subst h2
    exact (Option.some.inj h).symm
theorem itr_range {K : PySem.W.Frag} {D : Hp} (lo hi : Int) : ItR K D (Itr lo (hi - lo).toNat) (rangeI lo hi) := fun D2 H2 l1 l2 => by
  refine ⟨fun i hi' => ?_, fun i hi' => ?_, fun i d x H' hd y => ?_⟩
  · rw [range_len] at hi'; exact hi'
  · rw [range_len] at hi'; exact hi'
  · obtain ⟨e1, e2⟩ := y
    rw [range_get hd, e2]
    exact .inl ⟨e1, .int _⟩
theorem itr_list {K : PySem.W.Frag} {D : Hp} {a : Addr} {vs : List V} {ds : List FV} (hs : SqL K D a vs) (r : RpA K D ds vs) (inj : ∀ H ys, Le D H → SqL K H a ys → ys = vs) : ItR K D (Itl K a) ds := fun D2 H2 l1 l2 => by
  have l := l1.trans l2
  refine ⟨fun i hi => ?_, fun i hi => ?_, fun i d x H' hd y => ?_⟩
  · obtain ⟨v, h1, _⟩ := r.get (List.getElem?_eq_getElem hi)
    exact ⟨vs, v, l.sqL hs, h1⟩
  · exact ⟨vs, l.sqL hs, by rw [← r.length]; exact hi⟩
  · obtain ⟨e1, e2⟩ := y
    obtain ⟨v, h1, h2⟩ := r.get hd
    have := e2 vs (l.sqL hs)
    rw [h1] at this
    cases this
    exact .inl ⟨e1, h2.mono l1⟩
theorem itr_tup {K : PySem.W.Frag} {D : Hp} {a : Addr} {vs : List V} {ds : List FV} (hs : SqT K D a vs) (r : RpA K D ds vs) : ItR K D (Itt K a) ds := fun D2 H2 l1 l2 => by
  have l := l1.trans l2
  refine ⟨fun i hi => ?_, fun i hi => ?_, fun i d x H' hd y => ?_⟩
  · obtain ⟨v, h1, _⟩ := r.get (List.getElem?_eq_getElem hi)
    exact ⟨vs, v, l.sqT hs, h1⟩
  · exact ⟨vs, l.sqT hs, by rw [← r.length]; exact hi⟩
  · obtain ⟨e1, e2⟩ := y
    obtain ⟨v, h1, h2⟩ := r.get hd
    have := e2 vs (l.sqT hs)
    rw [h1] at this
    cases this
    exact .inl ⟨e1, h2.mono l1⟩
/-- a list or a tuple walked -/
def iSeq (K : PySem.W.Frag) (tl : TE) : TI := fun σ H R => tl σ H fun x H1 => ∃ a, x = .ref a ∧ (((∃ xs, SqL K H1 a xs) ∧ R (Itl K a) H1) ∨ ((∃ xs, SqT K H1 a xs) ∧ R (Itt K a) H1))
theorem pi_seq {tg l : Expr} {tl : TE} (hl : PE X l tl) : PI X tg l (iSeq X.K tl) := by
  refine ⟨fun pins s σ H R I h => ?_⟩
  refine thn (hl.run pins s σ H _ I h) fun v s1 ⟨x, H1, I1, r1, q1⟩ => ?_
  obtain ⟨a, e, q⟩ := q1
  subst e
  cases r1
  rcases q with ⟨⟨xs, hq⟩, q⟩ | ⟨⟨xs, hq⟩, q⟩
  · obtain ⟨its, rv, p, hz⟩ := I1.list hq
    refine wpAny_pyIter_list p.isList ?_
    refine ⟨s1.heap.objs.size, [s1.heap.objs.size], _, _, H1, rfl, I1.kept (t' := s1.toks) fun b o e => Heap.get?_push_of_some _ e, turn_list a _, ⟨_, Heap.get?_push_size _ rfl, rfl, rfl⟩, fun b hb => ?_, q⟩
    have e : b = s1.heap.objs.size := by simpa using hb
    subst e
    exact I1.fpOk (Nat.le_refl _) (I1.hok.fresh (Nat.le_refl _))
  · obtain ⟨its, rv, p, hz⟩ := I1.tuple hq
    refine wpAny_pyIter_tuple (show s1.heap.IsTuple a its.toArray from p) ?_
    refine ⟨s1.heap.objs.size, [s1.heap.objs.size], _, _, H1, rfl, I1.kept (t' := s1.toks) fun b o e => Heap.get?_push_of_some _ e, turn_tuple a _, ⟨_, Heap.get?_push_size _ rfl, rfl, rfl⟩, fun b hb => ?_, q⟩
    have e : b = s1.heap.objs.size := by simpa using hb
    subst e
    exact I1.fpOk (Nat.le_refl _) (I1.hok.fresh (Nat.le_refl _))
def semSeq (f : SemE) : En → Sto → Rs (List FV) := fun e st => (f e st).bnd fun p s1 => match p with
    | .v d => Rs.of ((seqItems d).bind fun ds => if ds.length ≤ LIM then some ds else none) s1
    | _ => .no
theorem qi_seq {tg a : Expr} {f : SemE} (ha : QE X CX S E a f) : QI X CX S E tg a (semSeq f) := by
  obtain ⟨ta, la, pa⟩ := ha
  refine ⟨iSeq X.K ta, fun D m e st σ H R w er h => ?_, fun r hf hp => pi_seq (X := mkX X r) (pa r hf hp)⟩
  refine la D m e st σ H _ w er (h.bnd.imp fun p s1 D1 m1 H1 e1 w1 k x rx => ?_)
  split at k
  · cases rx with
    | v rx =>
      obtain ⟨ds, hd, k3⟩ := after_of k
      simp only [Option.bind_eq_some_iff, Option.ite_none_right_eq_some, Option.some.injEq] at hd
      obtain ⟨ds', hd, hl, rfl⟩ := hd
      have k4 := k3.here w1
      unfold seqItems at hd
      split at hd
      · cases hd
        cases rx with
        | lst s r => exact ⟨_, rfl, .inl ⟨⟨_, w1.le.sqL s⟩, k4 _ (fun D2 H2 l1 l2 => by
            have l := l1.trans l2
            refine ⟨fun i hi => ?_, fun i hi => ?_, fun i d x H' hd y => ?_⟩
            · obtain ⟨v, h1, _⟩ := r.get (List.getElem?_eq_getElem hi)
              exact ⟨_, v, l.sqL s, h1⟩
            · exact ⟨_, l.sqL s, by rw [← r.length]; exact hi⟩
            · obtain ⟨e1, e2⟩ := y
              obtain ⟨v, h1, h2⟩ := r.get hd
              have := e2 _ (l.sqL s)
              rw [h1] at this
              cases this
              exact .inl ⟨e1, h2.mono l1⟩) (lim_line hl)⟩⟩
      · cases hd
        cases rx with
        | tup s r => exact ⟨_, rfl, .inr ⟨⟨_, w1.le.sqT s⟩, k4 _ (itr_tup s r) (lim_line hl)⟩⟩
      · cases hd
  · exact False.elim k
theorem qi_rng1 {tg a : Expr} {p pos : Pos} {f : SemE} (hm : X.mg "range" = none) (hg : S.sc.names.lookup ("range" : Str) = some .globalImplicit) (hpl : plainE a = true) (ha : QE X CX S E a f) :
    QI X CX S E tg (.Call (.Name "range" p) [a] [] pos) (fun e st => (f e st).bnd fun p s1 => match p with | .v (.int i) => if rngOk i then .ok (rangeI 0 i) s1 else .no | _ => .no) := by
  obtain ⟨ta, la, pa⟩ := ha
  refine ⟨iRng1 (tCons ta tNil), fun D m e st σ H R w er h => ?_, fun r hf hp => pi_range1 (gl_of (X := X) hf hg) hm (pa_cons (pa r hf hp) pa_nil (starEach_cons hpl)) (starEach_cons hpl)⟩
  refine la D m e st σ H _ w er (h.bnd.imp fun p s1 D1 m1 H1 e1 w1 k x rx => ?_)
  split at k
  · rename_i i
    split at k
    · rename_i hr
      unfold rngOk at hr
      simp only [Bool.and_eq_true, decide_eq_true_eq] at hr
      cases rx with
      | v rx =>
        cases rx
        refine ⟨i, rfl, by omega, by omega, ?_⟩
        have := k.here w1 (Itr 0 (i - 0).toNat) (itr_range 0 i) (by rw [range_len, sizeLine_eq]; omega)
        rw [show (i - 0).toNat = i.toNat by omega] at this
        exact this
    · exact False.elim k
  · exact False.elim k
theorem qi_rng2 {tg a b : Expr} {p pos : Pos} {f g : SemE} (hm : X.mg "range" = none) (hg : S.sc.names.lookup ("range" : Str) = some .globalImplicit) (hpl : plainE a = true) (hpl2 : plainE b = true) (ha : QE X CX S E a f) (hb : QE X CX S E b g) :
    QI X CX S E tg (.Call (.Name "range" p) [a, b] [] pos) (fun e st => (f e st).bnd fun p s1 => (g e s1).bnd fun q s2 => match p, q with | .v (.int i), .v (.int j) => if rngOk i && rngOk j then .ok (rangeI i j) s2 else .no | _, _ => .no) := by
  obtain ⟨ta, la, pa⟩ := ha
  obtain ⟨tb, lb, pb⟩ := hb
  refine ⟨iRng2 (tCons ta (tCons tb tNil)), fun D m e st σ H R w er h => ?_, fun r hf hp => pi_range2 (gl_of (X := X) hf hg) hm (pa_cons (pa r hf hp) (pa_cons (pb r hf hp) pa_nil (starEach_cons hpl2)) (starEach_cons hpl)) (by rw [starEach_cons hpl, starEach_cons hpl2]; rfl) (starEach_cons hpl2)⟩
  refine la D m e st σ H _ w er (h.bnd.imp fun p s1 D1 m1 H1 e1 w1 k x rx => ?_)
  refine lb D1 m1 e s1 σ H1 _ w1 (er.mono e1.le e1.lm) (k.bnd.imp fun q s2 D2 m2 H2 e2 w2 k2 y ry => ?_)
  split at k2
  · rename_i i j
    split at k2
    · rename_i hr
      unfold rngOk at hr
      simp only [Bool.and_eq_true, decide_eq_true_eq] at hr
      cases rx with
      | v rx =>
        cases rx
        cases ry with
        | v ry =>
          cases ry
          exact ⟨i, j, rfl, ⟨by omega, by omega, by omega, by omega⟩, k2.here w2 (Itr i (j - i).toNat) (itr_range i j) (by rw [range_len, sizeLine_eq]; omega)⟩
    · exact False.elim k2
  · exact False.elim k2
/-! ### targets -/
theorem wipe_set {σ : L2.St} {i : Nat} {o : Option V} : ∀ {vs : List Nat}, i ∈ vs → wipe (σ.set i o) vs = wipe σ vs
  | [], h => by simp at h
  | v :: vs, h => by
    show (wipe (σ.set i o) vs).set v none = (wipe σ vs).set v none
    by_cases hv : i ∈ vs
    · rw [wipe_set hv]
    · have e : i = v := by
        rcases List.mem_cons.mp h with e | e
        · exact e
        · exact absurd e hv
      subst e
      have : ∀ vs : List Nat, i ∉ vs → wipe (σ.set i o) vs = (wipe σ vs).set i o := by
        intro vs
        induction vs with
        | nil => intro _; rfl
        | cons u us ih =>
          intro hn
          simp only [List.mem_cons, not_or] at hn
          show (wipe (σ.set i o) us).set u none = ((wipe σ us).set u none).set i o
          rw [ih hn.2, List.set_comm _ _ hn.1]
      rw [this vs hv, List.set_set]
def inSlots (vs : Option (List Nat)) (i : Nat) : Bool := match vs with
  | none => true
  | some v => decide (i ∈ v)
theorem qg_nm (B : Base X CX) {vs : Option (List Nat)} {i : Nat} {x : Str} {pos : Pos} (hi : X.N[i]? = some x) (hx : Loc S.sc x) (hf' : S.fn x = true ∨ S.sc.names.lookup x = some .local) (hv : inSlots vs i = true) :
    QG X CX S E vs (.Name x pos) (fun p e st => .ok (e.set i (some p)) st) := by
  refine ⟨gName i, ⟨fun D m e st σ H p x Q w er rx h => h.here w _ (er.set rx i), fun v hv' x σ0 σ H Q Q' hw k q => k _ _ ?_ q⟩,
    fun r hf _ => pg_name B.nd hi (by rw [show (mkX X r).env.scope = S.sc from hf.1]; exact hx) (by rw [show (mkX X r).env.scope = S.sc from hf.1, show (mkX X r).fn = S.fn from hf.2]; exact hf')⟩
  subst hv'
  rw [wipe_set (of_decide_eq_true hv)]
  exact hw
theorem qgs_nil {vs : Option (List Nat)} : QGs X CX S E vs [] (fun ds e st => match ds with | [] => .ok e st | _ => .no) := by
  refine ⟨gNil, ⟨fun D m e st σ H ds xs Q w er rx h => ?_, fun v hv' x σ0 σ H Q Q' hw k q => ⟨q.1, k _ _ hw q.2⟩⟩, fun r hf _ => pgs_nil⟩
  dsimp only at h
  split at h
  · cases rx
    exact ⟨rfl, h.here w _ er⟩
  · exact False.elim h
def semTs (f : PV → En → Sto → Rs En) (g : List PV → En → Sto → Rs En) : List PV → En → Sto → Rs En := fun ds e st => match ds with
    | d :: ds => (f d e st).bnd fun e1 s1 => g ds e1 s1
    | [] => .no
def plainT : Expr → Bool
  | .Starred _ _ => false
  | _ => true
theorem assignEach_cons {e : Expr} {es : List Expr} {env : Env} (h : plainE e = true) : assignEach (e :: es) env = (false, assign e env) :: assignEach es env := by
  cases e <;> first | rfl | cases h
theorem qgs_cons {vs : Option (List Nat)} {a : Expr} {as : List Expr} {f : PV → En → Sto → Rs En} {g : List PV → En → Sto → Rs En} (hpl : plainE a = true) (ha : QG X CX S E vs a f) (hb : QGs X CX S E vs as g) : QGs X CX S E vs (a :: as) (semTs f g) := by
  obtain ⟨ta, ⟨la, ka⟩, pa⟩ := ha
  obtain ⟨tb, ⟨lb, kb⟩, pb⟩ := hb
  refine ⟨gCons ta tb, ⟨fun D m e st σ H ds xs Q w er rx h => ?_, fun v hv' x σ0 σ H Q Q' hw k q => ?_⟩, fun r hf hp => pgs_cons (pa r hf hp) (pb r hf hp) (by rw [assignEach_cons hpl]; rfl)⟩
  · unfold semTs at h
    split at h
    · cases rx with
      | cons r t =>
        refine ⟨_, _, rfl, la D m e st σ H _ _ _ w er r (h.bnd.imp fun e' s1 D1 m1 H1 e1 w1 k σ' er' => ?_)⟩
        exact lb D1 m1 e' s1 σ' H1 _ _ Q w1 er' (RvA.mono e1.le e1.lm t) k
    · exact False.elim h
  · obtain ⟨v0, r0, e0, q⟩ := q
    exact ⟨v0, r0, e0, ka v hv' v0 σ0 σ H _ _ hw (fun σ2 H2 hw2 q2 => kb v hv' r0 σ0 σ2 H2 _ _ hw2 k q2) q⟩
theorem QGs.len {vs : Option (List Nat)} : ∀ {es : List Expr} {env : Env}, es.all plainE = true → (assignEach es env).length = es.length ∧ (assignEach es env).findIdx? (·.1) = none
  | [], _, _ => ⟨rfl, rfl⟩
  | e :: es, env, h => by
    simp only [List.all_cons, Bool.and_eq_true] at h
    rw [assignEach_cons h.1]
    obtain ⟨h1, h2⟩ := QGs.len (vs := vs) (es := es) (env := env) h.2
    refine ⟨by rw [List.length_cons, List.length_cons, h1], ?_⟩
    rw [List.findIdx?_cons, h2]
    rfl
theorem qg_tp (B : Base X CX) {vs : Option (List Nat)} {es : List Expr} {k : Nat} {pos : Pos} {g : List PV → En → Sto → Rs En} (hpl : es.all plainE = true) {n : Nat} (hn : es.length = n) (ha : QGs X CX S E vs es g) :
    QG X CX S E vs (.Tuple es k pos) (fun p e st => match p with | .v (.tuple ds) => if ds.length = n then g (ds.map .v) e st else .no | _ => .no) := by
  subst hn
  obtain ⟨ta, ⟨la, ka⟩, pa⟩ := ha
  refine ⟨gTup X.K es.length ta, ⟨fun D m e st σ H p x Q w er rx h => ?_, fun v hv' x σ0 σ H Q Q' hw k q => ?_⟩, fun r hf hp => ?_⟩
  · dsimp only at h
    split at h
    · split at h
      · rename_i hl
        cases rx with
        | v rx =>
          cases rx with
          | tup s r => exact ⟨_, _, rfl, w.le.sqT s, by rw [← r.length]; exact hl, la D m e st σ H _ _ Q w er r.rv h⟩
      · exact False.elim h
    · exact False.elim h
  · obtain ⟨a, xs, e1, e2, e3, q⟩ := q
    exact ⟨a, xs, e1, e2, e3, ka v hv' xs σ0 σ H _ _ hw k q⟩
  · obtain ⟨h1, h2⟩ := QGs.len (vs := vs) (es := es) (env := (mkX X r).env) hpl
    exact pg_tup (show (mkX X r).calm = true from B.calm) (pa r hf hp) h1 h2
def semSb (f g : SemE) : PV → En → Sto → Rs En := fun p e st => (f e st).bnd fun q s1 => (g e s1).bnd fun k s2 => match q, k with
    | .loc l, .v (.int k) => match obAt s2 l with
      | some (.lst xs) => match L2.ixN xs.length k with
        | some j => .ok e (s2.set l (some (.lst (xs.set j p))))
        | none => .no
      | none => .no
    | _, _ => .no
theorem RvA.set {K : PySem.W.Frag} {D : Hp} {m : Mp} {ps : List PV} {xs : List V} {p : PV} {x : V} (r : RvA K D m ps xs) (q : Rv K D m p x) (j : Nat) : RvA K D m (ps.set j p) (xs.set j x) := by
  induction r generalizing j with
  | nil => exact .nil
  | cons a t ih =>
    cases j with
    | zero => exact .cons q t
    | succ j => exact .cons a (ih j)
theorem assign_sub {o i : Expr} {pos : Pos} {env : Env} (h : plainIxE i = true) : ∀ v, assign (.Subscript o i pos) env v = (do
      let ov ← holding [v] (eval o env)
      let iv ← holding [v, ov] (eval i env)
      standAt pos
      holding [v, ov, iv] (setItem ov iv v)
      release [v, ov, iv] []) := by
  intro v
  cases i <;> first | rfl | cases h
theorem qg_sb {o i : Expr} {pos : Pos} {f g : SemE} (hpl : plainIxE i = true) (ha : QE X CX S E o f) (hb : QE X CX S E i g) : QG X CX S E none (.Subscript o i pos) (semSb f g) := by
  obtain ⟨ta, la, pa⟩ := ha
  obtain ⟨tb, lb, pb⟩ := hb
  refine ⟨gSub ta tb rSetL, ⟨fun D m e st σ H p x Q w er rx h => ?_, fun v hv' => by cases hv'⟩, fun r hf hp => pg_sub (pa r hf hp) (pb r hf hp) set_list (assign_sub hpl)⟩
  refine la D m e st σ H _ w er (h.bnd.imp fun q s1 D1 m1 H1 e1 w1 k y ry => ?_)
  refine lb D1 m1 e s1 σ H1 _ w1 (er.mono e1.le e1.lm) (k.bnd.imp fun u s2 D2 m2 H2 e2 w2 k2 z rz => ?_)
  split at k2
  · split at k2
    · split at k2
      · rename_i ho _ j hj
        cases ry with
        | loc hm =>
          have hm2 := e2.lm _ _ hm
          obtain ⟨a, o, h1, h2, h3, vs, rfl, h4⟩ := w2.ob _ _ ho
          rw [hm2] at h1
          cases h1
          cases rz with
          | v rz =>
            cases rz
            have rx2 := (rx.mono e1.le e1.lm).mono e2.le e2.lm
            obtain ⟨w3, e3⟩ := w2.put ho hm2 (b' := .lst (_)) (o := .lst (vs.set j x)) ⟨_, rfl, h4.set rx2 j⟩
            refine ⟨_, vs, _, j, rfl, rfl, h3, by rw [← Paired.length h4]; exact hj, ?_⟩
            exact k2 D2 m2 _ e3 w3 σ (((er.mono e1.le e1.lm).mono e2.le e2.lm).mono e3.le e3.lm)
      · exact False.elim k2
    · exact False.elim k2
  · exact False.elim k2
/-! ### list(range(..)), tuple(range(..)) -/
theorem rgl_rp {K : PySem.W.Frag} {D : Hp} (a b : Int) : RpA K D (rangeI a b) (rgV a b) := by
  unfold rangeI rgV
  generalize List.range (b - a).toNat = l
  induction l with
  | nil => exact .nil
  | cons i l ih => exact .cons (.int _) ih
theorem rgOk_of {i j : Int} (h : rngOk i = true) (k : rngOk j = true) : RgOk i j := by
  unfold rngOk at h k
  simp only [Bool.and_eq_true, decide_eq_true_eq] at h k
  exact ⟨by omega, by omega, by omega, by omega, by omega⟩
theorem qe_rgl {a : Expr} {p p2 pos pos2 : Pos} {f : SemE} (B : Base X CX) (tp : Bool) (hl : X.mg (if tp then "tuple" else "list" : Str) = none) (hm : X.mg "range" = none)
    (hgl : S.sc.names.lookup (if tp then "tuple" else "list" : Str) = some .globalImplicit) (hg : S.sc.names.lookup ("range" : Str) = some .globalImplicit) (hpl : plainE a = true) (ha : QE X CX S E a f) :
    QE X CX S E (.Call (.Name (if tp then "tuple" else "list" : Str) p) [.Call (.Name "range" p2) [a] [] pos2] [] pos) (fun e st => (f e st).bnd fun p s1 => match p with
      | .v (.int i) => if rngOk i then .ok (.v (if tp then .tuple (rangeI 0 i) else .list (rangeI 0 i))) s1 else .no
      | _ => .no) := by
  obtain ⟨ta, la, pa⟩ := ha
  refine ⟨if tp then tTupRg (tRg1 ta) else tLstRg (tRg1 ta), fun D m e st σ H Q w er h => ?_, fun r hf hp => ?_⟩
  · have main : ta σ H fun x H1 => ∃ n, x = .int n ∧ RgOk 0 n ∧ ∀ q, H1 q = none → Q (.ref q) (upd H1 q (if tp then .tup (rgV 0 n) else .lst (rgV 0 n))) := by
      refine la D m e st σ H _ w er (h.bnd.imp fun p s1 D1 m1 H1 e1 w1 k x rx => ?_)
      split at k
      · rename_i i
        split at k
        · rename_i hr
          cases rx with
          | v rx =>
            cases rx
            refine ⟨i, rfl, rgOk_of (by decide) hr, fun q hq => ?_⟩
            cases tp with
            | true => exact (res_of w1 k).tup w1.le (rgl_rp 0 i) q hq
            | false => exact (res_of w1 k).lst w1.le (rgl_rp 0 i) q hq
        · exact False.elim k
      · exact False.elim k
    cases tp <;> exact main
  · have G := gl_of (X := X) (r := r) hf hgl
    have G2 := gl_of (X := X) (r := r) hf hg
    cases tp with
    | true => exact pe_tupRg B.calm G hl (prg_1 G2 hm (pa r hf hp) (starEach_cons hpl)) (starEach_cons rfl)
    | false => exact pe_listRg B.calm G hl (prg_1 G2 hm (pa r hf hp) (starEach_cons hpl)) (starEach_cons rfl)
theorem qe_rgl2 {a b : Expr} {p p2 pos pos2 : Pos} {f g : SemE} (B : Base X CX) (tp : Bool) (hl : X.mg (if tp then "tuple" else "list" : Str) = none) (hm : X.mg "range" = none)
    (hgl : S.sc.names.lookup (if tp then "tuple" else "list" : Str) = some .globalImplicit) (hg : S.sc.names.lookup ("range" : Str) = some .globalImplicit) (hpl : plainE a = true) (hpl2 : plainE b = true) (ha : QE X CX S E a f) (hb : QE X CX S E b g) :
    QE X CX S E (.Call (.Name (if tp then "tuple" else "list" : Str) p) [.Call (.Name "range" p2) [a, b] [] pos2] [] pos) (fun e st => (f e st).bnd fun p s1 => (g e s1).bnd fun q s2 => match p, q with
      | .v (.int i), .v (.int j) => if rngOk i && rngOk j then .ok (.v (if tp then .tuple (rangeI i j) else .list (rangeI i j))) s2 else .no
      | _, _ => .no) := by
  obtain ⟨ta, la, pa⟩ := ha
  obtain ⟨tb, lb, pb⟩ := hb
  refine ⟨if tp then tTupRg (tRg2 ta tb) else tLstRg (tRg2 ta tb), fun D m e st σ H Q w er h => ?_, fun r hf hp => ?_⟩
  · have main : ta σ H fun x H1 => tb σ H1 fun y H2 => ∃ i j, x = .int i ∧ y = .int j ∧ RgOk i j ∧ ∀ q, H2 q = none → Q (.ref q) (upd H2 q (if tp then .tup (rgV i j) else .lst (rgV i j))) := by
      refine la D m e st σ H _ w er (h.bnd.imp fun p s1 D1 m1 H1 e1 w1 k0 x rx => ?_)
      refine lb D1 m1 e s1 σ H1 _ w1 (er.mono e1.le e1.lm) (k0.bnd.imp fun q s2 D2 m2 H2 e2 w2 k y ry => ?_)
      split at k
      · rename_i i j
        split at k
        · rename_i hr
          simp only [Bool.and_eq_true] at hr
          cases rx with
          | v rx =>
            cases rx
            cases ry with
            | v ry =>
              cases ry
              refine ⟨i, j, rfl, rfl, rgOk_of hr.1 hr.2, fun q hq => ?_⟩
              cases tp with
              | true => exact (res_of w2 k).tup w2.le (rgl_rp i j) q hq
              | false => exact (res_of w2 k).lst w2.le (rgl_rp i j) q hq
        · exact False.elim k
      · exact False.elim k
    cases tp <;> exact main
  · have G := gl_of (X := X) (r := r) hf hgl
    have G2 := gl_of (X := X) (r := r) hf hg
    cases tp with
    | true => exact pe_tupRg B.calm G hl (prg_2 G2 hm (pa r hf hp) (pb r hf hp) (starEach_cons hpl) (starEach_cons hpl2) (plain_any (by simp [hpl, hpl2]))) (starEach_cons rfl)
    | false => exact pe_listRg B.calm G hl (prg_2 G2 hm (pa r hf hp) (pb r hf hp) (starEach_cons hpl) (starEach_cons hpl2) (plain_any (by simp [hpl, hpl2]))) (starEach_cons rfl)
end L3
/-! L3D4: comprehensions, statements. -/
namespace L3
open PySem PySem.Spec PyProof.Rows L2
variable {X : Cx} {CX : CXT} {S : Sc} {E : XK}
theorem wipe_wipe (σ : L2.St) : ∀ vs : List Nat, wipe (wipe σ vs) vs = wipe σ vs := by
  intro vs
  have go : ∀ (us vs : List Nat) (σ : L2.St), (∀ u ∈ us, ∀ i, i = u → ∀ o, (wipe σ vs)[i]? = some o → o = none) → wipe (wipe σ vs) us = wipe σ vs := by
    intro us
    induction us with
    | nil => intro vs σ _; rfl
    | cons u us ih =>
      intro vs σ h
      show (wipe (wipe σ vs) us).set u none = wipe σ vs
      rw [ih vs σ fun u' hu => h u' (List.mem_cons_of_mem _ hu)]
      by_cases hl : u < (wipe σ vs).length
      · have e := h u List.mem_cons_self u rfl _ (List.getElem?_eq_getElem hl)
        apply List.ext_getElem?
        intro j
        by_cases hj : u = j
        · subst hj
          rw [List.getElem?_set_self hl, List.getElem?_eq_getElem hl, e]
        · rw [List.getElem?_set_ne hj]
      · rw [List.set_eq_of_length_le (by omega)]
  refine go vs vs σ fun u hu i hi o ho => ?_
  subst hi
  cases o with
  | none => rfl
  | some x => exact absurd hu (wipe_some ho).2
section
variable {K : PySem.W.Frag} {D : Hp} {m : Mp} {st : Sto} {H : Hp} {p : Addr} {o : HO}
/-- a thing that is neither told nor one's own is laid, or changed -/
theorem Wd.other (w : Wd K D m st H) (hD : D p = none) (hm : ∀ l, m l ≠ some p) : Wd K D m st (upd H p o) :=
  ⟨fun a u e => by rw [upd_ne (ne_of_none e hD)]; exact w.le a u e, fun l b e => by
    obtain ⟨a, u, h1, h2, h3, h4⟩ := w.ob l b e
    exact ⟨a, u, h1, h2, by rw [upd_ne (fun z => hm l (by rw [← z]; exact h1))]; exact h3, h4⟩, w.inj, w.nx, fun l a e => let ⟨u, q⟩ := w.tr l a e; ⟨u, by rw [upd_ne (fun z => hm l (by rw [← z]; exact e))]; exact q⟩⟩
theorem Ext.other {D0 : Hp} {m0 : Mp} {H0 : Hp} (e : Ext D0 m0 H0 D m H) (h0 : H0 p = none) : Ext D0 m0 H0 D m (upd H p o) :=
  ⟨e.le, e.lm, e.nd, e.nm, fun a u h n => by rw [upd_ne (ne_of_none h h0)]; exact e.fr a u h n, fun a u h => by
    obtain ⟨u', h'⟩ := e.tk a u h
    exact ⟨u', by rw [upd_ne (ne_of_none h h0)]; exact h'⟩⟩
/-- a thing that stands is told from now on -/
theorem Wd.told (w : Wd K D m st H) (hH : H p = some o) (hD : D p = none) (hm : ∀ l, m l ≠ some p) : Wd K (upd D p o) m st H := by
  have hle : Le D (upd D p o) := upd_le hD
  refine ⟨fun a u e => ?_, fun l b e => ?_, w.inj, w.nx, w.tr⟩
  · by_cases z : a = p
    · subst z; rw [upd_same] at e; rw [← e]; exact hH
    · rw [upd_ne z] at e; exact w.le a u e
  · obtain ⟨a, u, h1, h2, h3, h4⟩ := w.ob l b e
    have z : a ≠ p := fun z => hm l (by rw [← z]; exact h1)
    exact ⟨a, u, h1, by rw [upd_ne z]; exact h2, h3, h4.mono hle fun _ _ q => q⟩
theorem Ext.told {D0 : Hp} {m0 : Mp} {H0 : Hp} (e : Ext D0 m0 H0 D m H) (h0 : H0 p = none) (hD : D p = none) : Ext D0 m0 H0 (upd D p o) m H :=
  ⟨e.le.trans (upd_le hD), e.lm, fun a u q => by
    by_cases z : a = p
    · subst z; exact .inr (.inl h0)
    · rw [upd_ne z] at q; exact e.nd a u q, e.nm, e.fr, e.tk⟩
/-- .. is one's own from now on -/
theorem Wd.mine (w : Wd K D m st H) {b : OB} (hH : H p = some o) (hD : D p = none) (hm : ∀ l, m l ≠ some p) (r : ObR K D m b o) : Wd K D (fun l => if l = st.length then some p else m l) (st ++ [some b]) H ∧ LeM m (fun l => if l = st.length then some p else m l) := by
  have lm : LeM m (fun l => if l = st.length then some p else m l) := fun l a e => by
    have : l ≠ st.length := fun z => by rw [w.nx l (by omega)] at e; cases e
    show (if l = st.length then some p else m l) = some a
    rw [if_neg this]; exact e
  refine ⟨⟨w.le, fun l b' e => ?_, fun l l' b1 b2 a e1 e2 h1 h2 => ?_, fun l hl => ?_, fun l a e => ?_⟩, lm⟩
  · rw [obAt_app] at e
    by_cases z : l = st.length
    · rw [if_pos z] at e
      cases e
      exact ⟨p, o, by rw [if_pos z], hD, hH, r.mono (Le.refl D) lm⟩
    · rw [if_neg z] at e
      obtain ⟨a, u, h1, h2, h3, h4⟩ := w.ob l b' e
      exact ⟨a, u, by rw [if_neg z]; exact h1, h2, h3, h4.mono (Le.refl D) lm⟩
  · rw [obAt_app] at e1 e2
    by_cases z1 : l = st.length
    · by_cases z2 : l' = st.length
      · omega
      · rw [if_neg z2] at e2 h2
        rw [if_pos z1] at h1
        cases h1
        exact absurd h2 (hm l')
    · by_cases z2 : l' = st.length
      · rw [if_neg z1] at e1 h1
        rw [if_pos z2] at h2
        cases h2
        exact absurd h1 (hm l)
      · rw [if_neg z1] at e1 h1
        rw [if_neg z2] at e2 h2
        exact w.inj l l' b1 b2 a e1 e2 h1 h2
  · have : l ≠ st.length := fun z => by simp at hl; omega
    show (if l = st.length then some p else m l) = none
    rw [if_neg this]
    exact w.nx l (by simp at hl; omega)
  · by_cases z : l = st.length
    · have e' : (if l = st.length then some p else m l) = some a := e
      rw [if_pos z] at e'
      cases e'
      exact ⟨_, hH⟩
    · have e' : (if l = st.length then some p else m l) = some a := e
      rw [if_neg z] at e'
      exact w.tr l a e'
end
def QTs (X : Cx) (CX : CXT) (S : Sc) (E : XK) (es : List Expr) (f : SemE) : Prop := ∃ t, LT (Zx X E) t f ∧ ∀ r, Fits S r → Passes CX (mkX X r) E → PTs (mkX X r) es t
theorem qts_nil : QTs X CX S E [] (evE (.lit (.bool true))) := by
  refine ⟨tYes, fun D m e st σ H Q w er h => ?_, fun r _ _ => pts_nil⟩
  rw [evE] at h
  obtain ⟨b, e1, q⟩ := h.here w
  cases e1
  exact q
theorem qts_one {c : Expr} {f : SemE} (h : QT X CX S E c f) : QTs X CX S E [c] f := by
  obtain ⟨t, l, p⟩ := h
  exact ⟨t, l, fun r hf hp => pts_one (p r hf hp)⟩
/-- the block's own static facts -/
def blkS (scope : Scope) (S : Sc) : Sc := ⟨relS scope S.sc, fun x => scope.names.lookup x == some .cell⟩
theorem nx_ok {α : Type} {r : Rs α} {a : α} {s : Sto} (h : r.nx = .ok a s) : r = .ok a s := by
  cases r with
  | ok b t => exact h
  | ex x t => cases h
  | no => cases h
theorem bnd_cases {α β : Type} {Z : Sx} {D : Hp} {m : Mp} {H : Hp} {r : Rs α} {k : α → Sto → Rs β} {Q : β → Sto → Hp → Mp → Hp → Prop} (h : After Z D m H (r.nx.bnd k) Q) :
    ∃ a s, r = .ok a s ∧ After Z D m H (k a s) Q := by
  cases e : r.nx with
  | ok a s => rw [e] at h; exact ⟨a, s, nx_ok e, h⟩
  | ex x s => cases r <;> cases e
  | no => rw [e] at h; exact False.elim h
theorem after_ok {α : Type} {Z : Sx} {D : Hp} {m : Mp} {H : Hp} {r : Rs α} {a : α} {st : Sto} {Q : α → Sto → Hp → Mp → Hp → Prop} (e : r = .ok a st) (h : ∀ D' m' H', Ext D m H D' m' H' → Wd Z.K D' m' st H' → Q a st D' m' H') : After Z D m H r Q := by
  subst e
  exact h
/-- the loop of a comprehension, by what is done with the list of its elements -/
theorem lc_core3 {wi : TI} {g : TG} {tt : TT} {te : TE} {own : List Nat} {fi : En → Sto → Rs (List FV)} {ft : PV → En → Sto → Rs En} {fc fe : SemE} (kont : List PV → Sto → Rs PV)
    (li : LI (Zx X E) wi fi) (lg : LG (Zx X E0) g ft) (kg : Keeps own g) (lt : LT (Zx X E0) tt fc) (le : LE (Zx X E0) te fe)
    (fin : ∀ (D D' : Hp) (m m' : Mp) (H H' : Hp) (st' : Sto) (ps : List PV) (vs : List V) (Dl : Addr) (Q : VK), Ext D m H D' m' H' → Wd X.K D' m' st' H' → H Dl = none → H' Dl = some (.lst vs) → D' Dl = none → (∀ l, m' l ≠ some Dl) → RvA X.K D' m' ps vs →
      After (Zx X E) D m H (kont ps st') (fun p st' D' m' H' => ∀ x, Rv X.K D' m' p x → Q x H') → Q (.ref Dl) H') :
    LE (Zx X E) (tLc wi g tt te own) (fun e st => (fi e st).bnd fun ds s1 => (lcL ft fc fe (wipeE e own) ds s1).bnd kont) := by
  intro D m e st σ H Q w er h
  refine li D m e st σ H _ w er (h.bnd.imp fun ds s1 D1 m1 H1 e1 w1 k J hJ hlen => ?_)
  intro Dl hDl
  have er1 := (er.mono e1.le e1.lm).wipe own
  refine ⟨fun i n H' => n = ds.length - i ∧ i ≤ ds.length ∧ ∃ D' m' st' acc ps, Ext D1 m1 H1 D' m' H' ∧ Wd X.K D' m' st' H' ∧ EnR X.K D' m' (wipeE e own) (wipe σ own) ∧ H' Dl = some (.lst acc) ∧ acc.length ≤ i ∧ D' Dl = none ∧ (∀ l, m' l ≠ some Dl) ∧ RvA X.K D' m' ps acc ∧
      After (Zx X E) D1 m1 H1 ((lcL ft fc fe (wipeE e own) (ds.drop i) st').bnd fun qs s2 => kont (ps ++ qs) s2) (fun p st' D' m' H' => ∀ x, Rv X.K D' m' p x → Q x H'),
    ⟨ds.length, by simp, Nat.zero_le _, D1, m1, s1, [], [], (Ext.refl D1 m1 H1).other hDl, w1.other (w1.free hDl) (fun l z => ?_), er1, upd_same, Nat.le_refl _, w1.free hDl, (fun l z => ?_), .nil, by simpa using k⟩, ?_⟩
  · obtain ⟨u, q⟩ := w1.tr l Dl z
    rw [hDl] at q
    cases q
  · obtain ⟨u, q⟩ := w1.tr l Dl z
    rw [hDl] at q
    cases q
  · rintro i n H' ⟨rfl, hi, D', m', st', acc, ps, ex, w', er', hacc, hal, hDD, hmm, racc, hk⟩
    obtain ⟨J1, J2, J3⟩ := hJ D' H' ex.le w'.le
    by_cases hlt : i < ds.length
    · rw [List.drop_eq_getElem_cons hlt] at hk
      have hk2 := hk
      simp only [lcL] at hk2
      refine .inr ⟨J1 i hlt, fun H4 => ∃ D' m' st' acc ps, Ext D1 m1 H1 D' m' H4 ∧ Wd X.K D' m' st' H4 ∧ EnR X.K D' m' (wipeE e own) (wipe σ own) ∧ H4 Dl = some (.lst acc) ∧ acc.length ≤ i + 1 ∧ D' Dl = none ∧ (∀ l, m' l ≠ some Dl) ∧ RvA X.K D' m' ps acc ∧
        After (Zx X E) D1 m1 H1 ((lcL ft fc fe (wipeE e own) (ds.drop (i + 1)) st').bnd fun qs s2 => kont (ps ++ qs) s2) (fun p st' D' m' H' => ∀ x, Rv X.K D' m' p x → Q x H'),
        fun H4 h4 => ⟨ds.length - (i + 1), by omega, rfl, by omega, h4⟩, fun x H2 hy => ?_⟩
      -- the item as it comes
      have hitem : ∃ D2, Ext D' m' H' D2 m' H2 ∧ Wd X.K D2 m' st' H2 ∧ Rp X.K D2 ds[i] x := by
        rcases J3 i ds[i] x H2 (List.getElem?_eq_getElem hlt) hy with ⟨rfl, r⟩ | ⟨p, o, hp, rfl, r⟩
        · exact ⟨D', Ext.refl _ _ _, w', r⟩
        · exact ⟨upd D' p o, w'.growE (Z := Zx X E) hp o, w'.grow (Z := Zx X E) hp o, r⟩
      obtain ⟨D2, x2, w2, rx⟩ := hitem
      -- nothing of it touches the list that is made
      have keep : ∀ {D3 : Hp} {m3 : Mp} {H3 : Hp}, Ext D' m' H' D3 m3 H3 → H3 Dl = some (.lst acc) ∧ D3 Dl = none ∧ ∀ l, m3 l ≠ some Dl := fun {D3 m3 H3} x3 => by
        refine ⟨x3.fr Dl _ hacc hmm, ?_, fun l z => ?_⟩
        · cases q : D3 Dl with
          | none => rfl
          | some u =>
            rcases x3.nd Dl u q with z | z | ⟨l, z⟩
            · rw [hDD] at z; cases z
            · rw [hacc] at z; cases z
            · exact absurd z (hmm l)
        · rcases x3.nm l Dl z with z | z
          · exact hmm l z
          · rw [hacc] at z; cases z
      have hb : ∀ (r : Rs (List PV)), ((r.bnd fun qs s2 => kont (ps ++ qs) s2)) = r.bnd fun qs s2 => kont (ps ++ qs) s2 := fun _ => rfl
      have hk3 : After (Zx X E) D1 m1 H1 ((ft (.v ds[i]) (wipeE e own) st').nx.bnd fun e1 s1 => ((fc e1 s1).nx.bnd fun t s2 => match t with
          | .v (.bool true) => (fe e1 s2).nx.bnd fun p s3 => (lcL ft fc fe (wipeE e own) (ds.drop (i + 1)) s3).bnd fun ps s4 => .ok (p :: ps) s4
          | .v (.bool false) => lcL ft fc fe (wipeE e own) (ds.drop (i + 1)) s2
          | _ => .no).bnd fun qs s2 => kont (ps ++ qs) s2) (fun p st' D' m' H' => ∀ x, Rv X.K D' m' p x → Q x H') := by
        cases hq : (ft (.v ds[i]) (wipeE e own) st').nx with
        | ok a s => rw [hq] at hk2; exact hk2
        | ex a s => rw [hq] at hk2; exact hk2
        | no => rw [hq] at hk2; exact hk2
      obtain ⟨e3, s3, he3, hk4⟩ := bnd_cases hk3
      refine kg x σ (wipe σ own) H2 _ _ (wipe_wipe σ own) (fun σ3 H3 hw3 q => ⟨hw3, q⟩) ?_
      refine lg D2 m' _ st' (wipe σ own) H2 _ x _ w2 (er'.mono x2.le x2.lm) (.v rx) (after_ok he3 fun D3 m3 H3 x3 w3 σ3 er3 => ?_)
      have hk5 : After (Zx X E) D1 m1 H1 ((fc e3 s3).nx.bnd fun t s2 => (match t with
          | .v (.bool true) => (fe e3 s2).nx.bnd fun p s3 => (lcL ft fc fe (wipeE e own) (ds.drop (i + 1)) s3).bnd fun ps s4 => .ok (p :: ps) s4
          | .v (.bool false) => lcL ft fc fe (wipeE e own) (ds.drop (i + 1)) s2
          | _ => .no : Rs (List PV)).bnd fun qs s2 => kont (ps ++ qs) s2) (fun p st' D' m' H' => ∀ x, Rv X.K D' m' p x → Q x H') := by
        cases hq : (fc e3 s3).nx with
        | ok a s => rw [hq] at hk4; exact hk4
        | ex a s => rw [hq] at hk4; exact hk4
        | no => rw [hq] at hk4; exact hk4
      obtain ⟨t, s4, ht4, hk6⟩ := bnd_cases hk5
      refine lt D3 m3 e3 s3 σ3 H3 _ w3 er3 (after_ok ht4 fun D4 m4 H4 x4 w4 => ?_)
      have x14 := x2.trans (x3.trans x4)
      split at hk6
      · refine ⟨true, rfl, ?_⟩
        simp only [if_true]
        have hk7 : After (Zx X E) D1 m1 H1 ((fe e3 s4).nx.bnd fun p s5 => (lcL ft fc fe (wipeE e own) (ds.drop (i + 1)) s5).bnd fun qs s6 => kont ((ps ++ [p]) ++ qs) s6) (fun p st' D' m' H' => ∀ x, Rv X.K D' m' p x → Q x H') := by
          cases hq : (fe e3 s4).nx with
          | ok a s =>
            rw [hq] at hk6
            show After _ _ _ _ ((lcL ft fc fe (wipeE e own) (ds.drop (i + 1)) s).bnd fun qs s6 => kont ((ps ++ [a]) ++ qs) s6) _
            have hk6' : After (Zx X E) D1 m1 H1 (((lcL ft fc fe (wipeE e own) (ds.drop (i + 1)) s).bnd fun ps s4 => .ok (a :: ps) s4).bnd fun qs s2 => kont (ps ++ qs) s2) (fun p st' D' m' H' => ∀ x, Rv X.K D' m' p x → Q x H') := hk6
            cases hr : lcL ft fc fe (wipeE e own) (ds.drop (i + 1)) s with
            | ok b s' => rw [hr] at hk6'; simpa using hk6'
            | ex b s' => rw [hr] at hk6'; exact hk6'
            | no => rw [hr] at hk6'; exact hk6'
          | ex a s => rw [hq] at hk6; exact hk6
          | no => rw [hq] at hk6; exact hk6
        obtain ⟨p, s5, hp5, hk8⟩ := bnd_cases hk7
        refine le D4 m4 e3 s4 σ3 H4 _ w4 (er3.mono x4.le x4.lm) (after_ok hp5 fun D5 m5 H5 x5 w5 y ry => ?_)
        have x15 := x14.trans x5
        obtain ⟨k1, k2, k3⟩ := keep x15
        have al : acc.length < sizeLine := by omega
        refine ⟨acc, k1, al, D5, m5, s5, acc ++ [y], ps ++ [p], (ex.trans x15).other hDl, w5.other k2 k3, er'.mono x15.le x15.lm, upd_same, by simp; omega, k2, k3, ?_, hk8⟩
        exact Paired.snoc (RvA.mono x15.le x15.lm racc) ry
      · refine ⟨false, rfl, ?_⟩
        simp only [Bool.false_eq_true, if_false]
        obtain ⟨k1, k2, k3⟩ := keep x14
        exact ⟨D4, m4, s4, acc, ps, ex.trans x14, w4, er'.mono x14.le x14.lm, k1, by omega, k2, k3, RvA.mono x14.le x14.lm racc, hk6⟩
      · exact False.elim hk6
    · have hie : i = ds.length := by omega
      refine .inl ⟨J2 i (by omega), ?_⟩
      subst hie
      rw [List.drop_length] at hk
      have hk2 : After (Zx X E) D1 m1 H1 (kont ps st') (fun p st' D' m' H' => ∀ x, Rv X.K D' m' p x → Q x H') := by
        have := hk
        simp only [lcL, Rs.bnd_ok, List.append_nil] at this
        exact this
      exact fin D1 D' m1 m' H1 H' st' ps acc Dl Q ex w' hDl hacc hDD hmm racc hk2

theorem qe_lc (B : Base X CX) {elt tg it : Expr} {ifs : List Expr} {scope : Scope} {pos : Pos} {own : List Nat} {own' : List (Str × Nat)} {fi : En → Sto → Rs (List FV)} {ft : PV → En → Sto → Rs En} {fc fe : SemE} (kont : List PV → Sto → Rs PV)
    (ho : own'.map (·.2) = own) (ok : BlkOk X.N S.sc scope own') (hi : QI X CX S E tg it fi) (hg : QG X CX (blkS scope S) E0 (some own) tg ft) (hc : QTs X CX (blkS scope S) E0 ifs fc) (he : QE X CX (blkS scope S) E0 elt fe)
    (hs : ∀ env x, foldedSetIterable it env x = pure x)
    (fin : ∀ (D D' : Hp) (m m' : Mp) (H H' : Hp) (st' : Sto) (ps : List PV) (vs : List V) (Dl : Addr) (Q : VK), Ext D m H D' m' H' → Wd X.K D' m' st' H' → H Dl = none → H' Dl = some (.lst vs) → D' Dl = none → (∀ l, m' l ≠ some Dl) → RvA X.K D' m' ps vs →
      After (Zx X E) D m H (kont ps st') (fun p st' D' m' H' => ∀ x, Rv X.K D' m' p x → Q x H') → Q (.ref Dl) H') :
    ∃ t, LE (Zx X E) t (fun e st => (fi e st).bnd fun ds s1 => (lcL ft fc fe (wipeE e own) ds s1).bnd kont) ∧ ∀ r, Fits S r → Passes CX (mkX X r) E →
      PE (mkX X r) (.ListComp elt [⟨tg, it, ifs, 0⟩] scope pos) t ∧
      ∀ (i : Nat) (y : Str) (py spos : Pos), X.N[i]? = some y → S.sc.names.lookup y = some .local → swapsWith (.ListComp elt [⟨tg, it, ifs, 0⟩] scope pos) (some (.Name y py)) spos.line r.env = pure true →
        PS (mkX X r) (.Assign [.Name y py] (.ListComp elt [⟨tg, it, ifs, 0⟩] scope pos) spos) (tAsg t (gName i)) := by
  obtain ⟨ti, li, pi⟩ := hi
  obtain ⟨tg', ⟨lg, kg⟩, pg⟩ := hg
  obtain ⟨tc, lc, pc⟩ := hc
  obtain ⟨te, le, pe⟩ := he
  refine ⟨tLc ti tg' tc te own, lc_core3 kont li lg (kg own rfl) lc le fin, fun r hf hp => ?_⟩
  subst ho
  have fits : ∀ (s : Shared) (H : Hp) (C : Addr) (cl : List (Str × Addr)) (fp : List Addr),
      Fits (blkS scope S) ⟨s, H, compEnvC scope cl C r.env, r.stack, r.stack, fp, fun x => scope.names.lookup x == some .cell, [], fun _ _ => False⟩ := fun s H C cl fp => ⟨by
    show relS scope r.env.scope = relS scope S.sc
    rw [hf.1], rfl⟩
  have ok' : BlkOk (mkX X r).N (mkX X r).env.scope scope own' := by
    rw [show (mkX X r).env.scope = S.sc from hf.1]
    exact ok
  exact ⟨pe_lc (X := mkX X r) B.calm B.nd (pi r hf hp) ok' (fun s H C cl fp => pg _ (fits s H C cl fp) (B.nox _)) (fun s H C cl fp => pc _ (fits s H C cl fp) (B.nox _)) (fun s H C cl fp => pe _ (fits s H C cl fp) (B.nox _)) (hs _),
    fun i y py spos hy hyl hsw => ps_setLc (X := mkX X r) B.calm B.nd hy (by rw [show (mkX X r).env.scope = S.sc from hf.1]; exact hyl) hsw (pi r hf hp) ok' (fun s H C cl fp => pg _ (fits s H C cl fp) (B.nox _)) (fun s H C cl fp => pc _ (fits s H C cl fp) (B.nox _)) (fun s H C cl fp => pe _ (fits s H C cl fp) (B.nox _)) (hs _)⟩
def kFrz (ps : List PV) (s2 : Sto) : Rs PV := Rs.of ((flatL ps).map fun ds => .v (.list ds)) s2
def kOwn (ps : List PV) (s2 : Sto) : Rs PV := .ok (.loc s2.length) (s2 ++ [some (.lst ps)])
theorem fin_frz (D D' : Hp) (m m' : Mp) (H H' : Hp) (st' : Sto) (ps : List PV) (vs : List V) (Dl : Addr) (Q : VK) (ex : Ext D m H D' m' H') (w : Wd X.K D' m' st' H') (h0 : H Dl = none) (h1 : H' Dl = some (.lst vs)) (h2 : D' Dl = none) (h3 : ∀ l, m' l ≠ some Dl) (r : RvA X.K D' m' ps vs)
    (k : After (Zx X E) D m H (kFrz ps st') (fun p st' D' m' H' => ∀ x, Rv X.K D' m' p x → Q x H')) : Q (.ref Dl) H' := by
  obtain ⟨p', hp, k3⟩ := after_of k
  simp only [Option.map_eq_some_iff] at hp
  obtain ⟨ds, hd, rfl⟩ := hp
  have r1 := flatL_rp r hd
  exact k3 _ _ _ (ex.told h0 h2 (o := .lst vs)) (w.told h1 h2 h3) _ (.v (.lst (SqL.of upd_same) (r1.mono (upd_le h2))))
theorem fin_own (D D' : Hp) (m m' : Mp) (H H' : Hp) (st' : Sto) (ps : List PV) (vs : List V) (Dl : Addr) (Q : VK) (ex : Ext D m H D' m' H') (w : Wd X.K D' m' st' H') (h0 : H Dl = none) (h1 : H' Dl = some (.lst vs)) (h2 : D' Dl = none) (h3 : ∀ l, m' l ≠ some Dl) (r : RvA X.K D' m' ps vs)
    (k : After (Zx X E) D m H (kOwn ps st') (fun p st' D' m' H' => ∀ x, Rv X.K D' m' p x → Q x H')) : Q (.ref Dl) H' := by
  obtain ⟨w2, lm⟩ := w.mine (b := .lst ps) h1 h2 h3 ⟨vs, rfl, r⟩
  refine k _ _ _ ⟨ex.le, fun l a e => lm l a (ex.lm l a e), ex.nd, fun l a e => ?_, ex.fr, ex.tk⟩ w2 _ (.loc (if_pos rfl))
  by_cases z : l = st'.length
  · have e' : (if l = st'.length then some Dl else m' l) = some a := e
    rw [if_pos z] at e'
    cases e'
    exact .inr h0
  · have e' : (if l = st'.length then some Dl else m' l) = some a := e
    rw [if_neg z] at e'
    exact ex.nm l a e'
end L3
/-! L3D5: statements. -/
namespace L3
open PySem PySem.Spec PyProof.Rows L2
variable {X : Cx} {CX : CXT} {S : Sc} {E : XK}
theorem qb_nil : QB X CX S E [] (evB .nil) := by
  refine ⟨tNext, fun D m e st σ H DD w er h => ?_, fun r _ _ _ => pss_nil⟩
  rw [evB] at h
  exact h.here w σ er
def semSeqB (f g : En → Sto → Rs Fl) : En → Sto → Rs Fl := fun e st => (f e st).bnd fun f s1 => match f with
    | .nx e1 => g e1 s1
    | f => .ok f s1
theorem qb_cons {s : Stmt} {ss : List Stmt} {f g : En → Sto → Rs Fl} (ha : QS X CX S E s f) (hb : QB X CX S E ss g) : QB X CX S E (s :: ss) (semSeqB f g) := by
  obtain ⟨ta, la, pa⟩ := ha
  obtain ⟨tb, lb, pb⟩ := hb
  refine ⟨tSeq ta tb, fun D m e st σ H DD w er h => ?_, fun r hf hp ho => pss_cons (pa r hf hp ho) (pb r hf hp ho)⟩
  refine la D m e st σ H _ w er (h.bnd.imp fun f1 s1 D1 m1 H1 e1 w1 k => ?_)
  cases f1 with
  | nx e2 => exact fun σ' er' => lb D1 m1 e2 s1 σ' H1 DD w1 er' k
  | rt p => exact k.here w1
  | bk e2 => exact k.here w1
  | ct e2 => exact k.here w1
theorem qs_ret {a : Expr} {pos : Pos} {f : SemE} (ha : QE X CX S E a f) : QS X CX S E (.Return (some a) pos) (fun e st => (f e st).bnd fun p s1 => .ok (.rt p) s1) := by
  obtain ⟨ta, la, pa⟩ := ha
  refine ⟨tRet ta, fun D m e st σ H DD w er h => ?_, fun r hf hp ho => ps_ret (pa r hf hp)⟩
  exact la D m e st σ H _ w er (h.bnd.imp fun p s1 D1 m1 H1 e1 w1 k x rx => k.here w1 x rx)
theorem qs_retN {pos : Pos} : QS X CX S E (.Return none pos) (evS .retN) := by
  refine ⟨tRetN, fun D m e st σ H DD w er h => ?_, fun r hf hp ho => ps_retN⟩
  rw [evS] at h
  exact h.here w _ (.v .non)
theorem qs_pas {pos : Pos} : QS X CX S E (.Pass pos) (evS .pas) := by
  refine ⟨tNext, fun D m e st σ H DD w er h => ?_, fun r hf hp ho => ps_pass⟩
  rw [evS] at h
  exact h.here w σ er
theorem qs_brk {pos : Pos} : QS X CX S E (.Break pos) (evS .brk) := by
  refine ⟨tBreak, fun D m e st σ H DD w er h => ?_, fun r hf hp ho => ps_break⟩
  rw [evS] at h
  exact h.here w σ er
theorem qs_cnt {pos : Pos} : QS X CX S E (.Continue pos) (evS .cnt) := by
  refine ⟨tCont, fun D m e st σ H DD w er h => ?_, fun r hf hp ho => ps_continue⟩
  rw [evS] at h
  exact h.here w σ er
theorem qs_nev {s : Stmt} : QS X CX S E s (evS .nev) := by
  refine ⟨tNever, fun D m e st σ H DD w er h => ?_, fun r hf hp ho => ps_never⟩
  rw [evS] at h
  exact h
def notComp : Expr → Bool
  | .ListComp .. | .SetComp .. | .DictComp .. => false
  | _ => true
theorem swaps_no {e : Expr} {t : Option Expr} {l : Nat} {env : Env} (h : notComp e = true) : swapsWith e t l env = pure false := by
  cases e <;> first | rfl | cases h
theorem qs_exp {a : Expr} {pos : Pos} {f : SemE} (hc : notComp a = true) (ha : QE X CX S E a f) : QS X CX S E (.Expr a pos) (fun e st => (f e st).bnd fun _ s1 => .ok (.nx e) s1) := by
  obtain ⟨ta, la, pa⟩ := ha
  refine ⟨tDrop ta, fun D m e st σ H DD w er h => ?_, fun r hf hp ho => ps_expr (pa r hf hp) (swaps_no hc)⟩
  exact la D m e st σ H _ w er (h.bnd.imp fun p s1 D1 m1 H1 e1 w1 k x rx => k.here w1 σ (er.mono e1.le e1.lm))
theorem qs_doc {x : Str} {j : Nat} {pos pos' : Pos} : QS X CX S E (.Expr (.Constant (.str x) j pos) pos') (evS .pas) := by
  refine ⟨tNext, fun D m e st σ H DD w er h => ?_, fun r hf hp ho => ps_doc⟩
  rw [evS] at h
  exact h.here w σ er
def semIfS (c : SemE) (f g : En → Sto → Rs Fl) : En → Sto → Rs Fl := fun e st => (c e st).bnd fun p s1 => match p with
    | .v (.bool true) => f e s1
    | .v (.bool false) => g e s1
    | _ => .no
theorem qs_if {c : Expr} {a b : List Stmt} {pos : Pos} {k : SemE} {f g : En → Sto → Rs Fl} (hc : QT X CX S E c k) (ha : QB X CX S E a f) (hb : QB X CX S E b g) : QS X CX S E (.If c a b pos) (semIfS k f g) := by
  obtain ⟨tc, lc, pc⟩ := hc
  obtain ⟨ta, la, pa⟩ := ha
  obtain ⟨tb, lb, pb⟩ := hb
  refine ⟨tIfS tc ta tb, fun D m e st σ H DD w er h => ?_, fun r hf hp ho => ps_if (pc r hf hp) (pa r hf hp ho) (pb r hf hp ho)⟩
  refine lc D m e st σ H _ w er (h.bnd.imp fun p s1 D1 m1 H1 e1 w1 k => ?_)
  split at k
  · exact ⟨true, rfl, iteT (la D1 m1 e s1 σ H1 DD w1 (er.mono e1.le e1.lm) k)⟩
  · exact ⟨false, rfl, iteF (lb D1 m1 e s1 σ H1 DD w1 (er.mono e1.le e1.lm) k)⟩
  · exact False.elim k
/-! ### assignments -/
def semAsg (t : PV → En → Sto → Rs En) (f : SemE) : En → Sto → Rs Fl := fun e st => (f e st).bnd fun p s1 => (t p e s1).bnd fun e1 s2 => .ok (.nx e1) s2
theorem ls_asg {te : TE} {g : TG} {f : SemE} {t : PV → En → Sto → Rs En} (la : LE (Zx X E) te f) (lg : LG (Zx X E) g t) : LS (Zx X E) (tAsg te g) (semAsg t f) := fun D m e st σ H DD w er h => by
  refine la D m e st σ H _ w er (h.bnd.imp fun p s1 D1 m1 H1 e1 w1 k x rx => ?_)
  exact lg D1 m1 e s1 σ H1 p x _ w1 (er.mono e1.le e1.lm) rx (k.bnd.imp fun e' s2 D2 m2 H2 e2 w2 k2 σ' er' => k2.here w2 σ' er')
/-- no stores the other way round -/
def noTup : Expr → Bool
  | .Tuple .. => false
  | _ => true
theorem swapped_no {tg e : Expr} {env : Env} (h : noTup e = true) : swappedStores [tg] e env = pure none := by
  unfold swappedStores
  cases e <;> first | (cases h; done) | (cases tg <;> rfl)
theorem assign_one {tg : Expr} {env : Env} (h : plainE tg = true) : (assignEach [tg] env).map (·.2) = [assign tg env] := by
  rw [assignEach_cons h]
  rfl
/-- target = value, in general -/
theorem qs_asg {tg a : Expr} {pos : Pos} {f : SemE} {t : PV → En → Sto → Rs En} (hpl : plainE tg = true) (hc : notComp a = true) (hn : noTup a = true) (ha : QE X CX S E a f) (hg : QG X CX S E none tg t) : QS X CX S E (.Assign [tg] a pos) (semAsg t f) := by
  obtain ⟨ta, la, pa⟩ := ha
  obtain ⟨tg', ⟨lg, _⟩, pg⟩ := hg
  exact ⟨tAsg ta tg', ls_asg la lg, fun r hf hp ho => ps_asg (pa r hf hp) (pg r hf hp) (show swapsWith a (some tg) pos.line _ = _ from swaps_no hc) (swapped_no hn) (assign_one hpl)⟩
theorem lg_nm {i : Nat} : LG (Zx X E) (gName i) (fun p e st => .ok (e.set i (some p)) st) := fun D m e st σ H p x Q w er rx h => h.here w _ (er.set rx i)
/-- name = value -/
theorem qs_set (B : Base X CX) {i : Nat} {x : Str} {a : Expr} {p' pos : Pos} {f : SemE} (hi : X.N[i]? = some x) (hx : Loc S.sc x) (hf' : S.fn x = true ∨ S.sc.names.lookup x = some .local) (hc : notComp a = true) (ha : QE X CX S E a f) :
    QS X CX S E (.Assign [.Name x p'] a pos) (semAsg (fun p e st => .ok (e.set i (some p)) st) f) := by
  obtain ⟨ta, la, pa⟩ := ha
  exact ⟨tAsg ta (gName i), ls_asg la lg_nm, fun r hf hp ho => ps_set B.nd hi (by rw [show (mkX X r).env.scope = S.sc from hf.1]; exact hx) (pa r hf hp) (swaps_no hc) (by rw [show (mkX X r).env.scope = S.sc from hf.1, show (mkX X r).fn = S.fn from hf.2]; exact hf')⟩
/-- name = a comprehension, on one line -/
theorem qs_setLc {i : Nat} {y : Str} {py spos pos : Pos} {elt : Expr} {gs : List Comprehension} {scope : Scope} {f : SemE} (hi : X.N[i]? = some y) (hyl : S.sc.names.lookup y = some .local) (hk : S.sc.kind = .function)
    (hl : (py.line == pos.line) = true) (hn : (scope.names.any fun (n, k) => n == y && (k == .local || k == .cell)) = false)
    (h : ∃ t, LE (Zx X E) t f ∧ ∀ r, Fits S r → Passes CX (mkX X r) E → PE (mkX X r) (.ListComp elt gs scope pos) t ∧
      ∀ (i : Nat) (y : Str) (py spos : Pos), X.N[i]? = some y → S.sc.names.lookup y = some .local → swapsWith (.ListComp elt gs scope pos) (some (.Name y py)) spos.line r.env = pure true →
        PS (mkX X r) (.Assign [.Name y py] (.ListComp elt gs scope pos) spos) (tAsg t (gName i))) :
    QS X CX S E (.Assign [.Name y py] (.ListComp elt gs scope pos) spos) (semAsg (fun p e st => .ok (e.set i (some p)) st) f) := by
  obtain ⟨t, la, pa⟩ := h
  exact ⟨tAsg t (gName i), ls_asg la lg_nm, fun r hf hp ho => (pa r hf hp).2 i y py spos hi hyl (sw_true (by rw [hf.1]; exact hk) (by rw [hf.1]; exact hyl) hl hn)⟩
theorem sw_cell {elt : Expr} {gs : List Comprehension} {scope : Scope} {pos py : Pos} {y : Str} {l : Nat} {env : Env} (hy : env.scope.names.lookup y = some .cell) : swapsWith (.ListComp elt gs scope pos) (some (.Name y py)) l env = pure false := by
  have ky : env.kindOf y = some .cell := hy
  unfold swapsWith
  simp only [ky]
  have : (some NameKind.cell == some NameKind.local) = false := rfl
  rw [this, Bool.and_false, Bool.false_and, Bool.false_and]
/-- name = a comprehension, the name held by a block within -/
theorem qs_setLcC (B : Base X CX) {i : Nat} {y : Str} {py spos pos : Pos} {elt : Expr} {gs : List Comprehension} {scope : Scope} {f : SemE} (hi : X.N[i]? = some y) (hyl : S.sc.names.lookup y = some .cell) (hf' : S.fn y = true) (ha : QE X CX S E (.ListComp elt gs scope pos) f) :
    QS X CX S E (.Assign [.Name y py] (.ListComp elt gs scope pos) spos) (semAsg (fun p e st => .ok (e.set i (some p)) st) f) := by
  obtain ⟨ta, la, pa⟩ := ha
  exact ⟨tAsg ta (gName i), ls_asg la lg_nm, fun r hf hp ho => ps_set B.nd hi (by rw [show (mkX X r).env.scope = S.sc from hf.1]; exact .inr hyl) (pa r hf hp) (sw_cell (by rw [show (mkX X r).env.scope = S.sc from hf.1]; exact hyl)) (.inl (by rw [show (mkX X r).fn = S.fn from hf.2]; exact hf'))⟩
/-- several names at once -/
def semAsgs (n : Nat) (g : En → Sto → Rs (List PV)) (t : List PV → En → Sto → Rs En) : En → Sto → Rs Fl := fun e st => (g e st).bnd fun ps s1 => if lenEq ps n = true then (t ps e s1).bnd fun e1 s2 => .ok (.nx e1) s2 else .no
theorem qs_asgs (B : Base X CX) {ts vs : List Expr} {k k2 n : Nat} {p p2 pos : Pos} {g : En → Sto → Rs (List PV)} {t : List PV → En → Sto → Rs En} (hn : ts.length = n) (hpl : ts.all plainE = true)
    (hsw : ∀ r, Fits S r → swappedStores [.Tuple ts k p] (.Tuple vs k2 p2) r.env = pure none) (ha : QA X CX S E vs g) (hg : QGs X CX S E none ts t) :
    QS X CX S E (.Assign [.Tuple ts k p] (.Tuple vs k2 p2) pos) (semAsgs n g t) := by
  subst hn
  obtain ⟨ta, la, pa⟩ := ha
  obtain ⟨tg', ⟨lg, _⟩, pg⟩ := hg
  refine ⟨tAsg (tTup ta) (gTup X.K ts.length tg'), fun D m e st σ H DD w er h => ?_, fun r hf hp ho => ?_⟩
  · refine la D m e st σ H _ w er (h.bnd.imp fun ps s1 D1 m1 H1 e1 w1 k xs rx => ?_)
    split at k
    · rename_i hl
      unfold lenEq at hl
      simp only [Bool.and_eq_true, decide_eq_true_eq] at hl
      refine ⟨by rw [← Paired.length rx]; exact lim_line hl.2, fun p hp => ⟨p, xs, rfl, .inl (.inl upd_same), by rw [← Paired.length rx]; exact hl.1, ?_⟩⟩
      have nm : ∀ l, m1 l ≠ some p := fun l z => by
        obtain ⟨u, q⟩ := w1.tr l p z
        rw [hp] at q
        cases q
      have w2 : Wd X.K D1 m1 s1 (upd H1 p (.tup xs)) := w1.other (w1.free hp) nm
      have x2 : Ext D1 m1 H1 D1 m1 (upd H1 p (.tup xs)) := (Ext.refl D1 m1 H1).other hp
      exact lg D1 m1 e s1 σ _ ps xs _ w2 (er.mono e1.le e1.lm) rx ((k.move x2).bnd.imp fun e' s2 D2 m2 H2 e2 w2 k2 σ' er' => k2.here w2 σ' er')
    · exact False.elim k
  · obtain ⟨h1, h2⟩ := QGs.len (vs := none) (es := ts) (env := (mkX X r).env) hpl
    exact ps_asg (pe_tup (pa r hf hp)) (pg_tup (show (mkX X r).calm = true from B.calm) (pg r hf hp) h1 h2) (by rfl) (hsw r hf) (assign_one rfl)
theorem qs_par2 (B : Base X CX) {i j : Nat} {x y : Str} {a b : Expr} {px py pt p2 pos : Pos} {kt k2 : Nat} {g : En → Sto → Rs (List PV)} (hi : X.N[i]? = some x) (hj : X.N[j]? = some y) (hij : i ≠ j) (hx : S.sc.names.lookup x = some .local) (hy : S.sc.names.lookup y = some .local)
    (hsw : ∀ r, Fits S r → swappedStores [.Tuple [.Name x px, .Name y py] kt pt] (.Tuple [a, b] k2 p2) r.env = pure (some [x, y])) (ha : QA X CX S E [a, b] g) :
    QS X CX S E (.Assign [.Tuple [.Name x px, .Name y py] kt pt] (.Tuple [a, b] k2 p2) pos) (semAsgs 2 g (fun ps e st => match ps with | [p, q] => .ok ((e.set i (some p)).set j (some q)) st | _ => .no)) := by
  obtain ⟨ta, la, pa⟩ := ha
  refine ⟨tPar i j ta, fun D m e st σ H DD w er h => ?_, fun r hf hp ho => ps_par (X := mkX X r) B.calm B.nd hi hj hij (by rw [show (mkX X r).env.scope = S.sc from hf.1]; exact hx) (by rw [show (mkX X r).env.scope = S.sc from hf.1]; exact hy) (pa r hf hp) (hsw r hf)⟩
  refine la D m e st σ H _ w er (h.bnd.imp fun ps s1 D1 m1 H1 e1 w1 k xs rx => ?_)
  split at k
  · dsimp only at k
    split at k
    · cases rx with
      | cons r1 t1 =>
        cases t1 with
        | cons r2 t2 =>
          cases t2
          exact ⟨_, _, rfl, k.here w1 _ (((er.mono e1.le e1.lm).set r1 i).set r2 j)⟩
    · exact False.elim k
  · exact False.elim k
theorem qs_par3 (B : Base X CX) {i j l : Nat} {x y z : Str} {a b c : Expr} {px py pz pt p2 pos : Pos} {kt k2 : Nat} {g : En → Sto → Rs (List PV)} (hi : X.N[i]? = some x) (hj : X.N[j]? = some y) (hl : X.N[l]? = some z) (hij : i ≠ j) (hil : i ≠ l) (hjl : j ≠ l)
    (hx : S.sc.names.lookup x = some .local) (hy : S.sc.names.lookup y = some .local) (hz : S.sc.names.lookup z = some .local)
    (hsw : ∀ r, Fits S r → swappedStores [.Tuple [.Name x px, .Name y py, .Name z pz] kt pt] (.Tuple [a, b, c] k2 p2) r.env = pure (some [x, y, z])) (ha : QA X CX S E [a, b, c] g) :
    QS X CX S E (.Assign [.Tuple [.Name x px, .Name y py, .Name z pz] kt pt] (.Tuple [a, b, c] k2 p2) pos) (semAsgs 3 g (fun ps e st => match ps with | [p, q, u] => .ok (((e.set i (some p)).set j (some q)).set l (some u)) st | _ => .no)) := by
  obtain ⟨ta, la, pa⟩ := ha
  refine ⟨tPar3 i j l ta, fun D m e st σ H DD w er h => ?_, fun r hf hp ho => ps_par3 (X := mkX X r) B.calm B.nd hi hj hl hij hil hjl (by rw [show (mkX X r).env.scope = S.sc from hf.1]; exact hx) (by rw [show (mkX X r).env.scope = S.sc from hf.1]; exact hy) (by rw [show (mkX X r).env.scope = S.sc from hf.1]; exact hz) (pa r hf hp) (hsw r hf)⟩
  refine la D m e st σ H _ w er (h.bnd.imp fun ps s1 D1 m1 H1 e1 w1 k xs rx => ?_)
  split at k
  · dsimp only at k
    split at k
    · cases rx with
      | cons r1 t1 =>
        cases t1 with
        | cons r2 t2 =>
          cases t2 with
          | cons r3 t3 =>
            cases t3
            exact ⟨_, _, _, rfl, k.here w1 _ ((((er.mono e1.le e1.lm).set r1 i).set r2 j).set r3 l)⟩
    · exact False.elim k
  · exact False.elim k
/-! ### append -/
def semApp (i : Nat) (f : SemE) : En → Sto → Rs Fl := fun e st => match e[i]? with
    | some (some (.loc l)) => match obAt st l with
      | some (.lst _) => (f e st).bnd fun p s1 => match obAt s1 l with
        | some (.lst xs) => if xs.length < LIM then .ok (.nx e) (s1.set l (some (.lst (xs ++ [p])))) else .no
        | none => .no
      | none => .no
    | _ => .no
theorem qs_app {i : Nat} {x : Str} {a : Expr} {px apos cpos pos : Pos} {f : SemE} (hN : X.N[i]? = some x) (hv : Vis S.sc x) (hd : (x == ("__debug__" : Str)) = false) (hcd : (x == ("__classdict__" : Str)) = false) (hl : (apos.endLine == cpos.line) = true) (hpl : plainE a = true) (ha : QE X CX S E a f) :
    QS X CX S E (.Expr (.Call (.Attribute (.Name x px) "append" apos) [a] [] cpos) pos) (semApp i f) := by
  obtain ⟨ta, la, pa⟩ := ha
  refine ⟨tDrop (tBM X.K "list" rAppend (tVar i) (tCons ta tNil)), fun D m e st σ H DD w er h => ?_, fun r hf hp ho => ps_expr (pe_bm PySem.F.plainAttrs_list PySem.F.slot_list_append PySem.F.type_list_append mt_append
    (pe_var (X := mkX X r) hN (by rw [show (mkX X r).env.scope = S.sc from hf.1]; exact hv) hd hcd) (pa_cons (pa r hf hp) pa_nil (starEach_cons hpl)) rfl (by rw [starEach_cons hpl]; rfl) hl (starEach_cons hpl) rfl) rfl⟩
  unfold semApp at h
  split at h
  · rename_i l hl
    split at h
    · rename_i xs0 hb
      obtain ⟨y, q1, q2⟩ := er.2 i _ hl
      cases q2 with
      | loc hm =>
        obtain ⟨a, o, h1, h2, h3, h4⟩ := w.ob l _ hb
        rw [hm] at h1
        cases h1
        obtain ⟨vs, rfl, _⟩ := h4
        refine ⟨_, q1, .inl ⟨rfl, _, SqL.of h3⟩, la D m e st σ H _ w er (h.bnd.imp fun p s1 D1 m1 H1 e1 w1 k x rx => ?_)⟩
        split at k
        · rename_i xs hb2
          split at k
          · rename_i hlen
            have hm2 := e1.lm _ _ hm
            obtain ⟨a', o', k1, k2, k3, vs', rfl, k4⟩ := w1.ob l _ hb2
            rw [hm2] at k1
            cases k1
            obtain ⟨w3, x3⟩ := w1.put hb2 hm2 (b' := .lst (xs ++ [p])) (o := .lst (vs' ++ [x])) ⟨_, rfl, Paired.snoc k4 rx⟩
            refine ⟨_, vs', x, rfl, rfl, k3, ?_, k _ _ _ x3 w3 σ ((er.mono e1.le e1.lm).mono x3.le x3.lm)⟩
            rw [← Paired.length k4, sizeLine_eq]
            exact hlen
          · exact False.elim k
        · exact False.elim k
    · exact False.elim h
  · exact False.elim h
/-! ### loops -/
theorem FlQ.loop {Z : Sx} {DD : Ends} {N : L2.St → Hp → Prop} {f : Fl} {D' : Hp} {m' : Mp} {H' : Hp} (h : match f with
    | .nx e2 => ∀ σ', EnR Z.K D' m' e2 σ' → N σ' H'
    | .ct e2 => ∀ σ', EnR Z.K D' m' e2 σ' → N σ' H'
    | .bk e2 => ∀ σ', EnR Z.K D' m' e2 σ' → DD.nx σ' H'
    | .rt p => ∀ x, Rv Z.K D' m' p x → DD.rt x H') : FlQ Z { DD with nx := N, ct := N, bk := DD.nx } f D' m' H' := by
  cases f <;> exact h
theorem qs_for (B : Base X CX) {tg it : Expr} {body : List Stmt} {pos : Pos} {fi : En → Sto → Rs (List FV)} {ft : PV → En → Sto → Rs En} {fb : En → Sto → Rs Fl} (hs : ∀ env x, foldedSetIterable it env x = pure x)
    (hi : QI X CX S E tg it fi) (hg : QG X CX S E none tg ft) (hb : QB X CX S E body fb) : QS X CX S E (.For tg it body [] pos) (fun e st => (fi e st).bnd fun ds s1 => forL ft fb ds e s1) := by
  obtain ⟨ti, li, pi⟩ := hi
  obtain ⟨tg', ⟨lg, _⟩, pg⟩ := hg
  obtain ⟨tb, lb, pb⟩ := hb
  refine ⟨tFor ti tg' tb, fun D m e st σ H DD w er h => ?_, fun r hf hp ho => ps_for (X := mkX X r) ho B.calm (pi r hf hp) (pg r hf hp) (pb r hf hp ho) (hs _)⟩
  refine li D m e st σ H _ w er (h.bnd.imp fun ds s1 D1 m1 H1 e1 w1 k J hJ hlen => ?_)
  refine ⟨fun i n σ' H' => n = ds.length - i ∧ i ≤ ds.length ∧ ∃ D' m' e' st', Le D1 D' ∧ Wd X.K D' m' st' H' ∧ EnR X.K D' m' e' σ' ∧ After (Zx X E) D' m' H' (forL ft fb (ds.drop i) e' st') (fun f st' D' m' H' => FlQ (Zx X E) DD f D' m' H'),
    ⟨ds.length, by simp, Nat.zero_le _, D1, m1, e, s1, Le.refl _, w1, er.mono e1.le e1.lm, k⟩, ?_⟩
  rintro i n σ' H' ⟨rfl, hi, D', m', e', st', hle, w', er', hk⟩
  obtain ⟨J1, J2, J3⟩ := hJ D' H' hle w'.le
  by_cases hlt : i < ds.length
  · rw [List.drop_eq_getElem_cons hlt] at hk
    simp only [forL] at hk
    refine .inr ⟨J1 i hlt, fun σ4 H4 => ∃ D' m' e' st', Le D1 D' ∧ Wd X.K D' m' st' H4 ∧ EnR X.K D' m' e' σ4 ∧ After (Zx X E) D' m' H4 (forL ft fb (ds.drop (i + 1)) e' st') (fun f st' D' m' H' => FlQ (Zx X E) DD f D' m' H'),
      fun σ4 H4 h4 => ⟨ds.length - (i + 1), by omega, rfl, by omega, h4⟩, fun x H2 hy => ?_⟩
    have hitem : ∃ D2, Ext D' m' H' D2 m' H2 ∧ Wd X.K D2 m' st' H2 ∧ Rp X.K D2 ds[i] x := by
      rcases J3 i ds[i] x H2 (List.getElem?_eq_getElem hlt) hy with ⟨rfl, r⟩ | ⟨p, o, hp, rfl, r⟩
      · exact ⟨D', Ext.refl _ _ _, w', r⟩
      · exact ⟨upd D' p o, w'.growE (Z := Zx X E) hp o, w'.grow (Z := Zx X E) hp o, r⟩
    obtain ⟨D2, x2, w2, rx⟩ := hitem
    refine lg D2 m' e' st' σ' H2 _ x _ w2 (er'.mono x2.le x2.lm) (.v rx) ((hk.move x2).bnd.imp fun e3 s3 D3 m3 H3 x3 w3 k3 σ3 er3 => ?_)
    refine lb D3 m3 e3 s3 σ3 H3 _ w3 er3 (k3.bnd.imp fun f s4 D4 m4 H4 x4 w4 k4 => FlQ.loop ?_)
    have hle4 : Le D1 D4 := hle.trans (x2.le.trans (x3.le.trans x4.le))
    cases f with
    | nx e4 => exact fun σ4 er4 => ⟨D4, m4, e4, s4, hle4, w4, er4, k4⟩
    | ct e4 => exact fun σ4 er4 => ⟨D4, m4, e4, s4, hle4, w4, er4, k4⟩
    | bk e4 => exact k4.here w4
    | rt p => exact k4.here w4
  · have hie : i = ds.length := by omega
    subst hie
    rw [List.drop_length] at hk
    exact .inl ⟨J2 _ (Nat.le_refl _), hk.here w' σ' er'⟩
theorem qs_whl {c : Expr} {body : List Stmt} {pos : Pos} {fc : SemE} {fb : En → Sto → Rs Fl} {fuel : Nat} (hc : QT X CX S E c fc) (hb : QB X CX S E body fb) : QS X CX S E (.While c body [] pos) (whlL fc fb fuel) := by
  obtain ⟨tc, lc, pc⟩ := hc
  obtain ⟨tb, lb, pb⟩ := hb
  refine ⟨tWhile tc tb, fun D m e st σ H DD w er h => ?_, fun r hf hp ho => ps_while (X := mkX X r) ho (pc r hf hp) (pb r hf hp ho)⟩
  refine ⟨fun n σ' H' => ∃ D' m' e' st', Wd X.K D' m' st' H' ∧ EnR X.K D' m' e' σ' ∧ After (Zx X E) D' m' H' (whlL fc fb n e' st') (fun f st' D' m' H' => FlQ (Zx X E) DD f D' m' H'), ⟨fuel, D, m, e, st, w, er, h⟩, ?_⟩
  rintro n σ' H' ⟨D', m', e', st', w', er', hk⟩
  cases n with
  | zero => exact False.elim hk
  | succ n =>
    simp only [whlL] at hk
    refine lc D' m' e' st' σ' H' _ w' er' (hk.bnd.imp fun p s1 D1 m1 H1 x1 w1 k1 => ?_)
    split at k1
    · refine ⟨true, rfl, iteT ⟨fun σ4 H4 => ∃ D' m' e' st', Wd X.K D' m' st' H4 ∧ EnR X.K D' m' e' σ4 ∧ After (Zx X E) D' m' H4 (whlL fc fb n e' st') (fun f st' D' m' H' => FlQ (Zx X E) DD f D' m' H'), fun σ4 H4 h4 => ⟨n, by omega, h4⟩, ?_⟩⟩
      refine lb D1 m1 e' s1 σ' H1 _ w1 (er'.mono x1.le x1.lm) (k1.bnd.imp fun f s4 D4 m4 H4 x4 w4 k4 => FlQ.loop ?_)
      cases f with
      | nx e4 => exact fun σ4 er4 => ⟨D4, m4, e4, s4, w4, er4, k4⟩
      | ct e4 => exact fun σ4 er4 => ⟨D4, m4, e4, s4, w4, er4, k4⟩
      | bk e4 => exact k4.here w4
      | rt p => exact k4.here w4
    · exact ⟨false, rfl, iteF (k1.here w1 σ' (er'.mono x1.le x1.lm))⟩
    · exact False.elim k1
end L3
/-! L3D6: calls of the text's own defs, and what a def promises. -/
namespace L3
open PySem PySem.Spec PyProof.Rows L2
def ObF (K : PySem.W.Frag) (D : Hp) : OF → HO → Prop
  | .lst ds, ho => ∃ vs, ho = .lst vs ∧ RpA K D ds vs
theorem ObF.ob {K : PySem.W.Frag} {D : Hp} {m : Mp} {b : OF} {o : HO} (h : ObF K D b o) : ObR K D m (obOf b) o := by
  cases b with
  | lst ds => obtain ⟨vs, e, r⟩ := h; exact ⟨vs, e, r.rv⟩
theorem ObR.obF {K : PySem.W.Frag} {D : Hp} {m : Mp} {b : OB} {c : OF} {o : HO} (h : ObR K D m b o) (e : ofOb b = some c) : ObF K D c o := by
  cases b with
  | lst ps =>
    obtain ⟨vs, e1, r⟩ := h
    simp only [ofOb, Option.map_eq_some_iff] at e
    obtain ⟨ds, e2, rfl⟩ := e
    exact ⟨vs, e1, flatL_rp r e2⟩
theorem ObF.mono {K : PySem.W.Frag} {D D' : Hp} {b : OF} {o : HO} (l : Le D D') (h : ObF K D b o) : ObF K D' b o := by
  cases b with
  | lst ds => obtain ⟨vs, e, r⟩ := h; exact ⟨vs, e, r.mono l⟩
/-- the arguments: data, and things of the caller's that the def may change (at bs, all apart) -/
inductive ArgsR (K : PySem.W.Frag) (D H : Hp) : List AV → List V → List Addr → Prop
  | nil : ArgsR K D H [] [] []
  | v {d : FV} {x : V} {as : List AV} {xs : List V} {bs : List Addr} : Rp K D d x → ArgsR K D H as xs bs → ArgsR K D H (.v d :: as) (x :: xs) bs
  | o {b : OF} {a : Addr} {ho : HO} {as : List AV} {xs : List V} {bs : List Addr} : D a = none → H a = some ho → ObF K D b ho → a ∉ bs → ArgsR K D H as xs bs → ArgsR K D H (.o b :: as) (.ref a :: xs) (a :: bs)
theorem ArgsR.length {K : PySem.W.Frag} {D H : Hp} : ∀ {as : List AV} {xs : List V} {bs : List Addr}, ArgsR K D H as xs bs → as.length = xs.length
  | _, _, _, .nil => rfl
  | _, _, _, .v _ t => by rw [List.length_cons, List.length_cons, ArgsR.length t]
  | _, _, _, .o _ _ _ _ t => by rw [List.length_cons, List.length_cons, ArgsR.length t]
abbrev ObsR (K : PySem.W.Frag) (D H : Hp) : List OF → List Addr → Prop := Paired fun b a => D a = none ∧ ∃ ho, H a = some ho ∧ ObF K D b ho
def RetR (K : PySem.W.Frag) (D H0 H : Hp) : AV → V → Prop
  | .v d, x => Rp K D d x
  | .o b, x => ∃ p ho, x = .ref p ∧ H0 p = none ∧ D p = none ∧ H p = some ho ∧ ObF K D b ho
/-- what is so behind a call -/
structure Beh (D H D' H' : Hp) (bs : List Addr) : Prop where
  le : Le D D'
  lh : Le D' H'
  nd : ∀ a o, D' a = some o → D a = some o ∨ H a = none
  fr : ∀ a o, H a = some o → a ∉ bs → H' a = some o
  tk : ∀ a o, H a = some o → ∃ o', H' a = some o'
def spF (mg : Str → Option Value) (K : PySem.W.Frag) (F : Fn) : Sp := fun vs H Q E => ∃ D as bs, Le D H ∧ ArgsR K D H as vs bs ∧ match F as with
  | some (.ret r os) => ∀ x D' H', Beh D H D' H' bs → ObsR K D' H' os bs → RetR K D' H H' r x → Q x H'
  | some (.ex z os) => ∀ c d D' H', Beh D H D' H' bs → ObsR K D' H' os bs → XR mg K D' z c d H' → E c d H'
  | none => False
variable {X : Cx} {CX : CXT} {S : Sc} {E : XK}
theorem paired_get {α β : Type} {F : α → β → Prop} {xs : List α} {ys : List β} (h : Paired F xs ys) : ∀ {i : Nat} {x : α}, xs[i]? = some x → ∃ y, ys[i]? = some y ∧ F x y := by
  induction h with
  | nil => intro i x e; simp at e
  | cons a t ih =>
    intro i x e
    cases i with
    | zero => simp at e; subst e; exact ⟨_, rfl, a⟩
    | succ i => obtain ⟨y, q1, q2⟩ := ih (i := i) (x := x) (by simpa using e); exact ⟨y, by simpa using q1, q2⟩
section
variable {K : PySem.W.Frag} {D : Hp} {m : Mp} {st : Sto} {H : Hp}
theorem avs_r (w : Wd K D m st H) : ∀ {ps : List PV} {xs : List V} {as : List AV} {ls : List Nat}, RvA K D m ps xs → avs st ps = some (as, ls) →
    ∃ bs, ArgsR K D H as xs bs ∧ Paired (fun l a => m l = some a ∧ ∃ b, obAt st l = some b) ls bs ∧ ls.Nodup
  | _, _, _, _, .nil, e => by
    simp only [avs, Option.some.injEq, Prod.mk.injEq] at e
    obtain ⟨rfl, rfl⟩ := e
    exact ⟨[], .nil, .nil, List.nodup_nil⟩
  | _, _, as, ls, .cons (a := p) r t, e => by
    cases r with
    | v r =>
      simp only [avs, Option.map_eq_some_iff, Prod.exists, Prod.mk.injEq] at e
      obtain ⟨as', ls', e1, rfl, rfl⟩ := e
      obtain ⟨bs, h1, h2, h3⟩ := avs_r w t e1
      exact ⟨bs, .v r h1, h2, h3⟩
    | loc hm =>
      rename_i l a
      simp only [avs] at e
      split at e
      · rename_i b hb
        simp only [Option.bind_eq_some_iff, Prod.exists, Option.ite_none_left_eq_some, Option.some.injEq, Prod.mk.injEq] at e
        obtain ⟨o, ho, as', ls', e1, hn, rfl, rfl⟩ := e
        obtain ⟨bs, h1, h2, h3⟩ := avs_r w t e1
        obtain ⟨a', u, q1, q2, q3, q4⟩ := w.ob l b hb
        rw [hm] at q1
        cases q1
        refine ⟨a :: bs, .o q2 q3 (q4.obF ho) (fun hin => ?_) h1, .cons ⟨hm, b, hb⟩ h2, List.nodup_cons.mpr ⟨hn, h3⟩⟩
        -- a stands among the others: then l does
        have back : ∀ {ls : List Nat} {bs : List Addr}, Paired (fun l a => m l = some a ∧ ∃ b, obAt st l = some b) ls bs → a ∈ bs → l ∈ ls := by
          intro ls bs h
          induction h with
          | nil => intro hm'; simp at hm'
          | cons q t ih =>
            intro hm'
            rcases List.mem_cons.mp hm' with e | e
            · subst e
              obtain ⟨z1, b', z2⟩ := q
              rw [w.inj _ l _ _ a z2 hb z1 hm]
              exact List.mem_cons_self
            · exact List.mem_cons_of_mem _ (ih e)
        exact hn (back h2 hin)
      · cases e
theorem putAll_at : ∀ {ls : List Nat} {os : List OF} {st st' : Sto}, putAll st ls os = some st' → ls.Nodup →
    st'.length = st.length ∧ (∀ l, l ∉ ls → obAt st' l = obAt st l) ∧ ∀ (i l : Nat) (o : OF), ls[i]? = some l → os[i]? = some o → l < st.length → obAt st' l = some (obOf o)
  | [], [], st, st', e, _ => by
    simp only [putAll, Option.some.injEq] at e
    subst e
    exact ⟨rfl, fun _ _ => rfl, fun i l o h => by simp at h⟩
  | [], _ :: _, _, _, e, _ => by simp [putAll] at e
  | _ :: _, [], _, _, e, _ => by simp [putAll] at e
  | l0 :: ls, o0 :: os, st, st', e, hn => by
    simp only [putAll] at e
    obtain ⟨hn1, hn2⟩ := List.nodup_cons.mp hn
    obtain ⟨h1, h2, h3⟩ := putAll_at e hn2
    refine ⟨by rw [h1, List.length_set], fun l hl => ?_, fun i l o e1 e2 hlt => ?_⟩
    · simp only [List.mem_cons, not_or] at hl
      rw [h2 l hl.2, obAt_set, if_neg (Ne.symm hl.1)]
    · cases i with
      | zero =>
        simp at e1 e2
        subst e1 e2
        rw [h2 _ hn1, obAt_set, if_pos rfl, if_pos hlt]
      | succ i =>
        exact h3 i l o (by simpa using e1) (by simpa using e2) (by rw [List.length_set]; exact hlt)
end
theorem callF_sound {D : Hp} {m : Mp} {st : Sto} {H : Hp} {F : Fn} {ps : List PV} {xs : List V} {Q : VK} (w : Wd X.K D m st H) (r : RvA X.K D m ps xs)
    (h : After (Zx X E) D m H (callF F ps st) (fun p st' D' m' H' => ∀ x, Rv X.K D' m' p x → Q x H')) : spF X.mg X.K F xs H Q E := by
  unfold callF at h
  split at h
  · exact False.elim h
  · rename_i as ls ha
    obtain ⟨bs, hA, hP, hN⟩ := avs_r w r ha
    refine ⟨D, as, bs, w.le, hA, ?_⟩
    -- the world behind the call
    have world : ∀ {D' H' : Hp} {os : List OF} {st' : Sto}, Beh D H D' H' bs → ObsR X.K D' H' os bs → putAll st ls os = some st' → Wd X.K D' m st' H' ∧ Ext D m H D' m H' := by
      intro D' H' os st' B O hput
      obtain ⟨p1, p2, p3⟩ := putAll_at hput hN
      have live : ∀ {l : Nat} {b : OB}, obAt st' l = some b → ∃ b', obAt st l = some b' := fun {l b} e => by
        by_cases hl : l ∈ ls
        · obtain ⟨i, hi⟩ := List.mem_iff_getElem?.mp hl
          obtain ⟨a, _, q⟩ := paired_get hP hi
          exact q.2
        · rw [p2 l hl] at e
          exact ⟨b, e⟩
      refine ⟨⟨B.lh, fun l b e => ?_, fun l l' b b' a e1 e2 h1 h2 => ?_, fun l hl => w.nx l (by rw [p1] at hl; exact hl), fun l a e => ?_⟩, ⟨B.le, fun _ _ e => e, fun a o e => ?_, fun _ _ e => .inl e, fun a o e n => ?_, B.tk⟩⟩
      · by_cases hl : l ∈ ls
        · obtain ⟨i, hi⟩ := List.mem_iff_getElem?.mp hl
          obtain ⟨a, ha', q1, b0, q2⟩ := paired_get hP hi
          have hlen : os.length = bs.length := Paired.length O
          have hib : i < bs.length := (List.getElem?_eq_some_iff.mp ha').1
          have ho : os[i]? = some os[i] := List.getElem?_eq_getElem (by omega)
          obtain ⟨a2, ha2, z1, ho2, z2, z3⟩ := paired_get O ho
          rw [ha'] at ha2
          cases ha2
          have e' := p3 i l os[i] hi ho (obAt_lt q2)
          rw [e] at e'
          cases e'
          exact ⟨a, ho2, q1, z1, z2, z3.ob⟩
        · rw [p2 l hl] at e
          obtain ⟨a, o, q1, q2, q3, q4⟩ := w.ob l b e
          have na : a ∉ bs := fun hin => by
            obtain ⟨i, hi⟩ := List.mem_iff_getElem?.mp hin
            have hlen : ls.length = bs.length := Paired.length hP
            have hib : i < bs.length := (List.getElem?_eq_some_iff.mp hi).1
            have hl' : ls[i]? = some ls[i] := List.getElem?_eq_getElem (by omega)
            obtain ⟨a2, ha2, z1, b0, z2⟩ := paired_get hP hl'
            rw [hi] at ha2
            cases ha2
            have := w.inj l ls[i] b b0 a e z2 q1 z1
            exact hl (this ▸ List.getElem_mem _)
          refine ⟨a, o, q1, ?_, B.fr a o q3 na, q4.mono B.le fun _ _ z => z⟩
          cases z : D' a with
          | none => rfl
          | some u =>
            rcases B.nd a u z with z | z
            · rw [q2] at z; cases z
            · rw [q3] at z; cases z
      · obtain ⟨c1, f1⟩ := live e1
        obtain ⟨c2, f2⟩ := live e2
        exact w.inj l l' c1 c2 a f1 f2 h1 h2
      · obtain ⟨u, q⟩ := w.tr l a e
        exact B.tk a u q
      · rcases B.nd a o e with z | z
        · exact .inl z
        · exact .inr (.inl z)
      · refine B.fr a o e fun hin => ?_
        obtain ⟨i, hi⟩ := List.mem_iff_getElem?.mp hin
        have hlen : ls.length = bs.length := Paired.length hP
        have hib : i < bs.length := (List.getElem?_eq_some_iff.mp hi).1
        have hl' : ls[i]? = some ls[i] := List.getElem?_eq_getElem (by omega)
        obtain ⟨a2, ha2, z1, _⟩ := paired_get hP hl'
        rw [hi] at ha2
        cases ha2
        exact n _ z1
    split at h
    · exact False.elim h
    · rename_i rv os hF
      rw [hF]
      dsimp only
      split at h
      · exact False.elim h
      · rename_i st' hput
        intro x D' H' B O R
        obtain ⟨w2, x2⟩ := world B O hput
        cases rv with
        | v d => exact h D' m H' x2 w2 x (.v R)
        | o b =>
          obtain ⟨p, ho, rfl, h0, hD, hH, hb⟩ := R
          have nm : ∀ l, m l ≠ some p := fun l z => by
            obtain ⟨u, q⟩ := w.tr l p z
            rw [h0] at q
            cases q
          obtain ⟨w3, lm⟩ := w2.mine (b := obOf b) hH hD nm hb.ob
          refine h D' _ H' ⟨x2.le, lm, x2.nd, fun l a e => ?_, x2.fr, x2.tk⟩ w3 _ (.loc (if_pos rfl))
          by_cases z : l = st'.length
          · have e' : (if l = st'.length then some p else m l) = some a := e
            rw [if_pos z] at e'
            cases e'
            exact .inr h0
          · have e' : (if l = st'.length then some p else m l) = some a := e
            rw [if_neg z] at e'
            exact .inl e'
    · rename_i z os hF
      rw [hF]
      dsimp only
      split at h
      · exact False.elim h
      · rename_i st' hput
        intro c d D' H' B O R
        obtain ⟨w2, x2⟩ := world B O hput
        exact h D' m H' c d x2 w2 R
/-- the text's own def, as the body that calls it needs it -/
def FnIn (X : Cx) (CX : CXT) (x : Str) (F : Fn) : Prop :=
  ∃ (k : Nat) (f : Addr) (fd : FuncData) (ps : List Str), Room k X.A ∧ X.mg x = some (.ref f) ∧ PySem.W.keepIn X.K (.ref f) = true ∧ Binds X.K fd ps [] ∧ FnOk X.prog X.w X.K X.mg X.base CX k f fd ps (spF X.mg X.K F)
theorem qe_fn {F : Fn} {x : Str} {p pos : Pos} {a : Expr} {as : List Expr} {g : En → Sto → Rs (List PV)} (hF : FnIn X CX x F) (hg : S.sc.names.lookup x = some .globalImplicit) (hd : (x == ("__debug__" : Str)) = false) (hpl : (a :: as).all plainE = true) (ha : QA X CX S E (a :: as) g) :
    QE X CX S E (.Call (.Name x p) (a :: as) [] pos) (fun e st => (g e st).bnd fun ps s1 => callF F ps s1) := by
  obtain ⟨k, f, fd, ps, hr, hm, hk, hb, hok⟩ := hF
  obtain ⟨ta, la, pa⟩ := ha
  have hp1 : plainE a = true ∧ as.all plainE = true := by simpa using hpl
  refine ⟨tCall (spF X.mg X.K F) [] E ta, fun D m e st σ H Q w er h => ?_, fun r hf hp => pe_call (X := mkX X r) hok hr (gl_of (X := X) hf hg) hm hk hb .nil hp (pa r hf hp) hd (starEach_cons hp1.1) (plain_any hp1.2)⟩
  refine la D m e st σ H _ w er (h.bnd.imp fun ps s1 D1 m1 H1 e1 w1 k xs rx => ?_)
  rw [List.append_nil]
  exact callF_sound w1 rx k
theorem qe_fn0 {F : Fn} {x : Str} {p pos : Pos} (hF : FnIn X CX x F) (hg : S.sc.names.lookup x = some .globalImplicit) (hd : (x == ("__debug__" : Str)) = false) :
    QE X CX S E (.Call (.Name x p) [] [] pos) (fun e st => (evA .nil e st).bnd fun ps s1 => callF F ps s1) := by
  obtain ⟨k, f, fd, ps, hr, hm, hk, hb, hok⟩ := hF
  refine ⟨tCall (spF X.mg X.K F) [] E tNil, fun D m e st σ H Q w er h => ?_, fun r hf hp => pe_call0 (X := mkX X r) hok hr (gl_of (X := X) hf hg) hm hk hb .nil hp hd⟩
  simp only [evA, Rs.bnd_ok] at h
  exact callF_sound w .nil h
/-! ### keywords -/
def kwG {α : Type} (np nk : Nat) (perm : List Nat) (us ws : List α) : List α := if us.length = np ∧ ws.length = nk then (permute (us ++ ws) perm).getD [] else []
theorem permute_rel {α β : Type} {F : α → β → Prop} : ∀ {perm : List Nat} {xs : List α} {ys : List β}, Paired F xs ys → Paired F ((permute xs perm).getD []) ((permute ys perm).getD []) ∧ ((permute xs perm).isSome = (permute ys perm).isSome)
  | [], _, _, _ => ⟨.nil, rfl⟩
  | i :: perm, xs, ys, r => by
    obtain ⟨h1, h2⟩ := permute_rel (perm := perm) r
    simp only [permute]
    cases hx : xs[i]? with
    | none =>
      have hl := Paired.length r
      have hy : ys[i]? = none := List.getElem?_eq_none (by have := List.getElem?_eq_none_iff.mp hx; omega)
      rw [hy]
      exact ⟨.nil, rfl⟩
    | some x =>
      obtain ⟨y, hy, hxy⟩ := paired_get r hx
      rw [hy]
      dsimp only
      cases p1 : permute xs perm with
      | none =>
        cases p2 : permute ys perm with
        | none => exact ⟨.nil, rfl⟩
        | some b => rw [p1, p2] at h2; cases h2
      | some a =>
        cases p2 : permute ys perm with
        | none => rw [p1, p2] at h2; cases h2
        | some b =>
          rw [p1, p2] at h1
          exact ⟨.cons hxy h1, rfl⟩
theorem paired_app {α β : Type} {F : α → β → Prop} {xs xs' : List α} {ys ys' : List β} (r : Paired F xs ys) (t : Paired F xs' ys') : Paired F (xs ++ xs') (ys ++ ys') := by
  induction r with
  | nil => exact t
  | cons a _ ih => exact .cons a ih
theorem kwG_rel {α β : Type} {F : α → β → Prop} {np nk : Nat} {perm : List Nat} {xs xs' : List α} {ys ys' : List β} (r : Paired F xs ys) (t : Paired F xs' ys') : Paired F (kwG np nk perm xs xs') (kwG np nk perm ys ys') := by
  unfold kwG
  rw [Paired.length r, Paired.length t]
  split
  · exact (permute_rel (paired_app r t)).1
  · exact .nil
/-- the text's own def called with nk keywords ks behind np arguments -/
def KwIn (X : Cx) (CX : CXT) (x : Str) (F : Fn) (np : Nat) (ks : List Str) (perm : List Nat) : Prop :=
  ∃ (k : Nat) (f : Addr) (fd : FuncData) (ps : List Str), Room k X.A ∧ X.mg x = some (.ref f) ∧ PySem.W.keepIn X.K (.ref f) = true ∧ 0 < ps.length ∧
    (∀ (s : Shared) (us ws : List Value), X.K.In s.heap → (kwG np ks.length perm us ws).length = ps.length → BindsTo s fd ⟨us, ks.zip ws⟩ (ps.zip (kwG np ks.length perm us ws))) ∧
    FnOk X.prog X.w X.K X.mg X.base CX k f fd ps (spF X.mg X.K F)
def kwOf : List Keyword → List Str
  | [] => []
  | ⟨some n, _, _⟩ :: r => n :: kwOf r
  | ⟨none, _, _⟩ :: r => kwOf r
def kwPlain : List Keyword → Bool
  | [] => true
  | ⟨some _, _, _⟩ :: r => kwPlain r
  | ⟨none, _, _⟩ :: _ => false
theorem kw_facts {pos : Pos} {env : Env} : ∀ {kws : List Keyword}, kwPlain kws = true → (backToKw pos (keywordEach kws env)).all (·.1.isSome) = true ∧ (backToKw pos (keywordEach kws env)).filterMap (·.1) = kwOf kws ∧ (backToKw pos (keywordEach kws env)).any (·.1.isNone) = false
  | [], _ => ⟨rfl, rfl, rfl⟩
  | ⟨some n, v, p⟩ :: r, h => by
    obtain ⟨h1, h2, h3⟩ := kw_facts (pos := pos) (env := env) (kws := r) h
    refine ⟨?_, ?_, ?_⟩
    · show (true && (backToKw pos (keywordEach r env)).all (·.1.isSome)) = true
      rw [h1]; rfl
    · show n :: (backToKw pos (keywordEach r env)).filterMap (·.1) = n :: kwOf r
      rw [h2]
    · show (false || (backToKw pos (keywordEach r env)).any (·.1.isNone)) = false
      rw [h3]; rfl
  | ⟨none, v, p⟩ :: r, h => by cases h
def QK (X : Cx) (CX : CXT) (S : Sc) (E : XK) (ks : List Keyword) (f : En → Sto → Rs (List PV)) : Prop := ∃ t, LA (Zx X E) t f ∧ ∀ r, Fits S r → Passes CX (mkX X r) E → PK (mkX X r) ks t
theorem qk_nil : QK X CX S E [] (evA .nil) := by
  refine ⟨tNil, fun D m e st σ H Q w er h => ?_, fun r hf hp => pk_nil⟩
  rw [evA] at h
  exact h.here w [] .nil
theorem qk_cons {nm : Option Str} {a : Expr} {kp : Pos} {ks : List Keyword} {f : SemE} {g : En → Sto → Rs (List PV)} (ha : QE X CX S E a f) (hb : QK X CX S E ks g) : QK X CX S E (⟨nm, a, kp⟩ :: ks) (semCons f g) := by
  obtain ⟨ta, la, pa⟩ := ha
  obtain ⟨tb, lb, pb⟩ := hb
  refine ⟨tCons ta tb, fun D m e st σ H Q w er h => ?_, fun r hf hp => pk_cons (pa r hf hp) (pb r hf hp)⟩
  refine la D m e st σ H _ w er (h.bnd.imp fun p s1 D1 m1 H1 e1 w1 k x rx => ?_)
  refine lb D1 m1 e s1 σ H1 _ w1 (er.mono e1.le e1.lm) (k.bnd.imp fun ps s2 D2 m2 H2 e2 w2 k2 xs rxs => ?_)
  exact k2.here w2 (x :: xs) (.cons (rx.mono e2.le e2.lm) rxs)
def semFnk (F : Fn) (np nk : Nat) (perm : List Nat) (g h : En → Sto → Rs (List PV)) : SemE := fun e st => (g e st).bnd fun ps s1 => (h e s1).bnd fun qs s2 => if ps.length = np ∧ qs.length = nk then match permute (ps ++ qs) perm with
    | some rs => callF F rs s2
    | none => .no else .no
theorem le_fnk {F : Fn} {np nk : Nat} {perm : List Nat} {ta tk : TA} {g h : En → Sto → Rs (List PV)} (la : LA (Zx X E) ta g) (lk : LA (Zx X E) tk h) : LE (Zx X E) (tCallK (spF X.mg X.K F) (kwG np nk perm) E ta tk) (semFnk F np nk perm g h) := by
  intro D m e st σ H Q w er hh
  refine la D m e st σ H _ w er (hh.bnd.imp fun ps s1 D1 m1 H1 e1 w1 k xs rx => ?_)
  refine lk D1 m1 e s1 σ H1 _ w1 (er.mono e1.le e1.lm) (k.bnd.imp fun qs s2 D2 m2 H2 e2 w2 k2 ys ry => ?_)
  have rx2 := RvA.mono e2.le e2.lm rx
  split at k2
  · rename_i hl
    split at k2
    · rename_i rs hp
      have rel := permute_rel (perm := perm) (paired_app rx2 ry)
      rw [hp] at rel
      have e : kwG np nk perm xs ys = (permute (xs ++ ys) perm).getD [] := by
        unfold kwG
        rw [← Paired.length rx2, ← Paired.length ry, if_pos hl]
      show spF X.mg X.K F (kwG np nk perm xs ys) H2 Q E
      rw [e]
      exact callF_sound w2 rel.1 k2
    · exact False.elim k2
  · exact False.elim k2
theorem qe_fnk {F : Fn} {x : Str} {p pos : Pos} {a : Expr} {as : List Expr} {kws : List Keyword} {np : Nat} {perm : List Nat} {g h : En → Sto → Rs (List PV)} (hF : KwIn X CX x F np (kwOf kws) perm) (hg : S.sc.names.lookup x = some .globalImplicit) (hd : (x == ("__debug__" : Str)) = false)
    (hpl : (a :: as).all plainE = true) (hkp : kwPlain kws = true) (ha : QA X CX S E (a :: as) g) (hk' : QK X CX S E kws h) :
    QE X CX S E (.Call (.Name x p) (a :: as) kws pos) (semFnk F np (kwOf kws).length perm g h) := by
  obtain ⟨k, f, fd, ps, hr, hm, hk, h0, hb, hok⟩ := hF
  obtain ⟨ta, la, pa⟩ := ha
  obtain ⟨tk, lk, pk⟩ := hk'
  have hp1 : plainE a = true ∧ as.all plainE = true := by simpa using hpl
  refine ⟨_, le_fnk la lk, fun r hf hp => ?_⟩
  obtain ⟨k1, k2, k3⟩ := kw_facts (pos := pos) (env := r.env) hkp
  exact pe_callK (X := mkX X r) hok hr (gl_of (X := X) hf hg) hm hk ⟨hb, fun r t => kwG_rel r t⟩ hp (pa r hf hp) (pk r hf hp) k1 k2 hd (starEach_cons hp1.1) (by rw [plain_any hpl, k3]; rfl)
theorem pe_callK0 {X : Cx} {CX : CXT} {k : Nat} {f : Addr} {fd : FuncData} {ps ks : List Str} {sp : Sp} {E : XK} {x : Str} {p pos : Pos} {kws : List Keyword} {tk : TA} {g : List Value → List Value → List Value} {gV : List V → List V → List V}
    (F : FnOk X.prog X.w X.K X.mg X.base CX k f fd ps sp) (hr : Room k X.A) (hg : Gl X x) (hm : X.mg x = some (.ref f)) (hk : PySem.W.keepIn X.K (.ref f) = true) (hb : KBinds X.K fd ps ks g gV) (hx : Passes CX X E)
    (hkw : PK X kws tk) (hall : (backToKw pos (keywordEach kws X.env)).all (·.1.isSome) = true) (hks : (backToKw pos (keywordEach kws X.env)).filterMap (·.1) = ks)
    (hdb : (x == ("__debug__" : Str)) = false) (hpl : ((backTo pos (starEach [] X.env)).any (·.1) || (backToKw pos (keywordEach kws X.env)).any (·.1.isNone)) = false) :
    PE X (.Call (.Name x p) [] kws pos) (tCallK sp gV E tNil tk) := by
  refine ⟨fun pins s σ H Q I h => ?_⟩
  refine wpAny_Call_Name_kw (ld_glob I hg hm ?_ hdb)
  refine PySem.W.callWith_KW0 (h₀ := X.base) I.ok.mod.kin hk hall ?_ hpl
  refine thn (hkw.run pos pins s σ H _ I h) fun ws s2 ⟨zs, H2, I2, rz, q2⟩ => ⟨I2.kIn, ?_⟩
  rw [hks]
  exact run_fnk F hr hb hx I2 .nil rz q2
theorem qe_fnk0 {F : Fn} {x : Str} {p pos : Pos} {kws : List Keyword} {np : Nat} {perm : List Nat} {h : En → Sto → Rs (List PV)} (hF : KwIn X CX x F np (kwOf kws) perm) (hg : S.sc.names.lookup x = some .globalImplicit) (hd : (x == ("__debug__" : Str)) = false)
    (hkp : kwPlain kws = true) (hk' : QK X CX S E kws h) :
    QE X CX S E (.Call (.Name x p) [] kws pos) (semFnk F np (kwOf kws).length perm (evA .nil) h) := by
  obtain ⟨k, f, fd, ps, hr, hm, hk, h0, hb, hok⟩ := hF
  obtain ⟨tk, lk, pk⟩ := hk'
  obtain ⟨tn, ln, pn⟩ := (qa_nil : QA X CX S E [] (evA .nil))
  refine ⟨tCallK (spF X.mg X.K F) (kwG np (kwOf kws).length perm) E tNil tk, le_fnk (fun D m e st σ H Q w er h => ?_) lk, fun r hf hp => ?_⟩
  · rw [evA] at h
    exact h.here w [] .nil
  · obtain ⟨k1, k2, k3⟩ := kw_facts (pos := pos) (env := r.env) hkp
    exact pe_callK0 (X := mkX X r) hok hr (gl_of (X := X) hf hg) hm hk ⟨hb, fun r t => kwG_rel r t⟩ hp (pk r hf hp) k1 k2 hd (by rw [k3]; rfl)
end L3
/-! L3E: the check of a term against the text, and that it is sound. -/
namespace L3
open PySem PySem.Spec PyProof.Rows L2
/-! ### the check -/
def visB (S : Sc) (x : Str) : Bool := match S.sc.names.lookup x with
  | some .local | some .cell | some .free => true
  | _ => false
def locB (S : Sc) (x : Str) : Bool := match S.sc.names.lookup x with
  | some .local | some .cell => true
  | _ => false
def isLocB (S : Sc) (x : Str) : Bool := match S.sc.names.lookup x with
  | some .local => true
  | _ => false
def glB (S : Sc) (x : Str) : Bool := match S.sc.names.lookup x with
  | some .globalImplicit => true
  | _ => false
def nmOk (x : Str) : Bool := !(x == ("__debug__" : Str)) && !(x == ("__classdict__" : Str))
def litOk : FV → Const → Bool
  | .none, .none => true
  | .bool a, .bool b => a == b
  | .int a, .int b => decide (a = b)
  | .str a, .str b => decide (a = b)
  | _, _ => false
/-- may stand as a test -/
def tstE : Expr → Bool
  | .IfExp .. => false
  | .NamedExpr .. => false
  | _ => true
def plainTest : Expr → Bool
  | .Name .. | .Call .. | .List .. => true
  | _ => false
def notSet : Expr → Bool
  | .Set .. => false
  | _ => true
def ownOf (N : List Str) (own : List Nat) : List (Str × Nat) := own.map fun i => ((N[i]?).getD "", i)
def isTrueLit : CE → Bool
  | .lit (.bool true) => true
  | _ => false
mutual
def chE (N : List Str) (S : Sc) : CE → Expr → Bool
  | .var i, e => match e with
    | .Name x _ => decide (N[i]? = some x) && visB S x && nmOk x
    | _ => false
  | .lit d, e => match e with
    | .Constant c _ _ => litOk d c
    | _ => false
  | .glo y _, e => match e with
    | .Name x _ => decide (x = y) && glB S x && nmOk x
    | _ => false
  | .bin op a b, e => match e with
    | .BinOp l op' r _ => decide (op = op') && chE N S a l && chE N S b r
    | _ => false
  | .neg a, e => match e with
    | .UnaryOp .USub x _ => chE N S a x
    | _ => false
  | .no a, e => match e with
    | .UnaryOp .Not x _ => chE N S a x && tstE x
    | _ => false
  | .cmp op a b, e => match e with
    | .Compare l [op'] [r] _ => decide (op = op') && chE N S a l && chE N S b r && !(behindInMarks op r)
    | _ => false
  | .chn op op2 a b c, e => match e with
    | .Compare l [op', op2'] [r, t] _ => decide (op = op') && decide (op2 = op2') && chE N S a l && chE N S b r && chE N S c t && !(behindInMarks op2 t)
    | _ => false
  | .and as, e => match e with
    | .BoolOp .And es _ => chA N S as es && es.all tstE && !es.isEmpty
    | _ => false
  | .or as, e => match e with
    | .BoolOp .Or es _ => chA N S as es && es.all tstE && !es.isEmpty
    | _ => false
  | .ifx c a b, e => match e with
    | .IfExp t x y _ => chE N S c t && tstE t && chE N S a x && chE N S b y
    | _ => false
  | .tup as, e => match e with
    | .Tuple es _ _ => chA N S as es
    | _ => false
  | .lst as, e => match e with
    | .List es _ => chA N S as es
    | _ => false
  | .mls as, e => match e with
    | .List es _ => chA N S as es
    | _ => false
  | .ix a i, e => match e with
    | .Subscript x y _ => plainIxE y && chE N S a x && chE N S i y
    | _ => false
  | .sl a lo hi, e => match e with
    | .Subscript x (.Slice l h none _) _ => chE N S a x && chO N S lo l && chO N S hi h
    | _ => false
  | .fn _ y as, e => match e with
    | .Call (.Name x _) es [] _ => decide (x = y) && glB S x && nmOk x && chA N S as es
    | _ => false
  | .fnk _ y np as ks bs _, e => match e with
    | .Call (.Name x _) es kws _ => decide (x = y) && glB S x && nmOk x && chA N S as es && chK N S bs kws && kwPlain kws && decide (kwOf kws = ks)
    | _ => false
  | .bl b as, e => match e with
    | .Call (.Name x _) (a :: es) [] _ => decide (x = b.nm) && glB S x && chA N S as (a :: es)
    | _ => false
  | .lnl as, e => match e with
    | .Call (.Name x _) (a :: es) [] _ => decide (x = ("len" : Str)) && glB S x && chA N S as (a :: es)
    | _ => false
  | .rgl tp a, e => match e with
    | .Call (.Name x _) [.Call (.Name y _) [v] [] _] [] _ => decide (x = (if tp then "tuple" else "list" : Str)) && decide (y = ("range" : Str)) && glB S x && glB S y && plainE v && chE N S a v
    | _ => false
  | .rgl2 tp a b, e => match e with
    | .Call (.Name x _) [.Call (.Name y _) [v, u] [] _] [] _ => decide (x = (if tp then "tuple" else "list" : Str)) && decide (y = ("range" : Str)) && glB S x && glB S y && plainE v && plainE u && chE N S a v && chE N S b u
    | _ => false
  | .isi a T, e => match e with
    | .Call (.Name x _) [v, .Name t _] [] _ => decide (x = ("isinstance" : Str)) && decide (t = Str.ofString T.nm) && glB S x && glB S t && chE N S a v
    | _ => false
  | .lc t it c el own, e => match e with
    | .ListComp elt [⟨tg, iter, ifs, 0⟩] scope _ => blkC N S.sc scope (ownOf N own) && chI N S it iter && notSet iter && chT N (blkS scope S) (some own) t tg && chE N (blkS scope S) el elt &&
      (match ifs with
        | [] => isTrueLit c
        | [x] => chE N (blkS scope S) c x && tstE x
        | _ => false)
    | _ => false
  | .mlc t it c el own, e => match e with
    | .ListComp elt [⟨tg, iter, ifs, 0⟩] scope _ => blkC N S.sc scope (ownOf N own) && chI N S it iter && notSet iter && chT N (blkS scope S) (some own) t tg && chE N (blkS scope S) el elt &&
      (match ifs with
        | [] => isTrueLit c
        | [x] => chE N (blkS scope S) c x && tstE x
        | _ => false)
    | _ => false
  | .fz a, e => notComp e && plainTest e && chE N S a e
def chO (N : List Str) (S : Sc) : CO → Option Expr → Bool
  | .none, e => match e with
    | none => true
    | _ => false
  | .some a, e => match e with
    | some x => chE N S a x
    | none => false
def chA (N : List Str) (S : Sc) : CEs → List Expr → Bool
  | .nil, es => match es with
    | [] => true
    | _ => false
  | .cons a as, es => match es with
    | e :: es => plainE e && chE N S a e && chA N S as es
    | [] => false
def chK (N : List Str) (S : Sc) : CEs → List Keyword → Bool
  | .nil, es => match es with
    | [] => true
    | _ => false
  | .cons a as, es => match es with
    | ⟨_, e, _⟩ :: es => chE N S a e && chK N S as es
    | [] => false
def chT (N : List Str) (S : Sc) (vs : Option (List Nat)) : CT → Expr → Bool
  | .nm i, e => match e with
    | .Name x _ => decide (N[i]? = some x) && locB S x && (S.fn x || isLocB S x) && inSlots vs i
    | _ => false
  | .tp ts, e => match e with
    | .Tuple es _ _ => es.all plainE && decide (es.length = ts.len) && chTs N S vs ts es
    | _ => false
  | .sb o i, e => match e with
    | .Subscript x y _ => vs.isNone && plainIxE y && chE N S o x && chE N S i y
    | _ => false
def chTs (N : List Str) (S : Sc) (vs : Option (List Nat)) : CTs → List Expr → Bool
  | .nil, es => match es with
    | [] => true
    | _ => false
  | .cons t ts, es => match es with
    | e :: es => plainE e && chT N S vs t e && chTs N S vs ts es
    | [] => false
def chI (N : List Str) (S : Sc) : CI → Expr → Bool
  | .seq a, e => chE N S a e
  | .rng1 a, e => match e with
    | .Call (.Name x _) [v] [] _ => decide (x = ("range" : Str)) && glB S x && plainE v && chE N S a v
    | _ => false
  | .rng2 a b, e => match e with
    | .Call (.Name x _) [v, u] [] _ => decide (x = ("range" : Str)) && glB S x && plainE v && plainE u && chE N S a v && chE N S b u
    | _ => false
  | .enm _, _ => false
end
/-! ### what it leans on -/
mutual
def needE (X : Cx) (CX : CXT) : CE → Prop
  | .var _ | .lit _ => True
  | .glo x d => GlOk X x d
  | .bin _ a b | .cmp _ a b | .ix a b => needE X CX a ∧ needE X CX b
  | .neg a | .no a | .fz a => needE X CX a
  | .chn _ _ a b c | .ifx a b c => needE X CX a ∧ needE X CX b ∧ needE X CX c
  | .and as | .or as | .tup as | .lst as | .mls as => needA X CX as
  | .sl a lo hi => needE X CX a ∧ needO X CX lo ∧ needO X CX hi
  | .fn F x as => FnIn X CX x F ∧ needA X CX as
  | .fnk F x np as ks bs perm => KwIn X CX x F np ks perm ∧ needA X CX as ∧ needA X CX bs
  | .bl b as => BlOk X b ∧ needA X CX as
  | .lnl as => BlOk X .len ∧ needA X CX as
  | .rgl tp a => X.mg (if tp then "tuple" else "list" : Str) = none ∧ X.mg "range" = none ∧ needE X CX a
  | .rgl2 tp a b => X.mg (if tp then "tuple" else "list" : Str) = none ∧ X.mg "range" = none ∧ needE X CX a ∧ needE X CX b
  | .isi a T => X.mg "isinstance" = none ∧ X.mg (Str.ofString T.nm) = none ∧ needE X CX a
  | .lc t it c el _ | .mlc t it c el _ => needT X CX t ∧ needI X CX it ∧ needE X CX c ∧ needE X CX el
def needO (X : Cx) (CX : CXT) : CO → Prop
  | .none => True
  | .some a => needE X CX a
def needA (X : Cx) (CX : CXT) : CEs → Prop
  | .nil => True
  | .cons a as => needE X CX a ∧ needA X CX as
def needT (X : Cx) (CX : CXT) : CT → Prop
  | .nm _ => True
  | .tp ts => needTs X CX ts
  | .sb o i => needE X CX o ∧ needE X CX i
def needTs (X : Cx) (CX : CXT) : CTs → Prop
  | .nil => True
  | .cons t ts => needT X CX t ∧ needTs X CX ts
def needI (X : Cx) (CX : CXT) : CI → Prop
  | .seq a => needE X CX a
  | .rng1 a => X.mg "range" = none ∧ needE X CX a
  | .rng2 a b => X.mg "range" = none ∧ needE X CX a ∧ needE X CX b
  | .enm a => needE X CX a
end
variable {X : Cx} {CX : CXT}
theorem QE.of {S : Sc} {E : XK} {e : Expr} {f g : SemE} (h : QE X CX S E e f) (q : ∀ en st, g en st = f en st) : QE X CX S E e g := by
  have : g = f := funext fun en => funext fun st => q en st
  rw [this]; exact h
theorem QT.of {S : Sc} {E : XK} {e : Expr} {f g : SemE} (h : QT X CX S E e f) (q : ∀ en st, g en st = f en st) : QT X CX S E e g := by
  have : g = f := funext fun en => funext fun st => q en st
  rw [this]; exact h
theorem vis_of {S : Sc} {x : Str} (h : visB S x = true) : Vis S.sc x := by
  unfold visB at h
  split at h <;> first | exact .inl (by assumption) | exact .inr (.inl (by assumption)) | exact .inr (.inr (by assumption)) | cases h
theorem loc_of {S : Sc} {x : Str} (h : locB S x = true) : Loc S.sc x := by
  unfold locB at h
  split at h <;> first | exact .inl (by assumption) | exact .inr (by assumption) | cases h
theorem isLoc_of {S : Sc} {x : Str} (h : isLocB S x = true) : S.sc.names.lookup x = some .local := by
  unfold isLocB at h
  split at h <;> first | assumption | cases h
theorem glB_of {S : Sc} {x : Str} (h : glB S x = true) : S.sc.names.lookup x = some .globalImplicit := by
  unfold glB at h
  split at h <;> first | assumption | cases h
theorem nmOk_of {x : Str} (h : nmOk x = true) : (x == ("__debug__" : Str)) = false ∧ (x == ("__classdict__" : Str)) = false := by
  unfold nmOk at h
  simpa using h
/-! ### freezing -/
theorem qe_fz {S : Sc} {E : XK} {e : Expr} {f : SemE} (ha : QE X CX S E e f) : QE X CX S E e (fun e st => (f e st).bnd fun p s1 => match p with
    | .loc l => Rs.of ((vw s1 p).map .v) (s1.set l none)
    | .v d => .ok (.v d) s1) := by
  obtain ⟨ta, la, pa⟩ := ha
  refine ⟨ta, fun D m e st σ H Q w er h => ?_, pa⟩
  refine la D m e st σ H _ w er (h.bnd.imp fun p s1 D1 m1 H1 e1 w1 k x rx => ?_)
  cases p with
  | v d => exact k.here w1 x rx
  | loc l =>
    dsimp only at k
    obtain ⟨p', hp, k3⟩ := after_of k
    simp only [Option.map_eq_some_iff] at hp
    obtain ⟨d, hd, rfl⟩ := hp
    cases rx with
    | loc hm =>
      cases ho : obAt s1 l with
      | none => simp [vw, ho] at hd
      | some b =>
        cases b with
        | lst ps =>
          simp only [vw, ho, Option.map_eq_some_iff] at hd
          obtain ⟨ds, e2, rfl⟩ := hd
          obtain ⟨a, o, h1, h2, h3, vs, rfl, h4⟩ := w1.ob l _ ho
          rw [hm] at h1
          cases h1
          rename_i a'
          have r1 := flatL_rp h4 e2
          have hle : Le D1 (upd D1 a' (.lst vs)) := upd_le h2
          refine k3 (upd D1 a' (.lst vs)) m1 H1 ⟨hle, fun _ _ z => z, fun b u z => ?_, fun _ _ z => .inl z, fun _ _ z _ => z, fun b u z => ⟨u, z⟩⟩
            ⟨fun b u z => ?_, fun l' b z => ?_, fun l1 l2 b1 b2 c z1 z2 => ?_, fun l' hl => w1.nx l' (by rw [List.length_set] at hl; exact hl), w1.tr⟩ _ (.v (.lst (SqL.of upd_same) (r1.mono hle)))
          · by_cases q : b = a'
            · subst q; exact .inr (.inr ⟨l, hm⟩)
            · rw [upd_ne q] at z; exact .inl z
          · by_cases q : b = a'
            · subst q; rw [upd_same] at z; cases z; exact h3
            · rw [upd_ne q] at z; exact w1.le b u z
          · rw [obAt_set] at z
            by_cases q : l = l'
            · subst q; rw [if_pos rfl] at z; split at z <;> cases z
            · rw [if_neg q] at z
              obtain ⟨c, u, q1, q2, q3, q4⟩ := w1.ob l' b z
              refine ⟨c, u, q1, ?_, q3, q4.mono hle fun _ _ z => z⟩
              rw [upd_ne]
              · exact q2
              · intro q5
                subst q5
                exact q (w1.inj l l' _ b _ ho z hm q1)
          · have up : ∀ {l1 : Nat} {b1 : OB}, obAt (s1.set l none) l1 = some b1 → obAt s1 l1 = some b1 := fun {l1 b1} z => by
              rw [obAt_set] at z
              by_cases q : l = l1
              · subst q; rw [if_pos rfl] at z; split at z <;> cases z
              · rw [if_neg q] at z; exact z
            exact w1.inj l1 l2 b1 b2 c (up z1) (up z2)
end L3
/-! L3E2: the check is sound (expressions). -/
namespace L3
open PySem PySem.Spec PyProof.Rows L2
variable {X : Cx} {CX : CXT}
def tv {S : Sc} {E : XK} {e : Expr} {f : SemE} (h : QE X CX S E e f) (he : ∀ env whole, isTrue e env whole = (do let v ← whole; standAt e.pos; holding [v] (truthy v))) : QE X CX S E e f ∧ (tstE e = true → QT X CX S E e f) :=
  ⟨h, fun _ => qt_val h he⟩
theorem qe_lit {S : Sc} {E : XK} {d : FV} {c : Const} {k : Nat} {pos : Pos} (h : litOk d c = true) : QE X CX S E (.Constant c k pos) (evE (.lit d)) := by
  unfold litOk at h
  split at h
  · exact qe_const (v := .non) (fun r => pe_non) fun _ _ => .non
  · have := eq_of_beq h
    subst this
    exact qe_const (fun r => pe_bl) fun _ _ => .bl _
  · have := of_decide_eq_true h
    subst this
    exact qe_const (fun r => pe_int) fun _ _ => .int _
  · have := of_decide_eq_true h
    subst this
    exact qe_const (fun r => pe_str) fun _ _ => .str _
  · cases h
theorem ownOf_snd (N : List Str) (own : List Nat) : (ownOf N own).map (·.2) = own := by
  unfold ownOf
  rw [List.map_map]
  induction own with
  | nil => rfl
  | cons a t ih => rw [List.map_cons, ih]; rfl
theorem notSet_fold {e : Expr} (h : notSet e = true) : ∀ env x, foldedSetIterable e env x = pure x := fun env x => by
  cases e <;> first | rfl | cases h
theorem isTrueLit_eq {c : CE} (h : isTrueLit c = true) : evE c = evE (.lit (.bool true)) := by
  unfold isTrueLit at h
  split at h
  · rfl
  · cases h
structure AOut (X : Cx) (CX : CXT) (S : Sc) (E : XK) (es : List Expr) (as : CEs) : Prop where
  qa : QA X CX S E es (evA as)
  pl : es.all plainE = true
  and : es ≠ [] → ∀ pos, QE X CX S E (.BoolOp .And es pos) (evAnd as)
  or : es ≠ [] → ∀ pos, QE X CX S E (.BoolOp .Or es pos) (evOr as)
  andT : es.all tstE = true → es ≠ [] → ∀ pos, QW X CX S E (.BoolOp .And es pos) (evAnd as)
  orT : es.all tstE = true → es ≠ [] → ∀ pos, QW X CX S E (.BoolOp .Or es pos) (evOr as)
theorem QA.of {S : Sc} {E : XK} {e : List Expr} {f g : En → Sto → Rs (List PV)} (h : QA X CX S E e f) (q : ∀ en st, g en st = f en st) : QA X CX S E e g := by
  have : g = f := funext fun en => funext fun st => q en st
  rw [this]; exact h
theorem QK.of {S : Sc} {E : XK} {e : List Keyword} {f g : En → Sto → Rs (List PV)} (h : QK X CX S E e f) (q : ∀ en st, g en st = f en st) : QK X CX S E e g := by
  have : g = f := funext fun en => funext fun st => q en st
  rw [this]; exact h
theorem QI.of {S : Sc} {E : XK} {tg e : Expr} {f g : En → Sto → Rs (List FV)} (h : QI X CX S E tg e f) (q : ∀ en st, g en st = f en st) : QI X CX S E tg e g := by
  have : g = f := funext fun en => funext fun st => q en st
  rw [this]; exact h
theorem QO.of {S : Sc} {E : XK} {e : Option Expr} {f g : En → Sto → Rs (Option Int)} (h : QO X CX S E e f) (q : ∀ en st, g en st = f en st) : QO X CX S E e g := by
  have : g = f := funext fun en => funext fun st => q en st
  rw [this]; exact h
theorem QG.of {S : Sc} {E : XK} {vs : Option (List Nat)} {e : Expr} {f g : PV → En → Sto → Rs En} (h : QG X CX S E vs e f) (q : ∀ p en st, g p en st = f p en st) : QG X CX S E vs e g := by
  have : g = f := funext fun p => funext fun en => funext fun st => q p en st
  rw [this]; exact h
theorem QGs.of {S : Sc} {E : XK} {vs : Option (List Nat)} {e : List Expr} {f g : List PV → En → Sto → Rs En} (h : QGs X CX S E vs e f) (q : ∀ p en st, g p en st = f p en st) : QGs X CX S E vs e g := by
  have : g = f := funext fun p => funext fun en => funext fun st => q p en st
  rw [this]; exact h
theorem QW.of {S : Sc} {E : XK} {e : Expr} {f g : SemE} (h : QW X CX S E e f) (q : ∀ en st, g en st = f en st) : QW X CX S E e g := by
  have : g = f := funext fun en => funext fun st => q en st
  rw [this]; exact h
/-- a comprehension, both ways it may stand -/
def LcOut (X : Cx) (CX : CXT) (S : Sc) (E : XK) (elt : Expr) (gs : List Comprehension) (scope : Scope) (pos : Pos) (f : SemE) : Prop :=
  ∃ t, LE (Zx X E) t f ∧ ∀ r, Fits S r → Passes CX (mkX X r) E → PE (mkX X r) (.ListComp elt gs scope pos) t ∧
    ∀ (i : Nat) (y : Str) (py spos : Pos), X.N[i]? = some y → S.sc.names.lookup y = some .local → swapsWith (.ListComp elt gs scope pos) (some (.Name y py)) spos.line r.env = pure true →
      PS (mkX X r) (.Assign [.Name y py] (.ListComp elt gs scope pos) spos) (tAsg t (gName i))
theorem LcOut.qe {S : Sc} {E : XK} {elt : Expr} {gs : List Comprehension} {scope : Scope} {pos : Pos} {f : SemE} (h : LcOut X CX S E elt gs scope pos f) : QE X CX S E (.ListComp elt gs scope pos) f := by
  obtain ⟨t, l, p⟩ := h
  exact ⟨t, l, fun r hf hp => (p r hf hp).1⟩
theorem LcOut.of {S : Sc} {E : XK} {elt : Expr} {gs : List Comprehension} {scope : Scope} {pos : Pos} {f g : SemE} (h : LcOut X CX S E elt gs scope pos f) (q : ∀ en st, g en st = f en st) : LcOut X CX S E elt gs scope pos g := by
  have : g = f := funext fun en => funext fun st => q en st
  rw [this]; exact h
def isLc : CE → Bool
  | .lc .. | .mlc .. => true
  | _ => false
theorem nl {S : Sc} {E : XK} {e : Expr} {c : CE} {P : Prop} (h : P) (k : isLc c = false) : P ∧ ∀ elt gs scope pos, e = .ListComp elt gs scope pos → isLc c = true → LcOut X CX S E elt gs scope pos (evE c) :=
  ⟨h, fun _ _ _ _ _ z => by rw [k] at z; cases z⟩
theorem chE_plain {N : List Str} {S : Sc} {c : CE} {e : Expr} (h : chE N S c e = true) : plainE e = true := by
  cases e <;> first | rfl | (cases c <;> simp [chE, plainTest] at h)
mutual
theorem sndE (B : Base X CX) : ∀ (c : CE) (S : Sc) (E : XK) (e : Expr), chE X.N S c e = true → needE X CX c →
    (QE X CX S E e (evE c) ∧ (tstE e = true → QT X CX S E e (evE c))) ∧ ∀ elt gs scope pos, e = .ListComp elt gs scope pos → isLc c = true → LcOut X CX S E elt gs scope pos (evE c)
  | .var i, S, E, e, h, n => nl (by
    simp only [chE] at h
    split at h
    · simp only [Bool.and_eq_true, decide_eq_true_eq] at h
      obtain ⟨h1, h2⟩ := nmOk_of h.2
      exact tv (qe_var h.1.1 (vis_of h.1.2) h1 h2) fun _ _ => rfl
    · cases h) rfl
  | .lit d, S, E, e, h, n => nl (by
    simp only [chE] at h
    split at h
    · exact tv (qe_lit h) fun _ _ => rfl
    · cases h) rfl
  | .glo y d, S, E, e, h, n => nl (by
    simp only [chE] at h
    split at h
    · simp only [Bool.and_eq_true, decide_eq_true_eq] at h
      obtain ⟨⟨rfl, h1⟩, h2⟩ := h
      exact tv (qe_glo (glB_of h1) n (nmOk_of h2).1) fun _ _ => rfl
    · cases h) rfl
  | .bin op a b, S, E, e, h, n => nl (by
    simp only [chE] at h
    split at h
    · simp only [Bool.and_eq_true, decide_eq_true_eq] at h
      obtain ⟨⟨rfl, h1⟩, h2⟩ := h
      have qa := (sndE B a S E _ h1 n.1).1.1
      have qb := (sndE B b S E _ h2 n.2).1.1
      exact tv ((qe_bin qa qb).of fun en st => by simp only [evE] <;> rfl) fun _ _ => rfl
    · cases h) rfl
  | .neg a, S, E, e, h, n => nl (by
    simp only [chE] at h
    split at h
    · have qa := (sndE B a S E _ h n).1.1
      exact tv ((qe_neg qa).of fun en st => by simp only [evE] <;> rfl) fun _ _ => rfl
    · cases h) rfl
  | .no a, S, E, e, h, n => nl (by
    simp only [chE] at h
    split at h
    · simp only [Bool.and_eq_true] at h
      have qa := (sndE B a S E _ h.1 n).1
      exact ⟨(qe_not qa.1).of fun en st => by simp only [evE] <;> rfl, fun _ => (qt_not (qa.2 h.2)).of fun en st => by simp only [evE] <;> rfl⟩
    · cases h) rfl
  | .cmp op a b, S, E, e, h, n => nl (by
    simp only [chE] at h
    split at h
    · simp only [Bool.and_eq_true, decide_eq_true_eq, Bool.not_eq_true'] at h
      obtain ⟨⟨⟨rfl, h1⟩, h2⟩, h3⟩ := h
      have qa := (sndE B a S E _ h1 n.1).1.1
      have qb := (sndE B b S E _ h2 n.2).1.1
      obtain ⟨q1, q2⟩ := q_cmp (pos := _) B qa qb h3
      exact ⟨q1.of fun en st => by simp only [evE, semCmp] <;> rfl, fun _ => q2.of fun en st => by simp only [evE, semCmp] <;> rfl⟩
    · cases h) rfl
  | .chn op op2 a b c, S, E, e, h, n => nl (by
    simp only [chE] at h
    split at h
    · simp only [Bool.and_eq_true, decide_eq_true_eq, Bool.not_eq_true'] at h
      obtain ⟨⟨⟨⟨⟨rfl, rfl⟩, h1⟩, h2⟩, h3⟩, h4⟩ := h
      have qa := (sndE B a S E _ h1 n.1).1.1
      have qb := (sndE B b S E _ h2 n.2.1).1.1
      have qc := (sndE B c S E _ h3 n.2.2).1.1
      obtain ⟨q1, q2⟩ := q_chn (pos := _) B qa qb qc (show lastMarks [op, op2] [_, _] = false from h4)
      exact ⟨q1.of fun en st => by simp only [evE, semChn] <;> rfl, fun _ => q2.of fun en st => by simp only [evE, semChn] <;> rfl⟩
    · cases h) rfl
  | .and as, S, E, e, h, n => nl (by
    simp only [chE] at h
    split at h
    · simp only [Bool.and_eq_true] at h
      have q := sndA B as S E _ h.1.1 n
      rename_i es _
      have ne : es ≠ [] := fun z => by rw [z] at h; simp at h
      exact ⟨(q.and ne _).of fun en st => by simp only [evE] <;> rfl, fun _ => qt_w ((q.andT h.1.2 ne _).of fun en st => by simp only [evE] <;> rfl)⟩
    · cases h) rfl
  | .or as, S, E, e, h, n => nl (by
    simp only [chE] at h
    split at h
    · simp only [Bool.and_eq_true] at h
      have q := sndA B as S E _ h.1.1 n
      rename_i es _
      have ne : es ≠ [] := fun z => by rw [z] at h; simp at h
      exact ⟨(q.or ne _).of fun en st => by simp only [evE] <;> rfl, fun _ => qt_w ((q.orT h.1.2 ne _).of fun en st => by simp only [evE] <;> rfl)⟩
    · cases h) rfl
  | .ifx c a b, S, E, e, h, n => nl (by
    simp only [chE] at h
    split at h
    · simp only [Bool.and_eq_true] at h
      have qc := (sndE B c S E _ h.1.1.1 n.1).1.2 h.1.1.2
      have qa := (sndE B a S E _ h.1.2 n.2.1).1.1
      have qb := (sndE B b S E _ h.2 n.2.2).1.1
      exact ⟨(qe_ifx qc qa qb).of fun en st => by simp only [evE, semIf] <;> rfl, fun z => by cases z⟩
    · cases h) rfl
  | .tup as, S, E, e, h, n => nl (by
    simp only [chE] at h
    split at h
    · have q := sndA B as S E _ h n
      exact tv ((qe_tup q.qa).of fun en st => by simp only [evE] <;> rfl) fun _ _ => rfl
    · cases h) rfl
  | .lst as, S, E, e, h, n => nl (by
    simp only [chE] at h
    split at h
    · have q := sndA B as S E _ h n
      exact tv ((qe_lst q.qa).of fun en st => by simp only [evE] <;> rfl) fun _ _ => rfl
    · cases h) rfl
  | .mls as, S, E, e, h, n => nl (by
    simp only [chE] at h
    split at h
    · have q := sndA B as S E _ h n
      exact tv ((qe_mls q.qa).of fun en st => by simp only [evE] <;> rfl) fun _ _ => rfl
    · cases h) rfl
  | .ix a i, S, E, e, h, n => nl (by
    simp only [chE] at h
    split at h
    · simp only [Bool.and_eq_true] at h
      have qa := (sndE B a S E _ h.1.2 n.1).1.1
      have qb := (sndE B i S E _ h.2 n.2).1.1
      exact tv ((qe_ix h.1.1 qa qb).of fun en st => by simp only [evE, semIx] <;> rfl) fun _ _ => rfl
    · cases h) rfl
  | .sl a lo hi, S, E, e, h, n => nl (by
    simp only [chE] at h
    split at h
    · simp only [Bool.and_eq_true] at h
      have qa := (sndE B a S E _ h.1.1 n.1).1.1
      have ql := sndO B lo S E _ h.1.2 n.2.1
      have qh := sndO B hi S E _ h.2 n.2.2
      exact tv ((qe_sl qa ql qh).of fun en st => by simp only [evE] <;> rfl) fun _ _ => rfl
    · cases h) rfl
  | .fn F y as, S, E, e, h, n => nl (by
    simp only [chE] at h
    split at h
    · simp only [Bool.and_eq_true, decide_eq_true_eq] at h
      obtain ⟨⟨⟨rfl, h1⟩, h2⟩, h3⟩ := h
      have q := sndA B as S E _ h3 n.2
      rename_i es _
      cases es with
      | nil =>
        cases as with
        | nil => exact tv ((qe_fn0 n.1 (glB_of h1) (nmOk_of h2).1).of fun en st => by simp only [evE] <;> rfl) fun _ _ => rfl
        | cons _ _ => simp [chA] at h3
      | cons a es => exact tv ((qe_fn n.1 (glB_of h1) (nmOk_of h2).1 q.pl q.qa).of fun en st => by simp only [evE] <;> rfl) fun _ _ => rfl
    · cases h) rfl
  | .fnk F y np as ks bs perm, S, E, e, h, n => nl (by
    simp only [chE] at h
    split at h
    · simp only [Bool.and_eq_true, decide_eq_true_eq] at h
      obtain ⟨⟨⟨⟨⟨⟨rfl, h1⟩, h2⟩, h3⟩, h4⟩, h5⟩, rfl⟩ := h
      have q := sndA B as S E _ h3 n.2.1
      have qk := sndK B bs S E _ h4 n.2.2
      rename_i es _ _
      cases es with
      | nil =>
        cases as with
        | nil => exact tv ((qe_fnk0 n.1 (glB_of h1) (nmOk_of h2).1 h5 qk).of fun en st => by simp only [evE, semFnk] <;> rfl) fun _ _ => rfl
        | cons _ _ => simp [chA] at h3
      | cons a es => exact tv ((qe_fnk n.1 (glB_of h1) (nmOk_of h2).1 q.pl h5 q.qa qk).of fun en st => by simp only [evE, semFnk] <;> rfl) fun _ _ => rfl
    · cases h) rfl
  | .bl b as, S, E, e, h, n => nl (by
    simp only [chE] at h
    split at h
    · simp only [Bool.and_eq_true, decide_eq_true_eq] at h
      obtain ⟨⟨rfl, h1⟩, h2⟩ := h
      have q := sndA B as S E _ h2 n.2
      exact tv ((qe_bl B n.1 (glB_of h1) q.pl q.qa).of fun en st => by simp only [evE] <;> rfl) fun _ _ => rfl
    · cases h) rfl
  | .lnl as, S, E, e, h, n => nl (by
    simp only [chE] at h
    split at h
    · simp only [Bool.and_eq_true, decide_eq_true_eq] at h
      obtain ⟨⟨rfl, h1⟩, h2⟩ := h
      have q := sndA B as S E _ h2 n.2
      exact tv ((qe_lnl n.1 (glB_of h1) q.pl q.qa).of fun en st => by simp only [evE] <;> rfl) fun _ _ => rfl
    · cases h) rfl
  | .rgl tp a, S, E, e, h, n => nl (by
    simp only [chE] at h
    split at h
    · simp only [Bool.and_eq_true, decide_eq_true_eq] at h
      obtain ⟨⟨⟨⟨⟨rfl, rfl⟩, h1⟩, h2⟩, h3⟩, h4⟩ := h
      exact tv ((qe_rgl B tp n.1 n.2.1 (glB_of h1) (glB_of h2) h3 (sndE B a S E _ h4 n.2.2).1.1).of fun en st => by simp only [evE] <;> rfl) fun _ _ => rfl
    · cases h) rfl
  | .rgl2 tp a b, S, E, e, h, n => nl (by
    simp only [chE] at h
    split at h
    · simp only [Bool.and_eq_true, decide_eq_true_eq] at h
      obtain ⟨⟨⟨⟨⟨⟨⟨rfl, rfl⟩, h1⟩, h2⟩, h3⟩, h5⟩, h4⟩, h6⟩ := h
      exact tv ((qe_rgl2 B tp n.1 n.2.1 (glB_of h1) (glB_of h2) h3 h5 (sndE B a S E _ h4 n.2.2.1).1.1 (sndE B b S E _ h6 n.2.2.2).1.1).of fun en st => by simp only [evE] <;> rfl) fun _ _ => rfl
    · cases h) rfl
  | .isi a T, S, E, e, h, n => nl (by
    simp only [chE] at h
    split at h
    · simp only [Bool.and_eq_true, decide_eq_true_eq] at h
      obtain ⟨⟨⟨⟨rfl, rfl⟩, h1⟩, h2⟩, h3⟩ := h
      have q := (sndE B a S E _ h3 n.2.2).1.1
      have pl := chE_plain h3
      exact tv ((qe_isi n.1 n.2.1 (glB_of h1) (glB_of h2) pl q).of fun en st => by simp only [evE] <;> rfl) fun _ _ => rfl
    · cases h) rfl
  | .lc t it c el own, S, E, e, h, n => by
    simp only [chE] at h
    split at h
    · simp only [Bool.and_eq_true] at h
      obtain ⟨⟨⟨⟨⟨h1, h2⟩, h3⟩, h4⟩, h5⟩, h6⟩ := h
      rename_i elt tg iter ifs scope lpos
      have qi := sndI B it S E tg _ h2 n.2.1
      have qt := sndT B t (blkS scope S) E0 (some own) _ h4 n.1
      have qel := (sndE B el (blkS scope S) E0 _ h5 n.2.2.2).1.1
      have qc : QTs X CX (blkS scope S) E0 ifs (evE c) := by
        split at h6
        · rw [isTrueLit_eq h6]; exact qts_nil
        · simp only [Bool.and_eq_true] at h6
          exact qts_one ((sndE B c (blkS scope S) E0 _ h6.1 n.2.2.1).1.2 h6.2)
        · cases h6
      have out : LcOut X CX S E elt [⟨tg, iter, ifs, 0⟩] scope lpos (evE (.lc t it c el own)) :=
        LcOut.of (qe_lc B kFrz (ownOf_snd X.N own) (blkOk_by h1) qi qt qc qel (notSet_fold h3) fin_frz) fun en st => by simp only [evE] <;> rfl
      exact ⟨tv out.qe fun _ _ => rfl, fun _ _ _ _ z _ => by cases z; exact out⟩
    · cases h
  | .mlc t it c el own, S, E, e, h, n => by
    simp only [chE] at h
    split at h
    · simp only [Bool.and_eq_true] at h
      obtain ⟨⟨⟨⟨⟨h1, h2⟩, h3⟩, h4⟩, h5⟩, h6⟩ := h
      rename_i elt tg iter ifs scope lpos
      have qi := sndI B it S E tg _ h2 n.2.1
      have qt := sndT B t (blkS scope S) E0 (some own) _ h4 n.1
      have qel := (sndE B el (blkS scope S) E0 _ h5 n.2.2.2).1.1
      have qc : QTs X CX (blkS scope S) E0 ifs (evE c) := by
        split at h6
        · rw [isTrueLit_eq h6]; exact qts_nil
        · simp only [Bool.and_eq_true] at h6
          exact qts_one ((sndE B c (blkS scope S) E0 _ h6.1 n.2.2.1).1.2 h6.2)
        · cases h6
      have out : LcOut X CX S E elt [⟨tg, iter, ifs, 0⟩] scope lpos (evE (.mlc t it c el own)) :=
        LcOut.of (qe_lc B kOwn (ownOf_snd X.N own) (blkOk_by h1) qi qt qc qel (notSet_fold h3) fin_own) fun en st => by simp only [evE] <;> rfl
      exact ⟨tv out.qe fun _ _ => rfl, fun _ _ _ _ z _ => by cases z; exact out⟩
    · cases h
  | .fz a, S, E, e, h, n => nl (by
    simp only [chE, Bool.and_eq_true] at h
    have q := (sndE B a S E _ h.2 n).1.1
    have qf := (qe_fz q).of (g := evE (.fz a)) fun en st => by simp only [evE] <;> rfl
    refine tv qf fun _ _ => ?_
    have hp := h.1.2
    unfold plainTest at hp
    split at hp <;> first | rfl | cases hp) rfl
theorem sndO (B : Base X CX) : ∀ (c : CO) (S : Sc) (E : XK) (e : Option Expr), chO X.N S c e = true → needO X CX c → QO X CX S E e (evO c)
  | .none, S, E, e, h, n => by
    simp only [chO] at h
    split at h
    · exact qo_none
    · cases h
  | .some a, S, E, e, h, n => by
    simp only [chO] at h
    split at h
    · exact (qo_some (sndE B a S E _ h n).1.1).of fun en st => by simp only [evO, semO] <;> rfl
    · cases h
theorem sndA (B : Base X CX) : ∀ (c : CEs) (S : Sc) (E : XK) (es : List Expr), chA X.N S c es = true → needA X CX c → AOut X CX S E es c
  | .nil, S, E, es, h, n => by
    simp only [chA] at h
    split at h
    · exact ⟨qa_nil, rfl, fun z => absurd rfl z, fun z => absurd rfl z, fun _ z => absurd rfl z, fun _ z => absurd rfl z⟩
    · cases h
  | .cons a as, S, E, es, h, n => by
    simp only [chA] at h
    split at h
    · simp only [Bool.and_eq_true] at h
      rename_i e es
      have qa := (sndE B a S E e h.1.2 n.1).1
      have q := sndA B as S E es h.2 n.2
      refine ⟨(qa_cons h.1.1 qa.1 q.qa).of fun en st => by simp only [evA, semCons] <;> rfl, by rw [List.all_cons, h.1.1, q.pl]; rfl, fun _ pos => ?_, fun _ pos => ?_, fun ht _ pos => ?_, fun ht _ pos => ?_⟩
      · cases as with
        | nil =>
          cases es with
          | nil => exact (qe_one qa.1).of fun en st => by simp only [evAnd] <;> rfl
          | cons _ _ => have := h.2; simp [chA] at this
        | cons b bs =>
          cases es with
          | nil => have := h.2; simp [chA] at this
          | cons e2 es2 => exact (qe_and qa.1 (q.and (List.cons_ne_nil _ _) pos)).of fun en st => by simp only [evAnd, semAnd] <;> rfl
      · cases as with
        | nil =>
          cases es with
          | nil => exact (qe_one qa.1).of fun en st => by simp only [evOr] <;> rfl
          | cons _ _ => have := h.2; simp [chA] at this
        | cons b bs =>
          cases es with
          | nil => have := h.2; simp [chA] at this
          | cons e2 es2 => exact (qe_or qa.1 (q.or (List.cons_ne_nil _ _) pos)).of fun en st => by simp only [evOr, semOr] <;> rfl
      · simp only [List.all_cons, Bool.and_eq_true] at ht
        cases as with
        | nil =>
          cases es with
          | nil => exact (qw_and1 (qa.2 ht.1)).of fun en st => by simp only [evAnd] <;> rfl
          | cons _ _ => have := h.2; simp [chA] at this
        | cons b bs =>
          cases es with
          | nil => have := h.2; simp [chA] at this
          | cons e2 es2 => exact (qw_and (qa.2 ht.1) (q.andT ht.2 (List.cons_ne_nil _ _) pos)).of fun en st => by simp only [evAnd, semAnd] <;> rfl
      · simp only [List.all_cons, Bool.and_eq_true] at ht
        cases as with
        | nil =>
          cases es with
          | nil => exact (qw_or1 (qa.2 ht.1)).of fun en st => by simp only [evOr] <;> rfl
          | cons _ _ => have := h.2; simp [chA] at this
        | cons b bs =>
          cases es with
          | nil => have := h.2; simp [chA] at this
          | cons e2 es2 => exact (qw_or (qa.2 ht.1) (q.orT ht.2 (List.cons_ne_nil _ _) pos)).of fun en st => by simp only [evOr, semOr] <;> rfl
    · cases h
theorem sndK (B : Base X CX) : ∀ (c : CEs) (S : Sc) (E : XK) (es : List Keyword), chK X.N S c es = true → needA X CX c → QK X CX S E es (evA c)
  | .nil, S, E, es, h, n => by
    simp only [chK] at h
    split at h
    · exact qk_nil
    · cases h
  | .cons a as, S, E, es, h, n => by
    simp only [chK] at h
    split at h
    · simp only [Bool.and_eq_true] at h
      exact (qk_cons (sndE B a S E _ h.1 n.1).1.1 (sndK B as S E _ h.2 n.2)).of fun en st => by simp only [evA, semCons] <;> rfl
    · cases h
theorem sndT (B : Base X CX) : ∀ (c : CT) (S : Sc) (E : XK) (vs : Option (List Nat)) (e : Expr), chT X.N S vs c e = true → needT X CX c → QG X CX S E vs e (evT c)
  | .nm i, S, E, vs, e, h, n => by
    simp only [chT] at h
    split at h
    · simp only [Bool.and_eq_true, decide_eq_true_eq, Bool.or_eq_true] at h
      exact (qg_nm B h.1.1.1 (loc_of h.1.1.2) (h.1.2.imp id isLoc_of) h.2).of fun p en st => by simp only [evT] <;> rfl
    · cases h
  | .tp ts, S, E, vs, e, h, n => by
    simp only [chT] at h
    split at h
    · simp only [Bool.and_eq_true, decide_eq_true_eq] at h
      exact (qg_tp B h.1.1 h.1.2 (sndTs B ts S E vs _ h.2 n)).of fun p en st => by simp only [evT] <;> rfl
    · cases h
  | .sb o i, S, E, vs, e, h, n => by
    simp only [chT] at h
    split at h
    · simp only [Bool.and_eq_true] at h
      have hv : vs = none := by cases vs with | none => rfl | some _ => simp at h
      subst hv
      exact (qg_sb h.1.1.2 (sndE B o S E _ h.1.2 n.1).1.1 (sndE B i S E _ h.2 n.2).1.1).of fun p en st => by simp only [evT, semSb] <;> rfl
    · cases h
theorem sndTs (B : Base X CX) : ∀ (c : CTs) (S : Sc) (E : XK) (vs : Option (List Nat)) (es : List Expr), chTs X.N S vs c es = true → needTs X CX c → QGs X CX S E vs es (evTs c)
  | .nil, S, E, vs, es, h, n => by
    simp only [chTs] at h
    split at h
    · exact qgs_nil.of fun p en st => by simp only [evTs] <;> rfl
    · cases h
  | .cons t ts, S, E, vs, es, h, n => by
    simp only [chTs] at h
    split at h
    · simp only [Bool.and_eq_true] at h
      exact (qgs_cons h.1.1 (sndT B t S E vs _ h.1.2 n.1) (sndTs B ts S E vs _ h.2 n.2)).of fun p en st => by simp only [evTs, semTs] <;> rfl
    · cases h
theorem sndI (B : Base X CX) : ∀ (c : CI) (S : Sc) (E : XK) (tg e : Expr), chI X.N S c e = true → needI X CX c → QI X CX S E tg e (evI c)
  | .seq a, S, E, tg, e, h, n => by
    simp only [chI] at h
    exact (qi_seq (sndE B a S E _ h n).1.1).of fun en st => by simp only [evI, semSeq] <;> rfl
  | .rng1 a, S, E, tg, e, h, n => by
    simp only [chI] at h
    split at h
    · simp only [Bool.and_eq_true, decide_eq_true_eq] at h
      obtain ⟨⟨⟨rfl, h1⟩, h2⟩, h3⟩ := h
      exact (qi_rng1 n.1 (glB_of h1) h2 (sndE B a S E _ h3 n.2).1.1).of fun en st => by simp only [evI] <;> rfl
    · cases h
  | .rng2 a b, S, E, tg, e, h, n => by
    simp only [chI] at h
    split at h
    · simp only [Bool.and_eq_true, decide_eq_true_eq] at h
      obtain ⟨⟨⟨⟨⟨rfl, h1⟩, h2⟩, h3⟩, h4⟩, h5⟩ := h
      exact (qi_rng2 n.1 (glB_of h1) h2 h3 (sndE B a S E _ h4 n.2.1).1.1 (sndE B b S E _ h5 n.2.2).1.1).of fun en st => by simp only [evI] <;> rfl
    · cases h
  | .enm a, S, E, tg, e, h, n => by simp [chI] at h
end
end L3
/-! L3E3: the check of statements, and a def's promise by it. -/
namespace L3
open PySem PySem.Spec PyProof.Rows L2
variable {X : Cx} {CX : CXT}
/-! ### stores the other way round -/
def lnames (sc : Scope) (line : Nat) (ts : List Expr) : List Str := ts.filterMap fun
    | .Name id pos => if sc.names.lookup id == some .local && pos.line == line then some id else none
    | _ => none
def isStar : Expr → Bool
  | .Starred .. => true
  | _ => false
def swapC (sc : Scope) (ts vs : List Expr) : Option (Option (List Str)) :=
  if !(ts.length == 2 || ts.length == 3) || vs.length != ts.length then some none
  else if (vs.any fun | .Starred .. => true | _ => false) then some none
  else if (lnames sc ((ts.head?.map (·.pos.line)).getD 0) ts).length != ts.length || (lnames sc ((ts.head?.map (·.pos.line)).getD 0) ts).eraseDups.length != (lnames sc ((ts.head?.map (·.pos.line)).getD 0) ts).length then some none
  else if vs.all (foldedForSure 8) then some none
  else if vs.all (constantsAlone 8) then none
  else some (some (lnames sc ((ts.head?.map (·.pos.line)).getD 0) ts))
theorem swapC_ok {env : Env} {ts vs : List Expr} {k k2 : Nat} {p p2 : Pos} {r : Option (List Str)} (hk : env.scope.kind = .function) (h : swapC env.scope ts vs = some r) : swappedStores [.Tuple ts k p] (.Tuple vs k2 p2) env = pure r := by
  have hb : env.blockKind = .function := by unfold Env.blockKind; rw [hk]; rfl
  have hn : (ts.filterMap fun
    | .Name id pos => if env.kindOf id == some .local && pos.line == (ts.head?.map (·.pos.line)).getD 0 then some id else none
    | _ => none) = lnames env.scope ((ts.head?.map (·.pos.line)).getD 0) ts := rfl
  unfold swappedStores
  unfold swapC at h
  simp only [hb]
  have hbf : (ScopeKind.function != ScopeKind.function) = false := rfl
  simp only [hbf, Bool.or_false]
  split at h
  · rename_i h1; cases h; rw [if_pos h1]
  · rename_i h1
    rw [if_neg h1]
    split at h
    · rename_i h2; cases h; exact if_pos h2
    · rename_i h2
      refine (if_neg h2).trans ?_
      split at h
      · rename_i h3; cases h; exact if_pos h3
      · rename_i h3
        refine (if_neg h3).trans ?_
        split at h
        · rename_i h4; cases h; exact if_pos h4
        · rename_i h4
          refine (if_neg h4).trans ?_
          split at h
          · cases h
          · rename_i h5; cases h; exact if_neg h5

def funK (S : Sc) : Bool := match S.sc.kind with
  | .function => true
  | _ => false
def isCelB (S : Sc) (x : Str) : Bool := match S.sc.names.lookup x with
  | some .cell => true
  | _ => false
theorem isCel_of {S : Sc} {x : Str} (h : isCelB S x = true) : S.sc.names.lookup x = some .cell := by
  unfold isCelB at h
  split at h
  · assumption
  · cases h
/-- the slots of a target of plain names -/
def nmSlots : CTs → Option (List Nat)
  | .nil => some []
  | .cons (.nm i) ts => (nmSlots ts).map (i :: ·)
  | .cons _ _ => none
def nmOfE : Expr → Str
  | .Name x _ => x
  | _ => ""
mutual
def chS (N : List Str) (S : Sc) : CS → Stmt → Bool
  | .asg t c, s => match s with
    | .Assign [tg] v pos => match tg, v with
      | .Name y py, .ListComp elt gs scope lp => (match t with
        | .nm i => decide (N[i]? = some y) && (isLocB S y && funK S && (py.line == lp.line) && !(scope.names.any fun (n, k) => n == y && (k == .local || k == .cell)) || isCelB S y && S.fn y) && isLc c && chE N S c (.ListComp elt gs scope lp)
        | _ => false)
      | .Name y py, v => (match t with
        | .nm i => decide (N[i]? = some y) && locB S y && (S.fn y || isLocB S y) && notComp v && chE N S c v
        | _ => false)
      | tg, v => plainE tg && notComp v && noTup v && chT N S none t tg && chE N S c v
    | _ => false
  | .asgs ts as, s => match s with
    | .Assign [.Tuple tgs k p] (.Tuple vs k2 p2) pos => funK S && tgs.all plainE && decide (tgs.length = ts.len) && chA N S as vs &&
      (match swapC S.sc tgs vs with
        | some none => chTs N S none ts tgs
        | some (some ns) => decide (tgs.map nmOfE = ns) && (match ns, nmSlots ts, tgs, vs with
          | [x, y], some [i, j], [.Name _ _, .Name _ _], [_, _] => decide (N[i]? = some x) && decide (N[j]? = some y) && decide (i ≠ j) && isLocB S x && isLocB S y
          | [x, y, z], some [i, j, l], [.Name _ _, .Name _ _, .Name _ _], [_, _, _] => decide (N[i]? = some x) && decide (N[j]? = some y) && decide (N[l]? = some z) && decide (i ≠ j) && decide (i ≠ l) && decide (j ≠ l) && isLocB S x && isLocB S y && isLocB S z
          | _, _, _, _ => false)
        | none => false)
    | _ => false
  | .exp c, s => match s with
    | .Expr v _ => notComp v && chE N S c v
    | _ => false
  | .app i c, s => match s with
    | .Expr (.Call (.Attribute (.Name x _) m apos) [v] [] cpos) _ => decide (m = ("append" : Str)) && decide (N[i]? = some x) && visB S x && nmOk x && (apos.endLine == cpos.line) && chE N S c v
    | _ => false
  | .ife c a b, s => match s with
    | .If t x y _ => chE N S c t && tstE t && chB N S a x && chB N S b y
    | _ => false
  | .for_ t it b, s => match s with
    | .For tg iter body [] _ => notSet iter && chI N S it iter && chT N S none t tg && chB N S b body
    | _ => false
  | .whl c b, s => match s with
    | .While t body [] _ => chE N S c t && tstE t && chB N S b body
    | _ => false
  | .ret c, s => match s with
    | .Return (some v) _ => chE N S c v
    | _ => false
  | .retN, s => match s with
    | .Return none _ => true
    | _ => false
  | .brk, s => match s with
    | .Break _ => true
    | _ => false
  | .cnt, s => match s with
    | .Continue _ => true
    | _ => false
  | .pas, s => match s with
    | .Pass _ => true
    | .Expr (.Constant (.str _) _ _) _ => true
    | _ => false
  | .nev, _ => true
def chB (N : List Str) (S : Sc) : CB → List Stmt → Bool
  | .nil, ss => match ss with
    | [] => true
    | _ => false
  | .cons s b, ss => match ss with
    | t :: ts => chS N S s t && chB N S b ts
    | [] => false
end
mutual
def needS (X : Cx) (CX : CXT) : CS → Prop
  | .asg t c => needT X CX t ∧ needE X CX c
  | .asgs ts as => needTs X CX ts ∧ needA X CX as
  | .exp c | .app _ c | .ret c => needE X CX c
  | .ife c a b => needE X CX c ∧ needB X CX a ∧ needB X CX b
  | .for_ t it b => needT X CX t ∧ needI X CX it ∧ needB X CX b
  | .whl c b => needE X CX c ∧ needB X CX b
  | .retN | .brk | .cnt | .pas | .nev => True
def needB (X : Cx) (CX : CXT) : CB → Prop
  | .nil => True
  | .cons s b => needS X CX s ∧ needB X CX b
end
theorem QS.of {S : Sc} {E : XK} {s : Stmt} {f g : En → Sto → Rs Fl} (h : QS X CX S E s f) (q : ∀ en st, g en st = f en st) : QS X CX S E s g := by
  have : g = f := funext fun en => funext fun st => q en st
  rw [this]; exact h
theorem QB.of {S : Sc} {E : XK} {s : List Stmt} {f g : En → Sto → Rs Fl} (h : QB X CX S E s f) (q : ∀ en st, g en st = f en st) : QB X CX S E s g := by
  have : g = f := funext fun en => funext fun st => q en st
  rw [this]; exact h
theorem funK_of {S : Sc} (h : funK S = true) : S.sc.kind = .function := by
  unfold funK at h
  split at h <;> first | assumption | cases h
theorem nmSlots2 {ts : CTs} {i j : Nat} (h : nmSlots ts = some [i, j]) : ts = .cons (.nm i) (.cons (.nm j) .nil) := by
  cases ts with
  | nil => simp [nmSlots] at h
  | cons t ts =>
    cases t with
    | nm a =>
      simp only [nmSlots, Option.map_eq_some_iff] at h
      obtain ⟨r, h1, h2⟩ := h
      cases h2
      cases ts with
      | nil => simp [nmSlots] at h1
      | cons t ts =>
        cases t with
        | nm b =>
          simp only [nmSlots, Option.map_eq_some_iff] at h1
          obtain ⟨r, h3, h4⟩ := h1
          cases h4
          cases ts with
          | nil => rfl
          | cons t ts => cases t <;> simp [nmSlots] at h3
        | _ => simp [nmSlots] at h1
    | _ => simp [nmSlots] at h
theorem nmSlots3 {ts : CTs} {i j l : Nat} (h : nmSlots ts = some [i, j, l]) : ts = .cons (.nm i) (.cons (.nm j) (.cons (.nm l) .nil)) := by
  cases ts with
  | nil => simp [nmSlots] at h
  | cons t ts =>
    cases t with
    | nm a =>
      simp only [nmSlots, Option.map_eq_some_iff] at h
      obtain ⟨r, h1, h2⟩ := h
      cases h2
      rw [nmSlots2 h1]
    | _ => simp [nmSlots] at h
theorem sem_asgs2 {as : CEs} {i j : Nat} (en : En) (st : Sto) : evS (.asgs (.cons (.nm i) (.cons (.nm j) .nil)) as) en st = semAsgs 2 (evA as) (fun ps e st => match ps with | [p, q] => .ok ((e.set i (some p)).set j (some q)) st | _ => .no) en st := by
  simp only [evS, semAsgs]
  congr 1
  funext ps s1
  by_cases h : lenEq ps 2 = true
  · rw [if_pos h, if_pos (show lenEq ps (CTs.cons (.nm i) (.cons (.nm j) .nil)).len = true from h)]
    have h2 : ps.length = 2 := by
      unfold lenEq at h
      simp only [Bool.and_eq_true, decide_eq_true_eq] at h
      exact h.1
    match ps, h2 with
    | [p, q], _ => simp only [evTs, evT, Rs.bnd_ok]
  · rw [if_neg h, if_neg (show ¬ lenEq ps (CTs.cons (.nm i) (.cons (.nm j) .nil)).len = true from h)]
theorem sem_asgs3 {as : CEs} {i j l : Nat} (en : En) (st : Sto) : evS (.asgs (.cons (.nm i) (.cons (.nm j) (.cons (.nm l) .nil))) as) en st = semAsgs 3 (evA as) (fun ps e st => match ps with | [p, q, u] => .ok (((e.set i (some p)).set j (some q)).set l (some u)) st | _ => .no) en st := by
  simp only [evS, semAsgs]
  congr 1
  funext ps s1
  by_cases h : lenEq ps 3 = true
  · rw [if_pos h, if_pos (show lenEq ps (CTs.cons (.nm i) (.cons (.nm j) (.cons (.nm l) .nil))).len = true from h)]
    have h2 : ps.length = 3 := by
      unfold lenEq at h
      simp only [Bool.and_eq_true, decide_eq_true_eq] at h
      exact h.1
    match ps, h2 with
    | [p, q, u], _ => simp only [evTs, evT, Rs.bnd_ok]
  · rw [if_neg h, if_neg (show ¬ lenEq ps (CTs.cons (.nm i) (.cons (.nm j) (.cons (.nm l) .nil))).len = true from h)]
mutual
theorem sndS (B : Base X CX) : ∀ (c : CS) (S : Sc) (E : XK) (s : Stmt), chS X.N S c s = true → needS X CX c → QS X CX S E s (evS c)
  | .asg t c, S, E, s, h, n => by
    simp only [chS] at h
    split at h
    · split at h
      · split at h
        · simp only [Bool.and_eq_true, Bool.or_eq_true, decide_eq_true_eq, Bool.not_eq_true'] at h
          obtain ⟨⟨⟨h1, hh⟩, h6⟩, h7⟩ := h
          have out := (sndE B c S E _ h7 n.2).2 _ _ _ _ rfl h6
          rcases hh with ⟨⟨⟨h2, h3⟩, h4⟩, h5⟩ | ⟨h2, h3⟩
          · exact (qs_setLc h1 (isLoc_of h2) (funK_of h3) h4 h5 out).of fun en st => by simp only [evS, semAsg, evT] <;> rfl
          · exact (qs_setLcC B h1 (isCel_of h2) h3 out.qe).of fun en st => by simp only [evS, semAsg, evT] <;> rfl
        · cases h
      · split at h
        · simp only [Bool.and_eq_true, decide_eq_true_eq, Bool.or_eq_true] at h
          obtain ⟨⟨⟨⟨h1, h2⟩, h3⟩, h4⟩, h5⟩ := h
          have q := (sndE B c S E _ h5 n.2).1.1
          exact (qs_set B h1 (loc_of h2) (h3.imp id isLoc_of) h4 q).of fun en st => by simp only [evS, semAsg, evT] <;> rfl
        · cases h
      · simp only [Bool.and_eq_true] at h
        obtain ⟨⟨⟨⟨h1, h2⟩, h3⟩, h4⟩, h5⟩ := h
        exact (qs_asg h1 h2 h3 (sndE B c S E _ h5 n.2).1.1 (sndT B t S E none _ h4 n.1)).of fun en st => by simp only [evS, semAsg] <;> rfl
    · cases h
  | .asgs ts as, S, E, s, h, n => by
    simp only [chS] at h
    split at h
    · simp only [Bool.and_eq_true, decide_eq_true_eq] at h
      obtain ⟨⟨⟨⟨h1, h2⟩, h3⟩, h4⟩, h5⟩ := h
      have q := sndA B as S E _ h4 n.2
      split at h5
      · rename_i hsw
        exact (qs_asgs B h3 h2 (fun r hf => swapC_ok (by rw [hf.1]; exact funK_of h1) (by rw [hf.1]; exact hsw)) q.qa (sndTs B ts S E none _ h5 n.1)).of fun en st => by simp only [evS, semAsgs] <;> rfl
      · rename_i ns hsw
        simp only [Bool.and_eq_true, decide_eq_true_eq] at h5
        obtain ⟨h6, h7⟩ := h5
        split at h7
        · rename_i hns
          simp only [Bool.and_eq_true, decide_eq_true_eq] at h7
          obtain ⟨⟨⟨⟨k1, k2⟩, k3⟩, k4⟩, k5⟩ := h7
          simp only [List.map_cons, List.map_nil, nmOfE, List.cons.injEq, and_true] at h6
          obtain ⟨rfl, rfl⟩ := h6
          rw [nmSlots2 hns]
          exact (qs_par2 B k1 k2 k3 (isLoc_of k4) (isLoc_of k5) (fun r hf => swapC_ok (by rw [hf.1]; exact funK_of h1) (by rw [hf.1]; exact hsw)) q.qa).of sem_asgs2
        · rename_i hns
          simp only [Bool.and_eq_true, decide_eq_true_eq] at h7
          obtain ⟨⟨⟨⟨⟨⟨⟨⟨k1, k2⟩, k3⟩, k4⟩, k5⟩, k6⟩, k7⟩, k8⟩, k9⟩ := h7
          simp only [List.map_cons, List.map_nil, nmOfE, List.cons.injEq, and_true] at h6
          obtain ⟨rfl, rfl, rfl⟩ := h6
          rw [nmSlots3 hns]
          exact (qs_par3 B k1 k2 k3 k4 k5 k6 (isLoc_of k7) (isLoc_of k8) (isLoc_of k9) (fun r hf => swapC_ok (by rw [hf.1]; exact funK_of h1) (by rw [hf.1]; exact hsw)) q.qa).of sem_asgs3
        · cases h7
      · cases h5
    · cases h
  | .exp c, S, E, s, h, n => by
    simp only [chS] at h
    split at h
    · simp only [Bool.and_eq_true] at h
      exact (qs_exp h.1 (sndE B c S E _ h.2 n).1.1).of fun en st => by simp only [evS] <;> rfl
    · cases h
  | .app i c, S, E, s, h, n => by
    simp only [chS] at h
    split at h
    · simp only [Bool.and_eq_true, decide_eq_true_eq] at h
      obtain ⟨⟨⟨⟨⟨rfl, h1⟩, h2⟩, h3⟩, h4⟩, h5⟩ := h
      exact (qs_app h1 (vis_of h2) (nmOk_of h3).1 (nmOk_of h3).2 h4 (chE_plain h5) (sndE B c S E _ h5 n).1.1).of fun en st => by simp only [evS, semApp] <;> rfl
    · cases h
  | .ife c a b, S, E, s, h, n => by
    simp only [chS] at h
    split at h
    · simp only [Bool.and_eq_true] at h
      exact (qs_if ((sndE B c S E _ h.1.1.1 n.1).1.2 h.1.1.2) (sndB B a S E _ h.1.2 n.2.1) (sndB B b S E _ h.2 n.2.2)).of fun en st => by simp only [evS, semIfS] <;> rfl
    · cases h
  | .for_ t it b, S, E, s, h, n => by
    simp only [chS] at h
    split at h
    · simp only [Bool.and_eq_true] at h
      exact (qs_for B (notSet_fold h.1.1.1) (sndI B it S E _ _ h.1.1.2 n.2.1) (sndT B t S E none _ h.1.2 n.1) (sndB B b S E _ h.2 n.2.2)).of fun en st => by simp only [evS] <;> rfl
    · cases h
  | .whl c b, S, E, s, h, n => by
    simp only [chS] at h
    split at h
    · simp only [Bool.and_eq_true] at h
      exact (qs_whl (fuel := FUEL) ((sndE B c S E _ h.1.1 n.1).1.2 h.1.2) (sndB B b S E _ h.2 n.2)).of fun en st => by simp only [evS] <;> rfl
    · cases h
  | .ret c, S, E, s, h, n => by
    simp only [chS] at h
    split at h
    · exact (qs_ret (sndE B c S E _ h n).1.1).of fun en st => by simp only [evS] <;> rfl
    · cases h
  | .retN, S, E, s, h, n => by
    simp only [chS] at h
    split at h
    · exact qs_retN
    · cases h
  | .brk, S, E, s, h, n => by
    simp only [chS] at h
    split at h
    · exact qs_brk
    · cases h
  | .cnt, S, E, s, h, n => by
    simp only [chS] at h
    split at h
    · exact qs_cnt
    · cases h
  | .pas, S, E, s, h, n => by
    simp only [chS] at h
    split at h
    · exact qs_pas
    · exact qs_doc
    · cases h
  | .nev, S, E, s, h, n => qs_nev
theorem sndB (B : Base X CX) : ∀ (c : CB) (S : Sc) (E : XK) (ss : List Stmt), chB X.N S c ss = true → needB X CX c → QB X CX S E ss (evB c)
  | .nil, S, E, ss, h, n => by
    simp only [chB] at h
    split at h
    · exact qb_nil
    · cases h
  | .cons s b, S, E, ss, h, n => by
    simp only [chB] at h
    split at h
    · simp only [Bool.and_eq_true] at h
      exact (qb_cons (sndS B s S E _ h.1 n.1) (sndB B b S E _ h.2 n.2)).of fun en st => by simp only [evB, semSeqB] <;> rfl
    · cases h
end
end L3
/-! L3F: a def's promise by its term; the law's end. -/
namespace L3
open PySem PySem.Spec PyProof.Rows L2
section
variable {K : PySem.W.Frag} {D H : Hp}
theorem enter_len : ∀ {as : List AV} {xs : List V} {bs : List Addr} (n : Nat), ArgsR K D H as xs bs → (enter as n).1.length = xs.length ∧ (enter as n).2.length = bs.length ∧ nObj as = bs.length
  | _, _, _, n, .nil => ⟨rfl, rfl, rfl⟩
  | _, _, _, n, .v _ t => by
    obtain ⟨h1, h2, h3⟩ := enter_len n t
    simp only [enter, nObj, List.length_cons]
    exact ⟨by omega, h2, h3⟩
  | _, _, _, n, .o _ _ _ _ t => by
    obtain ⟨h1, h2, h3⟩ := enter_len (n + 1) t
    simp only [enter, nObj, List.length_cons]
    exact ⟨by omega, by omega, by omega⟩
theorem enter_env {m : Mp} : ∀ {as : List AV} {xs : List V} {bs : List Addr} (n : Nat), ArgsR K D H as xs bs → (∀ (i : Nat) (a : Addr), bs[i]? = some a → m (n + i) = some a) →
    ∀ (i : Nat) (p : PV), (enter as n).1[i]? = some (some p) → ∃ x, xs[i]? = some x ∧ Rv K D m p x
  | _, _, _, n, .nil, _, i, p, e => by simp [enter] at e
  | _, _, _, n, .v r t, hm, i, p, e => by
    simp only [enter] at e
    cases i with
    | zero => simp at e; subst e; exact ⟨_, rfl, .v r⟩
    | succ i =>
      obtain ⟨x, q1, q2⟩ := enter_env n t hm i p (by simpa using e)
      exact ⟨x, by simpa using q1, q2⟩
  | _, _, _, n, .o (a := a) _ _ _ _ t, hm, i, p, e => by
    simp only [enter] at e
    cases i with
    | zero => simp at e; subst e; exact ⟨_, rfl, .loc (hm 0 a rfl)⟩
    | succ i =>
      obtain ⟨x, q1, q2⟩ := enter_env (n + 1) t (fun j b h => by have := hm (j + 1) b (by simpa using h); rw [show n + 1 + j = n + (j + 1) by omega]; exact this) i p (by simpa using e)
      exact ⟨x, by simpa using q1, q2⟩
theorem enter_sto : ∀ {as : List AV} {xs : List V} {bs : List Addr} (n : Nat), ArgsR K D H as xs bs →
    ∀ (i : Nat) (b : OB), obAt (enter as n).2 i = some b → ∃ a ho f, bs[i]? = some a ∧ D a = none ∧ H a = some ho ∧ b = obOf f ∧ ObF K D f ho
  | _, _, _, n, .nil, i, b, e => by simp [enter, obAt] at e
  | _, _, _, n, .v r t, i, b, e => by simp only [enter] at e; exact enter_sto n t i b e
  | _, _, _, n, .o (b := f) (a := a) h1 h2 h3 _ t, i, b, e => by
    simp only [enter] at e
    cases i with
    | zero => simp [obAt] at e; exact ⟨a, _, f, rfl, h1, h2, e.symm, h3⟩
    | succ i =>
      obtain ⟨a', ho, f', q⟩ := enter_sto (n + 1) t i b (by simpa [obAt] using e)
      exact ⟨a', ho, f', by simpa using q⟩
theorem args_nodup : ∀ {as : List AV} {xs : List V} {bs : List Addr}, ArgsR K D H as xs bs → bs.Nodup ∧ ∀ a ∈ bs, ∃ o, H a = some o
  | _, _, _, .nil => ⟨List.nodup_nil, fun _ h => by simp at h⟩
  | _, _, _, .v _ t => args_nodup t
  | _, _, _, .o _ h2 _ hn t => by
    obtain ⟨q1, q2⟩ := args_nodup t
    refine ⟨List.nodup_cons.mpr ⟨hn, q1⟩, fun a ha => ?_⟩
    rcases List.mem_cons.mp ha with e | e
    · subst e; exact ⟨_, h2⟩
    · exact q2 a e
theorem takeOF_at : ∀ {n l : Nat} {st : Sto} {os : List OF}, takeOF st l n = some os → os.length = n ∧ ∀ (i : Nat), i < n → ∃ b o, obAt st (l + i) = some b ∧ os[i]? = some o ∧ ofOb b = some o
  | 0, l, st, os, e => by simp [takeOF] at e; subst e; exact ⟨rfl, fun i h => by omega⟩
  | n + 1, l, st, os, e => by
    simp only [takeOF] at e
    split at e
    · rename_i b hb
      simp only [Option.bind_eq_some_iff, Option.map_eq_some_iff] at e
      obtain ⟨o, ho, os', e1, rfl⟩ := e
      obtain ⟨h1, h2⟩ := takeOF_at e1
      refine ⟨by simp [h1], fun i hi => ?_⟩
      cases i with
      | zero => exact ⟨b, o, hb, rfl, ho⟩
      | succ i =>
        obtain ⟨b', o', q1, q2, q3⟩ := h2 i (by omega)
        exact ⟨b', o', by rw [show l + (i + 1) = l + 1 + i by omega]; exact q1, by simpa using q2, q3⟩
    · cases e
end
theorem paired_of {α β : Type} {F : α → β → Prop} : ∀ {xs : List α} {ys : List β}, xs.length = ys.length → (∀ (i : Nat) (x : α) (y : β), xs[i]? = some x → ys[i]? = some y → F x y) → Paired F xs ys
  | [], [], _, _ => .nil
  | x :: xs, y :: ys, h, k => .cons (k 0 x y rfl rfl) (paired_of (by simpa using h) fun i a b h1 h2 => k (i + 1) a b (by simpa using h1) (by simpa using h2))
  | [], _ :: _, h, _ => by simp at h
  | _ :: _, [], h, _ => by simp at h
/-- the body's reading is worth what the function says -/
theorem body_sound {X : Cx} {E : XK} {N : List Str} {np : Nat} {c : CB} {t : TS} {vs : List V} {H : Hp} {Q : VK} (hN : vs.length ≤ N.length) (l : LS (Zx X E) t (evB c)) (h : spF X.mg X.K (runFn np N.length c) vs H Q E) :
    vs.length = np → t { nx := fun _ H' => Q .non H', rt := Q } (L2.start N vs) H := by
  intro hnp
  obtain ⟨D, as, bs, hle, hA, hS⟩ := h
  obtain ⟨len1, len2, len3⟩ := enter_len 0 hA
  obtain ⟨hnd, htr⟩ := args_nodup hA
  have hal := hA.length
  let m : Mp := fun l => bs[l]?
  have w : Wd X.K D m (enter as 0).2 H := by
    refine ⟨hle, fun l b e => ?_, fun l l' b b' a _ _ h1 h2 => ?_, fun l hl => ?_, fun l a e => ?_⟩
    · obtain ⟨a, ho, f, q1, q2, q3, rfl, q5⟩ := enter_sto 0 hA l b e
      exact ⟨a, ho, q1, q2, q3, q5.ob⟩
    · obtain ⟨i1, e1⟩ := List.getElem?_eq_some_iff.mp h1
      obtain ⟨i2, e2⟩ := List.getElem?_eq_some_iff.mp h2
      exact (List.getElem_inj hnd).mp (e1.trans e2.symm)
    · exact List.getElem?_eq_none (by omega)
    · exact htr a (List.mem_of_getElem? e)
  have er : EnR X.K D m ((enter as 0).1 ++ List.replicate (N.length - np) none) (L2.start N vs) := by
    refine ⟨by unfold L2.start; simp only [List.length_append, List.length_replicate, List.length_map]; omega, fun i p e => ?_⟩
    by_cases hi : i < (enter as 0).1.length
    · rw [List.getElem?_append_left hi] at e
      obtain ⟨x, q1, q2⟩ := enter_env (m := m) 0 hA (fun j b hj => by rw [Nat.zero_add]; exact hj) i p e
      refine ⟨x, ?_, q2⟩
      unfold L2.start
      rw [List.getElem?_append_left (by rw [List.length_map]; omega), List.getElem?_map, q1]
      rfl
    · rw [List.getElem?_append_right (by omega)] at e
      have := List.mem_of_getElem? e
      rw [List.mem_replicate] at this
      cases this.2
  refine l D m _ _ _ H _ w er ?_
  unfold runFn at hS
  rw [if_pos (by omega)] at hS
  -- what the end gives
  have beh : ∀ {D' H' : Hp} {m' : Mp} {st' : Sto} {os : List OF}, Ext D m H D' m' H' → Wd X.K D' m' st' H' → takeOF st' 0 (nObj as) = some os → Beh D H D' H' bs ∧ ObsR X.K D' H' os bs := by
    intro D' H' m' st' os ex w' htk
    obtain ⟨t1, t2⟩ := takeOF_at htk
    have at_ : ∀ (i : Nat) (a : Addr), bs[i]? = some a → ∃ o ho, os[i]? = some o ∧ D' a = none ∧ H' a = some ho ∧ ObF X.K D' o ho := fun i a hi => by
      have hlt : i < nObj as := by rw [len3]; exact (List.getElem?_eq_some_iff.mp hi).1
      obtain ⟨b, o, q1, q2, q3⟩ := t2 i hlt
      rw [Nat.zero_add] at q1
      obtain ⟨a', ho, z1, z2, z3, z4⟩ := w'.ob i b q1
      rw [ex.lm i a hi] at z1
      cases z1
      exact ⟨o, ho, q2, z2, z3, z4.obF q3⟩
    refine ⟨⟨ex.le, w'.le, fun a o e => ?_, fun a o e n => ex.fr a o e fun l z => n (List.mem_of_getElem? z), ex.tk⟩, paired_of (by omega) fun i o a h1 h2 => ?_⟩
    · rcases ex.nd a o e with z | z | ⟨l, z⟩
      · exact .inl z
      · exact .inr z
      · obtain ⟨_, _, _, q, _⟩ := at_ l a z
        rw [q] at e
        cases e
    · obtain ⟨o', ho, q1, q2, q3, q4⟩ := at_ i a h2
      rw [h1] at q1
      cases q1
      exact ⟨q2, ho, q3, q4⟩
  have fin : ∀ {p : PV} {st' : Sto} {D' H' : Hp} {m' : Mp} {x : V}, Ext D m H D' m' H' → Wd X.K D' m' st' H' → Rv X.K D' m' p x →
      (match leave (nObj as) p st' with
        | some (.ret r os) => ∀ x D' H', Beh D H D' H' bs → ObsR X.K D' H' os bs → RetR X.K D' H H' r x → Q x H'
        | some (.ex z os) => ∀ c d D' H', Beh D H D' H' bs → ObsR X.K D' H' os bs → XR X.mg X.K D' z c d H' → E c d H'
        | none => False) → Q x H' := by
    intro p st' D' H' m' x ex w' rx hq
    unfold leave at hq
    split at hq
    · rename_i r os hl
      split at hl
      · cases hl
      · rename_i os' htk
        obtain ⟨b1, b2⟩ := beh ex w' htk
        cases p with
        | v d =>
          cases hl
          cases rx with
          | v rx => exact hq x D' H' b1 b2 rx
        | loc l =>
          dsimp only at hl
          split at hl
          · cases hl
          · rename_i hln
            split at hl
            · rename_i b hb
              simp only [Option.map_eq_some_iff, Option.some.injEq, Out.ret.injEq] at hl
              obtain ⟨o, ho, rfl, rfl⟩ := hl
              cases rx with
              | loc hm' =>
                obtain ⟨a', ho', z1, z2, z3, z4⟩ := w'.ob l b hb
                rw [hm'] at z1
                cases z1
                refine hq _ D' H' b1 b2 ⟨_, ho', rfl, ?_, z2, z3, z4.obF ho⟩
                rcases ex.nm l _ hm' with z | z
                · have z' : bs[l]? = some _ := z
                  rw [List.getElem?_eq_none (by omega)] at z'
                  cases z'
                · exact z
            · cases hl
    · rename_i z os hl
      split at hl
      · cases hl
      · cases p with
        | v d => cases hl
        | loc l =>
          dsimp only at hl
          split at hl
          · cases hl
          · split at hl
            · simp only [Option.map_eq_some_iff] at hl
              obtain ⟨_, _, z⟩ := hl
              cases z
            · cases hl
    · exact hq.elim
  cases he : evB c ((enter as 0).1 ++ List.replicate (N.length - np) none) (enter as 0).2 with
  | ok fl st' =>
    rw [he] at hS
    cases fl with
    | rt p => exact fun D' m' H' ex w' x rx => fin ex w' rx hS
    | nx e' => exact fun D' m' H' ex w' σ' er' => fin (p := .v .none) ex w' (.v .non) hS
    | bk e' => exact hS.elim
    | ct e' => exact hS.elim
  | ex z st' =>
    rw [he] at hS
    dsimp only at hS
    intro D' m' H' cc d ex w' xr
    cases htk : takeOF st' 0 (nObj as) with
    | none => rw [htk] at hS; exact hS.elim
    | some os =>
      rw [htk] at hS
      obtain ⟨b1, b2⟩ := beh ex w' htk
      exact hS cc d D' H' b1 b2 xr
  | no =>
    rw [he] at hS
    exact hS.elim
theorem spF_len {mg : Str → Option Value} {K : PySem.W.Frag} {np n : Nat} {c : CB} {vs : List V} {H : Hp} {Q : VK} {E : XK} (h : spF mg K (runFn np n c) vs H Q E) : vs.length = np := by
  obtain ⟨D, as, bs, hle, hA, hS⟩ := h
  rw [← hA.length]
  unfold runFn at hS
  by_cases e : as.length = np
  · exact e
  · rw [if_neg e] at hS; exact hS.elim
/-- the facts of a def's callers and callees, whatever body is at hand -/
structure At (P : Program) (w : World) (K : PySem.W.Frag) (mg : Str → Option Value) (base : Heap) (k : Nat) (X : Cx) : Prop where
  p : X.prog = P
  w : X.w = w
  K : X.K = K
  mg : X.mg = mg
  b : X.base = base
  r : Room k X.A
def FnK (P : Program) (w : World) (K : PySem.W.Frag) (mg : Str → Option Value) (base : Heap) (CX : CXT) (k : Nat) (x : Str) (F : Fn) : Prop :=
  ∃ (f : Addr) (fd : FuncData) (ps : List Str), mg x = some (.ref f) ∧ PySem.W.keepIn K (.ref f) = true ∧ Binds K fd ps [] ∧ FnOk P w K mg base CX k f fd ps (spF mg K F)
theorem At.fn {P : Program} {w : World} {K : PySem.W.Frag} {mg : Str → Option Value} {base : Heap} {k j : Nat} {X : Cx} {CX : CXT} {x : Str} {F : Fn} (a : At P w K mg base k X) (h : FnK P w K mg base CX j x F) (hj : j ≤ k) : FnIn X CX x F := by
  obtain ⟨f, fd, ps, h1, h2, h3, h4⟩ := h
  obtain ⟨rfl, rfl, rfl, rfl, rfl, r⟩ := a
  exact ⟨j, f, fd, ps, r.mono hj, h1, h2, h3, h4⟩
def KwK (P : Program) (w : World) (K : PySem.W.Frag) (mg : Str → Option Value) (base : Heap) (CX : CXT) (k : Nat) (x : Str) (F : Fn) (np : Nat) (ks : List Str) (perm : List Nat) : Prop :=
  ∃ (f : Addr) (fd : FuncData) (ps : List Str), mg x = some (.ref f) ∧ PySem.W.keepIn K (.ref f) = true ∧ 0 < ps.length ∧
    (∀ (s : Shared) (us ws : List Value), K.In s.heap → (kwG np ks.length perm us ws).length = ps.length → BindsTo s fd ⟨us, ks.zip ws⟩ (ps.zip (kwG np ks.length perm us ws))) ∧ FnOk P w K mg base CX k f fd ps (spF mg K F)
theorem At.kw {P : Program} {w : World} {K : PySem.W.Frag} {mg : Str → Option Value} {base : Heap} {k j : Nat} {X : Cx} {CX : CXT} {x : Str} {F : Fn} {np : Nat} {ks : List Str} {perm : List Nat} (a : At P w K mg base k X) (h : KwK P w K mg base CX j x F np ks perm) (hj : j ≤ k) : KwIn X CX x F np ks perm := by
  obtain ⟨f, fd, ps, h1, h2, h3, h4, h5⟩ := h
  obtain ⟨rfl, rfl, rfl, rfl, rfl, r⟩ := a
  exact ⟨j, f, fd, ps, r.mono hj, h1, h2, h3, h4, h5⟩
theorem At.nb {P : Program} {w : World} {K : PySem.W.Frag} {mg : Str → Option Value} {base : Heap} {k : Nat} {X : Cx} {x : Str} (a : At P w K mg base k X) (h : mg x = none) : X.mg x = none := by rw [a.mg]; exact h
theorem At.bl {P : Program} {w : World} {K : PySem.W.Frag} {mg : Str → Option Value} {base : Heap} {k : Nat} {X : Cx} {b : Bl} (a : At P w K mg base k X) (h : if b.imp = true then mg b.nm = some b.val else mg b.nm = none) : BlOk X b := by
  unfold BlOk; rw [a.mg]; exact h
def GlK (K : PySem.W.Frag) (mg : Str → Option Value) (x : Str) (d : FV) : Prop := ∃ u v, mg x = some u ∧ RelV v u ∧ Rp K (fun _ => none) d v
theorem At.gl {P : Program} {w : World} {K : PySem.W.Frag} {mg : Str → Option Value} {base : Heap} {k : Nat} {X : Cx} {x : Str} {d : FV} (a : At P w K mg base k X) (h : GlK K mg x d) : GlOk X x d := by
  unfold GlOk; rw [a.mg, a.K]; exact h
/-- a def that raises nothing -/
theorem fn_ok {P : Program} {w : World} {K : PySem.W.Frag} {mg : Str → Option Value} {base : Heap} {x qual : Str} {st : Stmt} {f : Addr} {fd : FuncData} {N ps : List Str} {k : Nat} {c : CB} (F : Fun K x qual st f fd) (S : FnScope N ps (defScope st))
    (hl : ps.length ≤ N.length) (hc : chB N ⟨defScope st, fun _ => true⟩ c (defBody st) = true) (need : ∀ X, At P w K mg base k X → needB X CX0 c) : FnOk P w K mg base CX0 (k + 1) f fd ps (spF mg K (runFn ps.length N.length c)) := by
  refine F.ok S (fun vs H Q E h => spF_len h) (fun cdv A outer s H vs Q E hr h => ?_)
  let X := (cxOf CX0 P w K mg base N qual (defScope st) f cdv A outer s H E).nox
  have B : Base X CX0 := ⟨rfl, S.nd, by have := hr.un; show (A.deeper _).units + 65 < cLine; omega, by have := hr.un; show (A.deeper _).units + 1 < cLine; omega, fun _ _ _ _ _ _ _ _ h => h.elim⟩
  obtain ⟨t, lt, pt⟩ := sndB B c ⟨defScope st, fun _ => true⟩ E (defBody st) hc (need X ⟨rfl, rfl, rfl, rfl, rfl, hr⟩)
  have hv := spF_len h
  refine ⟨t, pt ⟨X.s_0, X.H_0, X.env, X.outer, X.stack, X.ex, X.fn, X.pn, X.xe⟩ ⟨rfl, rfl⟩ (fun _ _ _ _ _ _ _ h => h.elim) PassesOwn.never, ?_⟩
  exact body_sound (X := X) (by omega) lt h hv
end L3
/-! L3G: recursion's floor; the law's end. -/
namespace L3
open PySem PySem.Spec PyProof.Rows L2
theorem fn_none {P : Program} {w : World} {K : PySem.W.Frag} {mg : Str → Option Value} {base : Heap} {CX : CXT} {k : Nat} {f : Addr} {fd : FuncData} {ps : List Str} : FnOk P w K mg base CX k f fd ps (spF mg K fun _ => none) :=
  ⟨fun _ _ _ _ ⟨_, _, _, _, _, h⟩ => h.elim, fun _ _ _ _ _ _ _ _ _ _ _ _ _ ⟨_, _, _, _, _, h⟩ => h.elim⟩
def spLaw (K : PySem.W.Frag) : Sp := fun vs H Q _ => ∃ (a : Addr) (ns : List Int), vs = [.ref a] ∧ ns.length ≤ 63 ∧ (∀ z ∈ ns, Builtin.Int.intBits z ≤ 1048576) ∧ SqL K H a (ns.map V.int) ∧ ∀ H', Q (.bl true) H'
theorem rpa_ints {K : PySem.W.Frag} {D : Hp} : ∀ ns : List Int, RpA K D (ns.map PyData.int) (ns.map V.int)
  | [] => .nil
  | n :: ns => .cons (.int n) (rpa_ints ns)
theorem law_end {P : Program} {w : World} {K : PySem.W.Frag} {mg : Str → Option Value} {base : Heap} {CX : CXT} {k : Nat} {f : Addr} {fd : FuncData} {ps : List Str} {F : Fn}
    (HL : ∀ ns : List Int, ns.length ≤ 63 → (∀ z ∈ ns, Builtin.Int.intBits z ≤ 1048576) → F [.v (.list (ns.map .int))] = some (.ret (.v (.bool true)) []))
    (o : FnOk P w K mg base CX k f fd ps (spF mg K F)) : FnOk P w K mg base CX k f fd ps (spLaw K) :=
  o.imp fun vs H Q E ⟨a, ns, e, h1, h2, h3, h4⟩ => by
    subst e
    refine ⟨H, [.v (.list (ns.map .int))], [], Le.refl H, .v (.lst h3 (rpa_ints ns)) .nil, ?_⟩
    rw [HL ns h1 h2]
    intro x D' H' _ _ r
    cases r
    exact h4 _
end L3
namespace G
open PySem PySem.Spec PyProof.Rows L2 L3
def topS (i : Nat) : Stmt := PySem.Challenge.pw_lotdraws_k56_whole_ranges_that_fail.main.body.getD i (.Pass ⟨0, 0, 0, 0⟩)
/-! _law_well -/
abbrev s__law_well : Stmt := topS 35
abbrev N__law_well : List Str := ["script", "lap", "stirred", "cell", "own"]
theorem sc__law_well : FnScope N__law_well ["script", "lap"] (defScope s__law_well) := ⟨rfl, rfl, rfl, by decide +kernel, rfl, by decide +kernel, by decide +kernel⟩
def c__law_well_1 : CS := (.for_ (.nm 3) (.seq (.sl (.var 0) .none (.some (.lit (.int 16))))) (.cons (.asg (.nm 2) (.bin .Mod (.bl .int (.cons (.bin .Add (.bin .Add (.bin .Mult (.var 2) (.lit (.int 48271))) (.bin .Mod (.bl .int (.cons (.var 3) .nil)) (.lit (.int 2147483549)))) (.lit (.int 23))) .nil)) (.lit (.int 2147483587)))) .nil))
def c__law_well : CB := (.cons (.asg (.nm 2) (.bin .Add (.lit (.int 704969)) (.bin .Mult (.lit (.int 6121)) (.var 1)))) (.cons c__law_well_1 (.cons (.asg (.nm 4) (.ifx (.cmp .Lt (.var 1) (.bl .len (.cons (.var 0) .nil))) (.bl .int (.cons (.ix (.var 0) (.var 1)) .nil)) (.lit (.int 0)))) (.cons (.asg (.nm 2) (.bin .Mod (.bl .int (.cons (.bin .Add (.bin .Add (.bin .Mult (.var 2) (.lit (.int 53))) (.bin .Mult (.bin .Mod (.bl .int (.cons (.var 4) .nil)) (.lit (.int 2147483549))) (.lit (.int 15013)))) (.lit (.int 11))) .nil)) (.lit (.int 2147483587)))) (.cons (.ret (.mls (.cons (.ifx (.or (.cons (.cmp .Lt (.var 4) (.lit (.int 0))) (.cons (.cmp .GtE (.var 4) (.bin .Pow (.lit (.int 10)) (.lit (.int 15)))) .nil))) (.bl .abs (.cons (.var 4) .nil)) (.lit (.int 0))) (.cons (.var 2) (.cons (.lit (.int 0)) .nil))))) .nil)))))
def F__law_well : Fn := runFn 2 5 c__law_well
theorem ch__law_well : chB N__law_well ⟨defScope s__law_well, fun _ => true⟩ c__law_well (defBody s__law_well) = true := by decide +kernel
/-! _law_draw -/
abbrev s__law_draw : Stmt := topS 36
abbrev N__law_draw : List Str := ["well", "limit", "mixed", "figure"]
theorem sc__law_draw : FnScope N__law_draw ["well", "limit"] (defScope s__law_draw) := ⟨rfl, rfl, rfl, by decide +kernel, rfl, by decide +kernel, by decide +kernel⟩
def c__law_draw : CB := (.cons (.ife (.cmp .Gt (.ix (.var 0) (.lit (.int 0))) (.lit (.int 0))) (.cons (.asg (.tp (.cons (.sb (.var 0) (.lit (.int 0))) (.cons (.nm 3) .nil))) (.bl .divmod (.cons (.ix (.var 0) (.lit (.int 0))) (.cons (.var 1) .nil)))) (.cons (.ret (.var 3)) .nil)) .nil) (.cons (.asg (.sb (.var 0) (.lit (.int 2))) (.bin .Add (.ix (.var 0) (.lit (.int 2))) (.lit (.int 1)))) (.cons (.asg (.nm 2) (.bin .Mod (.bl .int (.cons (.bin .Add (.bin .Add (.bin .Mult (.ix (.var 0) (.lit (.int 1))) (.lit (.int 40009))) (.bin .Mult (.lit (.int 15013)) (.ix (.var 0) (.lit (.int 2))))) (.lit (.int 3))) .nil)) (.lit (.int 2147483587)))) (.cons (.asg (.sb (.var 0) (.lit (.int 1))) (.bin .Mod (.bl .int (.cons (.bin .Add (.bin .Mult (.var 2) (.bin .Add (.bin .Mod (.bl .int (.cons (.var 2) .nil)) (.lit (.int 5003))) (.lit (.int 20011)))) (.ix (.var 0) (.lit (.int 2)))) .nil)) (.lit (.int 2147483587)))) (.cons (.ret (.bin .Mod (.bl .int (.cons (.bin .FloorDiv (.ix (.var 0) (.lit (.int 1))) (.lit (.int 1031))) .nil)) (.var 1))) .nil)))))
def F__law_draw : Fn := runFn 2 4 c__law_draw
theorem ch__law_draw : chB N__law_draw ⟨defScope s__law_draw, fun _ => true⟩ c__law_draw (defBody s__law_draw) = true := by decide +kernel
/-! _law_divisor -/
abbrev s__law_divisor : Stmt := topS 40
abbrev N__law_divisor : List Str := ["one", "two"]
theorem sc__law_divisor : FnScope N__law_divisor ["one", "two"] (defScope s__law_divisor) := ⟨rfl, rfl, rfl, by decide +kernel, rfl, by decide +kernel, by decide +kernel⟩
def c__law_divisor_1 : CS := (.whl (.cmp .Gt (.var 1) (.lit (.int 0))) (.cons (.asgs (.cons (.nm 0) (.cons (.nm 1) .nil)) (.cons (.var 1) (.cons (.bin .Mod (.bl .int (.cons (.var 0) .nil)) (.var 1)) .nil))) .nil))
def c__law_divisor : CB := (.cons c__law_divisor_1 (.cons (.ret (.var 0)) .nil))
def F__law_divisor : Fn := runFn 2 2 c__law_divisor
theorem ch__law_divisor : chB N__law_divisor ⟨defScope s__law_divisor, fun _ => true⟩ c__law_divisor (defBody s__law_divisor) = true := by decide +kernel
/-! _law_frac -/
abbrev s__law_frac : Stmt := topS 41
abbrev N__law_frac : List Str := ["n", "m", "by"]
theorem sc__law_frac : FnScope N__law_frac ["n", "m"] (defScope s__law_frac) := ⟨rfl, rfl, rfl, by decide +kernel, rfl, by decide +kernel, by decide +kernel⟩
def c__law_frac : CB := (.cons (.asg (.nm 2) (.fn F__law_divisor "_law_divisor" (.cons (.bl .abs (.cons (.var 0) .nil)) (.cons (.var 1) .nil)))) (.cons (.ret (.tup (.cons (.bin .FloorDiv (.var 0) (.var 2)) (.cons (.bin .FloorDiv (.var 1) (.var 2)) .nil)))) .nil))
def F__law_frac : Fn := runFn 2 3 c__law_frac
theorem ch__law_frac : chB N__law_frac ⟨defScope s__law_frac, fun _ => true⟩ c__law_frac (defBody s__law_frac) = true := by decide +kernel
/-! is_whole -/
abbrev s_is_whole : Stmt := topS 6
abbrev N_is_whole : List Str := ["value"]
theorem sc_is_whole : FnScope N_is_whole ["value"] (defScope s_is_whole) := ⟨rfl, rfl, rfl, by decide +kernel, rfl, by decide +kernel, by decide +kernel⟩
def c_is_whole : CB := (.cons (.ret (.and (.cons (.isi (.var 0) .int) (.cons (.no (.isi (.var 0) .bool)) .nil)))) .nil)
def F_is_whole : Fn := runFn 1 1 c_is_whole
theorem ch_is_whole : chB N_is_whole ⟨defScope s_is_whole, fun _ => true⟩ c_is_whole (defBody s_is_whole) = true := by decide +kernel
/-! is_between -/
abbrev s_is_between : Stmt := topS 7
abbrev N_is_between : List Str := ["value", "least", "most"]
theorem sc_is_between : FnScope N_is_between ["value", "least", "most"] (defScope s_is_between) := ⟨rfl, rfl, rfl, by decide +kernel, rfl, by decide +kernel, by decide +kernel⟩
def c_is_between : CB := (.cons (.ret (.and (.cons (.fn F_is_whole "is_whole" (.cons (.var 0) .nil)) (.cons (.chn .LtE .LtE (.var 1) (.var 0) (.var 2)) .nil)))) .nil)
def F_is_between : Fn := runFn 3 3 c_is_between
theorem ch_is_between : chB N_is_between ⟨defScope s_is_between, fun _ => true⟩ c_is_between (defBody s_is_between) = true := by decide +kernel
/-! check_number -/
abbrev s_check_number : Stmt := topS 19
abbrev N_check_number : List Str := ["number", "least", "most"]
theorem sc_check_number : FnScope N_check_number ["number", "least", "most"] (defScope s_check_number) := ⟨rfl, rfl, rfl, by decide +kernel, rfl, by decide +kernel, by decide +kernel⟩
def c_check_number : CB := (.cons (.ife (.no (.fn F_is_between "is_between" (.cons (.var 0) (.cons (.var 1) (.cons (.var 2) .nil))))) (.cons .nev .nil) .nil) .nil)
def F_check_number : Fn := runFn 3 3 c_check_number
theorem ch_check_number : chB N_check_number ⟨defScope s_check_number, fun _ => true⟩ c_check_number (defBody s_check_number) = true := by decide +kernel
/-! check_size -/
abbrev s_check_size : Stmt := topS 20
abbrev N_check_size : List Str := ["size"]
theorem sc_check_size : FnScope N_check_size ["size"] (defScope s_check_size) := ⟨rfl, rfl, rfl, by decide +kernel, rfl, by decide +kernel, by decide +kernel⟩
def c_check_size : CB := (.cons (.exp (.fn F_check_number "check_number" (.cons (.var 0) (.cons (.lit (.int 1)) (.cons (.glo "MOST_SIZE" (.int 40)) .nil))))) .nil)
def F_check_size : Fn := runFn 1 1 c_check_size
theorem ch_check_size : chB N_check_size ⟨defScope s_check_size, fun _ => true⟩ c_check_size (defBody s_check_size) = true := by decide +kernel
/-! check_found -/
abbrev s_check_found : Stmt := topS 30
abbrev N_check_found : List Str := ["size", "drawn", "found"]
theorem sc_check_found : FnScope N_check_found ["size", "drawn", "found"] (defScope s_check_found) := ⟨rfl, rfl, rfl, by decide +kernel, rfl, by decide +kernel, by decide +kernel⟩
def c_check_found : CB := (.cons (.exp (.fn F_check_size "check_size" (.cons (.var 0) .nil))) (.cons (.exp (.fn F_check_number "check_number" (.cons (.var 1) (.cons (.lit (.int 1)) (.cons (.var 0) .nil))))) (.cons (.exp (.fn F_check_number "check_number" (.cons (.var 2) (.cons (.lit (.int 0)) (.cons (.var 1) .nil))))) .nil)))
def F_check_found : Fn := runFn 3 3 c_check_found
theorem ch_check_found : chB N_check_found ⟨defScope s_check_found, fun _ => true⟩ c_check_found (defBody s_check_found) = true := by decide +kernel
/-! is_tuple_of -/
abbrev s_is_tuple_of : Stmt := topS 8
abbrev N_is_tuple_of : List Str := ["value", "many"]
theorem sc_is_tuple_of : FnScope N_is_tuple_of ["value", "many"] (defScope s_is_tuple_of) := ⟨rfl, rfl, rfl, by decide +kernel, rfl, by decide +kernel, by decide +kernel⟩
def c_is_tuple_of : CB := (.cons (.ret (.and (.cons (.isi (.var 0) .tuple) (.cons (.cmp .Eq (.bl .len (.cons (.var 0) .nil)) (.var 1)) .nil)))) .nil)
def F_is_tuple_of : Fn := runFn 2 2 c_is_tuple_of
theorem ch_is_tuple_of : chB N_is_tuple_of ⟨defScope s_is_tuple_of, fun _ => true⟩ c_is_tuple_of (defBody s_is_tuple_of) = true := by decide +kernel
/-! is_pair -/
abbrev s_is_pair : Stmt := topS 9
abbrev N_is_pair : List Str := ["value"]
theorem sc_is_pair : FnScope N_is_pair ["value"] (defScope s_is_pair) := ⟨rfl, rfl, rfl, by decide +kernel, rfl, by decide +kernel, by decide +kernel⟩
def c_is_pair : CB := (.cons (.ret (.fn F_is_tuple_of "is_tuple_of" (.cons (.var 0) (.cons (.lit (.int 2)) .nil)))) .nil)
def F_is_pair : Fn := runFn 1 1 c_is_pair
theorem ch_is_pair : chB N_is_pair ⟨defScope s_is_pair, fun _ => true⟩ c_is_pair (defBody s_is_pair) = true := by decide +kernel
/-! is_fraction -/
abbrev s_is_fraction : Stmt := topS 14
abbrev N_is_fraction : List Str := ["value", "each"]
theorem sc_is_fraction : FnScope N_is_fraction ["value"] (defScope s_is_fraction) := ⟨rfl, rfl, rfl, by decide +kernel, rfl, by decide +kernel, by decide +kernel⟩
def c_is_fraction_1 : CE := (.lc (.nm 1) (.seq (.var 0)) (.lit (.bool true)) (.fn F_is_whole "is_whole" (.cons (.var 1) .nil)) [1])
def c_is_fraction : CB := (.cons (.ife (.or (.cons (.no (.fn F_is_pair "is_pair" (.cons (.var 0) .nil))) (.cons (.no (.bl .all (.cons c_is_fraction_1 .nil))) .nil))) (.cons (.ret (.lit (.bool false))) .nil) .nil) (.cons (.ret (.and (.cons (.cmp .Gt (.ix (.var 0) (.lit (.int 1))) (.lit (.int 0))) (.cons (.cmp .Eq (.bl .gcd (.cons (.ix (.var 0) (.lit (.int 0))) (.cons (.ix (.var 0) (.lit (.int 1))) .nil))) (.lit (.int 1))) .nil)))) .nil))
def F_is_fraction : Fn := runFn 1 2 c_is_fraction
theorem ch_is_fraction : chB N_is_fraction ⟨defScope s_is_fraction, fun _ => true⟩ c_is_fraction (defBody s_is_fraction) = true := by decide +kernel
/-! is_part -/
abbrev s_is_part : Stmt := topS 16
abbrev N_is_part : List Str := ["value"]
theorem sc_is_part : FnScope N_is_part ["value"] (defScope s_is_part) := ⟨rfl, rfl, rfl, by decide +kernel, rfl, by decide +kernel, by decide +kernel⟩
def c_is_part : CB := (.cons (.ret (.and (.cons (.fn F_is_fraction "is_fraction" (.cons (.var 0) .nil)) (.cons (.chn .LtE .LtE (.lit (.int 0)) (.ix (.var 0) (.lit (.int 0))) (.ix (.var 0) (.lit (.int 1)))) .nil)))) .nil)
def F_is_part : Fn := runFn 1 1 c_is_part
theorem ch_is_part : chB N_is_part ⟨defScope s_is_part, fun _ => true⟩ c_is_part (defBody s_is_part) = true := by decide +kernel
/-! check_level -/
abbrev s_check_level : Stmt := topS 31
abbrev N_check_level : List Str := ["level"]
theorem sc_check_level : FnScope N_check_level ["level"] (defScope s_check_level) := ⟨rfl, rfl, rfl, by decide +kernel, rfl, by decide +kernel, by decide +kernel⟩
def c_check_level : CB := (.cons (.ife (.or (.cons (.no (.fn F_is_part "is_part" (.cons (.var 0) .nil))) (.cons (.cmp .In (.var 0) (.tup (.cons (.glo "NOTHING" (.tuple [(.int 0), (.int 1)])) (.cons (.glo "WHOLE" (.tuple [(.int 1), (.int 1)])) .nil)))) .nil))) (.cons .nev .nil) .nil) .nil)
def F_check_level : Fn := runFn 1 1 c_check_level
theorem ch_check_level : chB N_check_level ⟨defScope s_check_level, fun _ => true⟩ c_check_level (defBody s_check_level) = true := by decide +kernel
/-! is_less -/
abbrev s_is_less : Stmt := topS 15
abbrev N_is_less : List Str := ["one", "two"]
theorem sc_is_less : FnScope N_is_less ["one", "two"] (defScope s_is_less) := ⟨rfl, rfl, rfl, by decide +kernel, rfl, by decide +kernel, by decide +kernel⟩
def c_is_less : CB := (.cons (.ret (.cmp .Lt (.bin .Mult (.ix (.var 0) (.lit (.int 0))) (.ix (.var 1) (.lit (.int 1)))) (.bin .Mult (.ix (.var 1) (.lit (.int 0))) (.ix (.var 0) (.lit (.int 1)))))) .nil)
def F_is_less : Fn := runFn 2 2 c_is_less
theorem ch_is_less : chB N_is_less ⟨defScope s_is_less, fun _ => true⟩ c_is_less (defBody s_is_less) = true := by decide +kernel
/-! ways_of -/
abbrev s_ways_of : Stmt := topS 22
abbrev N_ways_of : List Str := ["many", "some", "found", "at"]
theorem sc_ways_of : FnScope N_ways_of ["many", "some"] (defScope s_ways_of) := ⟨rfl, rfl, rfl, by decide +kernel, rfl, by decide +kernel, by decide +kernel⟩
def c_ways_of_1 : CS := (.for_ (.nm 3) (.rng1 (.var 1)) (.cons (.asg (.nm 2) (.bin .FloorDiv (.bin .Mult (.var 2) (.bin .Sub (.var 0) (.var 3))) (.bin .Add (.var 3) (.lit (.int 1))))) .nil))
def c_ways_of : CB := (.cons (.asg (.nm 2) (.lit (.int 1))) (.cons c_ways_of_1 (.cons (.ret (.var 2)) .nil)))
def F_ways_of : Fn := runFn 2 4 c_ways_of
theorem ch_ways_of : chB N_ways_of ⟨defScope s_ways_of, fun _ => true⟩ c_ways_of (defBody s_ways_of) = true := by decide +kernel
/-! ways_found -/
abbrev s_ways_found : Stmt := topS 24
abbrev N_ways_found : List Str := ["size", "bad", "drawn", "found", "left"]
theorem sc_ways_found : FnScope N_ways_found ["size", "bad", "drawn", "found"] (defScope s_ways_found) := ⟨rfl, rfl, rfl, by decide +kernel, rfl, by decide +kernel, by decide +kernel⟩
def c_ways_found : CB := (.cons (.asg (.nm 4) (.bin .Sub (.var 2) (.var 3))) (.cons (.ife (.or (.cons (.cmp .Gt (.var 3) (.var 1)) (.cons (.cmp .Gt (.var 4) (.bin .Sub (.var 0) (.var 1))) .nil))) (.cons (.ret (.lit (.int 0))) .nil) .nil) (.cons (.ret (.bin .Mult (.fn F_ways_of "ways_of" (.cons (.var 1) (.cons (.var 3) .nil))) (.fn F_ways_of "ways_of" (.cons (.bin .Sub (.var 0) (.var 1)) (.cons (.var 4) .nil))))) .nil)))
def F_ways_found : Fn := runFn 4 5 c_ways_found
theorem ch_ways_found : chB N_ways_found ⟨defScope s_ways_found, fun _ => true⟩ c_ways_found (defBody s_ways_found) = true := by decide +kernel
/-! lowest -/
abbrev s_lowest : Stmt := topS 13
abbrev N_lowest : List Str := ["one", "two", "common"]
theorem sc_lowest : FnScope N_lowest ["one", "two"] (defScope s_lowest) := ⟨rfl, rfl, rfl, by decide +kernel, rfl, by decide +kernel, by decide +kernel⟩
def c_lowest : CB := (.cons (.asg (.nm 2) (.ifx (.cmp .Gt (.var 1) (.lit (.int 0))) (.bl .gcd (.cons (.var 0) (.cons (.var 1) .nil))) (.neg (.bl .gcd (.cons (.var 0) (.cons (.var 1) .nil)))))) (.cons (.ret (.tup (.cons (.bin .FloorDiv (.var 0) (.var 2)) (.cons (.bin .FloorDiv (.var 1) (.var 2)) .nil)))) .nil))
def F_lowest : Fn := runFn 2 3 c_lowest
theorem ch_lowest : chB N_lowest ⟨defScope s_lowest, fun _ => true⟩ c_lowest (defBody s_lowest) = true := by decide +kernel
/-! chance_from -/
abbrev s_chance_from : Stmt := topS 27
abbrev N_chance_from : List Str := ["size", "bad", "drawn", "found", "some", "each"]
theorem sc_chance_from : FnScope N_chance_from ["size", "bad", "drawn", "found"] (defScope s_chance_from) := ⟨rfl, rfl, rfl, by decide +kernel, rfl, by decide +kernel, by decide +kernel⟩
def c_chance_from_1 : CE := (.lc (.nm 5) (.rng2 (.var 3) (.bin .Add (.var 2) (.lit (.int 1)))) (.lit (.bool true)) (.fn F_ways_found "ways_found" (.cons (.var 0) (.cons (.var 1) (.cons (.var 2) (.cons (.var 5) .nil))))) [5])
def c_chance_from : CB := (.cons (.asg (.nm 4) (.bl .sum (.cons c_chance_from_1 .nil))) (.cons (.ret (.fn F_lowest "lowest" (.cons (.var 4) (.cons (.fn F_ways_of "ways_of" (.cons (.var 0) (.cons (.var 2) .nil))) .nil)))) .nil))
def F_chance_from : Fn := runFn 4 6 c_chance_from
theorem ch_chance_from : chB N_chance_from ⟨defScope s_chance_from, fun _ => true⟩ c_chance_from (defBody s_chance_from) = true := by decide +kernel
/-! chance_up_to -/
abbrev s_chance_up_to : Stmt := topS 26
abbrev N_chance_up_to : List Str := ["size", "bad", "drawn", "found", "some", "each"]
theorem sc_chance_up_to : FnScope N_chance_up_to ["size", "bad", "drawn", "found"] (defScope s_chance_up_to) := ⟨rfl, rfl, rfl, by decide +kernel, rfl, by decide +kernel, by decide +kernel⟩
def c_chance_up_to_1 : CE := (.lc (.nm 5) (.rng1 (.bin .Add (.var 3) (.lit (.int 1)))) (.lit (.bool true)) (.fn F_ways_found "ways_found" (.cons (.var 0) (.cons (.var 1) (.cons (.var 2) (.cons (.var 5) .nil))))) [5])
def c_chance_up_to : CB := (.cons (.asg (.nm 4) (.bl .sum (.cons c_chance_up_to_1 .nil))) (.cons (.ret (.fn F_lowest "lowest" (.cons (.var 4) (.cons (.fn F_ways_of "ways_of" (.cons (.var 0) (.cons (.var 2) .nil))) .nil)))) .nil))
def F_chance_up_to : Fn := runFn 4 6 c_chance_up_to
theorem ch_chance_up_to : chB N_chance_up_to ⟨defScope s_chance_up_to, fun _ => true⟩ c_chance_up_to (defBody s_chance_up_to) = true := by decide +kernel
/-! range_by -/
abbrev s_range_by : Stmt := topS 28
abbrev N_range_by : List Str := ["size", "drawn", "found", "level", "rows", "least", "bad"]
theorem sc_range_by : FnScope N_range_by ["size", "drawn", "found", "level"] (defScope s_range_by) := ⟨rfl, rfl, rfl, by decide +kernel, rfl, by decide +kernel, by decide +kernel⟩
def c_range_by_1 : CE := (.lc (.nm 6) (.seq (.var 4)) (.no (.fn F_is_less "is_less" (.cons (.fn F_chance_from "chance_from" (.cons (.var 0) (.cons (.var 6) (.cons (.var 1) (.cons (.var 2) .nil))))) (.cons (.var 3) .nil)))) (.var 6) [6])
def c_range_by_2 : CE := (.lc (.nm 6) (.seq (.var 4)) (.no (.fn F_is_less "is_less" (.cons (.fn F_chance_up_to "chance_up_to" (.cons (.var 0) (.cons (.var 6) (.cons (.var 1) (.cons (.var 2) .nil))))) (.cons (.var 3) .nil)))) (.var 6) [6])
def c_range_by : CB := (.cons (.asg (.nm 4) (.rgl false (.bin .Add (.var 0) (.lit (.int 1))))) (.cons (.asg (.nm 5) (.bl .min (.cons c_range_by_1 .nil))) (.cons (.ret (.tup (.cons (.var 5) (.cons (.bl .max (.cons c_range_by_2 .nil)) .nil)))) .nil)))
def F_range_by : Fn := runFn 4 7 c_range_by
theorem ch_range_by : chB N_range_by ⟨defScope s_range_by, fun _ => true⟩ c_range_by (defBody s_range_by) = true := by decide +kernel
/-! range_of -/
abbrev s_range_of : Stmt := topS 33
abbrev N_range_of : List Str := ["size", "drawn", "found", "level"]
theorem sc_range_of : FnScope N_range_of ["size", "drawn", "found", "level"] (defScope s_range_of) := ⟨rfl, rfl, rfl, by decide +kernel, rfl, by decide +kernel, by decide +kernel⟩
def c_range_of : CB := (.cons (.exp (.fn F_check_found "check_found" (.cons (.var 0) (.cons (.var 1) (.cons (.var 2) .nil))))) (.cons (.exp (.fn F_check_level "check_level" (.cons (.var 3) .nil))) (.cons (.ret (.fn F_range_by "range_by" (.cons (.var 0) (.cons (.var 1) (.cons (.var 2) (.cons (.var 3) .nil)))))) .nil)))
def F_range_of : Fn := runFn 4 4 c_range_of
theorem ch_range_of : chB N_range_of ⟨defScope s_range_of, fun _ => true⟩ c_range_of (defBody s_range_of) = true := by decide +kernel
/-! _law_is_row -/
abbrev s__law_is_row : Stmt := topS 39
abbrev N__law_is_row : List Str := ["value", "few", "most"]
theorem sc__law_is_row : FnScope N__law_is_row ["value", "few", "most"] (defScope s__law_is_row) := ⟨rfl, rfl, rfl, by decide +kernel, rfl, by decide +kernel, by decide +kernel⟩
def c__law_is_row : CB := (.cons (.ret (.and (.cons (.isi (.var 0) .tuple) (.cons (.chn .LtE .LtE (.var 1) (.bl .len (.cons (.var 0) .nil)) (.var 2)) .nil)))) .nil)
def F__law_is_row : Fn := runFn 3 3 c__law_is_row
theorem ch__law_is_row : chB N__law_is_row ⟨defScope s__law_is_row, fun _ => true⟩ c__law_is_row (defBody s__law_is_row) = true := by decide +kernel
/-! _law_is_number -/
abbrev s__law_is_number : Stmt := topS 38
abbrev N__law_is_number : List Str := ["value", "low", "high"]
theorem sc__law_is_number : FnScope N__law_is_number ["value", "low", "high"] (defScope s__law_is_number) := ⟨rfl, rfl, rfl, by decide +kernel, rfl, by decide +kernel, by decide +kernel⟩
def c__law_is_number : CB := (.cons (.ret (.and (.cons (.isi (.var 0) .int) (.cons (.no (.isi (.var 0) .bool)) (.cons (.chn .LtE .LtE (.var 1) (.var 0) (.var 2)) .nil))))) .nil)
def F__law_is_number : Fn := runFn 3 3 c__law_is_number
theorem ch__law_is_number : chB N__law_is_number ⟨defScope s__law_is_number, fun _ => true⟩ c__law_is_number (defBody s__law_is_number) = true := by decide +kernel
/-! _law_ways -/
abbrev s__law_ways : Stmt := topS 46
abbrev N__law_ways : List Str := ["many", "some", "found", "k"]
theorem sc__law_ways : FnScope N__law_ways ["many", "some"] (defScope s__law_ways) := ⟨rfl, rfl, rfl, by decide +kernel, rfl, by decide +kernel, by decide +kernel⟩
def c__law_ways_1 : CS := (.for_ (.nm 3) (.rng1 (.var 1)) (.cons (.asg (.nm 2) (.bin .FloorDiv (.bin .Mult (.var 2) (.bin .Sub (.var 0) (.var 3))) (.bin .Add (.var 3) (.lit (.int 1))))) .nil))
def c__law_ways : CB := (.cons (.asg (.nm 2) (.lit (.int 1))) (.cons (.ife (.or (.cons (.cmp .Lt (.var 1) (.lit (.int 0))) (.cons (.cmp .Gt (.var 1) (.var 0)) .nil))) (.cons (.ret (.lit (.int 0))) .nil) .nil) (.cons c__law_ways_1 (.cons (.ret (.var 2)) .nil))))
def F__law_ways : Fn := runFn 2 4 c__law_ways
theorem ch__law_ways : chB N__law_ways ⟨defScope s__law_ways, fun _ => true⟩ c__law_ways (defBody s__law_ways) = true := by decide +kernel
/-! _law_found -/
abbrev s__law_found : Stmt := topS 47
abbrev N__law_found : List Str := ["size", "bad", "drawn", "found"]
theorem sc__law_found : FnScope N__law_found ["size", "bad", "drawn", "found"] (defScope s__law_found) := ⟨rfl, rfl, rfl, by decide +kernel, rfl, by decide +kernel, by decide +kernel⟩
def c__law_found : CB := (.cons (.ret (.fn F__law_frac "_law_frac" (.cons (.bin .Mult (.fn F__law_ways "_law_ways" (.cons (.var 1) (.cons (.var 3) .nil))) (.fn F__law_ways "_law_ways" (.cons (.bin .Sub (.var 0) (.var 1)) (.cons (.bin .Sub (.var 2) (.var 3)) .nil)))) (.cons (.fn F__law_ways "_law_ways" (.cons (.var 0) (.cons (.var 2) .nil))) .nil)))) .nil)
def F__law_found : Fn := runFn 4 4 c__law_found
theorem ch__law_found : chB N__law_found ⟨defScope s__law_found, fun _ => true⟩ c__law_found (defBody s__law_found) = true := by decide +kernel
/-! _law_below -/
abbrev s__law_below : Stmt := topS 44
abbrev N__law_below : List Str := ["a", "b"]
theorem sc__law_below : FnScope N__law_below ["a", "b"] (defScope s__law_below) := ⟨rfl, rfl, rfl, by decide +kernel, rfl, by decide +kernel, by decide +kernel⟩
def c__law_below : CB := (.cons (.ret (.cmp .Lt (.bin .Mult (.ix (.var 0) (.lit (.int 0))) (.ix (.var 1) (.lit (.int 1)))) (.bin .Mult (.ix (.var 1) (.lit (.int 0))) (.ix (.var 0) (.lit (.int 1)))))) .nil)
def F__law_below : Fn := runFn 2 2 c__law_below
theorem ch__law_below : chB N__law_below ⟨defScope s__law_below, fun _ => true⟩ c__law_below (defBody s__law_below) = true := by decide +kernel
/-! _law_add -/
abbrev s__law_add : Stmt := topS 42
abbrev N__law_add : List Str := ["a", "b"]
theorem sc__law_add : FnScope N__law_add ["a", "b"] (defScope s__law_add) := ⟨rfl, rfl, rfl, by decide +kernel, rfl, by decide +kernel, by decide +kernel⟩
def c__law_add : CB := (.cons (.ret (.fn F__law_frac "_law_frac" (.cons (.bin .Add (.bin .Mult (.ix (.var 0) (.lit (.int 0))) (.ix (.var 1) (.lit (.int 1)))) (.bin .Mult (.ix (.var 1) (.lit (.int 0))) (.ix (.var 0) (.lit (.int 1))))) (.cons (.bin .Mult (.ix (.var 0) (.lit (.int 1))) (.ix (.var 1) (.lit (.int 1)))) .nil)))) .nil)
def F__law_add : Fn := runFn 2 2 c__law_add
theorem ch__law_add : chB N__law_add ⟨defScope s__law_add, fun _ => true⟩ c__law_add (defBody s__law_add) = true := by decide +kernel
/-! _law_sum -/
abbrev s__law_sum : Stmt := topS 45
abbrev N__law_sum : List Str := ["values", "found", "value"]
theorem sc__law_sum : FnScope N__law_sum ["values"] (defScope s__law_sum) := ⟨rfl, rfl, rfl, by decide +kernel, rfl, by decide +kernel, by decide +kernel⟩
def c__law_sum_1 : CS := (.for_ (.nm 2) (.seq (.var 0)) (.cons (.asg (.nm 1) (.fn F__law_add "_law_add" (.cons (.var 1) (.cons (.var 2) .nil)))) .nil))
def c__law_sum : CB := (.cons (.asg (.nm 1) (.tup (.cons (.lit (.int 0)) (.cons (.lit (.int 1)) .nil)))) (.cons c__law_sum_1 (.cons (.ret (.var 1)) .nil)))
def F__law_sum : Fn := runFn 1 3 c__law_sum
theorem ch__law_sum : chB N__law_sum ⟨defScope s__law_sum, fun _ => true⟩ c__law_sum (defBody s__law_sum) = true := by decide +kernel
/-! _law_times -/
abbrev s__law_times : Stmt := topS 43
abbrev N__law_times : List Str := ["a", "b"]
theorem sc__law_times : FnScope N__law_times ["a", "b"] (defScope s__law_times) := ⟨rfl, rfl, rfl, by decide +kernel, rfl, by decide +kernel, by decide +kernel⟩
def c__law_times : CB := (.cons (.ret (.fn F__law_frac "_law_frac" (.cons (.bin .Mult (.ix (.var 0) (.lit (.int 0))) (.ix (.var 1) (.lit (.int 0)))) (.cons (.bin .Mult (.ix (.var 0) (.lit (.int 1))) (.ix (.var 1) (.lit (.int 1)))) .nil)))) .nil)
def F__law_times : Fn := runFn 2 2 c__law_times
theorem ch__law_times : chB N__law_times ⟨defScope s__law_times, fun _ => true⟩ c__law_times (defBody s__law_times) = true := by decide +kernel
/-! _law_same -/
abbrev s__law_same : Stmt := topS 37
abbrev N__law_same : List Str := ["one", "two", "alike", "k"]
theorem sc__law_same : FnScope N__law_same ["one", "two"] (defScope s__law_same) := ⟨rfl, rfl, rfl, by decide +kernel, rfl, by decide +kernel, by decide +kernel⟩
def c__law_same_1 (self : Fn) : CE := (.lc (.nm 3) (.rng1 (.bl .len (.cons (.var 1) .nil))) (.lit (.bool true)) (.fn self "_law_same" (.cons (.ix (.var 0) (.var 3)) (.cons (.ix (.var 1) (.var 3)) .nil))) [3])
def c__law_same (self : Fn) : CB := (.cons (.ife (.isi (.var 1) .tuple) (.cons (.ife (.or (.cons (.no (.isi (.var 0) .tuple)) (.cons (.cmp .NotEq (.bl .len (.cons (.var 0) .nil)) (.bl .len (.cons (.var 1) .nil))) .nil))) (.cons (.ret (.lit (.bool false))) .nil) .nil) (.cons (.ret (.bl .all (.cons (c__law_same_1 self) .nil))) .nil)) .nil) (.cons (.ife (.isi (.var 1) .bool) (.cons (.ret (.and (.cons (.isi (.var 0) .bool) (.cons (.cmp .Eq (.var 0) (.var 1)) .nil)))) .nil) .nil) (.cons (.ife (.isi (.var 1) .int) (.cons (.ret (.and (.cons (.isi (.var 0) .int) (.cons (.no (.isi (.var 0) .bool)) (.cons (.cmp .Eq (.var 0) (.var 1)) .nil))))) .nil) .nil) (.cons (.ife (.isi (.var 1) .str) (.cons (.ret (.and (.cons (.isi (.var 0) .str) (.cons (.cmp .Eq (.var 0) (.var 1)) .nil)))) .nil) .nil) (.cons (.ife (.cmp .Is (.var 1) (.lit .none)) (.cons (.ret (.cmp .Is (.var 0) (.lit .none))) .nil) .nil) (.cons (.asg (.nm 2) (.and (.cons (.cmp .Eq (.isi (.var 0) .list) (.isi (.var 1) .list)) (.cons (.cmp .Eq (.isi (.var 0) .dict) (.isi (.var 1) .dict)) .nil)))) (.cons (.ret (.and (.cons (.var 2) (.cons (.no (.isi (.var 0) .tuple)) (.cons (.cmp .Is (.cmp .Eq (.var 0) (.var 1)) (.lit (.bool true))) .nil))))) .nil)))))))
def F__law_same : Nat → Fn
  | 0 => fun _ => none
  | d + 1 => runFn 2 4 (c__law_same (F__law_same d))
theorem ch__law_same (self : Fn) : chB N__law_same ⟨defScope s__law_same, fun _ => true⟩ (c__law_same self) (defBody s__law_same) = true := by kernel_rfl
/-! can_be_by -/
abbrev s_can_be_by : Stmt := topS 25
abbrev N_can_be_by : List Str := ["size", "drawn", "found"]
theorem sc_can_be_by : FnScope N_can_be_by ["size", "drawn", "found"] (defScope s_can_be_by) := ⟨rfl, rfl, rfl, by decide +kernel, rfl, by decide +kernel, by decide +kernel⟩
def c_can_be_by : CB := (.cons (.ret (.tup (.cons (.var 2) (.cons (.bin .Add (.bin .Sub (.var 0) (.var 1)) (.var 2)) .nil)))) .nil)
def F_can_be_by : Fn := runFn 3 3 c_can_be_by
theorem ch_can_be_by : chB N_can_be_by ⟨defScope s_can_be_by, fun _ => true⟩ c_can_be_by (defBody s_can_be_by) = true := by decide +kernel
/-! can_be -/
abbrev s_can_be : Stmt := topS 32
abbrev N_can_be : List Str := ["size", "drawn", "found"]
theorem sc_can_be : FnScope N_can_be ["size", "drawn", "found"] (defScope s_can_be) := ⟨rfl, rfl, rfl, by decide +kernel, rfl, by decide +kernel, by decide +kernel⟩
def c_can_be : CB := (.cons (.exp (.fn F_check_found "check_found" (.cons (.var 0) (.cons (.var 1) (.cons (.var 2) .nil))))) (.cons (.ret (.fn F_can_be_by "can_be_by" (.cons (.var 0) (.cons (.var 1) (.cons (.var 2) .nil))))) .nil))
def F_can_be : Fn := runFn 3 3 c_can_be
theorem ch_can_be : chB N_can_be ⟨defScope s_can_be, fun _ => true⟩ c_can_be (defBody s_can_be) = true := by decide +kernel
/-! _law_right -/
abbrev s__law_right : Stmt := topS 48
abbrev N__law_right : List Str := ["well", "size", "level", "ranges", "bad", "found", "drawn", "m", "missed", "low", "most", "row", "each"]
theorem sc__law_right : FnScope N__law_right ["well"] (defScope s__law_right) := ⟨rfl, rfl, rfl, by decide +kernel, rfl, by decide +kernel, by decide +kernel⟩
def c__law_right_1 : CE := (.lc (.nm 5) (.rng1 (.bin .Add (.var 6) (.lit (.int 1)))) (.lit (.bool true)) (.fn F_range_of "range_of" (.cons (.var 1) (.cons (.var 6) (.cons (.var 5) (.cons (.var 2) .nil))))) [5])
def c__law_right_2 : CE := (.lc (.nm 12) (.seq (.var 11)) (.lit (.bool true)) (.fn F__law_is_number "_law_is_number" (.cons (.var 12) (.cons (.lit (.int 0)) (.cons (.var 1) .nil)))) [12])
def c__law_right_3 : CE := (.lc (.nm 11) (.seq (.var 3)) (.lit (.bool true)) (.and (.cons (.fn F__law_is_row "_law_is_row" (.cons (.var 11) (.cons (.lit (.int 2)) (.cons (.lit (.int 2)) .nil)))) (.cons (.bl .all (.cons c__law_right_2 .nil)) .nil))) [11])
def c__law_right_4 : CE := (.lc (.nm 5) (.rng1 (.bin .Add (.var 6) (.lit (.int 1)))) (.no (.chn .LtE .LtE (.ix (.ix (.var 3) (.var 5)) (.lit (.int 0))) (.var 4) (.ix (.ix (.var 3) (.var 5)) (.lit (.int 1))))) (.fn F__law_found "_law_found" (.cons (.var 1) (.cons (.var 4) (.cons (.var 6) (.cons (.var 5) .nil))))) [5])
def c__law_right_5 : CS := (.for_ (.nm 4) (.rng1 (.bin .Add (.var 1) (.lit (.int 1)))) (.cons (.asg (.nm 8) c__law_right_4) (.cons (.ife (.no (.fn F__law_below "_law_below" (.cons (.fn F__law_sum "_law_sum" (.cons (.var 8) .nil)) (.cons (.fn F__law_times "_law_times" (.cons (.tup (.cons (.lit (.int 2)) (.cons (.lit (.int 1)) .nil))) (.cons (.var 2) .nil))) .nil)))) (.cons (.ret (.lit (.bool false))) .nil) .nil) .nil)))
def c__law_right_6 : CS := (.for_ (.nm 5) (.rng1 (.bin .Add (.var 6) (.lit (.int 1)))) (.cons (.asg (.tp (.cons (.nm 9) (.cons (.nm 10) .nil))) (.ix (.var 3) (.var 5))) (.cons (.ife (.and (.cons (.cmp .Gt (.var 5) (.lit (.int 0))) (.cons (.or (.cons (.cmp .Lt (.var 9) (.ix (.ix (.var 3) (.bin .Sub (.var 5) (.lit (.int 1)))) (.lit (.int 0)))) (.cons (.cmp .Lt (.var 10) (.ix (.ix (.var 3) (.bin .Sub (.var 5) (.lit (.int 1)))) (.lit (.int 1)))) .nil))) .nil))) (.cons (.ret (.lit (.bool false))) .nil) .nil) (.cons (.ife (.no (.fn (F__law_same 8) "_law_same" (.cons (.ix (.var 3) (.bin .Sub (.var 6) (.var 5))) (.cons (.tup (.cons (.bin .Sub (.var 1) (.var 10)) (.cons (.bin .Sub (.var 1) (.var 9)) .nil))) .nil)))) (.cons (.ret (.lit (.bool false))) .nil) .nil) .nil))))
def c__law_right : CB := (.cons (.asg (.nm 1) (.bin .Add (.lit (.int 1)) (.fn F__law_draw "_law_draw" (.cons (.var 0) (.cons (.lit (.int 14)) .nil))))) (.cons (.asgs (.cons (.nm 6) (.cons (.nm 7) .nil)) (.cons (.bin .Add (.lit (.int 1)) (.fn F__law_draw "_law_draw" (.cons (.var 0) (.cons (.var 1) .nil)))) (.cons (.bin .Add (.lit (.int 3)) (.fn F__law_draw "_law_draw" (.cons (.var 0) (.cons (.lit (.int 17)) .nil)))) .nil))) (.cons (.asg (.nm 2) (.fn F__law_frac "_law_frac" (.cons (.bin .Add (.lit (.int 1)) (.fn F__law_draw "_law_draw" (.cons (.var 0) (.cons (.bl .max (.cons (.lit (.int 1)) (.cons (.bin .FloorDiv (.var 7) (.lit (.int 2))) .nil))) .nil)))) (.cons (.var 7) .nil)))) (.cons (.asg (.nm 3) c__law_right_1) (.cons (.ife (.no (.bl .all (.cons c__law_right_3 .nil))) (.cons (.ret (.lit (.bool false))) .nil) .nil) (.cons c__law_right_5 (.cons c__law_right_6 (.cons (.asg (.nm 5) (.fn F__law_draw "_law_draw" (.cons (.var 0) (.cons (.bin .Add (.var 1) (.lit (.int 1))) .nil)))) (.cons (.ret (.fn (F__law_same 8) "_law_same" (.cons (.tup (.cons (.fn F_range_of "range_of" (.cons (.var 1) (.cons (.var 1) (.cons (.var 5) (.cons (.var 2) .nil))))) (.cons (.fn F_can_be "can_be" (.cons (.var 1) (.cons (.var 1) (.cons (.var 5) .nil)))) .nil))) (.cons (.tup (.cons (.tup (.cons (.var 5) (.cons (.var 5) .nil))) (.cons (.tup (.cons (.var 5) (.cons (.var 5) .nil))) .nil))) .nil)))) .nil)))))))))
def F__law_right : Fn := runFn 1 13 c__law_right
theorem ch__law_right : chB N__law_right ⟨defScope s__law_right, fun _ => true⟩ c__law_right (defBody s__law_right) = true := by decide +kernel
/-! law -/
abbrev s_law : Stmt := topS 49
abbrev N_law : List Str := ["script", "wells", "lap"]
theorem sc_law : FnScope N_law ["script"] (defScope s_law) := ⟨rfl, rfl, rfl, by decide +kernel, rfl, by decide +kernel, by decide +kernel⟩
def c_law_1 : CE := (.mlc (.nm 2) (.rng1 (.bl .max (.cons (.lit (.int 1)) (.cons (.bl .min (.cons (.bl .len (.cons (.var 0) .nil)) (.cons (.lit (.int 3)) .nil))) .nil)))) (.lit (.bool true)) (.fn F__law_well "_law_well" (.cons (.var 0) (.cons (.var 2) .nil))) [2])
def c_law_2 : CE := (.lc (.nm 2) (.rng1 (.lit (.int 4))) (.lit (.bool true)) (.fn F__law_right "_law_right" (.cons (.ix (.var 1) (.bin .Mod (.bl .int (.cons (.var 2) .nil)) (.lnl (.cons (.var 1) .nil)))) .nil)) [2])
def c_law : CB := (.cons (.asg (.nm 1) c_law_1) (.cons (.ret (.bl .all (.cons c_law_2 .nil))) .nil))
def F_law : Fn := runFn 1 3 c_law
theorem ch_law : chB N_law ⟨defScope s_law, fun _ => true⟩ c_law (defBody s_law) = true := by decide +kernel
section
variable {P : Program} {w : World} {K : PySem.W.Frag} {mg : Str → Option Value} {base : Heap}
theorem ok__law_well {f : Addr} {fd : FuncData} (F : Fun K "_law_well" "_law_well" s__law_well f fd) (b_int : mg "int" = none) (b_len : mg "len" = none) (b_abs : mg "abs" = none) : FnOk P w K mg base CX0 1 f fd ["script", "lap"] (spF mg K F__law_well) :=
  fn_ok F sc__law_well (by decide) ch__law_well (fun X a => by simp only [c__law_well, c__law_well_1, needB, needS, needE, needA, needO, needT, needTs, needI, and_true, true_and, and_assoc]; exact ⟨a.bl b_int, a.bl b_int, a.bl b_len, a.bl b_int, a.bl b_int, a.bl b_int, a.bl b_abs⟩)
theorem bi__law_well {f : Addr} {fd : FuncData} (F : Fun K "_law_well" "_law_well" s__law_well f fd) : Binds K fd ["script", "lap"] [] := F.binds fun _ _ _ _ _ _ us hl => match us, hl with | [_, _], _ => rfl
theorem ok__law_draw {f : Addr} {fd : FuncData} (F : Fun K "_law_draw" "_law_draw" s__law_draw f fd) (b_divmod : mg "divmod" = none) (b_int : mg "int" = none) : FnOk P w K mg base CX0 1 f fd ["well", "limit"] (spF mg K F__law_draw) :=
  fn_ok F sc__law_draw (by decide) ch__law_draw (fun X a => by simp only [c__law_draw, needB, needS, needE, needA, needO, needT, needTs, needI, and_true, true_and, and_assoc]; exact ⟨a.bl b_divmod, a.bl b_int, a.bl b_int, a.bl b_int, a.bl b_int⟩)
theorem bi__law_draw {f : Addr} {fd : FuncData} (F : Fun K "_law_draw" "_law_draw" s__law_draw f fd) : Binds K fd ["well", "limit"] [] := F.binds fun _ _ _ _ _ _ us hl => match us, hl with | [_, _], _ => rfl
theorem ok__law_divisor {f : Addr} {fd : FuncData} (F : Fun K "_law_divisor" "_law_divisor" s__law_divisor f fd) (b_int : mg "int" = none) : FnOk P w K mg base CX0 1 f fd ["one", "two"] (spF mg K F__law_divisor) :=
  fn_ok F sc__law_divisor (by decide) ch__law_divisor (fun X a => by simp only [c__law_divisor, c__law_divisor_1, needB, needS, needE, needA, needO, needT, needTs, needI, and_true, true_and, and_assoc]; exact a.bl b_int)
theorem bi__law_divisor {f : Addr} {fd : FuncData} (F : Fun K "_law_divisor" "_law_divisor" s__law_divisor f fd) : Binds K fd ["one", "two"] [] := F.binds fun _ _ _ _ _ _ us hl => match us, hl with | [_, _], _ => rfl
theorem ok__law_frac {f : Addr} {fd : FuncData} (F : Fun K "_law_frac" "_law_frac" s__law_frac f fd) (g__law_divisor : FnK P w K mg base CX0 1 "_law_divisor" F__law_divisor) (b_abs : mg "abs" = none) : FnOk P w K mg base CX0 2 f fd ["n", "m"] (spF mg K F__law_frac) :=
  fn_ok F sc__law_frac (by decide) ch__law_frac (fun X a => by simp only [c__law_frac, needB, needS, needE, needA, needO, needT, needTs, needI, and_true, true_and, and_assoc]; exact ⟨a.fn g__law_divisor (by omega), a.bl b_abs⟩)
theorem bi__law_frac {f : Addr} {fd : FuncData} (F : Fun K "_law_frac" "_law_frac" s__law_frac f fd) : Binds K fd ["n", "m"] [] := F.binds fun _ _ _ _ _ _ us hl => match us, hl with | [_, _], _ => rfl
theorem ok_is_whole {f : Addr} {fd : FuncData} (F : Fun K "is_whole" "is_whole" s_is_whole f fd) (b_isinstance : mg "isinstance" = none) (b_int : mg "int" = none) (b_bool : mg "bool" = none) : FnOk P w K mg base CX0 1 f fd ["value"] (spF mg K F_is_whole) :=
  fn_ok F sc_is_whole (by decide) ch_is_whole (fun X a => by simp only [c_is_whole, needB, needS, needE, needA, needO, needT, needTs, needI, and_true, true_and, and_assoc]; exact ⟨a.nb b_isinstance, a.nb b_int, a.nb b_isinstance, a.nb b_bool⟩)
theorem bi_is_whole {f : Addr} {fd : FuncData} (F : Fun K "is_whole" "is_whole" s_is_whole f fd) : Binds K fd ["value"] [] := F.binds fun _ _ _ _ _ _ us hl => match us, hl with | [_], _ => rfl
theorem ok_is_between {f : Addr} {fd : FuncData} (F : Fun K "is_between" "is_between" s_is_between f fd) (g_is_whole : FnK P w K mg base CX0 1 "is_whole" F_is_whole) : FnOk P w K mg base CX0 2 f fd ["value", "least", "most"] (spF mg K F_is_between) :=
  fn_ok F sc_is_between (by decide) ch_is_between (fun X a => by simp only [c_is_between, needB, needS, needE, needA, needO, needT, needTs, needI, and_true, true_and, and_assoc]; exact a.fn g_is_whole (by omega))
theorem bi_is_between {f : Addr} {fd : FuncData} (F : Fun K "is_between" "is_between" s_is_between f fd) : Binds K fd ["value", "least", "most"] [] := F.binds fun _ _ _ _ _ _ us hl => match us, hl with | [_, _, _], _ => rfl
theorem ok_check_number {f : Addr} {fd : FuncData} (F : Fun K "check_number" "check_number" s_check_number f fd) (g_is_between : FnK P w K mg base CX0 2 "is_between" F_is_between) : FnOk P w K mg base CX0 3 f fd ["number", "least", "most"] (spF mg K F_check_number) :=
  fn_ok F sc_check_number (by decide) ch_check_number (fun X a => by simp only [c_check_number, needB, needS, needE, needA, needO, needT, needTs, needI, and_true, true_and, and_assoc]; exact a.fn g_is_between (by omega))
theorem bi_check_number {f : Addr} {fd : FuncData} (F : Fun K "check_number" "check_number" s_check_number f fd) : Binds K fd ["number", "least", "most"] [] := F.binds fun _ _ _ _ _ _ us hl => match us, hl with | [_, _, _], _ => rfl
theorem ok_check_size {f : Addr} {fd : FuncData} (F : Fun K "check_size" "check_size" s_check_size f fd) (g_check_number : FnK P w K mg base CX0 3 "check_number" F_check_number) (l_MOST_SIZE : GlK K mg "MOST_SIZE" (.int 40)) : FnOk P w K mg base CX0 4 f fd ["size"] (spF mg K F_check_size) :=
  fn_ok F sc_check_size (by decide) ch_check_size (fun X a => by simp only [c_check_size, needB, needS, needE, needA, needO, needT, needTs, needI, and_true, true_and, and_assoc]; exact ⟨a.fn g_check_number (by omega), a.gl l_MOST_SIZE⟩)
theorem bi_check_size {f : Addr} {fd : FuncData} (F : Fun K "check_size" "check_size" s_check_size f fd) : Binds K fd ["size"] [] := F.binds fun _ _ _ _ _ _ us hl => match us, hl with | [_], _ => rfl
theorem ok_check_found {f : Addr} {fd : FuncData} (F : Fun K "check_found" "check_found" s_check_found f fd) (g_check_size : FnK P w K mg base CX0 4 "check_size" F_check_size) (g_check_number : FnK P w K mg base CX0 3 "check_number" F_check_number) : FnOk P w K mg base CX0 5 f fd ["size", "drawn", "found"] (spF mg K F_check_found) :=
  fn_ok F sc_check_found (by decide) ch_check_found (fun X a => by simp only [c_check_found, needB, needS, needE, needA, needO, needT, needTs, needI, and_true, true_and, and_assoc]; exact ⟨a.fn g_check_size (by omega), a.fn g_check_number (by omega), a.fn g_check_number (by omega)⟩)
theorem bi_check_found {f : Addr} {fd : FuncData} (F : Fun K "check_found" "check_found" s_check_found f fd) : Binds K fd ["size", "drawn", "found"] [] := F.binds fun _ _ _ _ _ _ us hl => match us, hl with | [_, _, _], _ => rfl
theorem ok_is_tuple_of {f : Addr} {fd : FuncData} (F : Fun K "is_tuple_of" "is_tuple_of" s_is_tuple_of f fd) (b_isinstance : mg "isinstance" = none) (b_tuple : mg "tuple" = none) (b_len : mg "len" = none) : FnOk P w K mg base CX0 1 f fd ["value", "many"] (spF mg K F_is_tuple_of) :=
  fn_ok F sc_is_tuple_of (by decide) ch_is_tuple_of (fun X a => by simp only [c_is_tuple_of, needB, needS, needE, needA, needO, needT, needTs, needI, and_true, true_and, and_assoc]; exact ⟨a.nb b_isinstance, a.nb b_tuple, a.bl b_len⟩)
theorem bi_is_tuple_of {f : Addr} {fd : FuncData} (F : Fun K "is_tuple_of" "is_tuple_of" s_is_tuple_of f fd) : Binds K fd ["value", "many"] [] := F.binds fun _ _ _ _ _ _ us hl => match us, hl with | [_, _], _ => rfl
theorem ok_is_pair {f : Addr} {fd : FuncData} (F : Fun K "is_pair" "is_pair" s_is_pair f fd) (g_is_tuple_of : FnK P w K mg base CX0 1 "is_tuple_of" F_is_tuple_of) : FnOk P w K mg base CX0 2 f fd ["value"] (spF mg K F_is_pair) :=
  fn_ok F sc_is_pair (by decide) ch_is_pair (fun X a => by simp only [c_is_pair, needB, needS, needE, needA, needO, needT, needTs, needI, and_true, true_and, and_assoc]; exact a.fn g_is_tuple_of (by omega))
theorem bi_is_pair {f : Addr} {fd : FuncData} (F : Fun K "is_pair" "is_pair" s_is_pair f fd) : Binds K fd ["value"] [] := F.binds fun _ _ _ _ _ _ us hl => match us, hl with | [_], _ => rfl
theorem ok_is_fraction {f : Addr} {fd : FuncData} (F : Fun K "is_fraction" "is_fraction" s_is_fraction f fd) (g_is_pair : FnK P w K mg base CX0 2 "is_pair" F_is_pair) (g_is_whole : FnK P w K mg base CX0 1 "is_whole" F_is_whole) (b_all : mg "all" = none) (b_gcd : mg "gcd" = some (.builtin "math.gcd")) : FnOk P w K mg base CX0 3 f fd ["value"] (spF mg K F_is_fraction) :=
  fn_ok F sc_is_fraction (by decide) ch_is_fraction (fun X a => by simp only [c_is_fraction, c_is_fraction_1, needB, needS, needE, needA, needO, needT, needTs, needI, and_true, true_and, and_assoc]; exact ⟨a.fn g_is_pair (by omega), a.bl b_all, a.fn g_is_whole (by omega), a.bl b_gcd⟩)
theorem bi_is_fraction {f : Addr} {fd : FuncData} (F : Fun K "is_fraction" "is_fraction" s_is_fraction f fd) : Binds K fd ["value"] [] := F.binds fun _ _ _ _ _ _ us hl => match us, hl with | [_], _ => rfl
theorem ok_is_part {f : Addr} {fd : FuncData} (F : Fun K "is_part" "is_part" s_is_part f fd) (g_is_fraction : FnK P w K mg base CX0 3 "is_fraction" F_is_fraction) : FnOk P w K mg base CX0 4 f fd ["value"] (spF mg K F_is_part) :=
  fn_ok F sc_is_part (by decide) ch_is_part (fun X a => by simp only [c_is_part, needB, needS, needE, needA, needO, needT, needTs, needI, and_true, true_and, and_assoc]; exact a.fn g_is_fraction (by omega))
theorem bi_is_part {f : Addr} {fd : FuncData} (F : Fun K "is_part" "is_part" s_is_part f fd) : Binds K fd ["value"] [] := F.binds fun _ _ _ _ _ _ us hl => match us, hl with | [_], _ => rfl
theorem ok_check_level {f : Addr} {fd : FuncData} (F : Fun K "check_level" "check_level" s_check_level f fd) (g_is_part : FnK P w K mg base CX0 4 "is_part" F_is_part) (l_NOTHING : GlK K mg "NOTHING" (.tuple [(.int 0), (.int 1)])) (l_WHOLE : GlK K mg "WHOLE" (.tuple [(.int 1), (.int 1)])) : FnOk P w K mg base CX0 5 f fd ["level"] (spF mg K F_check_level) :=
  fn_ok F sc_check_level (by decide) ch_check_level (fun X a => by simp only [c_check_level, needB, needS, needE, needA, needO, needT, needTs, needI, and_true, true_and, and_assoc]; exact ⟨a.fn g_is_part (by omega), a.gl l_NOTHING, a.gl l_WHOLE⟩)
theorem bi_check_level {f : Addr} {fd : FuncData} (F : Fun K "check_level" "check_level" s_check_level f fd) : Binds K fd ["level"] [] := F.binds fun _ _ _ _ _ _ us hl => match us, hl with | [_], _ => rfl
theorem ok_is_less {f : Addr} {fd : FuncData} (F : Fun K "is_less" "is_less" s_is_less f fd)  : FnOk P w K mg base CX0 1 f fd ["one", "two"] (spF mg K F_is_less) :=
  fn_ok F sc_is_less (by decide) ch_is_less (fun X a => by simp only [c_is_less, needB, needS, needE, needA, needO, needT, needTs, needI, and_true, true_and, and_assoc])
theorem bi_is_less {f : Addr} {fd : FuncData} (F : Fun K "is_less" "is_less" s_is_less f fd) : Binds K fd ["one", "two"] [] := F.binds fun _ _ _ _ _ _ us hl => match us, hl with | [_, _], _ => rfl
theorem ok_ways_of {f : Addr} {fd : FuncData} (F : Fun K "ways_of" "ways_of" s_ways_of f fd) (b_range : mg "range" = none) : FnOk P w K mg base CX0 1 f fd ["many", "some"] (spF mg K F_ways_of) :=
  fn_ok F sc_ways_of (by decide) ch_ways_of (fun X a => by simp only [c_ways_of, c_ways_of_1, needB, needS, needE, needA, needO, needT, needTs, needI, and_true, true_and, and_assoc]; exact a.nb b_range)
theorem bi_ways_of {f : Addr} {fd : FuncData} (F : Fun K "ways_of" "ways_of" s_ways_of f fd) : Binds K fd ["many", "some"] [] := F.binds fun _ _ _ _ _ _ us hl => match us, hl with | [_, _], _ => rfl
theorem ok_ways_found {f : Addr} {fd : FuncData} (F : Fun K "ways_found" "ways_found" s_ways_found f fd) (g_ways_of : FnK P w K mg base CX0 1 "ways_of" F_ways_of) : FnOk P w K mg base CX0 2 f fd ["size", "bad", "drawn", "found"] (spF mg K F_ways_found) :=
  fn_ok F sc_ways_found (by decide) ch_ways_found (fun X a => by simp only [c_ways_found, needB, needS, needE, needA, needO, needT, needTs, needI, and_true, true_and, and_assoc]; exact ⟨a.fn g_ways_of (by omega), a.fn g_ways_of (by omega)⟩)
theorem bi_ways_found {f : Addr} {fd : FuncData} (F : Fun K "ways_found" "ways_found" s_ways_found f fd) : Binds K fd ["size", "bad", "drawn", "found"] [] := F.binds fun _ _ _ _ _ _ us hl => match us, hl with | [_, _, _, _], _ => rfl
theorem ok_lowest {f : Addr} {fd : FuncData} (F : Fun K "lowest" "lowest" s_lowest f fd) (b_gcd : mg "gcd" = some (.builtin "math.gcd")) : FnOk P w K mg base CX0 1 f fd ["one", "two"] (spF mg K F_lowest) :=
  fn_ok F sc_lowest (by decide) ch_lowest (fun X a => by simp only [c_lowest, needB, needS, needE, needA, needO, needT, needTs, needI, and_true, true_and, and_assoc]; exact ⟨a.bl b_gcd, a.bl b_gcd⟩)
theorem bi_lowest {f : Addr} {fd : FuncData} (F : Fun K "lowest" "lowest" s_lowest f fd) : Binds K fd ["one", "two"] [] := F.binds fun _ _ _ _ _ _ us hl => match us, hl with | [_, _], _ => rfl
theorem ok_chance_from {f : Addr} {fd : FuncData} (F : Fun K "chance_from" "chance_from" s_chance_from f fd) (g_ways_found : FnK P w K mg base CX0 2 "ways_found" F_ways_found) (g_lowest : FnK P w K mg base CX0 1 "lowest" F_lowest) (g_ways_of : FnK P w K mg base CX0 1 "ways_of" F_ways_of) (b_sum : mg "sum" = none) (b_range : mg "range" = none) : FnOk P w K mg base CX0 3 f fd ["size", "bad", "drawn", "found"] (spF mg K F_chance_from) :=
  fn_ok F sc_chance_from (by decide) ch_chance_from (fun X a => by simp only [c_chance_from, c_chance_from_1, needB, needS, needE, needA, needO, needT, needTs, needI, and_true, true_and, and_assoc]; exact ⟨a.bl b_sum, a.nb b_range, a.fn g_ways_found (by omega), a.fn g_lowest (by omega), a.fn g_ways_of (by omega)⟩)
theorem bi_chance_from {f : Addr} {fd : FuncData} (F : Fun K "chance_from" "chance_from" s_chance_from f fd) : Binds K fd ["size", "bad", "drawn", "found"] [] := F.binds fun _ _ _ _ _ _ us hl => match us, hl with | [_, _, _, _], _ => rfl
theorem ok_chance_up_to {f : Addr} {fd : FuncData} (F : Fun K "chance_up_to" "chance_up_to" s_chance_up_to f fd) (g_ways_found : FnK P w K mg base CX0 2 "ways_found" F_ways_found) (g_lowest : FnK P w K mg base CX0 1 "lowest" F_lowest) (g_ways_of : FnK P w K mg base CX0 1 "ways_of" F_ways_of) (b_sum : mg "sum" = none) (b_range : mg "range" = none) : FnOk P w K mg base CX0 3 f fd ["size", "bad", "drawn", "found"] (spF mg K F_chance_up_to) :=
  fn_ok F sc_chance_up_to (by decide) ch_chance_up_to (fun X a => by simp only [c_chance_up_to, c_chance_up_to_1, needB, needS, needE, needA, needO, needT, needTs, needI, and_true, true_and, and_assoc]; exact ⟨a.bl b_sum, a.nb b_range, a.fn g_ways_found (by omega), a.fn g_lowest (by omega), a.fn g_ways_of (by omega)⟩)
theorem bi_chance_up_to {f : Addr} {fd : FuncData} (F : Fun K "chance_up_to" "chance_up_to" s_chance_up_to f fd) : Binds K fd ["size", "bad", "drawn", "found"] [] := F.binds fun _ _ _ _ _ _ us hl => match us, hl with | [_, _, _, _], _ => rfl
theorem ok_range_by {f : Addr} {fd : FuncData} (F : Fun K "range_by" "range_by" s_range_by f fd) (g_is_less : FnK P w K mg base CX0 1 "is_less" F_is_less) (g_chance_from : FnK P w K mg base CX0 3 "chance_from" F_chance_from) (g_chance_up_to : FnK P w K mg base CX0 3 "chance_up_to" F_chance_up_to) (b_list : mg "list" = none) (b_range : mg "range" = none) (b_min : mg "min" = none) (b_max : mg "max" = none) : FnOk P w K mg base CX0 4 f fd ["size", "drawn", "found", "level"] (spF mg K F_range_by) :=
  fn_ok F sc_range_by (by decide) ch_range_by (fun X a => by simp only [c_range_by, c_range_by_1, c_range_by_2, needB, needS, needE, needA, needO, needT, needTs, needI, and_true, true_and, and_assoc]; exact ⟨a.nb b_list, a.nb b_range, a.bl b_min, a.fn g_is_less (by omega), a.fn g_chance_from (by omega), a.bl b_max, a.fn g_is_less (by omega), a.fn g_chance_up_to (by omega)⟩)
theorem bi_range_by {f : Addr} {fd : FuncData} (F : Fun K "range_by" "range_by" s_range_by f fd) : Binds K fd ["size", "drawn", "found", "level"] [] := F.binds fun _ _ _ _ _ _ us hl => match us, hl with | [_, _, _, _], _ => rfl
theorem ok_range_of {f : Addr} {fd : FuncData} (F : Fun K "range_of" "range_of" s_range_of f fd) (g_check_found : FnK P w K mg base CX0 5 "check_found" F_check_found) (g_check_level : FnK P w K mg base CX0 5 "check_level" F_check_level) (g_range_by : FnK P w K mg base CX0 4 "range_by" F_range_by) : FnOk P w K mg base CX0 6 f fd ["size", "drawn", "found", "level"] (spF mg K F_range_of) :=
  fn_ok F sc_range_of (by decide) ch_range_of (fun X a => by simp only [c_range_of, needB, needS, needE, needA, needO, needT, needTs, needI, and_true, true_and, and_assoc]; exact ⟨a.fn g_check_found (by omega), a.fn g_check_level (by omega), a.fn g_range_by (by omega)⟩)
theorem bi_range_of {f : Addr} {fd : FuncData} (F : Fun K "range_of" "range_of" s_range_of f fd) : Binds K fd ["size", "drawn", "found", "level"] [] := F.binds fun _ _ _ _ _ _ us hl => match us, hl with | [_, _, _, _], _ => rfl
theorem ok__law_is_row {f : Addr} {fd : FuncData} (F : Fun K "_law_is_row" "_law_is_row" s__law_is_row f fd) (b_isinstance : mg "isinstance" = none) (b_tuple : mg "tuple" = none) (b_len : mg "len" = none) : FnOk P w K mg base CX0 1 f fd ["value", "few", "most"] (spF mg K F__law_is_row) :=
  fn_ok F sc__law_is_row (by decide) ch__law_is_row (fun X a => by simp only [c__law_is_row, needB, needS, needE, needA, needO, needT, needTs, needI, and_true, true_and, and_assoc]; exact ⟨a.nb b_isinstance, a.nb b_tuple, a.bl b_len⟩)
theorem bi__law_is_row {f : Addr} {fd : FuncData} (F : Fun K "_law_is_row" "_law_is_row" s__law_is_row f fd) : Binds K fd ["value", "few", "most"] [] := F.binds fun _ _ _ _ _ _ us hl => match us, hl with | [_, _, _], _ => rfl
theorem ok__law_is_number {f : Addr} {fd : FuncData} (F : Fun K "_law_is_number" "_law_is_number" s__law_is_number f fd) (b_isinstance : mg "isinstance" = none) (b_int : mg "int" = none) (b_bool : mg "bool" = none) : FnOk P w K mg base CX0 1 f fd ["value", "low", "high"] (spF mg K F__law_is_number) :=
  fn_ok F sc__law_is_number (by decide) ch__law_is_number (fun X a => by simp only [c__law_is_number, needB, needS, needE, needA, needO, needT, needTs, needI, and_true, true_and, and_assoc]; exact ⟨a.nb b_isinstance, a.nb b_int, a.nb b_isinstance, a.nb b_bool⟩)
theorem bi__law_is_number {f : Addr} {fd : FuncData} (F : Fun K "_law_is_number" "_law_is_number" s__law_is_number f fd) : Binds K fd ["value", "low", "high"] [] := F.binds fun _ _ _ _ _ _ us hl => match us, hl with | [_, _, _], _ => rfl
theorem ok__law_ways {f : Addr} {fd : FuncData} (F : Fun K "_law_ways" "_law_ways" s__law_ways f fd) (b_range : mg "range" = none) : FnOk P w K mg base CX0 1 f fd ["many", "some"] (spF mg K F__law_ways) :=
  fn_ok F sc__law_ways (by decide) ch__law_ways (fun X a => by simp only [c__law_ways, c__law_ways_1, needB, needS, needE, needA, needO, needT, needTs, needI, and_true, true_and, and_assoc]; exact a.nb b_range)
theorem bi__law_ways {f : Addr} {fd : FuncData} (F : Fun K "_law_ways" "_law_ways" s__law_ways f fd) : Binds K fd ["many", "some"] [] := F.binds fun _ _ _ _ _ _ us hl => match us, hl with | [_, _], _ => rfl
theorem ok__law_found {f : Addr} {fd : FuncData} (F : Fun K "_law_found" "_law_found" s__law_found f fd) (g__law_frac : FnK P w K mg base CX0 2 "_law_frac" F__law_frac) (g__law_ways : FnK P w K mg base CX0 1 "_law_ways" F__law_ways) : FnOk P w K mg base CX0 3 f fd ["size", "bad", "drawn", "found"] (spF mg K F__law_found) :=
  fn_ok F sc__law_found (by decide) ch__law_found (fun X a => by simp only [c__law_found, needB, needS, needE, needA, needO, needT, needTs, needI, and_true, true_and, and_assoc]; exact ⟨a.fn g__law_frac (by omega), a.fn g__law_ways (by omega), a.fn g__law_ways (by omega), a.fn g__law_ways (by omega)⟩)
theorem bi__law_found {f : Addr} {fd : FuncData} (F : Fun K "_law_found" "_law_found" s__law_found f fd) : Binds K fd ["size", "bad", "drawn", "found"] [] := F.binds fun _ _ _ _ _ _ us hl => match us, hl with | [_, _, _, _], _ => rfl
theorem ok__law_below {f : Addr} {fd : FuncData} (F : Fun K "_law_below" "_law_below" s__law_below f fd)  : FnOk P w K mg base CX0 1 f fd ["a", "b"] (spF mg K F__law_below) :=
  fn_ok F sc__law_below (by decide) ch__law_below (fun X a => by simp only [c__law_below, needB, needS, needE, needA, needO, needT, needTs, needI, and_true, true_and, and_assoc])
theorem bi__law_below {f : Addr} {fd : FuncData} (F : Fun K "_law_below" "_law_below" s__law_below f fd) : Binds K fd ["a", "b"] [] := F.binds fun _ _ _ _ _ _ us hl => match us, hl with | [_, _], _ => rfl
theorem ok__law_add {f : Addr} {fd : FuncData} (F : Fun K "_law_add" "_law_add" s__law_add f fd) (g__law_frac : FnK P w K mg base CX0 2 "_law_frac" F__law_frac) : FnOk P w K mg base CX0 3 f fd ["a", "b"] (spF mg K F__law_add) :=
  fn_ok F sc__law_add (by decide) ch__law_add (fun X a => by simp only [c__law_add, needB, needS, needE, needA, needO, needT, needTs, needI, and_true, true_and, and_assoc]; exact a.fn g__law_frac (by omega))
theorem bi__law_add {f : Addr} {fd : FuncData} (F : Fun K "_law_add" "_law_add" s__law_add f fd) : Binds K fd ["a", "b"] [] := F.binds fun _ _ _ _ _ _ us hl => match us, hl with | [_, _], _ => rfl
theorem ok__law_sum {f : Addr} {fd : FuncData} (F : Fun K "_law_sum" "_law_sum" s__law_sum f fd) (g__law_add : FnK P w K mg base CX0 3 "_law_add" F__law_add) : FnOk P w K mg base CX0 4 f fd ["values"] (spF mg K F__law_sum) :=
  fn_ok F sc__law_sum (by decide) ch__law_sum (fun X a => by simp only [c__law_sum, c__law_sum_1, needB, needS, needE, needA, needO, needT, needTs, needI, and_true, true_and, and_assoc]; exact a.fn g__law_add (by omega))
theorem bi__law_sum {f : Addr} {fd : FuncData} (F : Fun K "_law_sum" "_law_sum" s__law_sum f fd) : Binds K fd ["values"] [] := F.binds fun _ _ _ _ _ _ us hl => match us, hl with | [_], _ => rfl
theorem ok__law_times {f : Addr} {fd : FuncData} (F : Fun K "_law_times" "_law_times" s__law_times f fd) (g__law_frac : FnK P w K mg base CX0 2 "_law_frac" F__law_frac) : FnOk P w K mg base CX0 3 f fd ["a", "b"] (spF mg K F__law_times) :=
  fn_ok F sc__law_times (by decide) ch__law_times (fun X a => by simp only [c__law_times, needB, needS, needE, needA, needO, needT, needTs, needI, and_true, true_and, and_assoc]; exact a.fn g__law_frac (by omega))
theorem bi__law_times {f : Addr} {fd : FuncData} (F : Fun K "_law_times" "_law_times" s__law_times f fd) : Binds K fd ["a", "b"] [] := F.binds fun _ _ _ _ _ _ us hl => match us, hl with | [_, _], _ => rfl
theorem ok__law_same {f : Addr} {fd : FuncData} (F : Fun K "_law_same" "_law_same" s__law_same f fd) (hm : mg "_law_same" = some (.ref f)) (hk : PySem.W.keepIn K (.ref f) = true) (hb : Binds K fd ["one", "two"] []) (b_isinstance : mg "isinstance" = none) (b_tuple : mg "tuple" = none) (b_len : mg "len" = none) (b_all : mg "all" = none) (b_range : mg "range" = none) (b_bool : mg "bool" = none) (b_int : mg "int" = none) (b_str : mg "str" = none) (b_list : mg "list" = none) (b_dict : mg "dict" = none) : ∀ d : Nat, FnOk P w K mg base CX0 (0 + d) f fd ["one", "two"] (spF mg K (F__law_same d))
  | 0 => fn_none
  | d + 1 => by
    have gself : FnK P w K mg base CX0 (0 + d) "_law_same" (F__law_same d) := ⟨_, _, _, hm, hk, hb, ok__law_same F hm hk hb b_isinstance b_tuple b_len b_all b_range b_bool b_int b_str b_list b_dict d⟩
    exact fn_ok F sc__law_same (by decide) (ch__law_same _) (fun X a => by simp only [c__law_same, c__law_same_1, needB, needS, needE, needA, needO, needT, needTs, needI, and_true, true_and, and_assoc]; exact ⟨a.nb b_isinstance, a.nb b_tuple, a.nb b_isinstance, a.nb b_tuple, a.bl b_len, a.bl b_len, a.bl b_all, a.nb b_range, a.bl b_len, a.fn gself (Nat.le_refl _), a.nb b_isinstance, a.nb b_bool, a.nb b_isinstance, a.nb b_bool, a.nb b_isinstance, a.nb b_int, a.nb b_isinstance, a.nb b_int, a.nb b_isinstance, a.nb b_bool, a.nb b_isinstance, a.nb b_str, a.nb b_isinstance, a.nb b_str, a.nb b_isinstance, a.nb b_list, a.nb b_isinstance, a.nb b_list, a.nb b_isinstance, a.nb b_dict, a.nb b_isinstance, a.nb b_dict, a.nb b_isinstance, a.nb b_tuple⟩)
theorem bi__law_same {f : Addr} {fd : FuncData} (F : Fun K "_law_same" "_law_same" s__law_same f fd) : Binds K fd ["one", "two"] [] := F.binds fun _ _ _ _ _ _ us hl => match us, hl with | [_, _], _ => rfl
theorem ok_can_be_by {f : Addr} {fd : FuncData} (F : Fun K "can_be_by" "can_be_by" s_can_be_by f fd)  : FnOk P w K mg base CX0 1 f fd ["size", "drawn", "found"] (spF mg K F_can_be_by) :=
  fn_ok F sc_can_be_by (by decide) ch_can_be_by (fun X a => by simp only [c_can_be_by, needB, needS, needE, needA, needO, needT, needTs, needI, and_true, true_and, and_assoc])
theorem bi_can_be_by {f : Addr} {fd : FuncData} (F : Fun K "can_be_by" "can_be_by" s_can_be_by f fd) : Binds K fd ["size", "drawn", "found"] [] := F.binds fun _ _ _ _ _ _ us hl => match us, hl with | [_, _, _], _ => rfl
theorem ok_can_be {f : Addr} {fd : FuncData} (F : Fun K "can_be" "can_be" s_can_be f fd) (g_check_found : FnK P w K mg base CX0 5 "check_found" F_check_found) (g_can_be_by : FnK P w K mg base CX0 1 "can_be_by" F_can_be_by) : FnOk P w K mg base CX0 6 f fd ["size", "drawn", "found"] (spF mg K F_can_be) :=
  fn_ok F sc_can_be (by decide) ch_can_be (fun X a => by simp only [c_can_be, needB, needS, needE, needA, needO, needT, needTs, needI, and_true, true_and, and_assoc]; exact ⟨a.fn g_check_found (by omega), a.fn g_can_be_by (by omega)⟩)
theorem bi_can_be {f : Addr} {fd : FuncData} (F : Fun K "can_be" "can_be" s_can_be f fd) : Binds K fd ["size", "drawn", "found"] [] := F.binds fun _ _ _ _ _ _ us hl => match us, hl with | [_, _, _], _ => rfl
theorem ok__law_right {f : Addr} {fd : FuncData} (F : Fun K "_law_right" "_law_right" s__law_right f fd) (g__law_draw : FnK P w K mg base CX0 1 "_law_draw" F__law_draw) (g__law_frac : FnK P w K mg base CX0 2 "_law_frac" F__law_frac) (g_range_of : FnK P w K mg base CX0 6 "range_of" F_range_of) (g__law_is_row : FnK P w K mg base CX0 1 "_law_is_row" F__law_is_row) (g__law_is_number : FnK P w K mg base CX0 1 "_law_is_number" F__law_is_number) (g__law_found : FnK P w K mg base CX0 3 "_law_found" F__law_found) (g__law_below : FnK P w K mg base CX0 1 "_law_below" F__law_below) (g__law_sum : FnK P w K mg base CX0 4 "_law_sum" F__law_sum) (g__law_times : FnK P w K mg base CX0 3 "_law_times" F__law_times) (g__law_same : FnK P w K mg base CX0 8 "_law_same" (F__law_same 8)) (g_can_be : FnK P w K mg base CX0 6 "can_be" F_can_be) (b_max : mg "max" = none) (b_range : mg "range" = none) (b_all : mg "all" = none) : FnOk P w K mg base CX0 9 f fd ["well"] (spF mg K F__law_right) :=
  fn_ok F sc__law_right (by decide) ch__law_right (fun X a => by simp only [c__law_right, c__law_right_1, c__law_right_2, c__law_right_3, c__law_right_4, c__law_right_5, c__law_right_6, needB, needS, needE, needA, needO, needT, needTs, needI, and_true, true_and, and_assoc]; exact ⟨a.fn g__law_draw (by omega), a.fn g__law_draw (by omega), a.fn g__law_draw (by omega), a.fn g__law_frac (by omega), a.fn g__law_draw (by omega), a.bl b_max, a.nb b_range, a.fn g_range_of (by omega), a.bl b_all, a.fn g__law_is_row (by omega), a.bl b_all, a.fn g__law_is_number (by omega), a.nb b_range, a.nb b_range, a.fn g__law_found (by omega), a.fn g__law_below (by omega), a.fn g__law_sum (by omega), a.fn g__law_times (by omega), a.nb b_range, a.fn g__law_same (by omega), a.fn g__law_draw (by omega), a.fn g__law_same (by omega), a.fn g_range_of (by omega), a.fn g_can_be (by omega)⟩)
theorem bi__law_right {f : Addr} {fd : FuncData} (F : Fun K "_law_right" "_law_right" s__law_right f fd) : Binds K fd ["well"] [] := F.binds fun _ _ _ _ _ _ us hl => match us, hl with | [_], _ => rfl
theorem ok_law {f : Addr} {fd : FuncData} (F : Fun K "law" "law" s_law f fd) (g__law_well : FnK P w K mg base CX0 1 "_law_well" F__law_well) (g__law_right : FnK P w K mg base CX0 9 "_law_right" F__law_right) (b_range : mg "range" = none) (b_max : mg "max" = none) (b_min : mg "min" = none) (b_len : mg "len" = none) (b_all : mg "all" = none) (b_int : mg "int" = none) : FnOk P w K mg base CX0 10 f fd ["script"] (spF mg K F_law) :=
  fn_ok F sc_law (by decide) ch_law (fun X a => by simp only [c_law, c_law_1, c_law_2, needB, needS, needE, needA, needO, needT, needTs, needI, and_true, true_and, and_assoc]; exact ⟨a.nb b_range, a.bl b_max, a.bl b_min, a.bl b_len, a.fn g__law_well (by omega), a.bl b_all, a.nb b_range, a.fn g__law_right (by omega), a.bl b_int, a.bl b_len⟩)
theorem bi_law {f : Addr} {fd : FuncData} (F : Fun K "law" "law" s_law f fd) : Binds K fd ["script"] [] := F.binds fun _ _ _ _ _ _ us hl => match us, hl with | [_], _ => rfl
theorem bl_law {f : Addr} {fd : FuncData} (F : Fun K "law" "law" s_law f fd) (s : Shared) (v : Value) : BindsTo s fd ⟨[v], []⟩ [("script", v)] := by
  obtain ⟨oc, od, kV, doc, pm, an, cdv, ct, osl, rfl, lk, hcd⟩ := F.ex
  exact .of_eq rfl
end
theorem all_mk {l : PySem.W.OpenLaw} {w : World} {K : PySem.W.Frag} {h : Heap} {mg : Str → Option Value} {fa : Addr} (X : K.In h) (G : h.Ns mainGlobals mg) (hfa : mg "law" = some (.ref fa))
    {f__law_well f__law_draw f__law_divisor f__law_frac f_is_whole f_is_between f_check_number f_check_size f_check_found f_is_tuple_of f_is_pair f_is_fraction f_is_part f_check_level f_is_less f_ways_of f_ways_found f_lowest f_chance_from f_chance_up_to f_range_by f_range_of f__law_is_row f__law_is_number f__law_ways f__law_found f__law_below f__law_add f__law_sum f__law_times f__law_same f_can_be_by f_can_be f__law_right f_law : Addr}
    {oc__law_well kV__law_well dc__law_well pm__law_well cd__law_well ct__law_well : Value} {od__law_well an__law_well : Option Addr} {sl__law_well : Array (Option Value)}
    {oc__law_draw kV__law_draw dc__law_draw pm__law_draw cd__law_draw ct__law_draw : Value} {od__law_draw an__law_draw : Option Addr} {sl__law_draw : Array (Option Value)}
    {oc__law_divisor kV__law_divisor dc__law_divisor pm__law_divisor cd__law_divisor ct__law_divisor : Value} {od__law_divisor an__law_divisor : Option Addr} {sl__law_divisor : Array (Option Value)}
    {oc__law_frac kV__law_frac dc__law_frac pm__law_frac cd__law_frac ct__law_frac : Value} {od__law_frac an__law_frac : Option Addr} {sl__law_frac : Array (Option Value)}
    {oc_is_whole kV_is_whole dc_is_whole pm_is_whole cd_is_whole ct_is_whole : Value} {od_is_whole an_is_whole : Option Addr} {sl_is_whole : Array (Option Value)}
    {oc_is_between kV_is_between dc_is_between pm_is_between cd_is_between ct_is_between : Value} {od_is_between an_is_between : Option Addr} {sl_is_between : Array (Option Value)}
    {oc_check_number kV_check_number dc_check_number pm_check_number cd_check_number ct_check_number : Value} {od_check_number an_check_number : Option Addr} {sl_check_number : Array (Option Value)}
    {oc_check_size kV_check_size dc_check_size pm_check_size cd_check_size ct_check_size : Value} {od_check_size an_check_size : Option Addr} {sl_check_size : Array (Option Value)}
    {oc_check_found kV_check_found dc_check_found pm_check_found cd_check_found ct_check_found : Value} {od_check_found an_check_found : Option Addr} {sl_check_found : Array (Option Value)}
    {oc_is_tuple_of kV_is_tuple_of dc_is_tuple_of pm_is_tuple_of cd_is_tuple_of ct_is_tuple_of : Value} {od_is_tuple_of an_is_tuple_of : Option Addr} {sl_is_tuple_of : Array (Option Value)}
    {oc_is_pair kV_is_pair dc_is_pair pm_is_pair cd_is_pair ct_is_pair : Value} {od_is_pair an_is_pair : Option Addr} {sl_is_pair : Array (Option Value)}
    {oc_is_fraction kV_is_fraction dc_is_fraction pm_is_fraction cd_is_fraction ct_is_fraction : Value} {od_is_fraction an_is_fraction : Option Addr} {sl_is_fraction : Array (Option Value)}
    {oc_is_part kV_is_part dc_is_part pm_is_part cd_is_part ct_is_part : Value} {od_is_part an_is_part : Option Addr} {sl_is_part : Array (Option Value)}
    {oc_check_level kV_check_level dc_check_level pm_check_level cd_check_level ct_check_level : Value} {od_check_level an_check_level : Option Addr} {sl_check_level : Array (Option Value)}
    {oc_is_less kV_is_less dc_is_less pm_is_less cd_is_less ct_is_less : Value} {od_is_less an_is_less : Option Addr} {sl_is_less : Array (Option Value)}
    {oc_ways_of kV_ways_of dc_ways_of pm_ways_of cd_ways_of ct_ways_of : Value} {od_ways_of an_ways_of : Option Addr} {sl_ways_of : Array (Option Value)}
    {oc_ways_found kV_ways_found dc_ways_found pm_ways_found cd_ways_found ct_ways_found : Value} {od_ways_found an_ways_found : Option Addr} {sl_ways_found : Array (Option Value)}
    {oc_lowest kV_lowest dc_lowest pm_lowest cd_lowest ct_lowest : Value} {od_lowest an_lowest : Option Addr} {sl_lowest : Array (Option Value)}
    {oc_chance_from kV_chance_from dc_chance_from pm_chance_from cd_chance_from ct_chance_from : Value} {od_chance_from an_chance_from : Option Addr} {sl_chance_from : Array (Option Value)}
    {oc_chance_up_to kV_chance_up_to dc_chance_up_to pm_chance_up_to cd_chance_up_to ct_chance_up_to : Value} {od_chance_up_to an_chance_up_to : Option Addr} {sl_chance_up_to : Array (Option Value)}
    {oc_range_by kV_range_by dc_range_by pm_range_by cd_range_by ct_range_by : Value} {od_range_by an_range_by : Option Addr} {sl_range_by : Array (Option Value)}
    {oc_range_of kV_range_of dc_range_of pm_range_of cd_range_of ct_range_of : Value} {od_range_of an_range_of : Option Addr} {sl_range_of : Array (Option Value)}
    {oc__law_is_row kV__law_is_row dc__law_is_row pm__law_is_row cd__law_is_row ct__law_is_row : Value} {od__law_is_row an__law_is_row : Option Addr} {sl__law_is_row : Array (Option Value)}
    {oc__law_is_number kV__law_is_number dc__law_is_number pm__law_is_number cd__law_is_number ct__law_is_number : Value} {od__law_is_number an__law_is_number : Option Addr} {sl__law_is_number : Array (Option Value)}
    {oc__law_ways kV__law_ways dc__law_ways pm__law_ways cd__law_ways ct__law_ways : Value} {od__law_ways an__law_ways : Option Addr} {sl__law_ways : Array (Option Value)}
    {oc__law_found kV__law_found dc__law_found pm__law_found cd__law_found ct__law_found : Value} {od__law_found an__law_found : Option Addr} {sl__law_found : Array (Option Value)}
    {oc__law_below kV__law_below dc__law_below pm__law_below cd__law_below ct__law_below : Value} {od__law_below an__law_below : Option Addr} {sl__law_below : Array (Option Value)}
    {oc__law_add kV__law_add dc__law_add pm__law_add cd__law_add ct__law_add : Value} {od__law_add an__law_add : Option Addr} {sl__law_add : Array (Option Value)}
    {oc__law_sum kV__law_sum dc__law_sum pm__law_sum cd__law_sum ct__law_sum : Value} {od__law_sum an__law_sum : Option Addr} {sl__law_sum : Array (Option Value)}
    {oc__law_times kV__law_times dc__law_times pm__law_times cd__law_times ct__law_times : Value} {od__law_times an__law_times : Option Addr} {sl__law_times : Array (Option Value)}
    {oc__law_same kV__law_same dc__law_same pm__law_same cd__law_same ct__law_same : Value} {od__law_same an__law_same : Option Addr} {sl__law_same : Array (Option Value)}
    {oc_can_be_by kV_can_be_by dc_can_be_by pm_can_be_by cd_can_be_by ct_can_be_by : Value} {od_can_be_by an_can_be_by : Option Addr} {sl_can_be_by : Array (Option Value)}
    {oc_can_be kV_can_be dc_can_be pm_can_be cd_can_be ct_can_be : Value} {od_can_be an_can_be : Option Addr} {sl_can_be : Array (Option Value)}
    {oc__law_right kV__law_right dc__law_right pm__law_right cd__law_right ct__law_right : Value} {od__law_right an__law_right : Option Addr} {sl__law_right : Array (Option Value)}
    {oc_law kV_law dc_law pm_law cd_law ct_law : Value} {od_law an_law : Option Addr} {sl_law : Array (Option Value)}
    {t_MOST_SIZE : Tok} {t_NOTHING_0 : Tok} {t_NOTHING_1 : Tok} {u_NOTHING : Addr} {dd_NOTHING : Option Addr} {n_NOTHING : Nat} {sl_NOTHING : Array (Option Value)} {t_WHOLE_0 : Tok} {t_WHOLE_1 : Tok} {u_WHOLE : Addr} {dd_WHOLE : Option Addr} {n_WHOLE : Nat} {sl_WHOLE : Array (Option Value)}
    (a__law_well : PySem.W.nsIn K mainGlobals "_law_well" = some (some (.ref f__law_well)))
    (l__law_well : K.lookup f__law_well = some ⟨oc__law_well, od__law_well, .func (PySem.W.fnOf "_law_well" "_law_well" (defArgs s__law_well) (defBody s__law_well) (defScope s__law_well) .none kV__law_well dc__law_well pm__law_well an__law_well cd__law_well ct__law_well), sl__law_well⟩)
    (c__law_well : PySem.W.codeIn K cd__law_well "_law_well" = true)
    (k__law_well : PySem.W.keepIn K (.ref f__law_well) = true)
    (a__law_draw : PySem.W.nsIn K mainGlobals "_law_draw" = some (some (.ref f__law_draw)))
    (l__law_draw : K.lookup f__law_draw = some ⟨oc__law_draw, od__law_draw, .func (PySem.W.fnOf "_law_draw" "_law_draw" (defArgs s__law_draw) (defBody s__law_draw) (defScope s__law_draw) .none kV__law_draw dc__law_draw pm__law_draw an__law_draw cd__law_draw ct__law_draw), sl__law_draw⟩)
    (c__law_draw : PySem.W.codeIn K cd__law_draw "_law_draw" = true)
    (k__law_draw : PySem.W.keepIn K (.ref f__law_draw) = true)
    (a__law_divisor : PySem.W.nsIn K mainGlobals "_law_divisor" = some (some (.ref f__law_divisor)))
    (l__law_divisor : K.lookup f__law_divisor = some ⟨oc__law_divisor, od__law_divisor, .func (PySem.W.fnOf "_law_divisor" "_law_divisor" (defArgs s__law_divisor) (defBody s__law_divisor) (defScope s__law_divisor) .none kV__law_divisor dc__law_divisor pm__law_divisor an__law_divisor cd__law_divisor ct__law_divisor), sl__law_divisor⟩)
    (c__law_divisor : PySem.W.codeIn K cd__law_divisor "_law_divisor" = true)
    (k__law_divisor : PySem.W.keepIn K (.ref f__law_divisor) = true)
    (a__law_frac : PySem.W.nsIn K mainGlobals "_law_frac" = some (some (.ref f__law_frac)))
    (l__law_frac : K.lookup f__law_frac = some ⟨oc__law_frac, od__law_frac, .func (PySem.W.fnOf "_law_frac" "_law_frac" (defArgs s__law_frac) (defBody s__law_frac) (defScope s__law_frac) .none kV__law_frac dc__law_frac pm__law_frac an__law_frac cd__law_frac ct__law_frac), sl__law_frac⟩)
    (c__law_frac : PySem.W.codeIn K cd__law_frac "_law_frac" = true)
    (k__law_frac : PySem.W.keepIn K (.ref f__law_frac) = true)
    (a_is_whole : PySem.W.nsIn K mainGlobals "is_whole" = some (some (.ref f_is_whole)))
    (l_is_whole : K.lookup f_is_whole = some ⟨oc_is_whole, od_is_whole, .func (PySem.W.fnOf "is_whole" "is_whole" (defArgs s_is_whole) (defBody s_is_whole) (defScope s_is_whole) .none kV_is_whole dc_is_whole pm_is_whole an_is_whole cd_is_whole ct_is_whole), sl_is_whole⟩)
    (c_is_whole : PySem.W.codeIn K cd_is_whole "is_whole" = true)
    (k_is_whole : PySem.W.keepIn K (.ref f_is_whole) = true)
    (a_is_between : PySem.W.nsIn K mainGlobals "is_between" = some (some (.ref f_is_between)))
    (l_is_between : K.lookup f_is_between = some ⟨oc_is_between, od_is_between, .func (PySem.W.fnOf "is_between" "is_between" (defArgs s_is_between) (defBody s_is_between) (defScope s_is_between) .none kV_is_between dc_is_between pm_is_between an_is_between cd_is_between ct_is_between), sl_is_between⟩)
    (c_is_between : PySem.W.codeIn K cd_is_between "is_between" = true)
    (k_is_between : PySem.W.keepIn K (.ref f_is_between) = true)
    (a_check_number : PySem.W.nsIn K mainGlobals "check_number" = some (some (.ref f_check_number)))
    (l_check_number : K.lookup f_check_number = some ⟨oc_check_number, od_check_number, .func (PySem.W.fnOf "check_number" "check_number" (defArgs s_check_number) (defBody s_check_number) (defScope s_check_number) .none kV_check_number dc_check_number pm_check_number an_check_number cd_check_number ct_check_number), sl_check_number⟩)
    (c_check_number : PySem.W.codeIn K cd_check_number "check_number" = true)
    (k_check_number : PySem.W.keepIn K (.ref f_check_number) = true)
    (a_check_size : PySem.W.nsIn K mainGlobals "check_size" = some (some (.ref f_check_size)))
    (l_check_size : K.lookup f_check_size = some ⟨oc_check_size, od_check_size, .func (PySem.W.fnOf "check_size" "check_size" (defArgs s_check_size) (defBody s_check_size) (defScope s_check_size) .none kV_check_size dc_check_size pm_check_size an_check_size cd_check_size ct_check_size), sl_check_size⟩)
    (c_check_size : PySem.W.codeIn K cd_check_size "check_size" = true)
    (k_check_size : PySem.W.keepIn K (.ref f_check_size) = true)
    (a_check_found : PySem.W.nsIn K mainGlobals "check_found" = some (some (.ref f_check_found)))
    (l_check_found : K.lookup f_check_found = some ⟨oc_check_found, od_check_found, .func (PySem.W.fnOf "check_found" "check_found" (defArgs s_check_found) (defBody s_check_found) (defScope s_check_found) .none kV_check_found dc_check_found pm_check_found an_check_found cd_check_found ct_check_found), sl_check_found⟩)
    (c_check_found : PySem.W.codeIn K cd_check_found "check_found" = true)
    (k_check_found : PySem.W.keepIn K (.ref f_check_found) = true)
    (a_is_tuple_of : PySem.W.nsIn K mainGlobals "is_tuple_of" = some (some (.ref f_is_tuple_of)))
    (l_is_tuple_of : K.lookup f_is_tuple_of = some ⟨oc_is_tuple_of, od_is_tuple_of, .func (PySem.W.fnOf "is_tuple_of" "is_tuple_of" (defArgs s_is_tuple_of) (defBody s_is_tuple_of) (defScope s_is_tuple_of) .none kV_is_tuple_of dc_is_tuple_of pm_is_tuple_of an_is_tuple_of cd_is_tuple_of ct_is_tuple_of), sl_is_tuple_of⟩)
    (c_is_tuple_of : PySem.W.codeIn K cd_is_tuple_of "is_tuple_of" = true)
    (k_is_tuple_of : PySem.W.keepIn K (.ref f_is_tuple_of) = true)
    (a_is_pair : PySem.W.nsIn K mainGlobals "is_pair" = some (some (.ref f_is_pair)))
    (l_is_pair : K.lookup f_is_pair = some ⟨oc_is_pair, od_is_pair, .func (PySem.W.fnOf "is_pair" "is_pair" (defArgs s_is_pair) (defBody s_is_pair) (defScope s_is_pair) .none kV_is_pair dc_is_pair pm_is_pair an_is_pair cd_is_pair ct_is_pair), sl_is_pair⟩)
    (c_is_pair : PySem.W.codeIn K cd_is_pair "is_pair" = true)
    (k_is_pair : PySem.W.keepIn K (.ref f_is_pair) = true)
    (a_is_fraction : PySem.W.nsIn K mainGlobals "is_fraction" = some (some (.ref f_is_fraction)))
    (l_is_fraction : K.lookup f_is_fraction = some ⟨oc_is_fraction, od_is_fraction, .func (PySem.W.fnOf "is_fraction" "is_fraction" (defArgs s_is_fraction) (defBody s_is_fraction) (defScope s_is_fraction) .none kV_is_fraction dc_is_fraction pm_is_fraction an_is_fraction cd_is_fraction ct_is_fraction), sl_is_fraction⟩)
    (c_is_fraction : PySem.W.codeIn K cd_is_fraction "is_fraction" = true)
    (k_is_fraction : PySem.W.keepIn K (.ref f_is_fraction) = true)
    (a_is_part : PySem.W.nsIn K mainGlobals "is_part" = some (some (.ref f_is_part)))
    (l_is_part : K.lookup f_is_part = some ⟨oc_is_part, od_is_part, .func (PySem.W.fnOf "is_part" "is_part" (defArgs s_is_part) (defBody s_is_part) (defScope s_is_part) .none kV_is_part dc_is_part pm_is_part an_is_part cd_is_part ct_is_part), sl_is_part⟩)
    (c_is_part : PySem.W.codeIn K cd_is_part "is_part" = true)
    (k_is_part : PySem.W.keepIn K (.ref f_is_part) = true)
    (a_check_level : PySem.W.nsIn K mainGlobals "check_level" = some (some (.ref f_check_level)))
    (l_check_level : K.lookup f_check_level = some ⟨oc_check_level, od_check_level, .func (PySem.W.fnOf "check_level" "check_level" (defArgs s_check_level) (defBody s_check_level) (defScope s_check_level) .none kV_check_level dc_check_level pm_check_level an_check_level cd_check_level ct_check_level), sl_check_level⟩)
    (c_check_level : PySem.W.codeIn K cd_check_level "check_level" = true)
    (k_check_level : PySem.W.keepIn K (.ref f_check_level) = true)
    (a_is_less : PySem.W.nsIn K mainGlobals "is_less" = some (some (.ref f_is_less)))
    (l_is_less : K.lookup f_is_less = some ⟨oc_is_less, od_is_less, .func (PySem.W.fnOf "is_less" "is_less" (defArgs s_is_less) (defBody s_is_less) (defScope s_is_less) .none kV_is_less dc_is_less pm_is_less an_is_less cd_is_less ct_is_less), sl_is_less⟩)
    (c_is_less : PySem.W.codeIn K cd_is_less "is_less" = true)
    (k_is_less : PySem.W.keepIn K (.ref f_is_less) = true)
    (a_ways_of : PySem.W.nsIn K mainGlobals "ways_of" = some (some (.ref f_ways_of)))
    (l_ways_of : K.lookup f_ways_of = some ⟨oc_ways_of, od_ways_of, .func (PySem.W.fnOf "ways_of" "ways_of" (defArgs s_ways_of) (defBody s_ways_of) (defScope s_ways_of) .none kV_ways_of dc_ways_of pm_ways_of an_ways_of cd_ways_of ct_ways_of), sl_ways_of⟩)
    (c_ways_of : PySem.W.codeIn K cd_ways_of "ways_of" = true)
    (k_ways_of : PySem.W.keepIn K (.ref f_ways_of) = true)
    (a_ways_found : PySem.W.nsIn K mainGlobals "ways_found" = some (some (.ref f_ways_found)))
    (l_ways_found : K.lookup f_ways_found = some ⟨oc_ways_found, od_ways_found, .func (PySem.W.fnOf "ways_found" "ways_found" (defArgs s_ways_found) (defBody s_ways_found) (defScope s_ways_found) .none kV_ways_found dc_ways_found pm_ways_found an_ways_found cd_ways_found ct_ways_found), sl_ways_found⟩)
    (c_ways_found : PySem.W.codeIn K cd_ways_found "ways_found" = true)
    (k_ways_found : PySem.W.keepIn K (.ref f_ways_found) = true)
    (a_lowest : PySem.W.nsIn K mainGlobals "lowest" = some (some (.ref f_lowest)))
    (l_lowest : K.lookup f_lowest = some ⟨oc_lowest, od_lowest, .func (PySem.W.fnOf "lowest" "lowest" (defArgs s_lowest) (defBody s_lowest) (defScope s_lowest) .none kV_lowest dc_lowest pm_lowest an_lowest cd_lowest ct_lowest), sl_lowest⟩)
    (c_lowest : PySem.W.codeIn K cd_lowest "lowest" = true)
    (k_lowest : PySem.W.keepIn K (.ref f_lowest) = true)
    (a_chance_from : PySem.W.nsIn K mainGlobals "chance_from" = some (some (.ref f_chance_from)))
    (l_chance_from : K.lookup f_chance_from = some ⟨oc_chance_from, od_chance_from, .func (PySem.W.fnOf "chance_from" "chance_from" (defArgs s_chance_from) (defBody s_chance_from) (defScope s_chance_from) .none kV_chance_from dc_chance_from pm_chance_from an_chance_from cd_chance_from ct_chance_from), sl_chance_from⟩)
    (c_chance_from : PySem.W.codeIn K cd_chance_from "chance_from" = true)
    (k_chance_from : PySem.W.keepIn K (.ref f_chance_from) = true)
    (a_chance_up_to : PySem.W.nsIn K mainGlobals "chance_up_to" = some (some (.ref f_chance_up_to)))
    (l_chance_up_to : K.lookup f_chance_up_to = some ⟨oc_chance_up_to, od_chance_up_to, .func (PySem.W.fnOf "chance_up_to" "chance_up_to" (defArgs s_chance_up_to) (defBody s_chance_up_to) (defScope s_chance_up_to) .none kV_chance_up_to dc_chance_up_to pm_chance_up_to an_chance_up_to cd_chance_up_to ct_chance_up_to), sl_chance_up_to⟩)
    (c_chance_up_to : PySem.W.codeIn K cd_chance_up_to "chance_up_to" = true)
    (k_chance_up_to : PySem.W.keepIn K (.ref f_chance_up_to) = true)
    (a_range_by : PySem.W.nsIn K mainGlobals "range_by" = some (some (.ref f_range_by)))
    (l_range_by : K.lookup f_range_by = some ⟨oc_range_by, od_range_by, .func (PySem.W.fnOf "range_by" "range_by" (defArgs s_range_by) (defBody s_range_by) (defScope s_range_by) .none kV_range_by dc_range_by pm_range_by an_range_by cd_range_by ct_range_by), sl_range_by⟩)
    (c_range_by : PySem.W.codeIn K cd_range_by "range_by" = true)
    (k_range_by : PySem.W.keepIn K (.ref f_range_by) = true)
    (a_range_of : PySem.W.nsIn K mainGlobals "range_of" = some (some (.ref f_range_of)))
    (l_range_of : K.lookup f_range_of = some ⟨oc_range_of, od_range_of, .func (PySem.W.fnOf "range_of" "range_of" (defArgs s_range_of) (defBody s_range_of) (defScope s_range_of) .none kV_range_of dc_range_of pm_range_of an_range_of cd_range_of ct_range_of), sl_range_of⟩)
    (c_range_of : PySem.W.codeIn K cd_range_of "range_of" = true)
    (k_range_of : PySem.W.keepIn K (.ref f_range_of) = true)
    (a__law_is_row : PySem.W.nsIn K mainGlobals "_law_is_row" = some (some (.ref f__law_is_row)))
    (l__law_is_row : K.lookup f__law_is_row = some ⟨oc__law_is_row, od__law_is_row, .func (PySem.W.fnOf "_law_is_row" "_law_is_row" (defArgs s__law_is_row) (defBody s__law_is_row) (defScope s__law_is_row) .none kV__law_is_row dc__law_is_row pm__law_is_row an__law_is_row cd__law_is_row ct__law_is_row), sl__law_is_row⟩)
    (c__law_is_row : PySem.W.codeIn K cd__law_is_row "_law_is_row" = true)
    (k__law_is_row : PySem.W.keepIn K (.ref f__law_is_row) = true)
    (a__law_is_number : PySem.W.nsIn K mainGlobals "_law_is_number" = some (some (.ref f__law_is_number)))
    (l__law_is_number : K.lookup f__law_is_number = some ⟨oc__law_is_number, od__law_is_number, .func (PySem.W.fnOf "_law_is_number" "_law_is_number" (defArgs s__law_is_number) (defBody s__law_is_number) (defScope s__law_is_number) .none kV__law_is_number dc__law_is_number pm__law_is_number an__law_is_number cd__law_is_number ct__law_is_number), sl__law_is_number⟩)
    (c__law_is_number : PySem.W.codeIn K cd__law_is_number "_law_is_number" = true)
    (k__law_is_number : PySem.W.keepIn K (.ref f__law_is_number) = true)
    (a__law_ways : PySem.W.nsIn K mainGlobals "_law_ways" = some (some (.ref f__law_ways)))
    (l__law_ways : K.lookup f__law_ways = some ⟨oc__law_ways, od__law_ways, .func (PySem.W.fnOf "_law_ways" "_law_ways" (defArgs s__law_ways) (defBody s__law_ways) (defScope s__law_ways) .none kV__law_ways dc__law_ways pm__law_ways an__law_ways cd__law_ways ct__law_ways), sl__law_ways⟩)
    (c__law_ways : PySem.W.codeIn K cd__law_ways "_law_ways" = true)
    (k__law_ways : PySem.W.keepIn K (.ref f__law_ways) = true)
    (a__law_found : PySem.W.nsIn K mainGlobals "_law_found" = some (some (.ref f__law_found)))
    (l__law_found : K.lookup f__law_found = some ⟨oc__law_found, od__law_found, .func (PySem.W.fnOf "_law_found" "_law_found" (defArgs s__law_found) (defBody s__law_found) (defScope s__law_found) .none kV__law_found dc__law_found pm__law_found an__law_found cd__law_found ct__law_found), sl__law_found⟩)
    (c__law_found : PySem.W.codeIn K cd__law_found "_law_found" = true)
    (k__law_found : PySem.W.keepIn K (.ref f__law_found) = true)
    (a__law_below : PySem.W.nsIn K mainGlobals "_law_below" = some (some (.ref f__law_below)))
    (l__law_below : K.lookup f__law_below = some ⟨oc__law_below, od__law_below, .func (PySem.W.fnOf "_law_below" "_law_below" (defArgs s__law_below) (defBody s__law_below) (defScope s__law_below) .none kV__law_below dc__law_below pm__law_below an__law_below cd__law_below ct__law_below), sl__law_below⟩)
    (c__law_below : PySem.W.codeIn K cd__law_below "_law_below" = true)
    (k__law_below : PySem.W.keepIn K (.ref f__law_below) = true)
    (a__law_add : PySem.W.nsIn K mainGlobals "_law_add" = some (some (.ref f__law_add)))
    (l__law_add : K.lookup f__law_add = some ⟨oc__law_add, od__law_add, .func (PySem.W.fnOf "_law_add" "_law_add" (defArgs s__law_add) (defBody s__law_add) (defScope s__law_add) .none kV__law_add dc__law_add pm__law_add an__law_add cd__law_add ct__law_add), sl__law_add⟩)
    (c__law_add : PySem.W.codeIn K cd__law_add "_law_add" = true)
    (k__law_add : PySem.W.keepIn K (.ref f__law_add) = true)
    (a__law_sum : PySem.W.nsIn K mainGlobals "_law_sum" = some (some (.ref f__law_sum)))
    (l__law_sum : K.lookup f__law_sum = some ⟨oc__law_sum, od__law_sum, .func (PySem.W.fnOf "_law_sum" "_law_sum" (defArgs s__law_sum) (defBody s__law_sum) (defScope s__law_sum) .none kV__law_sum dc__law_sum pm__law_sum an__law_sum cd__law_sum ct__law_sum), sl__law_sum⟩)
    (c__law_sum : PySem.W.codeIn K cd__law_sum "_law_sum" = true)
    (k__law_sum : PySem.W.keepIn K (.ref f__law_sum) = true)
    (a__law_times : PySem.W.nsIn K mainGlobals "_law_times" = some (some (.ref f__law_times)))
    (l__law_times : K.lookup f__law_times = some ⟨oc__law_times, od__law_times, .func (PySem.W.fnOf "_law_times" "_law_times" (defArgs s__law_times) (defBody s__law_times) (defScope s__law_times) .none kV__law_times dc__law_times pm__law_times an__law_times cd__law_times ct__law_times), sl__law_times⟩)
    (c__law_times : PySem.W.codeIn K cd__law_times "_law_times" = true)
    (k__law_times : PySem.W.keepIn K (.ref f__law_times) = true)
    (a__law_same : PySem.W.nsIn K mainGlobals "_law_same" = some (some (.ref f__law_same)))
    (l__law_same : K.lookup f__law_same = some ⟨oc__law_same, od__law_same, .func (PySem.W.fnOf "_law_same" "_law_same" (defArgs s__law_same) (defBody s__law_same) (defScope s__law_same) .none kV__law_same dc__law_same pm__law_same an__law_same cd__law_same ct__law_same), sl__law_same⟩)
    (c__law_same : PySem.W.codeIn K cd__law_same "_law_same" = true)
    (k__law_same : PySem.W.keepIn K (.ref f__law_same) = true)
    (a_can_be_by : PySem.W.nsIn K mainGlobals "can_be_by" = some (some (.ref f_can_be_by)))
    (l_can_be_by : K.lookup f_can_be_by = some ⟨oc_can_be_by, od_can_be_by, .func (PySem.W.fnOf "can_be_by" "can_be_by" (defArgs s_can_be_by) (defBody s_can_be_by) (defScope s_can_be_by) .none kV_can_be_by dc_can_be_by pm_can_be_by an_can_be_by cd_can_be_by ct_can_be_by), sl_can_be_by⟩)
    (c_can_be_by : PySem.W.codeIn K cd_can_be_by "can_be_by" = true)
    (k_can_be_by : PySem.W.keepIn K (.ref f_can_be_by) = true)
    (a_can_be : PySem.W.nsIn K mainGlobals "can_be" = some (some (.ref f_can_be)))
    (l_can_be : K.lookup f_can_be = some ⟨oc_can_be, od_can_be, .func (PySem.W.fnOf "can_be" "can_be" (defArgs s_can_be) (defBody s_can_be) (defScope s_can_be) .none kV_can_be dc_can_be pm_can_be an_can_be cd_can_be ct_can_be), sl_can_be⟩)
    (c_can_be : PySem.W.codeIn K cd_can_be "can_be" = true)
    (k_can_be : PySem.W.keepIn K (.ref f_can_be) = true)
    (a__law_right : PySem.W.nsIn K mainGlobals "_law_right" = some (some (.ref f__law_right)))
    (l__law_right : K.lookup f__law_right = some ⟨oc__law_right, od__law_right, .func (PySem.W.fnOf "_law_right" "_law_right" (defArgs s__law_right) (defBody s__law_right) (defScope s__law_right) .none kV__law_right dc__law_right pm__law_right an__law_right cd__law_right ct__law_right), sl__law_right⟩)
    (c__law_right : PySem.W.codeIn K cd__law_right "_law_right" = true)
    (k__law_right : PySem.W.keepIn K (.ref f__law_right) = true)
    (a_law : PySem.W.nsIn K mainGlobals "law" = some (some (.ref f_law)))
    (l_law : K.lookup f_law = some ⟨oc_law, od_law, .func (PySem.W.fnOf "law" "law" (defArgs s_law) (defBody s_law) (defScope s_law) .none kV_law dc_law pm_law an_law cd_law ct_law), sl_law⟩)
    (c_law : PySem.W.codeIn K cd_law "law" = true)
    (k_law : PySem.W.keepIn K (.ref f_law) = true)
    (z_int : PySem.W.nsIn K mainGlobals "int" = some none)
    (z_len : PySem.W.nsIn K mainGlobals "len" = some none)
    (z_abs : PySem.W.nsIn K mainGlobals "abs" = some none)
    (z_divmod : PySem.W.nsIn K mainGlobals "divmod" = some none)
    (z_isinstance : PySem.W.nsIn K mainGlobals "isinstance" = some none)
    (z_bool : PySem.W.nsIn K mainGlobals "bool" = some none)
    (z_tuple : PySem.W.nsIn K mainGlobals "tuple" = some none)
    (z_all : PySem.W.nsIn K mainGlobals "all" = some none)
    (z_gcd : PySem.W.nsIn K mainGlobals "gcd" = some (some (.builtin "math.gcd")))
    (z_range : PySem.W.nsIn K mainGlobals "range" = some none)
    (z_sum : PySem.W.nsIn K mainGlobals "sum" = some none)
    (z_list : PySem.W.nsIn K mainGlobals "list" = some none)
    (z_min : PySem.W.nsIn K mainGlobals "min" = some none)
    (z_max : PySem.W.nsIn K mainGlobals "max" = some none)
    (z_str : PySem.W.nsIn K mainGlobals "str" = some none)
    (z_dict : PySem.W.nsIn K mainGlobals "dict" = some none)
    (q_MOST_SIZE : PySem.W.nsIn K mainGlobals "MOST_SIZE" = some (some (.int (40) t_MOST_SIZE)))
    (q_NOTHING : PySem.W.nsIn K mainGlobals "NOTHING" = some (some (.ref u_NOTHING)))
    (r_NOTHING : K.lookup u_NOTHING = some ⟨.type "tuple", dd_NOTHING, .seq #[.int (0) t_NOTHING_0, .int (1) t_NOTHING_1] n_NOTHING, sl_NOTHING⟩)
    (q_WHOLE : PySem.W.nsIn K mainGlobals "WHOLE" = some (some (.ref u_WHOLE)))
    (r_WHOLE : K.lookup u_WHOLE = some ⟨.type "tuple", dd_WHOLE, .seq #[.int (1) t_WHOLE_0, .int (1) t_WHOLE_1] n_WHOLE, sl_WHOLE⟩)
    (HL : ∀ ns : List Int, ns.length ≤ 63 → (∀ z ∈ ns, Builtin.Int.intBits z ≤ 1048576) → F_law [.v (.list (ns.map .int))] = some (.ret (.v (.bool true)) [])) :
    ∃ fd : FuncData, (∀ (s : Shared) (v : Value), BindsTo s fd ⟨[v], []⟩ [("script", v)]) ∧ ∀ base : Heap, K.In base → base.Ns mainGlobals mg → FnOk l.prog w K mg base CX0 10 fa fd ["script"] (spLaw K) := by
  have e := hfa.symm.trans (PySem.W.mg_of X G a_law)
  cases e
  have g_MOST_SIZE : GlK K mg "MOST_SIZE" (.int 40) := ⟨_, _, PySem.W.mg_of X G q_MOST_SIZE, (show RelV (V.int _) _ from ⟨_, rfl⟩), .int _⟩
  have g_NOTHING : GlK K mg "NOTHING" (.tuple [(.int 0), (.int 1)]) := ⟨_, .ref u_NOTHING, PySem.W.mg_of X G q_NOTHING, rfl, .tup (.inr ⟨_, _, _, r_NOTHING, rfl, rfl, (by show 2 ≤ sizeLine; decide), (show Vals [V.int (0), V.int (1)] _ from .cons ⟨_, rfl⟩ (.cons ⟨_, rfl⟩ (.nil)))⟩) (.cons (.int _) (.cons (.int _) (.nil)))⟩
  have g_WHOLE : GlK K mg "WHOLE" (.tuple [(.int 1), (.int 1)]) := ⟨_, .ref u_WHOLE, PySem.W.mg_of X G q_WHOLE, rfl, .tup (.inr ⟨_, _, _, r_WHOLE, rfl, rfl, (by show 2 ≤ sizeLine; decide), (show Vals [V.int (1), V.int (1)] _ from .cons ⟨_, rfl⟩ (.cons ⟨_, rfl⟩ (.nil)))⟩) (.cons (.int _) (.cons (.int _) (.nil)))⟩
  have F__law_well_ := fun_mk (st := s__law_well) l__law_well c__law_well k__law_well
  have F__law_draw_ := fun_mk (st := s__law_draw) l__law_draw c__law_draw k__law_draw
  have F__law_divisor_ := fun_mk (st := s__law_divisor) l__law_divisor c__law_divisor k__law_divisor
  have F__law_frac_ := fun_mk (st := s__law_frac) l__law_frac c__law_frac k__law_frac
  have F_is_whole_ := fun_mk (st := s_is_whole) l_is_whole c_is_whole k_is_whole
  have F_is_between_ := fun_mk (st := s_is_between) l_is_between c_is_between k_is_between
  have F_check_number_ := fun_mk (st := s_check_number) l_check_number c_check_number k_check_number
  have F_check_size_ := fun_mk (st := s_check_size) l_check_size c_check_size k_check_size
  have F_check_found_ := fun_mk (st := s_check_found) l_check_found c_check_found k_check_found
  have F_is_tuple_of_ := fun_mk (st := s_is_tuple_of) l_is_tuple_of c_is_tuple_of k_is_tuple_of
  have F_is_pair_ := fun_mk (st := s_is_pair) l_is_pair c_is_pair k_is_pair
  have F_is_fraction_ := fun_mk (st := s_is_fraction) l_is_fraction c_is_fraction k_is_fraction
  have F_is_part_ := fun_mk (st := s_is_part) l_is_part c_is_part k_is_part
  have F_check_level_ := fun_mk (st := s_check_level) l_check_level c_check_level k_check_level
  have F_is_less_ := fun_mk (st := s_is_less) l_is_less c_is_less k_is_less
  have F_ways_of_ := fun_mk (st := s_ways_of) l_ways_of c_ways_of k_ways_of
  have F_ways_found_ := fun_mk (st := s_ways_found) l_ways_found c_ways_found k_ways_found
  have F_lowest_ := fun_mk (st := s_lowest) l_lowest c_lowest k_lowest
  have F_chance_from_ := fun_mk (st := s_chance_from) l_chance_from c_chance_from k_chance_from
  have F_chance_up_to_ := fun_mk (st := s_chance_up_to) l_chance_up_to c_chance_up_to k_chance_up_to
  have F_range_by_ := fun_mk (st := s_range_by) l_range_by c_range_by k_range_by
  have F_range_of_ := fun_mk (st := s_range_of) l_range_of c_range_of k_range_of
  have F__law_is_row_ := fun_mk (st := s__law_is_row) l__law_is_row c__law_is_row k__law_is_row
  have F__law_is_number_ := fun_mk (st := s__law_is_number) l__law_is_number c__law_is_number k__law_is_number
  have F__law_ways_ := fun_mk (st := s__law_ways) l__law_ways c__law_ways k__law_ways
  have F__law_found_ := fun_mk (st := s__law_found) l__law_found c__law_found k__law_found
  have F__law_below_ := fun_mk (st := s__law_below) l__law_below c__law_below k__law_below
  have F__law_add_ := fun_mk (st := s__law_add) l__law_add c__law_add k__law_add
  have F__law_sum_ := fun_mk (st := s__law_sum) l__law_sum c__law_sum k__law_sum
  have F__law_times_ := fun_mk (st := s__law_times) l__law_times c__law_times k__law_times
  have F__law_same_ := fun_mk (st := s__law_same) l__law_same c__law_same k__law_same
  have F_can_be_by_ := fun_mk (st := s_can_be_by) l_can_be_by c_can_be_by k_can_be_by
  have F_can_be_ := fun_mk (st := s_can_be) l_can_be c_can_be k_can_be
  have F__law_right_ := fun_mk (st := s__law_right) l__law_right c__law_right k__law_right
  have F_law_ := fun_mk (st := s_law) l_law c_law k_law
  refine ⟨_, bl_law F_law_, fun base hb hm => ?_⟩
  have o__law_well := ok__law_well (P := l.prog) (w := w) (base := base) (mg := mg) F__law_well_ (PySem.W.mg_none_of X G z_int) (PySem.W.mg_none_of X G z_len) (PySem.W.mg_none_of X G z_abs)
  have h__law_well : FnK l.prog w K mg base CX0 1 "_law_well" F__law_well := ⟨_, _, _, PySem.W.mg_of X G a__law_well, k__law_well, bi__law_well F__law_well_, o__law_well⟩
  have o__law_draw := ok__law_draw (P := l.prog) (w := w) (base := base) (mg := mg) F__law_draw_ (PySem.W.mg_none_of X G z_divmod) (PySem.W.mg_none_of X G z_int)
  have h__law_draw : FnK l.prog w K mg base CX0 1 "_law_draw" F__law_draw := ⟨_, _, _, PySem.W.mg_of X G a__law_draw, k__law_draw, bi__law_draw F__law_draw_, o__law_draw⟩
  have o__law_divisor := ok__law_divisor (P := l.prog) (w := w) (base := base) (mg := mg) F__law_divisor_ (PySem.W.mg_none_of X G z_int)
  have h__law_divisor : FnK l.prog w K mg base CX0 1 "_law_divisor" F__law_divisor := ⟨_, _, _, PySem.W.mg_of X G a__law_divisor, k__law_divisor, bi__law_divisor F__law_divisor_, o__law_divisor⟩
  have o__law_frac := ok__law_frac (P := l.prog) (w := w) (base := base) (mg := mg) F__law_frac_ h__law_divisor (PySem.W.mg_none_of X G z_abs)
  have h__law_frac : FnK l.prog w K mg base CX0 2 "_law_frac" F__law_frac := ⟨_, _, _, PySem.W.mg_of X G a__law_frac, k__law_frac, bi__law_frac F__law_frac_, o__law_frac⟩
  have o_is_whole := ok_is_whole (P := l.prog) (w := w) (base := base) (mg := mg) F_is_whole_ (PySem.W.mg_none_of X G z_isinstance) (PySem.W.mg_none_of X G z_int) (PySem.W.mg_none_of X G z_bool)
  have h_is_whole : FnK l.prog w K mg base CX0 1 "is_whole" F_is_whole := ⟨_, _, _, PySem.W.mg_of X G a_is_whole, k_is_whole, bi_is_whole F_is_whole_, o_is_whole⟩
  have o_is_between := ok_is_between (P := l.prog) (w := w) (base := base) (mg := mg) F_is_between_ h_is_whole
  have h_is_between : FnK l.prog w K mg base CX0 2 "is_between" F_is_between := ⟨_, _, _, PySem.W.mg_of X G a_is_between, k_is_between, bi_is_between F_is_between_, o_is_between⟩
  have o_check_number := ok_check_number (P := l.prog) (w := w) (base := base) (mg := mg) F_check_number_ h_is_between
  have h_check_number : FnK l.prog w K mg base CX0 3 "check_number" F_check_number := ⟨_, _, _, PySem.W.mg_of X G a_check_number, k_check_number, bi_check_number F_check_number_, o_check_number⟩
  have o_check_size := ok_check_size (P := l.prog) (w := w) (base := base) (mg := mg) F_check_size_ h_check_number g_MOST_SIZE
  have h_check_size : FnK l.prog w K mg base CX0 4 "check_size" F_check_size := ⟨_, _, _, PySem.W.mg_of X G a_check_size, k_check_size, bi_check_size F_check_size_, o_check_size⟩
  have o_check_found := ok_check_found (P := l.prog) (w := w) (base := base) (mg := mg) F_check_found_ h_check_size h_check_number
  have h_check_found : FnK l.prog w K mg base CX0 5 "check_found" F_check_found := ⟨_, _, _, PySem.W.mg_of X G a_check_found, k_check_found, bi_check_found F_check_found_, o_check_found⟩
  have o_is_tuple_of := ok_is_tuple_of (P := l.prog) (w := w) (base := base) (mg := mg) F_is_tuple_of_ (PySem.W.mg_none_of X G z_isinstance) (PySem.W.mg_none_of X G z_tuple) (PySem.W.mg_none_of X G z_len)
  have h_is_tuple_of : FnK l.prog w K mg base CX0 1 "is_tuple_of" F_is_tuple_of := ⟨_, _, _, PySem.W.mg_of X G a_is_tuple_of, k_is_tuple_of, bi_is_tuple_of F_is_tuple_of_, o_is_tuple_of⟩
  have o_is_pair := ok_is_pair (P := l.prog) (w := w) (base := base) (mg := mg) F_is_pair_ h_is_tuple_of
  have h_is_pair : FnK l.prog w K mg base CX0 2 "is_pair" F_is_pair := ⟨_, _, _, PySem.W.mg_of X G a_is_pair, k_is_pair, bi_is_pair F_is_pair_, o_is_pair⟩
  have o_is_fraction := ok_is_fraction (P := l.prog) (w := w) (base := base) (mg := mg) F_is_fraction_ h_is_pair h_is_whole (PySem.W.mg_none_of X G z_all) (PySem.W.mg_of X G z_gcd)
  have h_is_fraction : FnK l.prog w K mg base CX0 3 "is_fraction" F_is_fraction := ⟨_, _, _, PySem.W.mg_of X G a_is_fraction, k_is_fraction, bi_is_fraction F_is_fraction_, o_is_fraction⟩
  have o_is_part := ok_is_part (P := l.prog) (w := w) (base := base) (mg := mg) F_is_part_ h_is_fraction
  have h_is_part : FnK l.prog w K mg base CX0 4 "is_part" F_is_part := ⟨_, _, _, PySem.W.mg_of X G a_is_part, k_is_part, bi_is_part F_is_part_, o_is_part⟩
  have o_check_level := ok_check_level (P := l.prog) (w := w) (base := base) (mg := mg) F_check_level_ h_is_part g_NOTHING g_WHOLE
  have h_check_level : FnK l.prog w K mg base CX0 5 "check_level" F_check_level := ⟨_, _, _, PySem.W.mg_of X G a_check_level, k_check_level, bi_check_level F_check_level_, o_check_level⟩
  have o_is_less := ok_is_less (P := l.prog) (w := w) (base := base) (mg := mg) F_is_less_ 
  have h_is_less : FnK l.prog w K mg base CX0 1 "is_less" F_is_less := ⟨_, _, _, PySem.W.mg_of X G a_is_less, k_is_less, bi_is_less F_is_less_, o_is_less⟩
  have o_ways_of := ok_ways_of (P := l.prog) (w := w) (base := base) (mg := mg) F_ways_of_ (PySem.W.mg_none_of X G z_range)
  have h_ways_of : FnK l.prog w K mg base CX0 1 "ways_of" F_ways_of := ⟨_, _, _, PySem.W.mg_of X G a_ways_of, k_ways_of, bi_ways_of F_ways_of_, o_ways_of⟩
  have o_ways_found := ok_ways_found (P := l.prog) (w := w) (base := base) (mg := mg) F_ways_found_ h_ways_of
  have h_ways_found : FnK l.prog w K mg base CX0 2 "ways_found" F_ways_found := ⟨_, _, _, PySem.W.mg_of X G a_ways_found, k_ways_found, bi_ways_found F_ways_found_, o_ways_found⟩
  have o_lowest := ok_lowest (P := l.prog) (w := w) (base := base) (mg := mg) F_lowest_ (PySem.W.mg_of X G z_gcd)
  have h_lowest : FnK l.prog w K mg base CX0 1 "lowest" F_lowest := ⟨_, _, _, PySem.W.mg_of X G a_lowest, k_lowest, bi_lowest F_lowest_, o_lowest⟩
  have o_chance_from := ok_chance_from (P := l.prog) (w := w) (base := base) (mg := mg) F_chance_from_ h_ways_found h_lowest h_ways_of (PySem.W.mg_none_of X G z_sum) (PySem.W.mg_none_of X G z_range)
  have h_chance_from : FnK l.prog w K mg base CX0 3 "chance_from" F_chance_from := ⟨_, _, _, PySem.W.mg_of X G a_chance_from, k_chance_from, bi_chance_from F_chance_from_, o_chance_from⟩
  have o_chance_up_to := ok_chance_up_to (P := l.prog) (w := w) (base := base) (mg := mg) F_chance_up_to_ h_ways_found h_lowest h_ways_of (PySem.W.mg_none_of X G z_sum) (PySem.W.mg_none_of X G z_range)
  have h_chance_up_to : FnK l.prog w K mg base CX0 3 "chance_up_to" F_chance_up_to := ⟨_, _, _, PySem.W.mg_of X G a_chance_up_to, k_chance_up_to, bi_chance_up_to F_chance_up_to_, o_chance_up_to⟩
  have o_range_by := ok_range_by (P := l.prog) (w := w) (base := base) (mg := mg) F_range_by_ h_is_less h_chance_from h_chance_up_to (PySem.W.mg_none_of X G z_list) (PySem.W.mg_none_of X G z_range) (PySem.W.mg_none_of X G z_min) (PySem.W.mg_none_of X G z_max)
  have h_range_by : FnK l.prog w K mg base CX0 4 "range_by" F_range_by := ⟨_, _, _, PySem.W.mg_of X G a_range_by, k_range_by, bi_range_by F_range_by_, o_range_by⟩
  have o_range_of := ok_range_of (P := l.prog) (w := w) (base := base) (mg := mg) F_range_of_ h_check_found h_check_level h_range_by
  have h_range_of : FnK l.prog w K mg base CX0 6 "range_of" F_range_of := ⟨_, _, _, PySem.W.mg_of X G a_range_of, k_range_of, bi_range_of F_range_of_, o_range_of⟩
  have o__law_is_row := ok__law_is_row (P := l.prog) (w := w) (base := base) (mg := mg) F__law_is_row_ (PySem.W.mg_none_of X G z_isinstance) (PySem.W.mg_none_of X G z_tuple) (PySem.W.mg_none_of X G z_len)
  have h__law_is_row : FnK l.prog w K mg base CX0 1 "_law_is_row" F__law_is_row := ⟨_, _, _, PySem.W.mg_of X G a__law_is_row, k__law_is_row, bi__law_is_row F__law_is_row_, o__law_is_row⟩
  have o__law_is_number := ok__law_is_number (P := l.prog) (w := w) (base := base) (mg := mg) F__law_is_number_ (PySem.W.mg_none_of X G z_isinstance) (PySem.W.mg_none_of X G z_int) (PySem.W.mg_none_of X G z_bool)
  have h__law_is_number : FnK l.prog w K mg base CX0 1 "_law_is_number" F__law_is_number := ⟨_, _, _, PySem.W.mg_of X G a__law_is_number, k__law_is_number, bi__law_is_number F__law_is_number_, o__law_is_number⟩
  have o__law_ways := ok__law_ways (P := l.prog) (w := w) (base := base) (mg := mg) F__law_ways_ (PySem.W.mg_none_of X G z_range)
  have h__law_ways : FnK l.prog w K mg base CX0 1 "_law_ways" F__law_ways := ⟨_, _, _, PySem.W.mg_of X G a__law_ways, k__law_ways, bi__law_ways F__law_ways_, o__law_ways⟩
  have o__law_found := ok__law_found (P := l.prog) (w := w) (base := base) (mg := mg) F__law_found_ h__law_frac h__law_ways
  have h__law_found : FnK l.prog w K mg base CX0 3 "_law_found" F__law_found := ⟨_, _, _, PySem.W.mg_of X G a__law_found, k__law_found, bi__law_found F__law_found_, o__law_found⟩
  have o__law_below := ok__law_below (P := l.prog) (w := w) (base := base) (mg := mg) F__law_below_ 
  have h__law_below : FnK l.prog w K mg base CX0 1 "_law_below" F__law_below := ⟨_, _, _, PySem.W.mg_of X G a__law_below, k__law_below, bi__law_below F__law_below_, o__law_below⟩
  have o__law_add := ok__law_add (P := l.prog) (w := w) (base := base) (mg := mg) F__law_add_ h__law_frac
  have h__law_add : FnK l.prog w K mg base CX0 3 "_law_add" F__law_add := ⟨_, _, _, PySem.W.mg_of X G a__law_add, k__law_add, bi__law_add F__law_add_, o__law_add⟩
  have o__law_sum := ok__law_sum (P := l.prog) (w := w) (base := base) (mg := mg) F__law_sum_ h__law_add
  have h__law_sum : FnK l.prog w K mg base CX0 4 "_law_sum" F__law_sum := ⟨_, _, _, PySem.W.mg_of X G a__law_sum, k__law_sum, bi__law_sum F__law_sum_, o__law_sum⟩
  have o__law_times := ok__law_times (P := l.prog) (w := w) (base := base) (mg := mg) F__law_times_ h__law_frac
  have h__law_times : FnK l.prog w K mg base CX0 3 "_law_times" F__law_times := ⟨_, _, _, PySem.W.mg_of X G a__law_times, k__law_times, bi__law_times F__law_times_, o__law_times⟩
  have o__law_same := ok__law_same (P := l.prog) (w := w) (base := base) (mg := mg) F__law_same_ (PySem.W.mg_of X G a__law_same) k__law_same (bi__law_same F__law_same_) (PySem.W.mg_none_of X G z_isinstance) (PySem.W.mg_none_of X G z_tuple) (PySem.W.mg_none_of X G z_len) (PySem.W.mg_none_of X G z_all) (PySem.W.mg_none_of X G z_range) (PySem.W.mg_none_of X G z_bool) (PySem.W.mg_none_of X G z_int) (PySem.W.mg_none_of X G z_str) (PySem.W.mg_none_of X G z_list) (PySem.W.mg_none_of X G z_dict) 8
  have h__law_same : FnK l.prog w K mg base CX0 8 "_law_same" (F__law_same 8) := ⟨_, _, _, PySem.W.mg_of X G a__law_same, k__law_same, bi__law_same F__law_same_, o__law_same⟩
  have o_can_be_by := ok_can_be_by (P := l.prog) (w := w) (base := base) (mg := mg) F_can_be_by_ 
  have h_can_be_by : FnK l.prog w K mg base CX0 1 "can_be_by" F_can_be_by := ⟨_, _, _, PySem.W.mg_of X G a_can_be_by, k_can_be_by, bi_can_be_by F_can_be_by_, o_can_be_by⟩
  have o_can_be := ok_can_be (P := l.prog) (w := w) (base := base) (mg := mg) F_can_be_ h_check_found h_can_be_by
  have h_can_be : FnK l.prog w K mg base CX0 6 "can_be" F_can_be := ⟨_, _, _, PySem.W.mg_of X G a_can_be, k_can_be, bi_can_be F_can_be_, o_can_be⟩
  have o__law_right := ok__law_right (P := l.prog) (w := w) (base := base) (mg := mg) F__law_right_ h__law_draw h__law_frac h_range_of h__law_is_row h__law_is_number h__law_found h__law_below h__law_sum h__law_times h__law_same h_can_be (PySem.W.mg_none_of X G z_max) (PySem.W.mg_none_of X G z_range) (PySem.W.mg_none_of X G z_all)
  have h__law_right : FnK l.prog w K mg base CX0 9 "_law_right" F__law_right := ⟨_, _, _, PySem.W.mg_of X G a__law_right, k__law_right, bi__law_right F__law_right_, o__law_right⟩
  have o_law := ok_law (P := l.prog) (w := w) (base := base) (mg := mg) F_law_ h__law_well h__law_right (PySem.W.mg_none_of X G z_range) (PySem.W.mg_none_of X G z_max) (PySem.W.mg_none_of X G z_min) (PySem.W.mg_none_of X G z_len) (PySem.W.mg_none_of X G z_all) (PySem.W.mg_none_of X G z_int)
  have h_law : FnK l.prog w K mg base CX0 10 "law" F_law := ⟨_, _, _, PySem.W.mg_of X G a_law, k_law, bi_law F_law_, o_law⟩
  exact law_end HL o_law
end G
/-! L4A: the small Python by simp: steps whose rest is data, no binder. -/
namespace L3
open PySem
@[simp] theorem LIM_q : LIM = 16777216 := (rfl)
def oV (o : Option FV) (s : Sto) : Rs PV := match o with
  | some d => .ok (.v d) s
  | none => .no
@[simp] theorem oV_some (d : FV) (s : Sto) : oV (some d) s = .ok (.v d) s := (rfl)
def oB (o : Option Bool) (s : Sto) : Rs PV := match o with
  | some d => .ok (.v (.bool d)) s
  | none => .no
@[simp] theorem oB_some (d : Bool) (s : Sto) : oB (some d) s = .ok (.v (.bool d)) s := (rfl)
theorem of_map (o : Option FV) (s : Sto) : Rs.of (o.map PV.v) s = oV o s := by cases o <;> rfl
theorem of_mapB (o : Option Bool) (s : Sto) : Rs.of (o.map fun b => PV.v (.bool b)) s = oB o s := by cases o <;> rfl
/-! names and literals -/
def kVar (o : Option (Option PV)) (s : Sto) : Rs PV := match o with
  | some (some p) => .ok p s
  | _ => .no
@[simp] theorem kVar_q (p : PV) (s : Sto) : kVar (some (some p)) s = .ok p s := (rfl)
@[simp] theorem e_var (i : Nat) (e : En) (s : Sto) : evE (.var i) e s = kVar e[i]? s := by rw [evE] <;> first | done | rfl | (unfold kVar; first | done | rfl)
@[simp] theorem e_lit (d : FV) (e : En) (s : Sto) : evE (.lit d) e s = .ok (.v d) s := by rw [evE]
@[simp] theorem e_glo (x : Str) (d : FV) (e : En) (s : Sto) : evE (.glo x d) e s = .ok (.v d) s := by rw [evE]
/-! two operands -/
def kB2 (op : Operator) (p : PV) (r : Rs PV) : Rs PV := r.bnd fun q s2 => Rs.of ((vw s2 p).bind fun x => (vw s2 q).bind fun y => (bop op x y).map .v) s2
def kB1 (op : Operator) (b : CE) (e : En) (r : Rs PV) : Rs PV := r.bnd fun p s1 => kB2 op p (evE b e s1)
@[simp] theorem kB1_q (op : Operator) (b : CE) (e : En) (p : PV) (s : Sto) : kB1 op b e (.ok p s) = kB2 op p (evE b e s) := (rfl)
@[simp] theorem kB2_q (op : Operator) (x y : FV) (s : Sto) : kB2 op (.v x) (.ok (.v y) s) = oV (bop op x y) s := by unfold kB2; simp only [Rs.bnd_ok, vw, Option.bind_some]; exact of_map _ _
@[simp] theorem e_bin (op : Operator) (a b : CE) (e : En) (s : Sto) : evE (.bin op a b) e s = kB1 op b e (evE a e s) := by rw [evE]; rfl
def kC2 (op : CmpOp) (p : PV) (r : Rs PV) : Rs PV := r.bnd fun q s2 => Rs.of ((vw s2 p).bind fun x => (vw s2 q).bind fun y => (cop op x y).map fun b => .v (.bool b)) s2
def kC1 (op : CmpOp) (b : CE) (e : En) (r : Rs PV) : Rs PV := r.bnd fun p s1 => kC2 op p (evE b e s1)
@[simp] theorem kC1_q (op : CmpOp) (b : CE) (e : En) (p : PV) (s : Sto) : kC1 op b e (.ok p s) = kC2 op p (evE b e s) := (rfl)
@[simp] theorem kC2_q (op : CmpOp) (x y : FV) (s : Sto) : kC2 op (.v x) (.ok (.v y) s) = oB (cop op x y) s := by unfold kC2; simp only [Rs.bnd_ok, vw, Option.bind_some]; exact of_mapB _ _
@[simp] theorem e_cmp (op : CmpOp) (a b : CE) (e : En) (s : Sto) : evE (.cmp op a b) e s = kC1 op b e (evE a e s) := by rw [evE]; rfl
def kN (r : Rs PV) : Rs PV := r.bnd fun p s1 => Rs.of ((vw s1 p).bind fun x => (opNeg x).map .v) s1
@[simp] theorem kN_q (i : Int) (s : Sto) : kN (.ok (.v (.int i)) s) = .ok (.v (.int (-i))) s := (rfl)
@[simp] theorem e_neg (a : CE) (e : En) (s : Sto) : evE (.neg a) e s = kN (evE a e s) := by rw [evE]; rfl
def kNo (r : Rs PV) : Rs PV := r.bnd fun p s1 => match p with
  | .v (.bool b) => .ok (.v (.bool (!b))) s1
  | _ => .no
@[simp] theorem kNo_q (b : Bool) (s : Sto) : kNo (.ok (.v (.bool b)) s) = .ok (.v (.bool (!b))) s := (rfl)
@[simp] theorem e_no (a : CE) (e : En) (s : Sto) : evE (.no a) e s = kNo (evE a e s) := by rw [evE]; rfl
/-! a chain -/
def kH3 (op' : CmpOp) (q : PV) (r : Rs PV) : Rs PV := r.bnd fun r s3 => Rs.of ((vw s3 q).bind fun y => (vw s3 r).bind fun z => (cop op' y z).map fun b => .v (.bool b)) s3
def kHo (op' : CmpOp) (q : PV) (c : CE) (e : En) (s : Sto) (o : Option Bool) : Rs PV := match o with
  | some true => kH3 op' q (evE c e s)
  | some false => .ok (.v (.bool false)) s
  | none => .no
def kH2 (op op' : CmpOp) (c : CE) (e : En) (p : PV) (r : Rs PV) : Rs PV := r.bnd fun q s2 => kHo op' q c e s2 ((vw s2 p).bind fun x => (vw s2 q).bind fun y => cop op x y)
def kH1 (op op' : CmpOp) (b c : CE) (e : En) (r : Rs PV) : Rs PV := r.bnd fun p s1 => kH2 op op' c e p (evE b e s1)
@[simp] theorem kH1_q (op op' : CmpOp) (b c : CE) (e : En) (p : PV) (s : Sto) : kH1 op op' b c e (.ok p s) = kH2 op op' c e p (evE b e s) := (rfl)
@[simp] theorem kH2_q (op op' : CmpOp) (c : CE) (e : En) (x y : FV) (s : Sto) : kH2 op op' c e (.v x) (.ok (.v y) s) = kHo op' (.v y) c e s (cop op x y) := (rfl)
@[simp] theorem kHo_t (op' : CmpOp) (q : PV) (c : CE) (e : En) (s : Sto) : kHo op' q c e s (some true) = kH3 op' q (evE c e s) := (rfl)
@[simp] theorem kHo_f (op' : CmpOp) (q : PV) (c : CE) (e : En) (s : Sto) : kHo op' q c e s (some false) = .ok (.v (.bool false)) s := (rfl)
@[simp] theorem kH3_q (op' : CmpOp) (y z : FV) (s : Sto) : kH3 op' (.v y) (.ok (.v z) s) = oB (cop op' y z) s := by unfold kH3; simp only [Rs.bnd_ok, vw, Option.bind_some]; exact of_mapB _ _
@[simp] theorem e_chn (op op' : CmpOp) (a b c : CE) (e : En) (s : Sto) : evE (.chn op op' a b c) e s = kH1 op op' b c e (evE a e s) := by
  rw [evE]; unfold kH1 kH2 kHo; rfl
/-! and, or, if -/
def kAnd (as : CEs) (e : En) (r : Rs PV) : Rs PV := r.bnd fun p s1 => match p with
  | .v (.bool true) => evAnd as e s1
  | .v (.bool false) => .ok (.v (.bool false)) s1
  | _ => .no
def kOr (as : CEs) (e : En) (r : Rs PV) : Rs PV := r.bnd fun p s1 => match p with
  | .v (.bool false) => evOr as e s1
  | .v (.bool true) => .ok (.v (.bool true)) s1
  | _ => .no
@[simp] theorem kAnd_t (as : CEs) (e : En) (s : Sto) : kAnd as e (.ok (.v (.bool true)) s) = evAnd as e s := (rfl)
@[simp] theorem kAnd_f (as : CEs) (e : En) (s : Sto) : kAnd as e (.ok (.v (.bool false)) s) = .ok (.v (.bool false)) s := (rfl)
@[simp] theorem kOr_t (as : CEs) (e : En) (s : Sto) : kOr as e (.ok (.v (.bool true)) s) = .ok (.v (.bool true)) s := (rfl)
@[simp] theorem kOr_f (as : CEs) (e : En) (s : Sto) : kOr as e (.ok (.v (.bool false)) s) = evOr as e s := (rfl)
@[simp] theorem and_1 (a : CE) (e : En) (s : Sto) : evAnd (.cons a .nil) e s = evE a e s := by rw [evAnd]
@[simp] theorem and_2 (a b : CE) (as : CEs) (e : En) (s : Sto) : evAnd (.cons a (.cons b as)) e s = kAnd (.cons b as) e (evE a e s) := by rw [evAnd]; rfl
@[simp] theorem or_1 (a : CE) (e : En) (s : Sto) : evOr (.cons a .nil) e s = evE a e s := by rw [evOr]
@[simp] theorem or_2 (a b : CE) (as : CEs) (e : En) (s : Sto) : evOr (.cons a (.cons b as)) e s = kOr (.cons b as) e (evE a e s) := by rw [evOr]; rfl
@[simp] theorem e_and (as : CEs) (e : En) (s : Sto) : evE (.and as) e s = evAnd as e s := by rw [evE]
@[simp] theorem e_or (as : CEs) (e : En) (s : Sto) : evE (.or as) e s = evOr as e s := by rw [evE]
def kIf (a b : CE) (e : En) (r : Rs PV) : Rs PV := r.bnd fun p s1 => match p with
  | .v (.bool true) => evE a e s1
  | .v (.bool false) => evE b e s1
  | _ => .no
@[simp] theorem kIf_t (a b : CE) (e : En) (s : Sto) : kIf a b e (.ok (.v (.bool true)) s) = evE a e s := (rfl)
@[simp] theorem kIf_f (a b : CE) (e : En) (s : Sto) : kIf a b e (.ok (.v (.bool false)) s) = evE b e s := (rfl)
@[simp] theorem e_ifx (c a b : CE) (e : En) (s : Sto) : evE (.ifx c a b) e s = kIf a b e (evE c e s) := by rw [evE]; rfl
/-! several -/
def kA2 (p : PV) (r : Rs (List PV)) : Rs (List PV) := r.bnd fun ps s2 => .ok (p :: ps) s2
def kA1 (as : CEs) (e : En) (r : Rs PV) : Rs (List PV) := r.bnd fun p s1 => kA2 p (evA as e s1)
@[simp] theorem kA1_q (as : CEs) (e : En) (p : PV) (s : Sto) : kA1 as e (.ok p s) = kA2 p (evA as e s) := (rfl)
@[simp] theorem kA2_q (p : PV) (ps : List PV) (s : Sto) : kA2 p (.ok ps s) = .ok (p :: ps) s := (rfl)
@[simp] theorem a_nil (e : En) (s : Sto) : evA .nil e s = .ok [] s := by rw [evA]
@[simp] theorem a_cons (a : CE) (as : CEs) (e : En) (s : Sto) : evA (.cons a as) e s = kA1 as e (evE a e s) := by rw [evA]; rfl
@[simp] theorem flatL_nil : flatL [] = some [] := (rfl)
@[simp] theorem flatL_cons (d : FV) (r : List PV) : flatL (.v d :: r) = (flatL r).map (d :: ·) := by rw [flatL]
@[simp] theorem flatL_map : ∀ ds : List FV, flatL (ds.map .v) = some ds
  | [] => rfl
  | d :: ds => by rw [List.map_cons, flatL_cons, flatL_map ds]; rfl
def kT2 (mk : List FV → FV) (s : Sto) (o : Option (List FV)) : Rs PV := Rs.of (o.bind fun ds => if ds.length ≤ LIM then some (.v (mk ds)) else none) s
def kTup (mk : List FV → FV) (r : Rs (List PV)) : Rs PV := r.bnd fun ps s1 => kT2 mk s1 (flatL ps)
@[simp] theorem kTup_q (mk : List FV → FV) (ps : List PV) (s : Sto) : kTup mk (.ok ps s) = kT2 mk s (flatL ps) := (rfl)
theorem kT2_q (mk : List FV → FV) (s : Sto) (ds : List FV) (h : ds.length ≤ 16777216) : kT2 mk s (some ds) = .ok (.v (mk ds)) s := by unfold kT2; simp only [Option.bind_some, LIM_q, if_pos h, Rs.of_some]
@[simp] theorem kT2_0 (mk : List FV → FV) (s : Sto) : kT2 mk s (some []) = .ok (.v (mk [])) s := kT2_q _ _ _ (by simp)
@[simp] theorem kT2_1 (mk : List FV → FV) (s : Sto) (a : FV) : kT2 mk s (some [a]) = .ok (.v (mk [a])) s := kT2_q _ _ _ (by simp)
@[simp] theorem kT2_2 (mk : List FV → FV) (s : Sto) (a b : FV) : kT2 mk s (some [a, b]) = .ok (.v (mk [a, b])) s := kT2_q _ _ _ (by simp)
@[simp] theorem kT2_3 (mk : List FV → FV) (s : Sto) (a b c : FV) : kT2 mk s (some [a, b, c]) = .ok (.v (mk [a, b, c])) s := kT2_q _ _ _ (by simp)
@[simp] theorem kT2_4 (mk : List FV → FV) (s : Sto) (a b c d : FV) : kT2 mk s (some [a, b, c, d]) = .ok (.v (mk [a, b, c, d])) s := kT2_q _ _ _ (by simp)
@[simp] theorem kT2_5 (mk : List FV → FV) (s : Sto) (a b c d f : FV) : kT2 mk s (some [a, b, c, d, f]) = .ok (.v (mk [a, b, c, d, f])) s := kT2_q _ _ _ (by simp)
@[simp] theorem kT2_6 (mk : List FV → FV) (s : Sto) (a b c d f g : FV) : kT2 mk s (some [a, b, c, d, f, g]) = .ok (.v (mk [a, b, c, d, f, g])) s := kT2_q _ _ _ (by simp)
@[simp] theorem e_tup (as : CEs) (e : En) (s : Sto) : evE (.tup as) e s = kTup .tuple (evA as e s) := by rw [evE]; rfl
@[simp] theorem e_lst (as : CEs) (e : En) (s : Sto) : evE (.lst as) e s = kTup .list (evA as e s) := by rw [evE]; rfl
def kMls (r : Rs (List PV)) : Rs PV := r.bnd fun ps s1 => if ps.length ≤ LIM then .ok (.loc s1.length) (s1 ++ [some (.lst ps)]) else .no
theorem kMls_q (ps : List PV) (s : Sto) (h : ps.length ≤ 16777216) : kMls (.ok ps s) = .ok (.loc s.length) (s ++ [some (.lst ps)]) := by unfold kMls; simp only [Rs.bnd_ok, LIM_q, if_pos h]
@[simp] theorem kMls_0 (s : Sto) : kMls (.ok [] s) = .ok (.loc s.length) (s ++ [some (.lst [])]) := kMls_q _ _ (by simp)
@[simp] theorem kMls_3 (s : Sto) (a b c : PV) : kMls (.ok [a, b, c] s) = .ok (.loc s.length) (s ++ [some (.lst [a, b, c])]) := kMls_q _ _ (by simp)
@[simp] theorem e_mls (as : CEs) (e : En) (s : Sto) : evE (.mls as) e s = kMls (evA as e s) := by rw [evE]; rfl
/-! an index -/
def kIo (o : Option OB) (q : PV) (s : Sto) : Rs PV := match o, q with
  | some (.lst xs), .v (.int k) => Rs.of (ixOf xs k) s
  | _, _ => .no
def kI2 (p : PV) (r : Rs PV) : Rs PV := r.bnd fun q s2 => match p with
  | .v x => Rs.of ((vw s2 q).bind fun y => (opIx x y).map .v) s2
  | .loc l => kIo (obAt s2 l) q s2
def kI1 (i : CE) (e : En) (r : Rs PV) : Rs PV := r.bnd fun p s1 => kI2 p (evE i e s1)
@[simp] theorem kI1_q (i : CE) (e : En) (p : PV) (s : Sto) : kI1 i e (.ok p s) = kI2 p (evE i e s) := (rfl)
@[simp] theorem kI2_v (x y : FV) (s : Sto) : kI2 (.v x) (.ok (.v y) s) = oV (opIx x y) s := by unfold kI2; simp only [Rs.bnd_ok, vw, Option.bind_some]; exact of_map _ _
@[simp] theorem kI2_l (l : Nat) (q : PV) (s : Sto) : kI2 (.loc l) (.ok q s) = kIo (obAt s l) q s := (rfl)
@[simp] theorem kIo_q (xs : List PV) (k : Int) (s : Sto) : kIo (some (.lst xs)) (.v (.int k)) s = Rs.of (ixOf xs k) s := (rfl)
@[simp] theorem e_ix (a i : CE) (e : En) (s : Sto) : evE (.ix a i) e s = kI1 i e (evE a e s) := by rw [evE] <;> first | done | rfl | (unfold kI1 kI2 kIo; first | done | rfl)
/-! a cut -/
def kO (r : Rs PV) : Rs (Option Int) := r.bnd fun p s1 => match p with
  | .v (.int i) => .ok (some i) s1
  | _ => .no
@[simp] theorem kO_q (i : Int) (s : Sto) : kO (.ok (.v (.int i)) s) = .ok (some i) s := (rfl)
@[simp] theorem o_none (e : En) (s : Sto) : evO .none e s = .ok none s := by rw [evO]
@[simp] theorem o_some (a : CE) (e : En) (s : Sto) : evO (.some a) e s = kO (evE a e s) := by rw [evO]; rfl
def kS3 (p : PV) (l : Option Int) (r : Rs (Option Int)) : Rs PV := r.bnd fun h s3 => Rs.of ((vw s3 p).bind fun x => (opSl x l h).map .v) s3
def kS2 (p : PV) (hi : CO) (e : En) (r : Rs (Option Int)) : Rs PV := r.bnd fun l s2 => kS3 p l (evO hi e s2)
def kS1 (lo hi : CO) (e : En) (r : Rs PV) : Rs PV := r.bnd fun p s1 => kS2 p hi e (evO lo e s1)
@[simp] theorem kS1_q (lo hi : CO) (e : En) (p : PV) (s : Sto) : kS1 lo hi e (.ok p s) = kS2 p hi e (evO lo e s) := (rfl)
@[simp] theorem kS2_q (p : PV) (hi : CO) (e : En) (l : Option Int) (s : Sto) : kS2 p hi e (.ok l s) = kS3 p l (evO hi e s) := (rfl)
@[simp] theorem kS3_q (x : FV) (l h : Option Int) (s : Sto) : kS3 (.v x) l (.ok h s) = oV (opSl x l h) s := by unfold kS3; simp only [Rs.bnd_ok, vw, Option.bind_some]; exact of_map _ _
@[simp] theorem e_sl (a : CE) (lo hi : CO) (e : En) (s : Sto) : evE (.sl a lo hi) e s = kS1 lo hi e (evE a e s) := by rw [evE]; rfl
/-! calls -/
def avsL (d : FV) (o : Option (List AV × List Nat)) : Option (List AV × List Nat) := match o with
  | some (as, ls) => some (.v d :: as, ls)
  | none => none
@[simp] theorem avsL_q (d : FV) (as : List AV) (ls : List Nat) : avsL d (some (as, ls)) = some (.v d :: as, ls) := (rfl)
def avsO (l : Nat) (o : Option OB) (r : Option (List AV × List Nat)) : Option (List AV × List Nat) := match o with
  | some b => (ofOb b).bind fun o => r.bind fun (as, ls) => if l ∈ ls then none else some (.o o :: as, l :: ls)
  | none => none
@[simp] theorem avsO_q (l : Nat) (xs : List PV) (ds : List FV) (as : List AV) (h : flatL xs = some ds) : avsO l (some (.lst xs)) (some (as, [])) = some (.o (.lst ds) :: as, [l]) := by
  unfold avsO ofOb; simp [h]
theorem avsO_m (l : Nat) (ds : List FV) (as : List AV) : avsO l (some (.lst (ds.map .v))) (some (as, [])) = some (.o (.lst ds) :: as, [l]) := avsO_q l _ _ _ (flatL_map ds)
@[simp] theorem avs_nil (s : Sto) : avs s [] = some ([], []) := (rfl)
@[simp] theorem avs_v (s : Sto) (d : FV) (r : List PV) : avs s (.v d :: r) = avsL d (avs s r) := by
  rw [avs]; cases avs s r <;> rfl
@[simp] theorem avs_l (s : Sto) (l : Nat) (r : List PV) : avs s (.loc l :: r) = avsO l (obAt s l) (avs s r) := by
  rw [avs]; unfold avsO; rfl
def kF2 (st : Sto) (r : AV) (o : Option Sto) : Rs PV := match o with
  | none => .no
  | some st' => match r with
    | .v d => .ok (.v d) st'
    | .o b => .ok (.loc st'.length) (st' ++ [some (obOf b)])
def kF1 (st : Sto) (ls : List Nat) (o : Option Out) : Rs PV := match o with
  | none => .no
  | some (.ret r os) => kF2 st r (putAll st ls os)
  | some (.ex x os) => match putAll st ls os with
    | none => .no
    | some st' => .ex x st'
def kF0 (F : Fn) (st : Sto) (o : Option (List AV × List Nat)) : Rs PV := match o with
  | none => .no
  | some (as, ls) => kF1 st ls (F as)
@[simp] theorem kF0_q (F : Fn) (st : Sto) (as : List AV) (ls : List Nat) : kF0 F st (some (as, ls)) = kF1 st ls (F as) := (rfl)
@[simp] theorem kF1_q (st : Sto) (ls : List Nat) (r : AV) (os : List OF) : kF1 st ls (some (.ret r os)) = kF2 st r (putAll st ls os) := (rfl)
@[simp] theorem kF2_v (st st' : Sto) (d : FV) : kF2 st (.v d) (some st') = .ok (.v d) st' := (rfl)
@[simp] theorem kF2_o (st st' : Sto) (b : OF) : kF2 st (.o b) (some st') = .ok (.loc st'.length) (st' ++ [some (obOf b)]) := (rfl)
@[simp] theorem putAll_0 (st : Sto) : putAll st [] [] = some st := (rfl)
@[simp] theorem putAll_1 (st : Sto) (l : Nat) (ls : List Nat) (o : OF) (os : List OF) : putAll st (l :: ls) (o :: os) = putAll (st.set l (some (obOf o))) ls os := (rfl)
@[simp] theorem obOf_q (xs : List FV) : obOf (.lst xs) = .lst (xs.map .v) := (rfl)
theorem callF_q (F : Fn) (ps : List PV) (s : Sto) : callF F ps s = kF0 F s (avs s ps) := by
  unfold callF kF0
  cases avs s ps with
  | none => rfl
  | some p =>
    obtain ⟨as, ls⟩ := p
    dsimp only
    unfold kF1
    cases F as with
    | none => rfl
    | some o => cases o with
      | ret r os => first | done | rfl | (unfold kF2; rfl)
      | ex x os => first | done | rfl
def kFn (F : Fn) (r : Rs (List PV)) : Rs PV := r.bnd fun ps s1 => kF0 F s1 (avs s1 ps)
@[simp] theorem kFn_q (F : Fn) (ps : List PV) (s : Sto) : kFn F (.ok ps s) = kF0 F s (avs s ps) := (rfl)
@[simp] theorem e_fn (F : Fn) (x : Str) (as : CEs) (e : En) (s : Sto) : evE (.fn F x as) e s = kFn F (evA as e s) := by
  rw [evE]; unfold kFn; simp only [callF_q]
def kK3 (F : Fn) (s : Sto) (o : Option (List PV)) : Rs PV := match o with
  | some rs => kF0 F s (avs s rs)
  | none => .no
@[simp] theorem kK3_q (F : Fn) (s : Sto) (rs : List PV) : kK3 F s (some rs) = kF0 F s (avs s rs) := (rfl)
def kK2 (F : Fn) (np : Nat) (ks : List Str) (perm : List Nat) (ps : List PV) (r : Rs (List PV)) : Rs PV := r.bnd fun qs s2 => if ps.length = np ∧ qs.length = ks.length then kK3 F s2 (permute (ps ++ qs) perm) else .no
def kK1 (F : Fn) (np : Nat) (ks : List Str) (bs : CEs) (perm : List Nat) (e : En) (r : Rs (List PV)) : Rs PV := r.bnd fun ps s1 => kK2 F np ks perm ps (evA bs e s1)
@[simp] theorem kK1_q (F : Fn) (np : Nat) (ks : List Str) (bs : CEs) (perm : List Nat) (e : En) (ps : List PV) (s : Sto) : kK1 F np ks bs perm e (.ok ps s) = kK2 F np ks perm ps (evA bs e s) := (rfl)
@[simp] theorem kK2_q (F : Fn) (np : Nat) (ks : List Str) (perm : List Nat) (ps qs : List PV) (s : Sto) : kK2 F np ks perm ps (.ok qs s) = if ps.length = np ∧ qs.length = ks.length then kK3 F s (permute (ps ++ qs) perm) else .no := (rfl)
@[simp] theorem e_fnk (F : Fn) (x : Str) (np : Nat) (as : CEs) (ks : List Str) (bs : CEs) (perm : List Nat) (e : En) (s : Sto) : evE (.fnk F x np as ks bs perm) e s = kK1 F np ks bs perm e (evA as e s) := by
  rw [evE]; unfold kK1 kK2 kK3; (try simp only [callF_q]) <;> first | done | rfl
def pmL {α : Type} (x : Option α) (r : Option (List α)) : Option (List α) := match x with
  | some x => r.map (x :: ·)
  | none => none
@[simp] theorem pmL_q {α : Type} (x : α) (r : List α) : pmL (some x) (some r) = some (x :: r) := (rfl)
@[simp] theorem permute_0 {α : Type} (xs : List α) : permute xs [] = some [] := (rfl)
@[simp] theorem permute_1 {α : Type} (xs : List α) (i : Nat) (r : List Nat) : permute xs (i :: r) = pmL xs[i]? (permute xs r) := by rw [permute] <;> first | done | rfl | (unfold pmL; rfl)
/-! built-ins -/
@[simp] theorem vws_0 (s : Sto) : vws s [] = some [] := (rfl)
@[simp] theorem vws_1 (s : Sto) (d : FV) (r : List PV) : vws s (.v d :: r) = (vws s r).map (d :: ·) := (rfl)
def vwl (s : Sto) (r : List PV) (o : Option OB) : Option (List FV) := match o with
  | some (.lst xs) => (flatL xs).bind fun ds => (vws s r).map (.list ds :: ·)
  | none => none
def kBl2 (b : Bl) (s : Sto) (o : Option (List FV)) : Rs PV := Rs.of (o.bind fun ds => (bfn b ds).map .v) s
@[simp] theorem kBl2_q (b : Bl) (s : Sto) (ds : List FV) : kBl2 b s (some ds) = oV (bfn b ds) s := by unfold kBl2; simp only [Option.bind_some]; exact of_map _ _
def kBl (b : Bl) (r : Rs (List PV)) : Rs PV := r.bnd fun ps s1 => kBl2 b s1 (vws s1 ps)
@[simp] theorem kBl_q (b : Bl) (ps : List PV) (s : Sto) : kBl b (.ok ps s) = kBl2 b s (vws s ps) := (rfl)
@[simp] theorem e_bl (b : Bl) (as : CEs) (e : En) (s : Sto) : evE (.bl b as) e s = kBl b (evA as e s) := by rw [evE]; rfl
def kLn (r : Rs (List PV)) : Rs PV := r.bnd fun ps s1 => Rs.of ((lenOf s1 ps).map fun n => .v (.int n)) s1
theorem kLn_q (l : Nat) (s : Sto) (xs : List PV) (h : obAt s l = some (.lst xs)) : kLn (.ok [.loc l] s) = .ok (.v (.int xs.length)) s := by
  unfold kLn lenOf; simp only [Rs.bnd_ok, h]; rfl
@[simp] theorem e_lnl (as : CEs) (e : En) (s : Sto) : evE (.lnl as) e s = kLn (evA as e s) := by rw [evE]; rfl
def kRgl (tp : Bool) (r : Rs PV) : Rs PV := r.bnd fun p s1 => match p with
    | .v (.int i) => if rngOk i then .ok (.v (if tp then .tuple (rangeI 0 i) else .list (rangeI 0 i))) s1 else .no
    | _ => .no
@[simp] theorem kRgl_q (tp : Bool) (i : Int) (s : Sto) : kRgl tp (.ok (.v (.int i)) s) = if rngOk i then .ok (.v (if tp then .tuple (rangeI 0 i) else .list (rangeI 0 i))) s else .no := (rfl)
@[simp] theorem e_rgl (tp : Bool) (a : CE) (e : En) (s : Sto) : evE (.rgl tp a) e s = kRgl tp (evE a e s) := by rw [evE] <;> first | done | rfl
def kRgm (tp : Bool) (p : PV) (r : Rs PV) : Rs PV := r.bnd fun q s2 => match p, q with
    | .v (.int i), .v (.int j) => if rngOk i && rngOk j then .ok (.v (if tp then .tuple (rangeI i j) else .list (rangeI i j))) s2 else .no
    | _, _ => .no
def kRgk (tp : Bool) (b : CE) (e : En) (r : Rs PV) : Rs PV := r.bnd fun p s1 => kRgm tp p (evE b e s1)
@[simp] theorem kRgk_q (tp : Bool) (b : CE) (e : En) (p : PV) (s : Sto) : kRgk tp b e (.ok p s) = kRgm tp p (evE b e s) := (rfl)
@[simp] theorem kRgm_q (tp : Bool) (i j : Int) (s : Sto) : kRgm tp (.v (.int i)) (.ok (.v (.int j)) s) = if rngOk i && rngOk j then .ok (.v (if tp then .tuple (rangeI i j) else .list (rangeI i j))) s else .no := (rfl)
@[simp] theorem e_rgl2 (tp : Bool) (a b : CE) (e : En) (s : Sto) : evE (.rgl2 tp a b) e s = kRgk tp b e (evE a e s) := by rw [evE] <;> first | done | rfl
def kIsi (T : Ty) (r : Rs PV) : Rs PV := r.bnd fun p s1 => Rs.of ((vw s1 p).map fun d => .v (.bool (isTy d T))) s1
@[simp] theorem kIsi_q (T : Ty) (d : FV) (s : Sto) : kIsi T (.ok (.v d) s) = .ok (.v (.bool (isTy d T))) s := (rfl)
@[simp] theorem e_isi (a : CE) (T : Ty) (e : En) (s : Sto) : evE (.isi a T) e s = kIsi T (evE a e s) := by rw [evE]; rfl
def kFz (r : Rs PV) : Rs PV := r.bnd fun p s1 => match p with
  | .loc l => Rs.of ((vw s1 p).map .v) (s1.set l none)
  | .v d => .ok (.v d) s1
@[simp] theorem kFz_v (d : FV) (s : Sto) : kFz (.ok (.v d) s) = .ok (.v d) s := (rfl)
@[simp] theorem e_fz (a : CE) (e : En) (s : Sto) : evE (.fz a) e s = kFz (evE a e s) := by rw [evE]; rfl
/-! targets -/
@[simp] theorem t_nm (i : Nat) (p : PV) (e : En) (s : Sto) : evT (.nm i) p e s = .ok (e.set i (some p)) s := by rw [evT]
@[simp] theorem t_tp (ts : CTs) (ds : List FV) (e : En) (s : Sto) : evT (.tp ts) (.v (.tuple ds)) e s = if ds.length = ts.len then evTs ts (ds.map .v) e s else .no := by rw [evT]
def kSbo (l : Nat) (o : Option OB) (k : Int) (p : PV) (e : En) (s : Sto) : Rs En := match o with
  | some (.lst xs) => match L2.ixN xs.length k with
    | some j => .ok e (s.set l (some (.lst (xs.set j p))))
    | none => .no
  | none => .no
def kSb2 (p q : PV) (e : En) (r : Rs PV) : Rs En := r.bnd fun k s2 => match q, k with
  | .loc l, .v (.int k) => kSbo l (obAt s2 l) k p e s2
  | _, _ => .no
def kSb1 (i : CE) (p : PV) (e : En) (r : Rs PV) : Rs En := r.bnd fun q s1 => kSb2 p q e (evE i e s1)
@[simp] theorem kSb1_q (i : CE) (p : PV) (e : En) (q : PV) (s : Sto) : kSb1 i p e (.ok q s) = kSb2 p q e (evE i e s) := (rfl)
@[simp] theorem kSb2_q (p : PV) (l : Nat) (e : En) (k : Int) (s : Sto) : kSb2 p (.loc l) e (.ok (.v (.int k)) s) = kSbo l (obAt s l) k p e s := (rfl)
@[simp] theorem kSbo_q (l : Nat) (xs : List PV) (k : Int) (p : PV) (e : En) (s : Sto) : kSbo l (some (.lst xs)) k p e s = match L2.ixN xs.length k with
    | some j => .ok e (s.set l (some (.lst (xs.set j p))))
    | none => .no := (rfl)
@[simp] theorem t_sb (o i : CE) (p : PV) (e : En) (s : Sto) : evT (.sb o i) p e s = kSb1 i p e (evE o e s) := by rw [evT] <;> first | done | rfl | (unfold kSb1 kSb2 kSbo; first | done | rfl)
def kTs (ts : CTs) (ps : List PV) (r : Rs En) : Rs En := r.bnd fun e1 s1 => evTs ts ps e1 s1
@[simp] theorem kTs_q (ts : CTs) (ps : List PV) (e : En) (s : Sto) : kTs ts ps (.ok e s) = evTs ts ps e s := (rfl)
@[simp] theorem ts_nil (e : En) (s : Sto) : evTs .nil [] e s = .ok e s := by rw [evTs]
@[simp] theorem ts_cons (t : CT) (ts : CTs) (p : PV) (ps : List PV) (e : En) (s : Sto) : evTs (.cons t ts) (p :: ps) e s = kTs ts ps (evT t p e s) := by rw [evTs]; rfl
/-! what is walked -/
def kSeq (r : Rs PV) : Rs (List FV) := r.bnd fun p s1 => match p with
  | .v d => Rs.of ((seqItems d).bind fun ds => if ds.length ≤ LIM then some ds else none) s1
  | _ => .no
@[simp] theorem kSeq_l (ds : List FV) (s : Sto) : kSeq (.ok (.v (.list ds)) s) = if ds.length ≤ 16777216 then .ok ds s else .no := by unfold kSeq; simp only [Rs.bnd_ok, seqItems, Option.bind_some, LIM_q]; split <;> rfl
@[simp] theorem kSeq_t (ds : List FV) (s : Sto) : kSeq (.ok (.v (.tuple ds)) s) = if ds.length ≤ 16777216 then .ok ds s else .no := by unfold kSeq; simp only [Rs.bnd_ok, seqItems, Option.bind_some, LIM_q]; split <;> rfl
@[simp] theorem i_seq (a : CE) (e : En) (s : Sto) : evI (.seq a) e s = kSeq (evE a e s) := by rw [evI]; rfl
def kR1 (r : Rs PV) : Rs (List FV) := r.bnd fun p s1 => match p with
  | .v (.int i) => if rngOk i then .ok (rangeI 0 i) s1 else .no
  | _ => .no
@[simp] theorem kR1_q (i : Int) (s : Sto) : kR1 (.ok (.v (.int i)) s) = if rngOk i then .ok (rangeI 0 i) s else .no := (rfl)
@[simp] theorem i_rng1 (a : CE) (e : En) (s : Sto) : evI (.rng1 a) e s = kR1 (evE a e s) := by rw [evI]; rfl
def kR3 (p : PV) (r : Rs PV) : Rs (List FV) := r.bnd fun q s2 => match p, q with
  | .v (.int i), .v (.int j) => if rngOk i && rngOk j then .ok (rangeI i j) s2 else .no
  | _, _ => .no
def kR2 (b : CE) (e : En) (r : Rs PV) : Rs (List FV) := r.bnd fun p s1 => kR3 p (evE b e s1)
@[simp] theorem kR2_q (b : CE) (e : En) (p : PV) (s : Sto) : kR2 b e (.ok p s) = kR3 p (evE b e s) := (rfl)
@[simp] theorem kR3_q (i j : Int) (s : Sto) : kR3 (.v (.int i)) (.ok (.v (.int j)) s) = if rngOk i && rngOk j then .ok (rangeI i j) s else .no := (rfl)
@[simp] theorem i_rng2 (a b : CE) (e : En) (s : Sto) : evI (.rng2 a b) e s = kR2 b e (evE a e s) := by rw [evI]; rfl
/-! statements -/
def kFl (r : Rs En) : Rs Fl := r.bnd fun e1 s2 => .ok (.nx e1) s2
@[simp] theorem kFl_q (e : En) (s : Sto) : kFl (.ok e s) = .ok (.nx e) s := (rfl)
def kAsg (t : CT) (e : En) (r : Rs PV) : Rs Fl := r.bnd fun p s1 => kFl (evT t p e s1)
@[simp] theorem kAsg_q (t : CT) (e : En) (p : PV) (s : Sto) : kAsg t e (.ok p s) = kFl (evT t p e s) := (rfl)
@[simp] theorem s_asg (t : CT) (c : CE) (e : En) (s : Sto) : evS (.asg t c) e s = kAsg t e (evE c e s) := by rw [evS]; rfl
def kAsgs (ts : CTs) (e : En) (r : Rs (List PV)) : Rs Fl := r.bnd fun ps s1 => if lenEq ps ts.len = true then kFl (evTs ts ps e s1) else .no
@[simp] theorem kAsgs_q (ts : CTs) (e : En) (ps : List PV) (s : Sto) : kAsgs ts e (.ok ps s) = if lenEq ps ts.len = true then kFl (evTs ts ps e s) else .no := (rfl)
@[simp] theorem s_asgs (ts : CTs) (as : CEs) (e : En) (s : Sto) : evS (.asgs ts as) e s = kAsgs ts e (evA as e s) := by rw [evS]; rfl
@[simp] theorem lenEq_q (ps : List PV) (n : Nat) : lenEq ps n = (decide (ps.length = n) && decide (ps.length ≤ 16777216)) := (rfl)
@[simp] theorem ctl_0 : CTs.nil.len = 0 := (rfl)
@[simp] theorem ctl_1 (t : CT) (ts : CTs) : (CTs.cons t ts).len = ts.len + 1 := (rfl)
def kExp (e : En) (r : Rs PV) : Rs Fl := r.bnd fun _ s1 => .ok (.nx e) s1
@[simp] theorem kExp_q (e : En) (p : PV) (s : Sto) : kExp e (.ok p s) = .ok (.nx e) s := (rfl)
@[simp] theorem s_exp (c : CE) (e : En) (s : Sto) : evS (.exp c) e s = kExp e (evE c e s) := by rw [evS]; rfl
def kAp3 (e : En) (l : Nat) (p : PV) (s : Sto) (o : Option OB) : Rs Fl := match o with
  | some (.lst xs) => if xs.length < LIM then .ok (.nx e) (s.set l (some (.lst (xs ++ [p])))) else .no
  | none => .no
def kAp2 (e : En) (l : Nat) (r : Rs PV) : Rs Fl := r.bnd fun p s1 => kAp3 e l p s1 (obAt s1 l)
def kAp1 (c : CE) (e : En) (s : Sto) (l : Nat) (o : Option OB) : Rs Fl := match o with
  | some (.lst _) => kAp2 e l (evE c e s)
  | none => .no
def kAp0 (c : CE) (e : En) (s : Sto) (o : Option (Option PV)) : Rs Fl := match o with
  | some (some (.loc l)) => kAp1 c e s l (obAt s l)
  | _ => .no
@[simp] theorem kAp3_q (e : En) (l : Nat) (p : PV) (s : Sto) (xs : List PV) : kAp3 e l p s (some (.lst xs)) = if xs.length < 16777216 then .ok (.nx e) (s.set l (some (.lst (xs ++ [p])))) else .no := (rfl)
@[simp] theorem kAp2_q (e : En) (l : Nat) (p : PV) (s : Sto) : kAp2 e l (.ok p s) = kAp3 e l p s (obAt s l) := (rfl)
@[simp] theorem kAp1_q (c : CE) (e : En) (s : Sto) (l : Nat) (xs : List PV) : kAp1 c e s l (some (.lst xs)) = kAp2 e l (evE c e s) := (rfl)
@[simp] theorem kAp0_q (c : CE) (e : En) (s : Sto) (l : Nat) : kAp0 c e s (some (some (.loc l))) = kAp1 c e s l (obAt s l) := (rfl)
@[simp] theorem s_app (i : Nat) (c : CE) (e : En) (s : Sto) : evS (.app i c) e s = kAp0 c e s e[i]? := by
  rw [evS]
  cases e[i]? with
  | none => first | done | rfl
  | some o => cases o with
    | none => first | done | rfl
    | some p => cases p with
      | v d => first | done | rfl
      | loc l =>
        show _ = kAp1 c e s l (obAt s l)
        dsimp only
        cases obAt s l with
        | none => first | done | rfl
        | some b => cases b with
          | lst xs => first | done | rfl
def kIfS (a b : CB) (e : En) (r : Rs PV) : Rs Fl := r.bnd fun p s1 => match p with
  | .v (.bool true) => evB a e s1
  | .v (.bool false) => evB b e s1
  | _ => .no
@[simp] theorem kIfS_t (a b : CB) (e : En) (s : Sto) : kIfS a b e (.ok (.v (.bool true)) s) = evB a e s := (rfl)
@[simp] theorem kIfS_f (a b : CB) (e : En) (s : Sto) : kIfS a b e (.ok (.v (.bool false)) s) = evB b e s := (rfl)
@[simp] theorem s_ife (c : CE) (a b : CB) (e : En) (s : Sto) : evS (.ife c a b) e s = kIfS a b e (evE c e s) := by rw [evS]; rfl
def kRet (r : Rs PV) : Rs Fl := r.bnd fun p s1 => .ok (.rt p) s1
@[simp] theorem kRet_q (p : PV) (s : Sto) : kRet (.ok p s) = .ok (.rt p) s := (rfl)
@[simp] theorem s_ret (c : CE) (e : En) (s : Sto) : evS (.ret c) e s = kRet (evE c e s) := by rw [evS]; rfl
@[simp] theorem s_retN (e : En) (s : Sto) : evS .retN e s = .ok (.rt (.v .none)) s := by rw [evS]
@[simp] theorem s_brk (e : En) (s : Sto) : evS .brk e s = .ok (.bk e) s := by rw [evS]
@[simp] theorem s_cnt (e : En) (s : Sto) : evS .cnt e s = .ok (.ct e) s := by rw [evS]
@[simp] theorem s_pas (e : En) (s : Sto) : evS .pas e s = .ok (.nx e) s := by rw [evS]
def kB (b : CB) (r : Rs Fl) : Rs Fl := r.bnd fun f s1 => match f with
  | .nx e1 => evB b e1 s1
  | f => .ok f s1
@[simp] theorem kB_n (b : CB) (e : En) (s : Sto) : kB b (.ok (.nx e) s) = evB b e s := (rfl)
@[simp] theorem kB_r (b : CB) (p : PV) (s : Sto) : kB b (.ok (.rt p) s) = .ok (.rt p) s := (rfl)
@[simp] theorem kB_b (b : CB) (e : En) (s : Sto) : kB b (.ok (.bk e) s) = .ok (.bk e) s := (rfl)
@[simp] theorem kB_c (b : CB) (e : En) (s : Sto) : kB b (.ok (.ct e) s) = .ok (.ct e) s := (rfl)
@[simp] theorem b_nil (e : En) (s : Sto) : evB .nil e s = .ok (.nx e) s := by rw [evB]
@[simp] theorem b_cons (c : CS) (b : CB) (e : En) (s : Sto) : evB (.cons c b) e s = kB b (evS c e s) := by rw [evB]; rfl
/-! a def -/
def kRun (n : Nat) (r : Rs Fl) : Option Out := match r with
  | .ok (.rt p) st => leave n p st
  | .ok (.nx _) st => leave n (.v .none) st
  | .ok _ _ => none
  | .ex x st => (takeOF st 0 n).map fun os => .ex x os
  | .no => none
@[simp] theorem kRun_r (n : Nat) (p : PV) (s : Sto) : kRun n (.ok (.rt p) s) = leave n p s := (rfl)
@[simp] theorem kRun_n (n : Nat) (e : En) (s : Sto) : kRun n (.ok (.nx e) s) = leave n (.v .none) s := (rfl)
theorem runFn_q (n N : Nat) (b : CB) (as : List AV) (h : as.length = n) : runFn n N b as = kRun (nObj as) (evB b ((enter as 0).1 ++ List.replicate (N - n) none) (enter as 0).2) := by
  unfold runFn
  rw [if_pos h]
  unfold kRun
  cases evB b ((enter as 0).1 ++ List.replicate (N - n) none) (enter as 0).2 with
  | ok f s => cases f <;> first | done | rfl
  | ex x s => first | done | rfl
  | no => first | done | rfl
@[simp] theorem enter_0 (n : Nat) : enter [] n = ([], []) := (rfl)
@[simp] theorem enter_v (d : FV) (r : List AV) (n : Nat) : enter (.v d :: r) n = (some (.v d) :: (enter r n).1, (enter r n).2) := (rfl)
@[simp] theorem enter_o (b : OF) (r : List AV) (n : Nat) : enter (.o b :: r) n = (some (.loc n) :: (enter r (n + 1)).1, some (obOf b) :: (enter r (n + 1)).2) := (rfl)
@[simp] theorem nObj_0 : nObj [] = 0 := (rfl)
@[simp] theorem nObj_v (d : FV) (r : List AV) : nObj (.v d :: r) = nObj r := (rfl)
@[simp] theorem nObj_o (b : OF) (r : List AV) : nObj (.o b :: r) = nObj r + 1 := (rfl)
@[simp] theorem leave_v (d : FV) (s : Sto) : leave 0 (.v d) s = some (.ret (.v d) []) := (rfl)
def lvO (n : Nat) (d : FV) (o : Option (List OF)) : Option Out := match o with
  | some os => some (.ret (.v d) os)
  | none => none
@[simp] theorem lvO_q (n : Nat) (d : FV) (os : List OF) : lvO n d (some os) = some (.ret (.v d) os) := (rfl)
@[simp] theorem leave_vn (n : Nat) (d : FV) (s : Sto) : leave (n + 1) (.v d) s = lvO n d (takeOF s 0 (n + 1)) := by unfold leave lvO; cases takeOF s 0 (n + 1) <;> rfl
@[simp] theorem take_0 (s : Sto) (l : Nat) : takeOF s l 0 = some [] := by unfold takeOF; rfl
def tkO (o : Option OB) (r : Option (List OF)) : Option (List OF) := match o with
  | some b => (ofOb b).bind fun o => r.map (o :: ·)
  | none => none
theorem tkO_q (xs : List PV) (ds : List FV) (r : List OF) (h : flatL xs = some ds) : tkO (some (.lst xs)) (some r) = some (.lst ds :: r) := by unfold tkO ofOb; simp [h]
@[simp] theorem tkO_m (ds : List FV) (r : List OF) : tkO (some (.lst (ds.map .v))) (some r) = some (.lst ds :: r) := tkO_q _ _ _ (flatL_map ds)
@[simp] theorem tkO_3 (a b c : FV) (r : List OF) : tkO (some (.lst [.v a, .v b, .v c])) (some r) = some (.lst [a, b, c] :: r) := tkO_q _ _ _ rfl
@[simp] theorem take_1 (s : Sto) (l n : Nat) : takeOF s l (n + 1) = tkO (obAt s l) (takeOF s (l + 1) n) := by rw [takeOF] <;> first | done | rfl | (unfold tkO; first | done | rfl)
@[simp] theorem leave_l0 (l : Nat) (s : Sto) : leave 0 (.loc l) s = match obAt s l with
    | some b => (ofOb b).map fun o => .ret (.o o) []
    | none => none := (rfl)
@[simp] theorem ofOb_q (xs : List PV) : ofOb (.lst xs) = (flatL xs).map .lst := (rfl)
@[simp] theorem obAt_q (s : Sto) (l : Nat) : obAt s l = (s[l]?).bind id := (rfl)
/-! operations -/
@[simp] theorem bop_add (a b : FV) : bop .Add a b = opAdd a b := (rfl)
@[simp] theorem bop_sub (a b : FV) : bop .Sub a b = opSub a b := (rfl)
@[simp] theorem bop_mul (a b : FV) : bop .Mult a b = opMul a b := (rfl)
@[simp] theorem bop_div (a b : FV) : bop .FloorDiv a b = opDiv a b := (rfl)
@[simp] theorem bop_mod (a b : FV) : bop .Mod a b = opMod a b := (rfl)
@[simp] theorem bop_pow (a b : FV) : bop .Pow a b = opPow a b := (rfl)
@[simp] theorem opAdd_i (i j : Int) : opAdd (.int i) (.int j) = some (.int (i + j)) := (rfl)
@[simp] theorem opSub_i (i j : Int) : opSub (.int i) (.int j) = some (.int (i - j)) := (rfl)
theorem opMul_i (i j : Int) (h : mulOk i j = true) : opMul (.int i) (.int j) = some (.int (i * j)) := (if_pos h)
theorem opDiv_i (i j : Int) (h : divOk j = true) : opDiv (.int i) (.int j) = some (.int (i.fdiv j)) := (if_pos h)
theorem opMod_i (i j : Int) (h : j ≠ 0) : opMod (.int i) (.int j) = some (.int (i.fmod j)) := (if_pos h)
@[simp] theorem opMul_k (i j : Int) : opMul (.int i) (.int j) = if mulOk i j then some (.int (i * j)) else none := (rfl)
@[simp] theorem opDiv_k (i j : Int) : opDiv (.int i) (.int j) = if divOk j then some (.int (i.fdiv j)) else none := (rfl)
@[simp] theorem opMod_k (i j : Int) : opMod (.int i) (.int j) = if j ≠ 0 then some (.int (i.fmod j)) else none := (rfl)
@[simp] theorem opPow_k (i j : Int) : opPow (.int i) (.int j) = if powOk i j then some (.int (i ^ j.toNat)) else none := (rfl)
@[simp] theorem cop_eq (a b : FV) : cop .Eq a b = cpEq a b := (rfl)
@[simp] theorem cop_ne (a b : FV) : cop .NotEq a b = cpNe a b := (rfl)
@[simp] theorem cop_lt (i j : Int) : cop .Lt (.int i) (.int j) = some (decide (i < j)) := (rfl)
@[simp] theorem cop_le (i j : Int) : cop .LtE (.int i) (.int j) = some (decide (i ≤ j)) := (rfl)
@[simp] theorem cop_gt (i j : Int) : cop .Gt (.int i) (.int j) = some (decide (j < i)) := (rfl)
@[simp] theorem cop_ge (i j : Int) : cop .GtE (.int i) (.int j) = some (decide (j ≤ i)) := (rfl)
@[simp] theorem cop_is (a : FV) : cop .Is a .none = some (isNone a) := (rfl)
@[simp] theorem cop_isn (a : FV) : cop .IsNot a .none = some (!isNone a) := (rfl)
@[simp] theorem cop_in (a b : FV) : cop .In a b = cpIn a b := (rfl)
@[simp] theorem cop_nin (a b : FV) : cop .NotIn a b = cpNotIn a b := (rfl)
@[simp] theorem isNone_n : isNone .none = true := (rfl)
@[simp] theorem isNone_i (i : Int) : isNone (.int i) = false := (rfl)
@[simp] theorem isNone_b (i : Bool) : isNone (.bool i) = false := (rfl)
@[simp] theorem isNone_s (i : Str) : isNone (.str i) = false := (rfl)
@[simp] theorem isNone_t (i : List FV) : isNone (.tuple i) = false := (rfl)
@[simp] theorem isNone_l (i : List FV) : isNone (.list i) = false := (rfl)
theorem shaped_i (i : Int) : SeqAt.shaped (.int i) = true := (rfl)
@[simp] theorem cpEq_i (i j : Int) : cpEq (.int i) (.int j) = some (decide (i = j)) := by
  show some (PyData.eqv (.int i) (.int j)) = _
  by_cases h : i = j <;> simp [PyData.eqv, h]
@[simp] theorem cpNe_i (i j : Int) : cpNe (.int i) (.int j) = some (!decide (i = j)) := by
  show some (!PyData.eqv (.int i) (.int j)) = _
  by_cases h : i = j <;> simp [PyData.eqv, h]
@[simp] theorem opIx_l (xs : List FV) (i : Int) : opIx (.list xs) (.int i) = ixOf xs i := (rfl)
@[simp] theorem opIx_t (xs : List FV) (i : Int) : opIx (.tuple xs) (.int i) = ixOf xs i := (rfl)
@[simp] theorem opSl_l (xs : List FV) (lo hi : Option Int) : opSl (.list xs) lo hi = some (.list (cutOf xs lo hi)) := (rfl)
@[simp] theorem opSl_t (xs : List FV) (lo hi : Option Int) : opSl (.tuple xs) lo hi = some (.tuple (cutOf xs lo hi)) := (rfl)
@[simp] theorem bl_lenl (xs : List FV) : bfn .len [.list xs] = some (.int xs.length) := (rfl)
@[simp] theorem bl_lent (xs : List FV) : bfn .len [.tuple xs] = some (.int xs.length) := (rfl)
@[simp] theorem bl_abs (i : Int) : bfn .abs [.int i] = some (.int (if i < 0 then -i else i)) := (rfl)
@[simp] theorem bl_int (i : Int) : bfn .int [.int i] = some (.int i) := (rfl)
@[simp] theorem bl_intb (b : Bool) : bfn .int [.bool b] = some (.int (if b then 1 else 0)) := (rfl)
@[simp] theorem bl_tl (xs : List FV) : bfn .tuple [.list xs] = some (.tuple xs) := (rfl)
@[simp] theorem bl_tt (xs : List FV) : bfn .tuple [.tuple xs] = some (.tuple xs) := (rfl)
@[simp] theorem bl_ll (xs : List FV) : bfn .list [.list xs] = some (.list xs) := (rfl)
@[simp] theorem bl_lt (xs : List FV) : bfn .list [.tuple xs] = some (.list xs) := (rfl)
@[simp] theorem bl_divmod (i j : Int) : bfn .divmod [.int i, .int j] = if 0 < j ∧ j < 1073741824 then some (.tuple [.int (i / j), .int (i % j)]) else none := (rfl)
@[simp] theorem bl_gcd (i j : Int) : bfn .gcd [.int i, .int j] = some (.int (Nat.gcd i.natAbs j.natAbs)) := (rfl)
@[simp] theorem bl_max (i j : Int) : bfn .max [.int i, .int j] = some (.int (if j > i then j else i)) := (rfl)
@[simp] theorem bl_min (i j : Int) : bfn .min [.int i, .int j] = some (.int (if j < i then j else i)) := (rfl)
@[simp] theorem vws_l (s : Sto) (l : Nat) (r : List PV) : vws s (.loc l :: r) = vwl s r (obAt s l) := by
  rw [vws]
  show ((match obAt s l with | some (.lst xs) => (flatL xs).map .list | none => none : Option FV)).bind _ = _
  cases obAt s l with
  | none => first | done | rfl
  | some b => cases b with
    | lst xs =>
      unfold vwl
      dsimp only
      cases flatL xs <;> first | done | rfl
@[simp] theorem vwl_q (s : Sto) (r : List PV) (ds : List FV) : vwl s r (some (.lst (ds.map .v))) = (vws s r).map (.list ds :: ·) := by
  unfold vwl
  simp only [flatL_map, Option.bind_some]
theorem toInts_map : ∀ is : List Int, toInts (is.map .int) = some is
  | [] => rfl
  | i :: is => by rw [List.map_cons, toInts, toInts_map is]; rfl
theorem toBools_map : ∀ is : List Bool, toBools (is.map .bool) = some is
  | [] => rfl
  | i :: is => by rw [List.map_cons, toBools, toBools_map is]; rfl
@[simp] theorem bl_minl (is : List Int) : bfn .min [.list (is.map .int)] = (minOf is).map .int := by simp [bfn, toInts_map]
@[simp] theorem bl_maxl (is : List Int) : bfn .max [.list (is.map .int)] = (maxOf is).map .int := by simp [bfn, toInts_map]
@[simp] theorem bl_sum (is : List Int) : bfn .sum [.list (is.map .int)] = some (.int is.sum) := by simp [bfn, toInts_map]
@[simp] theorem bl_all (is : List Bool) : bfn .all [.list (is.map .bool)] = some (.bool (is.all id)) := by simp [bfn, toBools_map]
@[simp] theorem bl_any (is : List Bool) : bfn .any [.list (is.map .bool)] = some (.bool (is.any id)) := by simp [bfn, toBools_map]
@[simp] theorem ty_q1 (i : Int) : isTy (.int i) .int = true := (rfl)
@[simp] theorem ty_q2 (i : Int) : isTy (.int i) .bool = false := (rfl)
@[simp] theorem ty_q3 (i : Int) : isTy (.int i) .str = false := (rfl)
@[simp] theorem ty_q4 (i : Int) : isTy (.int i) .tuple = false := (rfl)
@[simp] theorem ty_q5 (i : Int) : isTy (.int i) .list = false := (rfl)
@[simp] theorem ty_q6 (i : Int) : isTy (.int i) .dict = false := (rfl)
@[simp] theorem ty_b1 (i : Bool) : isTy (.bool i) .int = true := (rfl)
@[simp] theorem ty_b2 (i : Bool) : isTy (.bool i) .bool = true := (rfl)
@[simp] theorem ty_b3 (i : Bool) : isTy (.bool i) .str = false := (rfl)
@[simp] theorem ty_b4 (i : Bool) : isTy (.bool i) .tuple = false := (rfl)
@[simp] theorem ty_b5 (i : Bool) : isTy (.bool i) .list = false := (rfl)
@[simp] theorem ty_b6 (i : Bool) : isTy (.bool i) .dict = false := (rfl)
@[simp] theorem ty_s1 (i : Str) : isTy (.str i) .int = false := (rfl)
@[simp] theorem ty_s2 (i : Str) : isTy (.str i) .bool = false := (rfl)
@[simp] theorem ty_s3 (i : Str) : isTy (.str i) .str = true := (rfl)
@[simp] theorem ty_s4 (i : Str) : isTy (.str i) .tuple = false := (rfl)
@[simp] theorem ty_s5 (i : Str) : isTy (.str i) .list = false := (rfl)
@[simp] theorem ty_s6 (i : Str) : isTy (.str i) .dict = false := (rfl)
@[simp] theorem ty_t1 (i : List FV) : isTy (.tuple i) .int = false := (rfl)
@[simp] theorem ty_t2 (i : List FV) : isTy (.tuple i) .bool = false := (rfl)
@[simp] theorem ty_t3 (i : List FV) : isTy (.tuple i) .str = false := (rfl)
@[simp] theorem ty_t4 (i : List FV) : isTy (.tuple i) .tuple = true := (rfl)
@[simp] theorem ty_t5 (i : List FV) : isTy (.tuple i) .list = false := (rfl)
@[simp] theorem ty_t6 (i : List FV) : isTy (.tuple i) .dict = false := (rfl)
@[simp] theorem ty_l1 (i : List FV) : isTy (.list i) .int = false := (rfl)
@[simp] theorem ty_l2 (i : List FV) : isTy (.list i) .bool = false := (rfl)
@[simp] theorem ty_l3 (i : List FV) : isTy (.list i) .str = false := (rfl)
@[simp] theorem ty_l4 (i : List FV) : isTy (.list i) .tuple = false := (rfl)
@[simp] theorem ty_l5 (i : List FV) : isTy (.list i) .list = true := (rfl)
@[simp] theorem ty_l6 (i : List FV) : isTy (.list i) .dict = false := (rfl)
@[simp] theorem ty_n (T : Ty) : isTy .none T = false := by cases T <;> rfl
end L3
/-! L4B: loops, comprehensions, sizes, fractions. -/
namespace L3
open PySem
theorem forL_rel {bd : PV → En → Sto → Rs En} {body : En → Sto → Rs Fl} (P : Nat → En → Sto → Prop) : ∀ (ds : List FV) (k : Nat) (e : En) (s : Sto), P k e s →
    (∀ i d, ds[i]? = some d → ∀ e s, P (k + i) e s → ∃ e1 s1 e' s', bd (.v d) e s = .ok e1 s1 ∧ body e1 s1 = .ok (.nx e') s' ∧ P (k + i + 1) e' s') →
    ∃ e' s', forL bd body ds e s = .ok (.nx e') s' ∧ P (k + ds.length) e' s'
  | [], k, e, s, h, _ => ⟨e, s, rfl, h⟩
  | d :: ds, k, e, s, h, hs => by
    obtain ⟨e1, s1, e', s', q1, q2, q3⟩ := hs 0 d rfl e s h
    obtain ⟨e2, s2, r1, r2⟩ := forL_rel P ds (k + 1) e' s' q3 fun i d hd e s hp => by
      have := hs (i + 1) d (by simpa using hd) e s (by rw [show k + (i + 1) = k + 1 + i by omega]; exact hp)
      rw [show k + (i + 1) = k + 1 + i by omega] at this
      exact this
    refine ⟨e2, s2, ?_, by rw [List.length_cons, show k + (ds.length + 1) = k + 1 + ds.length by omega]; exact r2⟩
    unfold forL
    rw [q1, Rs.bnd_ok, q2, Rs.bnd_ok]
    exact r1
theorem for_rel {t : CT} {it : CI} {b : CB} {e : En} {s s1 : Sto} {ds : List FV} (P : Nat → En → Sto → Prop) (hit : evI it e s = .ok ds s1) (h0 : P 0 e s1)
    (hs : ∀ i d, ds[i]? = some d → ∀ e s, P i e s → ∃ e1 s1 e' s', evT t (.v d) e s = .ok e1 s1 ∧ evB b e1 s1 = .ok (.nx e') s' ∧ P (i + 1) e' s') :
    ∃ e' s', evS (.for_ t it b) e s = .ok (.nx e') s' ∧ P ds.length e' s' := by
  rw [evS, hit, Rs.bnd_ok]
  have := forL_rel (bd := fun p e s => evT t p e s) (body := fun e s => evB b e s) P ds 0 e s1 h0 fun i d hd e s hp => by
    rw [Nat.zero_add] at hp ⊢; exact hs i d hd e s hp
  rw [Nat.zero_add] at this
  exact this
theorem whlL_rel {c : En → Sto → Rs PV} {body : En → Sto → Rs Fl} (P : Nat → En → Sto → Prop) (Q : En → Sto → Prop)
    (hs : ∀ n e s, P n e s → (c e s = .ok (.v (.bool false)) s ∧ Q e s) ∨ ∃ m e' s', c e s = .ok (.v (.bool true)) s ∧ body e s = .ok (.nx e') s' ∧ P m e' s' ∧ m < n) :
    ∀ (f n : Nat) (e : En) (s : Sto), n < f → P n e s → ∃ e' s', whlL c body f e s = .ok (.nx e') s' ∧ Q e' s'
  | 0, n, e, s, hn, _ => by omega
  | f + 1, n, e, s, hn, h => by
    unfold whlL
    rcases hs n e s h with ⟨q1, q2⟩ | ⟨m, e', s', q1, q2, q3, q4⟩
    · rw [q1]; exact ⟨e, s, rfl, q2⟩
    · obtain ⟨e2, s2, r1, r2⟩ := whlL_rel P Q hs f m e' s' (by omega) q3
      rw [q1, Rs.bnd_ok]
      dsimp only
      rw [q2]
      exact ⟨e2, s2, r1, r2⟩
theorem whl_rel {c : CE} {b : CB} {e : En} {s : Sto} (P : Nat → En → Sto → Prop) (Q : En → Sto → Prop)
    (hs : ∀ n e s, P n e s → (evE c e s = .ok (.v (.bool false)) s ∧ Q e s) ∨ ∃ m e' s', evE c e s = .ok (.v (.bool true)) s ∧ evB b e s = .ok (.nx e') s' ∧ P m e' s' ∧ m < n)
    {n : Nat} (hn : n < 1000000) (h0 : P n e s) : ∃ e' s', evS (.whl c b) e s = .ok (.nx e') s' ∧ Q e' s' := by
  rw [evS]
  exact whlL_rel (c := fun e s => evE c e s) (body := fun e s => evB b e s) P Q hs FUEL n e s hn h0
/-! comprehensions -/
theorem lcL_map {bd : PV → En → Sto → Rs En} {c el : En → Sto → Rs PV} {e : En} {s : Sto} (g : FV → FV) : ∀ ds : List FV,
    (∀ d ∈ ds, ∃ e1, bd (.v d) e s = .ok e1 s ∧ c e1 s = .ok (.v (.bool true)) s ∧ el e1 s = .ok (.v (g d)) s) → lcL bd c el e ds s = .ok (ds.map fun d => .v (g d)) s
  | [], _ => rfl
  | d :: ds, h => by
    obtain ⟨e1, q1, q2, q3⟩ := h d (by simp)
    unfold lcL
    rw [q1, Rs.nx_ok, Rs.bnd_ok, q2, Rs.nx_ok, Rs.bnd_ok]
    dsimp only
    rw [q3, Rs.nx_ok, Rs.bnd_ok, lcL_map g ds fun d hd => h d (by simp [hd])]
    rfl
theorem flatL_mapg (g : FV → FV) (ds : List FV) : flatL (ds.map fun d => .v (g d)) = some (ds.map g) := by
  have := flatL_map (ds.map g)
  rw [List.map_map] at this
  exact this
theorem lc_map {t : CT} {it : CI} {c el : CE} {own : List Nat} {e : En} {s s1 : Sto} {ds : List FV} (g : FV → FV) (hit : evI it e s = .ok ds s1)
    (h : ∀ d ∈ ds, ∃ e1, evT t (.v d) (wipeE e own) s1 = .ok e1 s1 ∧ evE c e1 s1 = .ok (.v (.bool true)) s1 ∧ evE el e1 s1 = .ok (.v (g d)) s1) :
    evE (.lc t it c el own) e s = .ok (.v (.list (ds.map g))) s1 := by
  rw [evE, hit, Rs.bnd_ok, lcL_map (bd := fun p e s => evT t p e s) (c := fun e s => evE c e s) (el := fun e s => evE el e s) g ds h, Rs.bnd_ok, flatL_mapg]
  rfl
/-- by place -/
theorem lcL_ix {bd : PV → En → Sto → Rs En} {c el : En → Sto → Rs PV} {e : En} {s : Sto} (g : Nat → FV) : ∀ (ds : List FV) (k : Nat),
    (∀ i d, ds[i]? = some d → ∃ e1, bd (.v d) e s = .ok e1 s ∧ c e1 s = .ok (.v (.bool true)) s ∧ el e1 s = .ok (.v (g (k + i))) s) → lcL bd c el e ds s = .ok ((List.range ds.length).map fun i => .v (g (k + i))) s
  | [], _, _ => rfl
  | d :: ds, k, h => by
    obtain ⟨e1, q1, q2, q3⟩ := h 0 d rfl
    unfold lcL
    rw [q1, Rs.nx_ok, Rs.bnd_ok, q2, Rs.nx_ok, Rs.bnd_ok]
    dsimp only
    rw [q3, Rs.nx_ok, Rs.bnd_ok, lcL_ix g ds (k + 1) fun i d hd => by rw [show k + 1 + i = k + (i + 1) by omega]; exact h (i + 1) d (by simpa using hd)]
    rw [Rs.bnd_ok, List.length_cons, List.range_succ_eq_map, List.map_cons, List.map_map]
    congr 2
    apply List.map_congr_left
    intro i _
    show _ = PV.v (g (k + (i + 1)))
    rw [show k + 1 + i = k + (i + 1) by omega]
theorem lc_ix {t : CT} {it : CI} {c el : CE} {own : List Nat} {e : En} {s s1 : Sto} {ds : List FV} (g : Nat → FV) (hit : evI it e s = .ok ds s1)
    (h : ∀ i d, ds[i]? = some d → ∃ e1, evT t (.v d) (wipeE e own) s1 = .ok e1 s1 ∧ evE c e1 s1 = .ok (.v (.bool true)) s1 ∧ evE el e1 s1 = .ok (.v (g i)) s1) :
    evE (.lc t it c el own) e s = .ok (.v (.list ((List.range ds.length).map g))) s1 := by
  have q := lcL_ix (bd := fun p e s => evT t p e s) (c := fun e s => evE c e s) (el := fun e s => evE el e s) g ds 0 fun i d hd => by rw [Nat.zero_add]; exact h i d hd
  simp only [Nat.zero_add] at q
  rw [evE, hit, Rs.bnd_ok, q, Rs.bnd_ok]
  have := flatL_map ((List.range ds.length).map g)
  rw [List.map_map] at this
  rw [show (List.map (fun i => PV.v (g i)) (List.range ds.length)) = List.map (PV.v ∘ g) (List.range ds.length) from rfl, this]
  rfl
/-- with a test -/
theorem lcL_flt {bd : PV → En → Sto → Rs En} {c el : En → Sto → Rs PV} {e : En} {s : Sto} (p : FV → Bool) (g : FV → FV) : ∀ ds : List FV,
    (∀ d ∈ ds, ∃ e1, bd (.v d) e s = .ok e1 s ∧ c e1 s = .ok (.v (.bool (p d))) s ∧ (p d = true → el e1 s = .ok (.v (g d)) s)) → lcL bd c el e ds s = .ok ((ds.filter p).map fun d => .v (g d)) s
  | [], _ => rfl
  | d :: ds, h => by
    obtain ⟨e1, q1, q2, q3⟩ := h d (by simp)
    have ih := lcL_flt p g ds fun d hd => h d (by simp [hd])
    unfold lcL
    rw [q1, Rs.nx_ok, Rs.bnd_ok, q2, Rs.nx_ok, Rs.bnd_ok]
    cases hp : p d with
    | true =>
      dsimp only
      rw [q3 hp, Rs.nx_ok, Rs.bnd_ok, ih, List.filter_cons, hp, if_pos rfl]
      rfl
    | false =>
      dsimp only
      rw [ih, List.filter_cons, hp]
      rfl
theorem lc_flt {t : CT} {it : CI} {c el : CE} {own : List Nat} {e : En} {s s1 : Sto} {ds : List FV} (p : FV → Bool) (g : FV → FV) (hit : evI it e s = .ok ds s1)
    (h : ∀ d ∈ ds, ∃ e1, evT t (.v d) (wipeE e own) s1 = .ok e1 s1 ∧ evE c e1 s1 = .ok (.v (.bool (p d))) s1 ∧ (p d = true → evE el e1 s1 = .ok (.v (g d)) s1)) :
    evE (.lc t it c el own) e s = .ok (.v (.list ((ds.filter p).map g))) s1 := by
  rw [evE, hit, Rs.bnd_ok, lcL_flt (bd := fun p e s => evT t p e s) (c := fun e s => evE c e s) (el := fun e s => evE el e s) p g ds h, Rs.bnd_ok, flatL_mapg]
  rfl
/-- the store changes -/
theorem lcL_rel {bd : PV → En → Sto → Rs En} {c el : En → Sto → Rs PV} {e : En} (P : Nat → Sto → List PV → Prop) : ∀ (ds : List FV) (k : Nat) (s : Sto) (acc : List PV), P k s acc →
    (∀ i d, ds[i]? = some d → ∀ s acc, P (k + i) s acc → ∃ e1 p s', bd (.v d) e s = .ok e1 s ∧ c e1 s = .ok (.v (.bool true)) s ∧ el e1 s = .ok p s' ∧ P (k + i + 1) s' (acc ++ [p])) →
    ∃ ps s', lcL bd c el e ds s = .ok ps s' ∧ P (k + ds.length) s' (acc ++ ps)
  | [], k, s, acc, h, _ => ⟨[], s, rfl, by simpa using h⟩
  | d :: ds, k, s, acc, h, hs => by
    obtain ⟨e1, p, s', q1, q2, q3, q4⟩ := hs 0 d rfl s acc h
    obtain ⟨ps, s2, r1, r2⟩ := lcL_rel P ds (k + 1) s' (acc ++ [p]) q4 fun i d hd s acc hp => by
      have := hs (i + 1) d (by simpa using hd) s acc (by rw [show k + (i + 1) = k + 1 + i by omega]; exact hp)
      rw [show k + (i + 1) = k + 1 + i by omega] at this
      exact this
    refine ⟨p :: ps, s2, ?_, by rw [List.length_cons, show k + (ds.length + 1) = k + 1 + ds.length by omega]; simpa using r2⟩
    unfold lcL
    rw [q1, Rs.nx_ok, Rs.bnd_ok, q2, Rs.nx_ok, Rs.bnd_ok]
    dsimp only
    rw [q3, Rs.nx_ok, Rs.bnd_ok, r1]
    rfl
theorem lc_rel {t : CT} {it : CI} {c el : CE} {own : List Nat} {e : En} {s s1 : Sto} {ds : List FV} (P : Nat → Sto → List PV → Prop) (hit : evI it e s = .ok ds s1) (h0 : P 0 s1 [])
    (hs : ∀ i d, ds[i]? = some d → ∀ s acc, P i s acc → ∃ e1 p s', evT t (.v d) (wipeE e own) s = .ok e1 s ∧ evE c e1 s = .ok (.v (.bool true)) s ∧ evE el e1 s = .ok p s' ∧ P (i + 1) s' (acc ++ [p])) :
    ∃ ps s', evE (.lc t it c el own) e s = Rs.of ((flatL ps).map fun ds => .v (.list ds)) s' ∧ P ds.length s' ps := by
  obtain ⟨ps, s', h1, h2⟩ := lcL_rel (bd := fun p e s => evT t p e s) (c := fun e s => evE c e s) (el := fun e s => evE el e s) (e := wipeE e own) P ds 0 s1 [] h0 fun i d hd s acc hp => by
    rw [Nat.zero_add] at hp ⊢; exact hs i d hd s acc hp
  refine ⟨ps, s', ?_, by simpa using h2⟩
  rw [evE, hit, Rs.bnd_ok, h1]
  rfl
theorem mlc_rel {t : CT} {it : CI} {c el : CE} {own : List Nat} {e : En} {s s1 : Sto} {ds : List FV} (P : Nat → Sto → List PV → Prop) (hit : evI it e s = .ok ds s1) (h0 : P 0 s1 [])
    (hs : ∀ i d, ds[i]? = some d → ∀ s acc, P i s acc → ∃ e1 p s', evT t (.v d) (wipeE e own) s = .ok e1 s ∧ evE c e1 s = .ok (.v (.bool true)) s ∧ evE el e1 s = .ok p s' ∧ P (i + 1) s' (acc ++ [p])) :
    ∃ ps s', evE (.mlc t it c el own) e s = .ok (.loc s'.length) (s' ++ [some (.lst ps)]) ∧ P ds.length s' ps := by
  obtain ⟨ps, s', h1, h2⟩ := lcL_rel (bd := fun p e s => evT t p e s) (c := fun e s => evE c e s) (el := fun e s => evE el e s) (e := wipeE e own) P ds 0 s1 [] h0 fun i d hd s acc hp => by
    rw [Nat.zero_add] at hp ⊢; exact hs i d hd s acc hp
  refine ⟨ps, s', ?_, by simpa using h2⟩
  rw [evE, hit, Rs.bnd_ok, h1]
  rfl
/-! the same, the steps put together -/
def kSt (b : CB) (r : Rs En) : Rs Fl := r.bnd fun e s => evB b e s
@[simp] theorem kSt_q (b : CB) (e : En) (s : Sto) : kSt b (.ok e s) = evB b e s := (rfl)
theorem kSt_inv {b : CB} {r : Rs En} {f : Fl} {s : Sto} (h : kSt b r = .ok f s) : ∃ e1 s1, r = .ok e1 s1 ∧ evB b e1 s1 = .ok f s := by
  cases r with
  | ok e1 s1 => exact ⟨e1, s1, rfl, h⟩
  | ex x s1 => cases h
  | no => cases h
theorem for_r {t : CT} {it : CI} {b : CB} {e : En} {s s1 : Sto} {ds : List FV} (P : Nat → En → Sto → Prop) (hit : evI it e s = .ok ds s1) (h0 : P 0 e s1)
    (hs : ∀ i d, ds[i]? = some d → ∀ e s, P i e s → ∃ e' s', kSt b (evT t (.v d) e s) = .ok (.nx e') s' ∧ P (i + 1) e' s') :
    ∃ e' s', evS (.for_ t it b) e s = .ok (.nx e') s' ∧ P ds.length e' s' :=
  for_rel P hit h0 fun i d hd e s hp => by
    obtain ⟨e', s', q1, q2⟩ := hs i d hd e s hp
    obtain ⟨e1, s1, r1, r2⟩ := kSt_inv q1
    exact ⟨e1, s1, e', s', r1, r2, q2⟩
def kLe (r : Rs PV) : Rs (Option PV) := r.bnd fun p s => .ok (some p) s
@[simp] theorem kLe_q (p : PV) (s : Sto) : kLe (.ok p s) = .ok (some p) s := (rfl)
def kLt (el : CE) (e : En) (r : Rs PV) : Rs (Option PV) := r.bnd fun p s => match p with
  | .v (.bool true) => kLe (evE el e s)
  | .v (.bool false) => .ok none s
  | _ => .no
@[simp] theorem kLt_t (el : CE) (e : En) (s : Sto) : kLt el e (.ok (.v (.bool true)) s) = kLe (evE el e s) := (rfl)
@[simp] theorem kLt_f (el : CE) (e : En) (s : Sto) : kLt el e (.ok (.v (.bool false)) s) = .ok none s := (rfl)
def kLc (c el : CE) (r : Rs En) : Rs (Option PV) := r.bnd fun e s => kLt el e (evE c e s)
@[simp] theorem kLc_q (c el : CE) (e : En) (s : Sto) : kLc c el (.ok e s) = kLt el e (evE c e s) := (rfl)
def lcO (o : Option PV) (r : Rs (List PV)) : Rs (List PV) := match o with
  | some p => r.bnd fun ps s4 => .ok (p :: ps) s4
  | none => r
theorem lcL_cons {t : CT} {c el : CE} {e : En} {d : FV} {ds : List FV} {s s' : Sto} {o : Option PV} (h : kLc c el (evT t (.v d) e s) = .ok o s') :
    lcL (fun p e s => evT t p e s) (fun e s => evE c e s) (fun e s => evE el e s) e (d :: ds) s = lcO o (lcL (fun p e s => evT t p e s) (fun e s => evE c e s) (fun e s => evE el e s) e ds s') := by
  rw [lcL]
  cases h1 : evT t (.v d) e s with
  | ok e1 s1 =>
    rw [h1, kLc_q] at h
    rw [Rs.nx_ok, Rs.bnd_ok]
    cases h2 : evE c e1 s1 with
    | ok p s2 =>
      rw [h2] at h
      rw [Rs.nx_ok, Rs.bnd_ok]
      unfold kLt at h
      rw [Rs.bnd_ok] at h
      split at h
      · cases h3 : evE el e1 s2 with
        | ok p s3 => rw [h3] at h; cases h; rw [Rs.nx_ok, Rs.bnd_ok]; rfl
        | ex x s3 => rw [h3] at h; cases h
        | no => rw [h3] at h; cases h
      · cases h; rfl
      · cases h
    | ex x s2 => rw [h2] at h; cases h
    | no => rw [h2] at h; cases h
  | ex x s1 => rw [h1] at h; cases h
  | no => rw [h1] at h; cases h
theorem lcL_f {t : CT} {c el : CE} {e : En} {s : Sto} (g : FV → Option FV) : ∀ ds : List FV, (∀ d ∈ ds, kLc c el (evT t (.v d) e s) = .ok ((g d).map .v) s) →
    lcL (fun p e s => evT t p e s) (fun e s => evE c e s) (fun e s => evE el e s) e ds s = .ok ((ds.filterMap g).map .v) s
  | [], _ => rfl
  | d :: ds, h => by
    rw [lcL_cons (h d (by simp)), lcL_f g ds fun d hd => h d (by simp [hd]), List.filterMap_cons]
    cases g d <;> rfl
/-- a comprehension over data, by item -/
theorem lc_f {t : CT} {it : CI} {c el : CE} {own : List Nat} {e : En} {s s1 : Sto} {ds : List FV} (g : FV → Option FV) (hit : evI it e s = .ok ds s1)
    (h : ∀ d ∈ ds, kLc c el (evT t (.v d) (wipeE e own) s1) = .ok ((g d).map .v) s1) : evE (.lc t it c el own) e s = .ok (.v (.list (ds.filterMap g))) s1 := by
  rw [evE, hit, Rs.bnd_ok, lcL_f g ds h, Rs.bnd_ok, flatL_map]
  rfl
/-- over a range -/
theorem lc_rg {t : CT} {it : CI} {c el : CE} {own : List Nat} {e : En} {s s1 : Sto} {a b : Int} (g : Int → FV) (hit : evI it e s = .ok (rangeI a b) s1)
    (h : ∀ i : Int, a ≤ i → i < b → kLc c el (evT t (.v (.int i)) (wipeE e own) s1) = .ok (some (.v (g i))) s1) :
    evE (.lc t it c el own) e s = .ok (.v (.list ((List.range (b - a).toNat).map fun (i : Nat) => g (a + i)))) s1 := by
  rw [lc_f (fun d => match d with | .int i => some (g i) | _ => none) hit fun d hd => ?_]
  · unfold rangeI
    rw [List.filterMap_map]
    congr 3
    rw [← List.filterMap_eq_map]
    rfl
  · unfold rangeI at hd
    obtain ⟨i, hi, rfl⟩ := List.mem_map.mp hd
    rw [List.mem_range] at hi
    exact h (a + i) (by omega) (by omega)
theorem lcL_r {t : CT} {c el : CE} {e : En} (P : Nat → Sto → List PV → Prop) (ds : List FV) : ∀ (r : List FV) (k : Nat) (s : Sto) (acc : List PV), (∀ i, r[i]? = ds[k + i]?) → P k s acc →
    (∀ i d, ds[i]? = some d → ∀ s acc, P i s acc → ∃ p s', kLc c el (evT t (.v d) e s) = .ok (some p) s' ∧ P (i + 1) s' (acc ++ [p])) →
    ∃ ps s', lcL (fun p e s => evT t p e s) (fun e s => evE c e s) (fun e s => evE el e s) e r s = .ok ps s' ∧ P (k + r.length) s' (acc ++ ps)
  | [], k, s, acc, hr, h, _ => ⟨[], s, rfl, by simpa using h⟩
  | d :: r, k, s, acc, hr, h, hs => by
    have h0 := hr 0
    obtain ⟨p, s', q1, q2⟩ := hs k d (by simpa using h0.symm) s acc h
    obtain ⟨ps, s2, r1, r2⟩ := lcL_r P ds r (k + 1) s' (acc ++ [p]) (fun i => by
      have := hr (i + 1)
      rw [show k + (i + 1) = k + 1 + i by omega] at this
      simpa using this) q2 hs
    refine ⟨p :: ps, s2, ?_, by rw [List.length_cons, show k + (r.length + 1) = k + 1 + r.length by omega]; simpa using r2⟩
    rw [lcL_cons q1, r1]
    rfl
/-- a comprehension whose steps change the store -/
theorem lc_r {t : CT} {it : CI} {c el : CE} {own : List Nat} {e : En} {s s1 : Sto} {ds : List FV} (P : Nat → Sto → List PV → Prop) (hit : evI it e s = .ok ds s1) (h0 : P 0 s1 [])
    (hs : ∀ i d, ds[i]? = some d → ∀ s acc, P i s acc → ∃ p s', kLc c el (evT t (.v d) (wipeE e own) s) = .ok (some p) s' ∧ P (i + 1) s' (acc ++ [p])) :
    ∃ ps s', evE (.lc t it c el own) e s = Rs.of ((flatL ps).map fun ds => .v (.list ds)) s' ∧ P ds.length s' ps := by
  obtain ⟨ps, s', h1, h2⟩ := lcL_r (t := t) (c := c) (el := el) (e := wipeE e own) P ds ds 0 s1 [] (fun i => by rw [Nat.zero_add]) h0 hs
  refine ⟨ps, s', ?_, by simpa using h2⟩
  rw [evE, hit, Rs.bnd_ok, h1]
  rfl
theorem mlc_r {t : CT} {it : CI} {c el : CE} {own : List Nat} {e : En} {s s1 : Sto} {ds : List FV} (P : Nat → Sto → List PV → Prop) (hit : evI it e s = .ok ds s1) (h0 : P 0 s1 [])
    (hs : ∀ i d, ds[i]? = some d → ∀ s acc, P i s acc → ∃ p s', kLc c el (evT t (.v d) (wipeE e own) s) = .ok (some p) s' ∧ P (i + 1) s' (acc ++ [p])) :
    ∃ ps s', evE (.mlc t it c el own) e s = .ok (.loc s'.length) (s' ++ [some (.lst ps)]) ∧ P ds.length s' ps := by
  obtain ⟨ps, s', h1, h2⟩ := lcL_r (t := t) (c := c) (el := el) (e := wipeE e own) P ds ds 0 s1 [] (fun i => by rw [Nat.zero_add]) h0 hs
  refine ⟨ps, s', ?_, by simpa using h2⟩
  rw [evE, hit, Rs.bnd_ok, h1]
  rfl
/-! ranges -/
@[simp] theorem rangeI_len (a b : Int) : (rangeI a b).length = (b - a).toNat := by simp [rangeI]
theorem rangeI_at {a b : Int} {i : Nat} {d : FV} (h : (rangeI a b)[i]? = some d) : d = .int (a + i) ∧ (i : Int) < b - a := by
  unfold rangeI at h
  rw [List.getElem?_map] at h
  simp only [Option.map_eq_some_iff, List.getElem?_range] at h
  obtain ⟨j, h1, h2⟩ := h
  rw [List.getElem?_eq_some_iff] at h1
  obtain ⟨h1, h3⟩ := h1
  simp at h1 h3
  subst h3
  exact ⟨h2.symm, by omega⟩
theorem rangeI_mem {a b : Int} {d : FV} (h : d ∈ rangeI a b) : ∃ i : Int, d = .int i ∧ a ≤ i ∧ i < b := by
  obtain ⟨i, hi⟩ := List.mem_iff_getElem?.mp h
  obtain ⟨h1, h2⟩ := rangeI_at hi
  exact ⟨a + i, h1, by omega, by omega⟩
theorem rangeI_map {a b : Int} (f : Int → FV) : (rangeI a b).map (fun d => match d with | .int i => f i | x => x) = (List.range (b - a).toNat).map fun (i : Nat) => f (a + i) := by
  unfold rangeI; rw [List.map_map]; rfl
theorem rngOk_q {i : Int} (h1 : -8000000 ≤ i) (h2 : i ≤ 8000000) : rngOk i = true := by unfold rngOk; simp [h1, h2]
/-! sizes -/
theorem log2_lt {n k : Nat} (h : n < 2 ^ k) (hk : 0 < k) : n.log2 < k := by
  by_cases h0 : n = 0
  · subst h0; simpa using hk
  · exact (Nat.log2_lt h0).mpr h
theorem mulOk_q {i j : Int} {a b : Nat} (h1 : i.natAbs < 2 ^ a) (h2 : j.natAbs < 2 ^ b) (h : a + b < 1000000) : mulOk i j = true := by
  unfold mulOk
  have q1 : i.natAbs.log2 ≤ a := by
    rcases Nat.eq_zero_or_pos a with e | e
    · subst e; have : i.natAbs = 0 := by omega
      rw [this]; simp
    · exact Nat.le_of_lt (log2_lt h1 e)
  have q2 : j.natAbs.log2 ≤ b := by
    rcases Nat.eq_zero_or_pos b with e | e
    · subst e; have : j.natAbs = 0 := by omega
      rw [this]; simp
    · exact Nat.le_of_lt (log2_lt h2 e)
  simp only [decide_eq_true_eq]
  omega
theorem mulOk_s {i j : Int} (h1 : i.natAbs < 2 ^ 64) (h2 : j.natAbs < 2 ^ 64) : mulOk i j = true := mulOk_q h1 h2 (by omega)
theorem divOk_q {j : Int} {b : Nat} (h0 : 0 < j) (h2 : j.natAbs < 2 ^ b) (h : b ≤ 9000) : divOk j = true := by
  unfold divOk
  have hb : 0 < b := by
    rcases Nat.eq_zero_or_pos b with e | e
    · subst e; omega
    · exact e
  have := log2_lt h2 hb
  simp only [Bool.and_eq_true, decide_eq_true_eq]
  omega
theorem divOk_s {j : Int} (h0 : 0 < j) (h2 : j.natAbs < 2 ^ 64) : divOk j = true := divOk_q h0 h2 (by omega)
/-! indices -/
theorem ixOf_nat {α : Type} (xs : List α) (i : Nat) (x : α) (h : xs[i]? = some x) : ixOf xs (i : Int) = some x := by
  have hl := (List.getElem?_eq_some_iff.mp h).1
  unfold ixOf L2.atI L2.ixN
  rw [if_pos (by omega), if_pos (by omega)]
  simpa using h
@[simp] theorem ixOf_0 {α : Type} (a : α) (xs : List α) : ixOf (a :: xs) 0 = some a := ixOf_nat (a :: xs) 0 a rfl
@[simp] theorem ixOf_1 {α : Type} (a b : α) (xs : List α) : ixOf (a :: b :: xs) 1 = some b := ixOf_nat (a :: b :: xs) 1 b rfl
@[simp] theorem ixOf_2 {α : Type} (a b c : α) (xs : List α) : ixOf (a :: b :: c :: xs) 2 = some c := ixOf_nat (a :: b :: c :: xs) 2 c rfl
@[simp] theorem ixOf_3 {α : Type} (a b c d : α) (xs : List α) : ixOf (a :: b :: c :: d :: xs) 3 = some d := ixOf_nat (a :: b :: c :: d :: xs) 3 d rfl
@[simp] theorem ixN_30 : L2.ixN 3 0 = some 0 := (rfl)
@[simp] theorem ixN_31 : L2.ixN 3 1 = some 1 := (rfl)
@[simp] theorem ixN_32 : L2.ixN 3 2 = some 2 := (rfl)
/-! fractions as pairs -/
def frV (q : Rat) : FV := .tuple [.int q.num, .int q.den]
def RB (k : Nat) (q : Rat) : Prop := q.num.natAbs < 2 ^ k ∧ q.den < 2 ^ k
theorem RB.mono {j k : Nat} {q : Rat} (h : RB j q) (hk : j ≤ k) : RB k q := ⟨Nat.lt_of_lt_of_le h.1 (Nat.pow_le_pow_right (by omega) hk), Nat.lt_of_lt_of_le h.2 (Nat.pow_le_pow_right (by omega) hk)⟩
theorem RB.zero {k : Nat} (hk : 0 < k) : RB k 0 := by
  have : 2 ^ 1 ≤ 2 ^ k := Nat.pow_le_pow_right (by omega) hk
  exact ⟨by show 0 < _; omega, by show 1 < _; omega⟩
theorem RB.mk {k : Nat} {n : Int} {d : Nat} (h1 : n.natAbs < 2 ^ k) (h2 : d < 2 ^ k) (hk : 0 < k) : RB k (mkRat n d) := by
  unfold RB
  rw [Rat.num_mkRat, Rat.den_mkRat]
  have : 2 ^ 1 ≤ 2 ^ k := Nat.pow_le_pow_right (by omega) hk
  split
  · exact ⟨by show 0 < _; omega, by omega⟩
  · refine ⟨?_, Nat.lt_of_le_of_lt (Nat.div_le_self _ _) h2⟩
    refine Nat.lt_of_le_of_lt ?_ h1
    rw [Int.natAbs_ediv_of_dvd (Int.ofNat_dvd_left.mpr (Nat.gcd_dvd_right _ _))]
    exact Nat.div_le_self _ _
theorem RB.add {j k : Nat} {p q : Rat} (hp : RB j p) (hq : RB k q) : RB (j + k + 1) (p + q) := by
  rw [Rat.add_def']
  have e : 2 ^ (j + k + 1) = 2 * (2 ^ j * 2 ^ k) := by rw [Nat.pow_succ, Nat.pow_add]; omega
  have m1 : p.num.natAbs * q.den < 2 ^ j * 2 ^ k := Nat.mul_lt_mul'' hp.1 hq.2
  have m2 : q.num.natAbs * p.den < 2 ^ j * 2 ^ k := by rw [Nat.mul_comm]; exact Nat.mul_lt_mul'' hp.2 hq.1
  have m3 : p.den * q.den < 2 ^ j * 2 ^ k := Nat.mul_lt_mul'' hp.2 hq.2
  refine RB.mk ?_ (by omega) (by omega)
  have := Int.natAbs_add_le (p.num * q.den) (q.num * p.den)
  rw [Int.natAbs_mul, Int.natAbs_mul] at this
  simp only [Int.natAbs_natCast] at this
  omega
theorem frV_mk (n : Int) (d : Nat) (hd : 0 < d) : frV (mkRat n d) = .tuple [.int (n.fdiv (Nat.gcd n.natAbs d)), .int ((d : Int).fdiv (Nat.gcd n.natAbs d))] := by
  unfold frV
  rw [Rat.num_mkRat, Rat.den_mkRat, if_neg (by omega), if_neg (by omega), Nat.gcd_comm, Int.fdiv_eq_ediv_of_nonneg _ (by omega), Int.fdiv_eq_ediv_of_nonneg _ (by omega)]
  simp
theorem frV_inj {p q : Rat} (h : p = q) : frV p = frV q := by rw [h]
end L3
/-! M1: ways of choosing; sums. -/
namespace MB
def ch : Nat → Nat → Nat
  | _, 0 => 1
  | 0, _ + 1 => 0
  | n + 1, k + 1 => ch n k + ch n (k + 1)
@[simp] theorem ch_0 (n : Nat) : ch n 0 = 1 := by cases n <;> rfl
@[simp] theorem ch_z (k : Nat) : ch 0 (k + 1) = 0 := rfl
theorem ch_s (n k : Nat) : ch (n + 1) (k + 1) = ch n k + ch n (k + 1) := rfl
theorem ch_lt : ∀ {n k : Nat}, n < k → ch n k = 0
  | 0, k + 1, _ => rfl
  | n + 1, k + 1, h => by rw [ch_s, ch_lt (by omega), ch_lt (by omega)]
theorem ch_self : ∀ n : Nat, ch n n = 1
  | 0 => rfl
  | n + 1 => by rw [ch_s, ch_self n, ch_lt (by omega)]
theorem ch_pos : ∀ {n k : Nat}, k ≤ n → 0 < ch n k
  | n, 0, _ => by simp
  | n + 1, k + 1, h => by
    rw [ch_s]
    have := ch_pos (n := n) (k := k) (by omega)
    omega
theorem ch_le : ∀ (n k : Nat), ch n k ≤ 2 ^ n
  | n, 0 => by rw [ch_0]; exact Nat.one_le_two_pow
  | 0, k + 1 => by simp
  | n + 1, k + 1 => by
    rw [ch_s, Nat.pow_succ]
    have := ch_le n k
    have := ch_le n (k + 1)
    omega
theorem ch_mul : ∀ n k : Nat, (ch n (k + 1) : Int) * (k + 1) = ch n k * (n - k)
  | 0, 0 => by simp
  | 0, k + 1 => by simp
  | n + 1, 0 => by
    have := ch_mul n 0
    rw [ch_s]
    simp only [ch_0] at this ⊢
    push_cast
    simp at this ⊢
    omega
  | n + 1, k + 1 => by
    have h1 := ch_mul n (k + 1)
    have h2 := ch_mul n k
    rw [ch_s, ch_s n k]
    push_cast at h1 h2 ⊢
    grind
/-- the next from the last, as a quotient -/
theorem ch_div (n k : Nat) : ((ch n k : Int) * (n - k)).fdiv (k + 1) = ch n (k + 1) := by
  rw [← ch_mul, Int.fdiv_eq_ediv_of_nonneg _ (by omega), Int.mul_ediv_cancel _ (by omega)]
def fa : Nat → Nat
  | 0 => 1
  | n + 1 => (n + 1) * fa n
theorem fa_pos : ∀ n, 0 < fa n
  | 0 => by decide
  | n + 1 => Nat.mul_pos (by omega) (fa_pos n)
theorem ch_fa : ∀ a b : Nat, ch (a + b) a * fa a * fa b = fa (a + b)
  | 0, b => by simp [fa]
  | a + 1, 0 => by rw [Nat.add_zero, ch_self]; simp [fa]
  | a + 1, b + 1 => by
    have h1 := ch_fa a (b + 1)
    have h2 := ch_fa (a + 1) b
    rw [show a + 1 + (b + 1) = (a + b + 1) + 1 by omega, ch_s]
    rw [show a + (b + 1) = a + b + 1 by omega] at h1
    rw [show a + 1 + b = a + b + 1 by omega] at h2
    simp only [fa] at h1 h2 ⊢
    grind
theorem ch_sym (a b : Nat) : ch (a + b) a = ch (a + b) b := by
  have h1 := ch_fa a b
  have h2 := ch_fa b a
  rw [Nat.add_comm b a] at h2
  have p := Nat.mul_pos (fa_pos a) (fa_pos b)
  refine Nat.eq_of_mul_eq_mul_right p ?_
  rw [← Nat.mul_assoc, h1, Nat.mul_comm (fa a), ← Nat.mul_assoc, h2]
/-- draws and bad exchanged -/
theorem ch_swap (f x y z : Nat) : ch (f + x) f * ch (y + z) y * ch (f + x + (y + z)) (f + x) = ch (f + y) f * ch (x + z) x * ch (f + x + (y + z)) (f + y) := by
  have h1 := ch_fa f x
  have h2 := ch_fa y z
  have h3 := ch_fa (f + x) (y + z)
  have h4 := ch_fa f y
  have h5 := ch_fa x z
  have h6 := ch_fa (f + y) (x + z)
  rw [show f + y + (x + z) = f + x + (y + z) by omega] at h6
  have p : 0 < fa f * fa x * fa y * fa z := Nat.mul_pos (Nat.mul_pos (Nat.mul_pos (fa_pos f) (fa_pos x)) (fa_pos y)) (fa_pos z)
  refine Nat.eq_of_mul_eq_mul_right p ?_
  have e1 : ch (f + x) f * ch (y + z) y * ch (f + x + (y + z)) (f + x) * (fa f * fa x * fa y * fa z) = ch (f + x + (y + z)) (f + x) * fa (f + x) * fa (y + z) := by rw [← h1, ← h2]; grind
  have e2 : ch (f + y) f * ch (x + z) x * ch (f + x + (y + z)) (f + y) * (fa f * fa x * fa y * fa z) = ch (f + x + (y + z)) (f + y) * fa (f + y) * fa (x + z) := by rw [← h4, ← h5]; grind
  rw [e1, e2, h3, h6]
/-! sums -/
def sg (n : Nat) (f : Nat → Rat) : Rat := match n with
  | 0 => 0
  | n + 1 => sg n f + f n
theorem sg_s (n : Nat) (f : Nat → Rat) : sg (n + 1) f = sg n f + f n := rfl
theorem sg_congr {n : Nat} {f g : Nat → Rat} (h : ∀ i, i < n → f i = g i) : sg n f = sg n g := by
  induction n with
  | zero => rfl
  | succ n ih => rw [sg_s, sg_s, ih fun i hi => h i (by omega), h n (by omega)]
theorem sg_add (n : Nat) (f g : Nat → Rat) : sg n (fun i => f i + g i) = sg n f + sg n g := by
  induction n with
  | zero => simp only [sg]; grind
  | succ n ih => simp only [sg_s, ih]; grind
theorem sg_mul (n : Nat) (c : Rat) (f : Nat → Rat) : sg n (fun i => c * f i) = c * sg n f := by
  induction n with
  | zero => simp only [sg]; grind
  | succ n ih => simp only [sg_s, ih]; grind
theorem sg_zero {n : Nat} {f : Nat → Rat} (h : ∀ i, i < n → f i = 0) : sg n f = 0 := by
  induction n with
  | zero => rfl
  | succ n ih => rw [sg_s, ih fun i hi => h i (by omega), h n (by omega)]; grind
theorem sg_const (n : Nat) (c : Rat) : sg n (fun _ => c) = n * c := by
  induction n with
  | zero => simp [sg]
  | succ n ih => rw [sg_s, ih]; push_cast; grind
theorem sg_sub (n : Nat) (f g : Nat → Rat) : sg n (fun i => f i - g i) = sg n f - sg n g := by
  induction n with
  | zero => simp only [sg]; grind
  | succ n ih => simp only [sg_s, ih]; grind
/-- two counts, the order exchanged -/
theorem sg_comm (n m : Nat) (f : Nat → Nat → Rat) : sg n (fun i => sg m fun j => f i j) = sg m fun j => sg n fun i => f i j := by
  induction n with
  | zero => simp only [sg]; exact (sg_zero fun _ _ => rfl).symm
  | succ n ih => simp only [sg_s, ih, sg_add]
theorem sg_shift (n : Nat) (f : Nat → Rat) : sg (n + 1) f = f 0 + sg n fun i => f (i + 1) := by
  induction n with
  | zero => simp only [sg]; grind
  | succ n ih => rw [sg_s, ih, sg_s]; grind
theorem sg_split (n m : Nat) (f : Nat → Rat) : sg (n + m) f = sg n f + sg m fun i => f (n + i) := by
  induction m with
  | zero => simp only [sg, Nat.add_zero]; grind
  | succ m ih => rw [← Nat.add_assoc, sg_s, ih, sg_s]; grind
end MB
/-! M2: draws without putting back. -/
namespace MB
theorem vand : ∀ (b c d : Nat), sg (d + 1) (fun f => (ch b f : Rat) * ch c (d - f)) = ch (b + c) d
  | 0, c, d => by
    rw [sg_shift, sg_zero (fun i _ => by simp), Nat.sub_zero, Nat.zero_add, ch_0]
    have : ((1 : Nat) : Rat) = 1 := rfl
    grind
  | b + 1, c, 0 => by simp [sg]; rw [Rat.zero_add]
  | b + 1, c, d + 1 => by
    have h1 := vand b c d
    have h2 := vand b c (d + 1)
    rw [sg_shift] at h2 ⊢
    rw [show b + 1 + c = (b + c) + 1 by omega, ch_s]
    have e : ∀ i : Nat, d + 1 - (i + 1) = d - i := fun i => by omega
    simp only [e, Nat.sub_zero, ch_0] at h2 ⊢
    simp only [ch_s]
    have : sg (d + 1) (fun i => ((ch b i + ch b (i + 1) : Nat) : Rat) * ch c (d - i)) = sg (d + 1) (fun i => (ch b i : Rat) * ch c (d - i)) + sg (d + 1) fun i => (ch b (i + 1) : Rat) * ch c (d - i) := by
      rw [← sg_add]
      exact sg_congr fun i _ => by push_cast; grind
    rw [this, h1]
    push_cast
    grind
theorem vand2 : ∀ (s f g : Nat), sg (s + 1) (fun d => (ch d f : Rat) * ch (s - d) g) = ch (s + 1) (f + g + 1)
  | 0, f, g => by
    cases f with
    | zero => cases g with
      | zero => rw [sg_s]; simp [sg, ch]; rw [Rat.zero_add]
      | succ g => rw [sg_s]; simp [sg, ch]; rw [Rat.zero_add]
    | succ f => rw [sg_s, show f + 1 + g + 1 = (f + g + 1) + 1 by omega]; simp [sg, ch]; rw [Rat.zero_add]
  | s + 1, f, 0 => by
    have h := vand2 s f 0
    rw [sg_s]
    simp only [ch_0, Nat.add_zero] at h ⊢
    rw [h, ch_s (s + 1)]
    push_cast
    grind
  | s + 1, f, g + 1 => by
    have h1 := vand2 s f g
    have h2 := vand2 s f (g + 1)
    rw [sg_s, Nat.sub_self, ch_z]
    have : sg (s + 1) (fun d => (ch d f : Rat) * ch (s + 1 - d) (g + 1)) = sg (s + 1) (fun d => (ch d f : Rat) * ch (s - d) g) + sg (s + 1) fun d => (ch d f : Rat) * ch (s - d) (g + 1) := by
      rw [← sg_add]
      refine sg_congr fun d hd => ?_
      rw [show s + 1 - d = (s - d) + 1 by omega, ch_s]
      push_cast
      grind
    rw [this, h1, h2, show f + (g + 1) + 1 = (f + g + 1) + 1 by omega, ch_s (s + 1)]
    push_cast
    grind
theorem ch_abs (n k : Nat) : ch (n + 1) (k + 1) * (k + 1) = (n + 1) * ch n k := by
  have h := ch_mul n k
  have : ((ch (n + 1) (k + 1) * (k + 1) : Nat) : Int) = ((n + 1) * ch n k : Nat) := by
    rw [ch_s]; push_cast; grind
  exact_mod_cast this
/-- of s things b bad, d drawn: f bad among them -/
def hy (s b d f : Nat) : Rat := (ch b f : Rat) * ch (s - b) (d - f) / ch s d
theorem natR {n : Nat} (h : 0 < n) : (n : Rat) ≠ 0 := by
  intro e
  have : ((n : Nat) : Rat) = ((0 : Nat) : Rat) := e
  have := Rat.natCast_inj.mp this
  omega
theorem chR {n k : Nat} (h : k ≤ n) : (ch n k : Rat) ≠ 0 := natR (ch_pos h)
theorem hy_sum {s b d : Nat} (hb : b ≤ s) (hd : d ≤ s) : sg (d + 1) (fun f => hy s b d f) = 1 := by
  have h := vand b (s - b) d
  rw [show b + (s - b) = s by omega] at h
  have : sg (d + 1) (fun f => hy s b d f) = (ch s d : Rat)⁻¹ * sg (d + 1) (fun f => (ch b f : Rat) * ch (s - b) (d - f)) := by
    rw [← sg_mul]; exact sg_congr fun i _ => by unfold hy; rw [Rat.div_def]; grind
  rw [this, h, Rat.inv_mul_cancel _ (chR hd)]
/-- the other way round -/
def hz (s b d f : Nat) : Rat := (ch d f : Rat) * ch (s - d) (b - f) / ch s b
theorem hy_hz {s b d f : Nat} (hb : b ≤ s) (hd : d ≤ s) (hf : f ≤ b) (hfd : f ≤ d) : hy s b d f = hz s b d f := by
  unfold hy hz
  by_cases h : d - f ≤ s - b
  · have q := ch_swap f (b - f) (d - f) (s - b - (d - f))
    rw [show f + (b - f) = b by omega, show f + (d - f) = d by omega, show d - f + (s - b - (d - f)) = s - b by omega, show b + (s - b) = s by omega, show b - f + (s - b - (d - f)) = s - d by omega] at q
    have q' : (ch b f : Rat) * ch (s - b) (d - f) * ch s b = ch d f * ch (s - d) (b - f) * ch s d := by exact_mod_cast q
    have h1 := chR hb
    have h2 := chR hd
    rw [Rat.div_def, Rat.div_def]
    have i1 := Rat.mul_inv_cancel _ h1
    have i2 := Rat.mul_inv_cancel _ h2
    grind
  · rw [ch_lt (n := s - b) (by omega), ch_lt (n := s - d) (by omega)]
    simp only [Rat.div_def]
    grind
theorem hz_lt {s b d f : Nat} (h : d < f) : hz s b d f = 0 := by unfold hz; rw [ch_lt h, Rat.div_def]; simp
theorem hz_sum {s b f : Nat} (hb : b ≤ s) (hf : f < b) : sg s (fun d => hz s b d f) = ((s + 1 : Nat) : Rat) / ((b + 1 : Nat) : Rat) := by
  have h := vand2 s f (b - f)
  rw [show f + (b - f) + 1 = b + 1 by omega, sg_s, Nat.sub_self] at h
  have z : ch 0 (b - f) = 0 := ch_lt (by omega)
  rw [z] at h
  have e : sg s (fun d => hz s b d f) = (ch s b : Rat)⁻¹ * sg s (fun d => (ch d f : Rat) * ch (s - d) (b - f)) := by
    rw [← sg_mul]; exact sg_congr fun i _ => by unfold hz; rw [Rat.div_def]; grind
  rw [e]
  have a : ((ch (s + 1) (b + 1) : Nat) : Rat) * ((b + 1 : Nat) : Rat) = ((s + 1 : Nat) : Rat) * ch s b := by exact_mod_cast ch_abs s b
  have h1 := Rat.mul_inv_cancel _ (chR hb)
  have h2 := Rat.mul_inv_cancel _ (natR (n := b + 1) (by omega))
  rw [Rat.div_def]
  generalize sg s (fun d => (ch d f : Rat) * ch (s - d) (b - f)) = S at h ⊢
  generalize ((ch (s + 1) (b + 1) : Nat) : Rat) = A at *
  generalize ((b + 1 : Nat) : Rat) = B at *
  generalize ((s + 1 : Nat) : Rat) = C at *
  have : S = A := by rw [← h]; simp; rw [Rat.add_zero]
  subst this
  grind
/-- at least m bad among d drawn -/
def tl (s b m d : Nat) : Rat := sg (d + 1 - m) fun i => hy s b d (m + i)
theorem tl_rest {s b m d : Nat} (hb : b ≤ s) (hd : d ≤ s) (hm : m ≤ b) : 1 - tl s b m d = sg m fun f => hz s b d f := by
  unfold tl
  have h := hy_sum hb hd
  by_cases hmd : m ≤ d + 1
  · rw [show d + 1 = m + (d + 1 - m) by omega, sg_split] at h
    have e : sg m (fun f => hy s b d f) = sg m fun f => hz s b d f := sg_congr fun f hf => hy_hz hb hd (by omega) (by omega)
    rw [← e, ← h]
    grind
  · rw [show d + 1 - m = 0 by omega]
    have e : sg m (fun f => hz s b d f) = sg (d + 1) (fun f => hz s b d f) + sg (m - (d + 1)) fun i => hz s b d (d + 1 + i) := by
      rw [← sg_split, show d + 1 + (m - (d + 1)) = m by omega]
    rw [e, sg_zero (f := fun i => hz s b d (d + 1 + i)) fun i _ => hz_lt (by omega)]
    have e2 : sg (d + 1) (fun f => hy s b d f) = sg (d + 1) fun f => hz s b d f := sg_congr fun f hf => hy_hz hb hd (by omega) (by omega)
    rw [← e2, h]
    show 1 - (0 : Rat) = 1 + 0
    grind
theorem tl_mean {s b m : Nat} (hb : b ≤ s) (hm : m ≤ b) : sg s (fun d => 1 - tl s b m d) = (m : Rat) * (((s + 1 : Nat) : Rat) / ((b + 1 : Nat) : Rat)) := by
  rw [sg_congr (g := fun d => sg m fun f => hz s b d f) fun d hd => tl_rest hb (by omega) hm, sg_comm]
  rw [sg_congr (g := fun _ => ((s + 1 : Nat) : Rat) / ((b + 1 : Nat) : Rat)) fun f hf => hz_sum hb (by omega)]
  exact sg_const _ _
end MB
namespace G
open PySem L3 MB
def WL (n : Nat) (w : List FV) : Prop := ∃ a b c : Int, w = [.int a, .int b, .int c] ∧ 0 ≤ a ∧ 0 ≤ b ∧ b < 2147483587 ∧ 0 ≤ c ∧ c ≤ n
theorem fmod_b (o : Int) (m : Int) (hm : 0 < m) : 0 ≤ o.fmod m ∧ o.fmod m < m := ⟨Int.fmod_nonneg_of_pos _ hm, Int.fmod_lt_of_pos _ hm⟩
theorem law_well_ok (ns : List Int) (lap : Nat) (hn : ns.length ≤ 63) (hl : lap ≤ 63) : ∃ w, WL 0 w ∧ F__law_well [.v (.list (ns.map .int)), .v (.int lap)] = some (.ret (.o (.lst w)) []) := by
  have hm1 : mulOk 6121 (lap : Int) = true := mulOk_s (by decide) (by omega)
  have loop : ∀ x : Int, 0 ≤ x → x < 2147483648 → ∃ e' s', evS c__law_well_1 [some (.v (.list (ns.map .int))), some (.v (.int lap)), some (.v (.int x)), none, none] [] = .ok (.nx e') s' ∧
      (s' = [] ∧ ∃ (y : Int) (z : Option PV), e' = [some (.v (.list (ns.map .int))), some (.v (.int lap)), some (.v (.int y)), z, none] ∧ 0 ≤ y ∧ y < 2147483648) := fun x h0 h1 => by
    refine for_r (ds := cutOf (ns.map PyData.int) none (some 16)) (s1 := []) (P := fun _ e s => s = [] ∧ ∃ (y : Int) (z : Option PV), e = [some (.v (.list (ns.map .int))), some (.v (.int lap)), some (.v (.int y)), z, none] ∧ 0 ≤ y ∧ y < 2147483648) ?_ ⟨rfl, x, none, rfl, h0, h1⟩ ?_
    · have : (cutOf (ns.map PyData.int) none (some 16)).length ≤ 16777216 := by
        unfold cutOf; simp; omega
      simp [this]
    · rintro i d hd e s ⟨rfl, y, z, rfl, hy0, hy1⟩
      have hmem : d ∈ ns.map PyData.int := by
        have := List.mem_of_getElem? hd
        unfold cutOf at this
        exact List.mem_of_mem_drop (List.mem_of_mem_take this)
      obtain ⟨c, _, rfl⟩ := List.mem_map.mp hmem
      have hm : mulOk y 48271 = true := mulOk_s (by omega) (by decide)
      have := fmod_b (y * 48271 + c.fmod 2147483549 + 23) 2147483587 (by decide)
      simp [hm]
      exact ⟨_, _, ⟨rfl, rfl⟩, rfl, _, ⟨_, rfl⟩, by omega, by omega⟩
  obtain ⟨e', s', h1, rfl, y, z, rfl, hy0, hy1⟩ := loop (704969 + 6121 * lap) (by omega) (by omega)
  have hm2 : mulOk y 53 = true := mulOk_s (by omega) (by decide)
  have hm3 : ∀ o : Int, mulOk (o.fmod 2147483549) 15013 = true := fun o => by
    have := fmod_b o 2147483549 (by decide)
    exact mulOk_s (by omega) (by decide)
  have hp : powOk 10 15 = true := by decide
  have b0 := fun o => fmod_b o 2147483587 (by decide)
  have fin : ∀ own : Int, ((lap < ns.length ∧ ixOf (ns.map PyData.int) (lap : Int) = some (.int own)) ∨ (¬lap < ns.length ∧ own = 0)) →
      ∃ a : Int, 0 ≤ a ∧ F__law_well [.v (.list (ns.map .int)), .v (.int lap)] = some (.ret (.o (.lst [.int a, .int ((y * 53 + own.fmod 2147483549 * 15013 + 11).fmod 2147483587), .int 0])) []) := by
    intro own ho
    by_cases g1 : own < 0
    · rcases ho with ⟨h, ix⟩ | ⟨h, rfl⟩
      · exact ⟨-own, by omega, by simp [F__law_well, runFn_q, c__law_well, hm1, h1, h, ix, hm2, hm3, hp, g1]⟩
      · omega
    · by_cases g2 : (1000000000000000 : Int) ≤ own
      · rcases ho with ⟨h, ix⟩ | ⟨h, rfl⟩
        · exact ⟨own, by omega, by simp [F__law_well, runFn_q, c__law_well, hm1, h1, h, ix, hm2, hm3, hp, g1, g2]⟩
        · omega
      · rcases ho with ⟨h, ix⟩ | ⟨h, rfl⟩
        · exact ⟨0, by omega, by simp [F__law_well, runFn_q, c__law_well, hm1, h1, h, ix, hm2, hm3, hp, g1, g2]⟩
        · have hm4 := hm3 0
          exact ⟨0, by omega, by simp at hm4; simp [F__law_well, runFn_q, c__law_well, hm1, h1, h, hm2, hm4, hp]⟩
  have hown : ∃ own : Int, (lap < ns.length ∧ ixOf (ns.map PyData.int) (lap : Int) = some (.int own)) ∨ (¬lap < ns.length ∧ own = 0) := by
    by_cases h : lap < ns.length
    · exact ⟨ns[lap], .inl ⟨h, ixOf_nat (ns.map PyData.int) lap (.int ns[lap]) (by simp [h])⟩⟩
    · exact ⟨0, .inr ⟨h, rfl⟩⟩
  obtain ⟨own, ho⟩ := hown
  obtain ⟨a, ha, hF⟩ := fin own ho
  exact ⟨_, ⟨a, _, 0, rfl, ha, (b0 _).1, (b0 _).2, by omega, by omega⟩, hF⟩
theorem law_draw_ok {n : Nat} {w : List FV} (hw : WL n w) (hn : n ≤ 1000000) (k : Int) (h0 : 0 < k) (h1 : k < 1073741824) :
    ∃ (r : Int) (w' : List FV), WL (n + 1) w' ∧ 0 ≤ r ∧ r < k ∧ F__law_draw [.o (.lst w), .v (.int k)] = some (.ret (.v (.int r)) [.lst w']) := by
  obtain ⟨a, b, c, rfl, ha, hb, hb', hc, hc'⟩ := hw
  by_cases g : 0 < a
  · refine ⟨a % k, [.int (a / k), .int b, .int c], ⟨_, _, _, rfl, Int.ediv_nonneg ha (by omega), hb, hb', hc, by omega⟩, Int.emod_nonneg _ (by omega), Int.emod_lt_of_pos _ h0, ?_⟩
    simp [F__law_draw, runFn_q, c__law_draw, g, h0, h1]
  · have hm1 : mulOk b 40009 = true := mulOk_s (by omega) (by decide)
    have hm2 : mulOk 15013 (c + 1) = true := mulOk_s (by decide) (by omega)
    have q1 := fmod_b (b * 40009 + 15013 * (c + 1) + 3) 2147483587 (by decide)
    have hd : divOk 1031 = true := by decide
    obtain ⟨m, em⟩ : ∃ m, m = (b * 40009 + 15013 * (c + 1) + 3).fmod 2147483587 := ⟨_, rfl⟩
    rw [← em] at q1
    have q2 := fmod_b m 5003 (by decide)
    have hm3 : mulOk m (m.fmod 5003 + 20011) = true := mulOk_s (by omega) (by omega)
    have hk : k ≠ 0 := by omega
    have q3 := fmod_b (m * (m.fmod 5003 + 20011) + (c + 1)) 2147483587 (by decide)
    have q4 := fmod_b (((m * (m.fmod 5003 + 20011) + (c + 1)).fmod 2147483587).fdiv 1031) k h0
    refine ⟨_, [.int a, .int ((m * (m.fmod 5003 + 20011) + (c + 1)).fmod 2147483587), .int (c + 1)], ⟨_, _, _, rfl, ha, q3.1, q3.2, by omega, by omega⟩, q4.1, q4.2, ?_⟩
    simp [F__law_draw, runFn_q, c__law_draw, g, hm1, hm2, ← em, hm3, hd, hk]
abbrev dvC : CE := .cmp .Gt (.var 1) (.lit (.int 0))
abbrev dvB : CB := .cons (.asgs (.cons (.nm 0) (.cons (.nm 1) .nil)) (.cons (.var 1) (.cons (.bin .Mod (.bl .int (.cons (.var 0) .nil)) (.var 1)) .nil))) .nil
theorem dv_end (a f : Nat) : whlL (fun e s => evE dvC e s) (fun e s => evB dvB e s) (f + 1) [some (.v (.int a)), some (.v (.int ((0 : Nat) : Int)))] [] = .ok (.nx [some (.v (.int a)), some (.v (.int 0))]) [] := by
  rw [whlL]; simp
theorem dv_step (a b f : Nat) (hb : 0 < b) : whlL (fun e s => evE dvC e s) (fun e s => evB dvB e s) (f + 1) [some (.v (.int a)), some (.v (.int b))] [] = whlL (fun e s => evE dvC e s) (fun e s => evB dvB e s) f [some (.v (.int b)), some (.v (.int ((a % b : Nat) : Int)))] [] := by
  have fm : (a : Int).fmod (b : Int) = ((a % b : Nat) : Int) := by rw [Int.fmod_eq_emod_of_nonneg _ (by omega)]; rfl
  have hb' : (b : Int) ≠ 0 := by omega
  have st : evB dvB [some (.v (.int a)), some (.v (.int b))] [] = .ok (.nx [some (.v (.int b)), some (.v (.int ((a % b : Nat) : Int)))]) [] := by
    simp only [b_cons, s_asgs, a_cons, e_var, List.getElem?_cons_zero, List.getElem?_cons_succ, kVar_q, kA1_q, e_bin, e_bl, a_nil, kA2_q, kBl_q, vws_1, vws_0, Option.map_some, kBl2_q, bl_int, oV_some, kB1_q, kB2_q, bop_mod, opMod_i _ _ hb', fm, kAsgs_q]
    simp
  have c1 : evE dvC [some (.v (.int a)), some (.v (.int b))] [] = .ok (.v (.bool true)) [] := by
    simp [hb]
  rw [whlL, c1, Rs.bnd_ok]
  dsimp only
  rw [st, Rs.bnd_ok]
theorem dv_loop : ∀ (k b a : Nat), b < 2 ^ k → ∀ f, 2 * k + 1 ≤ f → whlL (fun e s => evE dvC e s) (fun e s => evB dvB e s) f [some (.v (.int a)), some (.v (.int b))] [] = .ok (.nx [some (.v (.int (Nat.gcd a b))), some (.v (.int 0))]) []
  | k, b, a, hb, 0, hf => by omega
  | 0, b, a, hb, f + 1, hf => by
    have : b = 0 := by simpa using hb
    subst this
    rw [dv_end, Nat.gcd_zero_right]
  | k + 1, b, a, hb, f + 1, hf => by
    by_cases h0 : b = 0
    · subst h0; rw [dv_end, Nat.gcd_zero_right]
    · rw [dv_step _ _ _ (by omega)]
      have hr : a % b < b := Nat.mod_lt _ (by omega)
      have g1 : Nat.gcd a b = Nat.gcd b (a % b) := by rw [Nat.gcd_comm, Nat.gcd_rec, Nat.gcd_comm]
      obtain ⟨f, rfl⟩ : ∃ f', f = f' + 1 := ⟨f - 1, by omega⟩
      by_cases h1 : a % b = 0
      · rw [g1, h1, dv_end, Nat.gcd_zero_right]
      · rw [dv_step _ _ _ (by omega)]
        have g2 : Nat.gcd b (a % b) = Nat.gcd (a % b) (b % (a % b)) := by rw [Nat.gcd_comm, Nat.gcd_rec, Nat.gcd_comm]
        rw [g1, g2]
        refine dv_loop k _ _ ?_ f (by omega)
        have x1 : b % (a % b) < a % b := Nat.mod_lt _ (by omega)
        have x2 : b % (a % b) ≤ b - a % b := by
          have := Nat.div_add_mod b (a % b)
          have h2 : 1 ≤ b / (a % b) := (Nat.le_div_iff_mul_le (by omega)).mpr (by omega)
          have h3 : (a % b) * 1 ≤ (a % b) * (b / (a % b)) := Nat.mul_le_mul_left _ h2
          omega
        rw [Nat.pow_succ] at hb
        omega
theorem law_divisor_ok (a b : Nat) (k : Nat) (hb : b < 2 ^ k) (hk : k ≤ 400000) : F__law_divisor [.v (.int a), .v (.int b)] = some (.ret (.v (.int (Nat.gcd a b))) []) := by
  have : evS c__law_divisor_1 [some (.v (.int a)), some (.v (.int b))] [] = .ok (.nx [some (.v (.int (Nat.gcd a b))), some (.v (.int 0))]) [] := by
    rw [c__law_divisor_1, evS]
    exact dv_loop k b a hb FUEL (by unfold FUEL; omega)
  simp [F__law_divisor, runFn_q, c__law_divisor, this]
theorem law_frac_ok (n : Int) (m : Nat) (hm : 0 < m) (k : Nat) (hk : m < 2 ^ k) (hk' : k ≤ 9000) : F__law_frac [.v (.int n), .v (.int m)] = some (.ret (.v (frV (mkRat n m))) []) := by
  have h1 := law_divisor_ok n.natAbs m k hk (by omega)
  have h2 : (if n < 0 then -n else n) = (n.natAbs : Int) := by omega
  have hg : 0 < Nat.gcd n.natAbs m := Nat.gcd_pos_of_pos_right _ hm
  have h3 : divOk (Nat.gcd n.natAbs m) = true := divOk_q (by omega) (Nat.lt_of_le_of_lt (by rw [Int.natAbs_natCast]; exact Nat.gcd_le_right _ hm) hk) hk'
  rw [frV_mk _ _ hm]
  simp [F__law_frac, runFn_q, c__law_frac, h2, h1, h3]
theorem law_add_ok (p q : Rat) (j k : Nat) (hp : RB j p) (hq : RB k q) (h : j + k + 1 ≤ 9000) : F__law_add [.v (frV p), .v (frV q)] = some (.ret (.v (frV (p + q))) []) := by
  have e : 2 ^ (j + k) = 2 ^ j * 2 ^ k := Nat.pow_add ..
  have m3 : p.den * q.den < 2 ^ (j + k) := by rw [e]; exact Nat.mul_lt_mul'' hp.2 hq.2
  have h1 := law_frac_ok (p.num * q.den + q.num * p.den) (p.den * q.den) (Nat.mul_pos p.den_pos q.den_pos) (j + k) m3 (by omega)
  rw [← Rat.add_def'] at h1
  have o1 : mulOk p.num q.den = true := mulOk_q hp.1 (by rw [Int.natAbs_natCast]; exact hq.2) (by omega)
  have o2 : mulOk q.num p.den = true := mulOk_q hq.1 (by rw [Int.natAbs_natCast]; exact hp.2) (by omega)
  have o3 : mulOk p.den q.den = true := mulOk_q (by rw [Int.natAbs_natCast]; exact hp.2) (by rw [Int.natAbs_natCast]; exact hq.2) (by omega)
  rw [Int.natCast_mul] at h1
  show F__law_add [.v (.tuple [.int p.num, .int p.den]), .v (.tuple [.int q.num, .int q.den])] = _
  simp [F__law_add, runFn_q, c__law_add, o1, o2, o3, h1]
def qsum : List Rat → Rat
  | [] => 0
  | q :: qs => q + qsum qs
theorem RB.sum {k : Nat} : ∀ {qs : List Rat}, (∀ q ∈ qs, RB k q) → RB (1 + qs.length * (k + 1)) (qsum qs)
  | [], _ => RB.zero (by simp)
  | q :: qs, h => by
    have := (h q (by simp)).add (RB.sum (qs := qs) fun r hr => h r (by simp [hr]))
    refine this.mono ?_
    rw [List.length_cons, Nat.add_mul]
    omega
theorem qsum_app : ∀ (a b : List Rat), qsum (a ++ b) = qsum a + qsum b
  | [], b => by show qsum b = 0 + qsum b; grind
  | x :: a, b => by show x + qsum (a ++ b) = x + qsum a + qsum b; rw [qsum_app a b]; grind
theorem law_sum_ok (qs : List Rat) (k : Nat) (hq : ∀ q ∈ qs, RB k q) (hl : 2 + (qs.length + 1) * (k + 1) ≤ 9000) : F__law_sum [.v (.list (qs.map frV))] = some (.ret (.v (frV (qsum qs))) []) := by
  have loop : ∃ e' s', evS c__law_sum_1 [some (.v (.list (qs.map frV))), some (.v (frV 0)), none] [] = .ok (.nx e') s' ∧ (s' = [] ∧ ∃ z : Option PV, e' = [some (.v (.list (qs.map frV))), some (.v (frV (qsum (qs.take (qs.map frV).length)))), z]) := by
    refine for_r (ds := qs.map frV) (s1 := []) (P := fun i e s => s = [] ∧ ∃ z : Option PV, e = [some (.v (.list (qs.map frV))), some (.v (frV (qsum (qs.take i)))), z]) ?_ ⟨rfl, none, rfl⟩ ?_
    · have : qs.length ≤ 16777216 := by
        have : qs.length * 1 ≤ qs.length * (k + 1) := Nat.mul_le_mul_left _ (by omega)
        rw [Nat.add_mul] at hl
        omega
      simp [this]
    · rintro i d hd e s ⟨rfl, z, rfl⟩
      rw [List.getElem?_map, Option.map_eq_some_iff] at hd
      obtain ⟨q, hi, rfl⟩ := hd
      have hi' := (List.getElem?_eq_some_iff.mp hi).1
      have b1 : RB (1 + (qs.take i).length * (k + 1)) (qsum (qs.take i)) := RB.sum fun q h => hq q (List.mem_of_mem_take h)
      have hle : (qs.take i).length * (k + 1) ≤ qs.length * (k + 1) := Nat.mul_le_mul_right _ (by rw [List.length_take]; omega)
      rw [Nat.add_mul] at hl
      have b2 := law_add_ok _ _ _ _ b1 (hq q (List.mem_of_getElem? hi)) (by omega)
      have e1 : qsum (qs.take i) + q = qsum (qs.take (i + 1)) := by
        rw [List.take_succ, hi, qsum_app]
        show _ = _ + (q + 0)
        grind
      rw [e1] at b2
      simp [b2]
      exact ⟨_, _, ⟨rfl, rfl⟩, rfl, _, rfl⟩
  obtain ⟨e', s', h1, rfl, z, rfl⟩ := loop
  have hz : frV 0 = .tuple [.int 0, .int 1] := rfl
  rw [List.length_map, List.take_length] at h1
  rw [hz] at h1
  simp [F__law_sum, runFn_q, c__law_sum, h1]
theorem is_whole_ok (n : Int) : F_is_whole [.v (.int n)] = some (.ret (.v (.bool true)) []) := by
  simp [F_is_whole, c_is_whole, runFn_q]
theorem is_between_ok (n a b : Int) (h1 : a ≤ n) (h2 : n ≤ b) : F_is_between [.v (.int n), .v (.int a), .v (.int b)] = some (.ret (.v (.bool true)) []) := by
  simp [F_is_between, c_is_between, runFn_q, is_whole_ok, h1, h2]
theorem check_number_ok (n a b : Int) (h1 : a ≤ n) (h2 : n ≤ b) : F_check_number [.v (.int n), .v (.int a), .v (.int b)] = some (.ret (.v .none) []) := by
  simp [F_check_number, c_check_number, runFn_q, is_between_ok, h1, h2]
theorem check_size_ok (n : Int) (h1 : 1 ≤ n) (h2 : n ≤ 40) : F_check_size [.v (.int n)] = some (.ret (.v .none) []) := by
  simp [F_check_size, c_check_size, runFn_q, check_number_ok, h1, h2]
theorem lowest_ok (n : Int) (m : Nat) (hm : 0 < m) (k : Nat) (hk : m < 2 ^ k) (hk' : k ≤ 9000) : F_lowest [.v (.int n), .v (.int m)] = some (.ret (.v (frV (mkRat n m))) []) := by
  have h3 : divOk (Nat.gcd n.natAbs m) = true := divOk_q (by have := Nat.gcd_pos_of_pos_right n.natAbs hm; omega) (Nat.lt_of_le_of_lt (by rw [Int.natAbs_natCast]; exact Nat.gcd_le_right _ hm) hk) hk'
  rw [frV_mk _ _ hm]
  simp [F_lowest, c_lowest, runFn_q, hm, h3]
theorem ch_lt_pow {n k : Nat} (hn : n ≤ 60) : MB.ch n k < 2 ^ 61 := by
  have := MB.ch_le n k
  have : 2 ^ n ≤ 2 ^ 60 := Nat.pow_le_pow_right (by omega) hn
  omega
theorem ways_of_ok (n k : Nat) (hn : n ≤ 60) (hk : k ≤ 60) : F_ways_of [.v (.int n), .v (.int k)] = some (.ret (.v (.int (MB.ch n k))) []) := by
  have loop : ∃ e' s', evS c_ways_of_1 [some (.v (.int n)), some (.v (.int k)), some (.v (.int 1)), none] [] = .ok (.nx e') s' ∧ (s' = [] ∧ ∃ z : Option PV, e' = [some (.v (.int n)), some (.v (.int k)), some (.v (.int (MB.ch n (rangeI 0 k).length))), z]) := by
    refine for_r (ds := rangeI 0 k) (s1 := []) (P := fun i e s => s = [] ∧ ∃ z : Option PV, e = [some (.v (.int n)), some (.v (.int k)), some (.v (.int (MB.ch n i))), z]) ?_ ⟨rfl, none, by simp⟩ ?_
    · have := rngOk_q (i := k) (by omega) (by omega)
      simp [this]
    · rintro i d hd e s ⟨rfl, z, rfl⟩
      obtain ⟨rfl, hi⟩ := rangeI_at hd
      have hm : mulOk (MB.ch n i) (n - (0 + i)) = true := mulOk_s (by rw [Int.natAbs_natCast]; have := ch_lt_pow (k := i) hn; omega) (by omega)
      have hd : divOk (0 + i + 1) = true := divOk_s (by omega) (by omega)
      have he := MB.ch_div n i
      simp at hm hd ⊢
      simp [hm, hd, he]
      exact ⟨_, _, ⟨rfl, rfl⟩, rfl, _, rfl⟩
  obtain ⟨e', s', h1, rfl, z, rfl⟩ := loop
  simp at h1
  simp [F_ways_of, c_ways_of, runFn_q, h1]
theorem ways_found_ok (s b d f : Nat) (hs : s ≤ 40) (hb : b ≤ s) (hd : d ≤ s) (hf : f ≤ d) : F_ways_found [.v (.int s), .v (.int b), .v (.int d), .v (.int f)] = some (.ret (.v (.int ((MB.ch b f * MB.ch (s - b) (d - f) : Nat) : Int))) []) := by
  by_cases g1 : b < f
  · rw [MB.ch_lt g1]
    simp [F_ways_found, c_ways_found, runFn_q, g1]
  · by_cases g2 : s - b < d - f
    · rw [MB.ch_lt g2]
      have g2' : (s : Int) - b < d - f := by omega
      simp [F_ways_found, c_ways_found, runFn_q, g1, g2']
    · have g2' : ¬ ((s : Int) - b < d - f) := by omega
      have w1 := ways_of_ok b f (by omega) (by omega)
      have w2 := ways_of_ok (s - b) (d - f) (by omega) (by omega)
      have e1 : (s : Int) - b = ((s - b : Nat) : Int) := by omega
      have e2 : (d : Int) - f = ((d - f : Nat) : Int) := by omega
      have hm : mulOk (MB.ch b f) (MB.ch (s - b) (d - f)) = true := mulOk_s (by rw [Int.natAbs_natCast]; have := ch_lt_pow (n := b) (k := f) (by omega); omega) (by rw [Int.natAbs_natCast]; have := ch_lt_pow (n := s - b) (k := d - f) (by omega); omega)
      simp [F_ways_found, c_ways_found, runFn_q, g1, g2']
      simp [e1, e2, w1, w2, hm]
theorem sum_range (n : Nat) (f : Nat → Int) : ((((List.range n).map f).sum : Int) : Rat) = sg n fun i => (f i : Rat) := by
  induction n with
  | zero => rfl
  | succ n ih => rw [List.range_succ, List.map_append, List.sum_append, Rat.intCast_add, ih, sg_s]; simp
theorem qsum_range (n : Nat) (f : Nat → Rat) : qsum ((List.range n).map f) = sg n f := by
  induction n with
  | zero => rfl
  | succ n ih => rw [List.range_succ, List.map_append, qsum_app, ih, sg_s]; show _ + (f n + 0) = _; grind
theorem sg_div (n : Nat) (f : Nat → Rat) (c : Rat) : sg n f / c = sg n fun i => f i / c := by
  rw [Rat.div_def]
  induction n with
  | zero => simp [sg]
  | succ n ih => rw [sg_s, sg_s, ← ih, Rat.div_def]; grind
theorem tl_mk (s b m d : Nat) : mkRat (((List.range (d + 1 - m)).map fun i => ((ch b (m + i) * ch (s - b) (d - (m + i)) : Nat) : Int)).sum) (ch s d) = tl s b m d := by
  rw [Rat.mkRat_eq_div, sum_range]
  unfold tl
  rw [sg_div]
  refine sg_congr fun i hi => ?_
  unfold hy
  rw [show (((ch b (m + i) * ch (s - b) (d - (m + i)) : Nat) : Int) : Rat) = ((ch b (m + i) * ch (s - b) (d - (m + i)) : Nat) : Rat) from rfl]
  push_cast
  rfl
theorem hy_mk (s b d f : Nat) : mkRat ((ch b f * ch (s - b) (d - f) : Nat) : Int) (ch s d) = hy s b d f := by
  rw [Rat.mkRat_eq_div]
  unfold hy
  rw [show (((ch b f * ch (s - b) (d - f) : Nat) : Int) : Rat) = ((ch b f * ch (s - b) (d - f) : Nat) : Rat) from rfl]
  push_cast
  rfl
theorem ch_mul_lt {s b f x : Nat} (hs : s ≤ 60) (hb : b ≤ s) : ch b f * ch (s - b) x < 2 ^ 61 := by
  have h1 := ch_le b f
  have h2 := ch_le (s - b) x
  have h3 := Nat.mul_le_mul h1 h2
  rw [← Nat.pow_add, show b + (s - b) = s by omega] at h3
  have : 2 ^ s ≤ 2 ^ 60 := Nat.pow_le_pow_right (by omega) hs
  omega
theorem hy_RB {s b d f : Nat} (hs : s ≤ 60) (hb : b ≤ s) : RB 61 (hy s b d f) := by
  rw [← hy_mk]
  exact RB.mk (by rw [Int.natAbs_natCast]; exact ch_mul_lt hs hb) (ch_lt_pow hs) (by omega)
theorem sum_nn (n : Nat) (f : Nat → Nat) (B : Nat) (h : ∀ i, i < n → f i < B) : (((List.range n).map fun i => ((f i : Nat) : Int)).sum).natAbs ≤ n * B := by
  induction n with
  | zero => simp
  | succ n ih =>
    rw [List.range_succ, List.map_append, List.sum_append]
    have h1 := ih fun i hi => h i (by omega)
    have h2 := h n (by omega)
    have h3 := Int.natAbs_add_le ((List.range n).map fun i => ((f i : Nat) : Int)).sum ([n].map fun i => ((f i : Nat) : Int)).sum
    have h4 : ([n].map fun i => ((f i : Nat) : Int)).sum.natAbs = f n := by simp
    rw [Nat.add_mul]
    omega
theorem tl_RB {s b m d : Nat} (hs : s ≤ 60) (hb : b ≤ s) (hd : d ≤ 60) : RB 68 (tl s b m d) := by
  rw [← tl_mk]
  have h := sum_nn (d + 1 - m) (fun i => ch b (m + i) * ch (s - b) (d - (m + i))) (2 ^ 61) fun i hi => ch_mul_lt hs hb
  refine RB.mk (Nat.lt_of_le_of_lt h ?_) (Nat.lt_of_lt_of_le (ch_lt_pow hs) (Nat.pow_le_pow_right (by omega) (by omega))) (by omega)
  have h2 : (d + 1 - m) * 2 ^ 61 ≤ 61 * 2 ^ 61 := Nat.mul_le_mul_right _ (by omega)
  have h3 : 2 ^ 68 = 2 ^ 7 * 2 ^ 61 := Nat.pow_add 2 7 61
  have h4 : 0 < 2 ^ 61 := Nat.pow_pos (by omega)
  rw [h3]
  generalize 2 ^ 61 = P at *
  omega
theorem chance_from_lc (s b d m : Nat) (hs : s ≤ 40) (hb : b ≤ s) (hd : d ≤ s) (hm : m ≤ 40) : evE c_chance_from_1 [some (.v (.int s)), some (.v (.int b)), some (.v (.int d)), some (.v (.int m)), none, none] [] =
    .ok (.v (.list ((List.range ((d : Int) + 1 - m).toNat).map fun (i : Nat) => .int ((ch b ((m : Int) + i).toNat * ch (s - b) (d - ((m : Int) + i).toNat) : Nat) : Int)))) [] := by
  unfold c_chance_from_1
  refine lc_rg (fun i => .int ((ch b i.toNat * ch (s - b) (d - i.toNat) : Nat) : Int)) ?_ ?_
  · have r1 := rngOk_q (i := m) (by omega) (by omega)
    have r2 := rngOk_q (i := d + 1) (by omega) (by omega)
    simp [r1, r2]
  · intro i h1 h2
    obtain ⟨j, rfl⟩ := Int.eq_ofNat_of_zero_le (a := i) (by omega)
    have := ways_found_ok s b d j hs hb hd (by omega)
    simp [wipeE, this]
theorem chance_from_eq (s b d m : Nat) : (((List.range ((d : Int) + 1 - m).toNat).map fun (i : Nat) => PyData.int ((ch b ((m : Int) + i).toNat * ch (s - b) (d - ((m : Int) + i).toNat) : Nat) : Int))) = ((List.range (d + 1 - m)).map (fun i => ((ch b (m + i) * ch (s - b) (d - (m + i)) : Nat) : Int))).map PyData.int := by
  rw [List.map_map, show ((d : Int) + 1 - m).toNat = d + 1 - m by omega]
  refine List.map_congr_left fun i _ => ?_
  rw [show ((m : Int) + i).toNat = m + i by omega]
  rfl
theorem chance_from_ok (s b d m : Nat) (hs : s ≤ 40) (hb : b ≤ s) (hd : d ≤ s) (hm : m ≤ 40) : F_chance_from [.v (.int s), .v (.int b), .v (.int d), .v (.int m)] = some (.ret (.v (frV (tl s b m d))) []) := by
  have c := chance_from_lc s b d m hs hb hd hm
  rw [chance_from_eq] at c
  have w := ways_of_ok s d (by omega) (by omega)
  have l := lowest_ok (((List.range (d + 1 - m)).map fun i => ((ch b (m + i) * ch (s - b) (d - (m + i)) : Nat) : Int)).sum) (ch s d) (ch_pos hd) 61 (ch_lt_pow (by omega)) (by omega)
  rw [tl_mk] at l
  generalize (List.range (d + 1 - m)).map (fun i => ((ch b (m + i) * ch (s - b) (d - (m + i)) : Nat) : Int)) = L at c l
  simp [F_chance_from, runFn_q, c_chance_from, c, w, l]
theorem law_ways_ok (n : Nat) (k : Int) (hn : n ≤ 60) : F__law_ways [.v (.int n), .v (.int k)] = some (.ret (.v (.int (if 0 ≤ k then MB.ch n k.toNat else 0 : Nat))) []) := by
  by_cases g1 : k < 0
  · have : ¬0 ≤ k := by omega
    simp [F__law_ways, c__law_ways, runFn_q, g1, this]
  · obtain ⟨j, rfl⟩ := Int.eq_ofNat_of_zero_le (a := k) (by omega)
    by_cases g2 : n < j
    · simp [F__law_ways, c__law_ways, runFn_q, g1, g2, ch_lt g2]
    · have loop : ∃ e' s', evS c__law_ways_1 [some (.v (.int n)), some (.v (.int j)), some (.v (.int 1)), none] [] = .ok (.nx e') s' ∧ (s' = [] ∧ ∃ z : Option PV, e' = [some (.v (.int n)), some (.v (.int j)), some (.v (.int (MB.ch n (rangeI 0 j).length))), z]) := by
        refine for_r (ds := rangeI 0 j) (s1 := []) (P := fun i e s => s = [] ∧ ∃ z : Option PV, e = [some (.v (.int n)), some (.v (.int j)), some (.v (.int (MB.ch n i))), z]) ?_ ⟨rfl, none, by simp⟩ ?_
        · have := rngOk_q (i := j) (by omega) (by omega)
          simp [this]
        · rintro i d hd e s ⟨rfl, z, rfl⟩
          obtain ⟨rfl, hi⟩ := rangeI_at hd
          have hm : mulOk (MB.ch n i) (n - (0 + i)) = true := mulOk_s (by rw [Int.natAbs_natCast]; have := ch_lt_pow (k := i) hn; omega) (by omega)
          have hd : divOk (0 + i + 1) = true := divOk_s (by omega) (by omega)
          have he := MB.ch_div n i
          simp at hm hd ⊢
          simp [hm, hd, he]
          exact ⟨_, _, ⟨rfl, rfl⟩, rfl, _, rfl⟩
      obtain ⟨e', s', h1, rfl, z, rfl⟩ := loop
      simp at h1
      simp [F__law_ways, c__law_ways, runFn_q, h1, g1, g2]
theorem law_found_ok (s b d f : Nat) (hs : s ≤ 40) (hb : b ≤ s) (hd : d ≤ s) (hf : f ≤ d) : F__law_found [.v (.int s), .v (.int b), .v (.int d), .v (.int f)] = some (.ret (.v (frV (hy s b d f))) []) := by
  have w1 := law_ways_ok b f (by omega)
  have w2 := law_ways_ok (s - b) ((d : Int) - f) (by omega)
  have w3 := law_ways_ok s d (by omega)
  have e1 : ((s - b : Nat) : Int) = (s : Int) - b := by omega
  have e2 : ((d : Int) - f).toNat = d - f := by omega
  rw [if_pos (by omega), e2, e1] at w2
  rw [if_pos (by omega), Int.toNat_natCast] at w1 w3
  have hm : mulOk (ch b f) (ch (s - b) (d - f)) = true := mulOk_s (by rw [Int.natAbs_natCast]; have := ch_lt_pow (n := b) (k := f) (by omega); omega) (by rw [Int.natAbs_natCast]; have := ch_lt_pow (n := s - b) (k := d - f) (by omega); omega)
  have fr := law_frac_ok ((ch b f * ch (s - b) (d - f) : Nat) : Int) (ch s d) (ch_pos hd) 61 (ch_lt_pow (by omega)) (by omega)
  rw [hy_mk, Int.natCast_mul] at fr
  simp [F__law_found, c__law_found, runFn_q, w1, w2, w3, hm, fr]
theorem hy_z {s b d f : Nat} (h : b < f) : hy s b d f = 0 := by
  unfold hy; rw [ch_lt h, Rat.div_def]; simp
def Sm : Nat → FV → Prop
  | 0, _ => False
  | n + 1, .tuple xs => xs.length ≤ 8000000 ∧ ∀ x ∈ xs, Sm n x
  | _ + 1, .int _ => True
  | _ + 1, .none => True
  | _ + 1, .bool _ => True
  | _ + 1, _ => False
theorem same_ok : ∀ (d : Nat) (x : FV), Sm d x → F__law_same d [.v x, .v x] = some (.ret (.v (.bool true)) [])
  | d + 1, .tuple xs, ⟨hl, hx⟩ => by
    have c : evE (c__law_same_1 (F__law_same d)) [some (.v (.tuple xs)), some (.v (.tuple xs)), none, none] [] = .ok (.v (.list ((List.range ((xs.length : Int) - 0).toNat).map fun (i : Nat) => .bool true))) [] := by
      unfold c__law_same_1
      refine lc_rg (fun _ => .bool true) ?_ ?_
      · have := rngOk_q (i := xs.length) (by omega) (by omega)
        simp [this]
      · intro i h1 h2
        obtain ⟨j, rfl⟩ := Int.eq_ofNat_of_zero_le (a := i) (by omega)
        have hj : j < xs.length := by omega
        have ix := ixOf_nat xs j xs[j] (by simp [hj])
        have ih := same_ok d xs[j] (hx _ (List.getElem_mem hj))
        simp [wipeE, ix, ih]
    have c2 : evE (c__law_same_1 (F__law_same d)) [some (.v (.tuple xs)), some (.v (.tuple xs)), none, none] [] = .ok (.v (.list ((List.replicate xs.length true).map .bool))) [] := by
      rw [c, List.map_const', List.length_range]; simp
    have al : bfn .all [.list ((List.replicate xs.length true).map .bool)] = some (.bool true) := by
      rw [bl_all]; simp
    simp only [List.map_replicate] at c2 al
    simp [F__law_same, c__law_same, runFn_q, c2, al]
  | d + 1, .int i, _ => by simp [F__law_same, c__law_same, runFn_q]
  | d + 1, .none, _ => by simp [F__law_same, c__law_same, runFn_q]
  | d + 1, .bool b, _ => by
    have : cpEq (.bool b) (.bool b) = some true := by cases b <;> decide
    simp [F__law_same, c__law_same, runFn_q, this]
theorem same_pair (x : FV) (h : Sm 7 x) : F__law_same 8 [.v (.tuple [x, x]), .v (.tuple [x, x])] = some (.ret (.v (.bool true)) []) :=
  same_ok 8 _ ⟨by simp, fun y hy => by simp at hy; rw [hy]; exact h⟩
theorem Sm_fr (q : Rat) : Sm 7 (frV q) := ⟨by simp, fun y hy => by
  simp at hy
  rcases hy with rfl | rfl <;> trivial⟩
theorem cpEq_fr (q : Rat) : cpEq (frV q) (frV q) = some true := by
  show (if (SeqAt.shaped (frV q) && SeqAt.shaped (frV q)) = true then some (PyData.eqv (frV q) (frV q)) else none) = _
  have h : SeqAt.shaped (frV q) = true := rfl
  rw [h]
  simp [frV, PyData.eqv, PyData.eqvAll]
@[simp] theorem avsO_mm (l : Nat) (ds : List FV) (as : List AV) : avsO l (some (.lst (ds.map .v))) (some (as, [])) = some (.o (.lst ds) :: as, [l]) := avsO_m l ds as
def stW (ws : List (List FV)) : Sto := ws.map fun w => some (OB.lst (w.map .v))
theorem wells_ok (ns : List Int) (hn : ns.length ≤ 63) : ∃ ws : List (List FV), 0 < ws.length ∧ ws.length ≤ 3 ∧ (∀ w ∈ ws, WL 0 w) ∧
    evE c_law_1 [some (.v (.list (ns.map .int))), none, none] [] = .ok (.loc ws.length) (stW ws ++ [some (.lst ((List.range ws.length).map .loc))]) := by
  obtain ⟨m, hm⟩ : ∃ m : Int, m = (if (3 : Int) < (ns.length : Int) then (3 : Int) else (ns.length : Int)) := ⟨_, rfl⟩
  obtain ⟨k, hk⟩ : ∃ k : Nat, (if 1 < m then m else (1 : Int)) = (k : Int) := ⟨(if 1 < m then m else (1 : Int)).toNat, by split <;> omega⟩
  have hk3 : 0 < k ∧ k ≤ 3 := by split at hk <;> split at hm <;> omega
  have r := mlc_r (t := .nm 2) (it := .rng1 (.bl .max (.cons (.lit (.int 1)) (.cons (.bl .min (.cons (.bl .len (.cons (.var 0) .nil)) (.cons (.lit (.int 3)) .nil))) .nil)))) (c := .lit (.bool true)) (el := .fn F__law_well "_law_well" (.cons (.var 0) (.cons (.var 2) .nil))) (own := [2])
    (e := [some (.v (.list (ns.map .int))), none, none]) (s := []) (s1 := []) (ds := rangeI 0 k) (fun i s acc => ∃ ws : List (List FV), ws.length = i ∧ (∀ w ∈ ws, WL 0 w) ∧ s = stW ws ∧ acc = (List.range i).map .loc)
    (by
      have r1 := rngOk_q (i := k) (by omega) (by omega)
      simp [← hm, hk, r1]) ⟨[], rfl, by simp, rfl, rfl⟩ (fun i d hd s acc hP => by
      obtain ⟨ws, rfl, hw, hs, rfl⟩ := hP
      obtain ⟨rfl, hi⟩ := rangeI_at hd
      rw [Int.zero_add]
      obtain ⟨w, hw1, hF⟩ := law_well_ok ns ws.length hn (by omega)
      have hl : s.length = ws.length := by rw [hs]; unfold stW; simp
      refine ⟨.loc ws.length, s ++ [some (.lst (w.map .v))], ?_, ws ++ [w], by simp, ?_, ?_, ?_⟩
      · simp [wipeE, hF, hl]
      · intro x hx
        rcases List.mem_append.mp hx with h | h
        · exact hw x h
        · simp at h; rw [h]; exact hw1
      · rw [hs]; unfold stW; simp
      · rw [List.range_succ]; simp)
  obtain ⟨ps, s', h1, ws, h2, h3, rfl, rfl⟩ := r
  have hl : (stW ws).length = ws.length := by unfold stW; simp
  rw [rangeI_len] at h2 h1
  have h2' : ws.length = k := by omega
  refine ⟨ws, by omega, by omega, h3, ?_⟩
  unfold c_law_1
  rw [h1, hl, h2]
def tu (s b d f : Nat) : Rat := sg (f + 1) fun i => hy s b d i
theorem tu_mk (s b f d : Nat) : mkRat (((List.range (f + 1)).map fun i => ((ch b i * ch (s - b) (d - i) : Nat) : Int)).sum) (ch s d) = tu s b d f := by
  rw [Rat.mkRat_eq_div, sum_range]
  unfold tu
  rw [sg_div]
  refine sg_congr fun i hi => ?_
  unfold hy
  rw [show (((ch b i * ch (s - b) (d - i) : Nat) : Int) : Rat) = ((ch b i * ch (s - b) (d - i) : Nat) : Rat) from rfl]
  push_cast
  rfl
theorem tu_RB {s b f d : Nat} (hs : s ≤ 60) (hb : b ≤ s) (hf : f ≤ 60) : RB 68 (tu s b d f) := by
  rw [← tu_mk]
  have h := sum_nn (f + 1) (fun i => ch b i * ch (s - b) (d - i)) (2 ^ 61) fun i hi => ch_mul_lt hs hb
  refine RB.mk (Nat.lt_of_le_of_lt h ?_) (Nat.lt_of_lt_of_le (ch_lt_pow hs) (Nat.pow_le_pow_right (by omega) (by omega))) (by omega)
  have h2 : (f + 1) * 2 ^ 61 ≤ 61 * 2 ^ 61 := Nat.mul_le_mul_right _ (by omega)
  have h3 : 2 ^ 68 = 2 ^ 7 * 2 ^ 61 := Nat.pow_add 2 7 61
  have h4 : 0 < 2 ^ 61 := Nat.pow_pos (by omega)
  rw [h3]
  generalize 2 ^ 61 = P at *
  omega
theorem up_lc (s b d f : Nat) (hs : s ≤ 40) (hb : b ≤ s) (hd : d ≤ s) (hf : f ≤ d) : evE c_chance_up_to_1 [some (.v (.int s)), some (.v (.int b)), some (.v (.int d)), some (.v (.int f)), none, none] [] =
    .ok (.v (.list ((List.range ((f : Int) + 1 - 0).toNat).map fun (i : Nat) => .int ((ch b ((0 : Int) + i).toNat * ch (s - b) (d - ((0 : Int) + i).toNat) : Nat) : Int)))) [] := by
  unfold c_chance_up_to_1
  refine lc_rg (a := 0) (b := (f : Int) + 1) (fun i => .int ((ch b i.toNat * ch (s - b) (d - i.toNat) : Nat) : Int)) ?_ ?_
  · have r2 := rngOk_q (i := f + 1) (by omega) (by omega)
    simp [r2]
  · intro i h1 h2
    obtain ⟨j, rfl⟩ := Int.eq_ofNat_of_zero_le (a := i) (by omega)
    have := ways_found_ok s b d j hs hb hd (by omega)
    simp [wipeE, this]
theorem up_eq (s b d f : Nat) : (((List.range ((f : Int) + 1 - 0).toNat).map fun (i : Nat) => PyData.int ((ch b ((0 : Int) + i).toNat * ch (s - b) (d - ((0 : Int) + i).toNat) : Nat) : Int))) = ((List.range (f + 1)).map (fun i => ((ch b i * ch (s - b) (d - i) : Nat) : Int))).map PyData.int := by
  rw [List.map_map, show ((f : Int) + 1 - 0).toNat = f + 1 by omega]
  refine List.map_congr_left fun i _ => ?_
  rw [show ((0 : Int) + i).toNat = i by omega]
  rfl
theorem chance_up_to_ok (s b d f : Nat) (hs : s ≤ 40) (hb : b ≤ s) (hd : d ≤ s) (hf : f ≤ d) : F_chance_up_to [.v (.int s), .v (.int b), .v (.int d), .v (.int f)] = some (.ret (.v (frV (tu s b d f))) []) := by
  have c := up_lc s b d f hs hb hd hf
  rw [up_eq] at c
  have w := ways_of_ok s d (by omega) (by omega)
  have l := lowest_ok (((List.range (f + 1)).map fun i => ((ch b i * ch (s - b) (d - i) : Nat) : Int)).sum) (ch s d) (ch_pos hd) 61 (ch_lt_pow (by omega)) (by omega)
  rw [tu_mk] at l
  generalize (List.range (f + 1)).map (fun i => ((ch b i * ch (s - b) (d - i) : Nat) : Int)) = L at c l
  simp [F_chance_up_to, runFn_q, c_chance_up_to, c, w, l]
theorem less_ok (F : Fn) (hF : F = runFn 2 2 c_is_less) (p q : Rat) (j k : Nat) (hp : RB j p) (hq : RB k q) (h : j + k < 1000000) : F [.v (frV p), .v (frV q)] = some (.ret (.v (.bool (decide (p < q)))) []) := by
  have o1 : mulOk p.num q.den = true := mulOk_q hp.1 (by rw [Int.natAbs_natCast]; exact hq.2) (by omega)
  have o2 : mulOk q.num p.den = true := mulOk_q hq.1 (by rw [Int.natAbs_natCast]; exact hp.2) (by omega)
  rw [show decide (p < q) = decide (p.num * q.den < q.num * p.den) from decide_eq_decide.mpr (Rat.lt_iff p q)]
  show F [.v (.tuple [.int p.num, .int p.den]), .v (.tuple [.int q.num, .int q.den])] = _
  simp [hF, c_is_less, runFn_q, o1, o2]
theorem is_less_ok (p q : Rat) (j k : Nat) (hp : RB j p) (hq : RB k q) (h : j + k < 1000000) : F_is_less [.v (frV p), .v (frV q)] = some (.ret (.v (.bool (decide (p < q)))) []) := less_ok _ rfl p q j k hp hq h
theorem law_below_ok (p q : Rat) (j k : Nat) (hp : RB j p) (hq : RB k q) (h : j + k < 1000000) : F__law_below [.v (frV p), .v (frV q)] = some (.ret (.v (.bool (decide (p < q)))) []) := less_ok _ rfl p q j k hp hq h
theorem is_fraction_ok (q : Rat) : F_is_fraction [.v (frV q)] = some (.ret (.v (.bool true)) []) := by
  have t : F_is_tuple_of [.v (.tuple [.int q.num, .int q.den]), .v (.int 2)] = some (.ret (.v (.bool true)) []) := by simp [F_is_tuple_of, c_is_tuple_of, runFn_q]
  have p : F_is_pair [.v (.tuple [.int q.num, .int q.den])] = some (.ret (.v (.bool true)) []) := by simp [F_is_pair, c_is_pair, runFn_q, t]
  have c : evE c_is_fraction_1 [some (.v (.tuple [.int q.num, .int q.den])), none] [] = .ok (.v (.list [.bool true, .bool true])) [] := by
    unfold c_is_fraction_1
    refine lc_f (ds := [.int q.num, .int q.den]) (fun _ => some (.bool true)) (by simp) ?_
    intro d hd
    simp at hd
    rcases hd with rfl | rfl <;> simp [wipeE, is_whole_ok]
  have al : bfn .all [.list [.bool true, .bool true]] = some (.bool true) := rfl
  have g : Nat.gcd q.num.natAbs q.den = 1 := q.reduced
  have d0 : 0 < q.den := q.den_pos
  show F_is_fraction [.v (.tuple [.int q.num, .int q.den])] = _
  simp [F_is_fraction, c_is_fraction, runFn_q, p, c, al, g, d0]
theorem shp_fr (q : Rat) : SeqAt.shaped (frV q) = true := rfl
theorem check_level_ok (q : Rat) (h0 : 0 < q) (h1 : q < 1) : F_check_level [.v (frV q)] = some (.ret (.v .none) []) := by
  have f := is_fraction_ok q
  have n0 : 0 < q.num := by
    have := (Rat.lt_iff 0 q).mp h0
    simpa using this
  have n1 : q.num < q.den := by
    have := (Rat.lt_iff q 1).mp h1
    simpa using this
  have p : F_is_part [.v (frV q)] = some (.ret (.v (.bool true)) []) := by
    rw [show frV q = .tuple [.int q.num, .int q.den] from rfl] at f ⊢
    have a0 : 0 ≤ q.num := by omega
    have a1 : q.num ≤ q.den := by omega
    simp [F_is_part, c_is_part, runFn_q, f, a0, a1]
  have i : cpIn (frV q) (.tuple [.tuple [.int 0, .int 1], .tuple [.int 1, .int 1]]) = some false := by
    show inItems (frV q) [.tuple [.int 0, .int 1], .tuple [.int 1, .int 1]] = _
    unfold inItems
    rw [shp_fr, show SeqAt.shaped (.list [.tuple [.int 0, .int 1], .tuple [.int 1, .int 1]]) = true from rfl]
    have e1 : ((0 : Int) == q.num) = false := by simp; omega
    have e2 : ((1 : Int) == (q.den : Int)) = false := by simp; omega
    simp [frV, PyData.eqv, PyData.eqvAll, e1, e2]
  simp [F_check_level, c_check_level, runFn_q, p, i]
def pl (n : Nat) (p : Nat → Bool) : List Int := ((List.range n).filter p).map fun (b : Nat) => (b : Int)
theorem pl_s (n : Nat) (p : Nat → Bool) : pl (n + 1) p = if p n then pl n p ++ [(n : Int)] else pl n p := by
  unfold pl
  rw [List.range_succ, List.filter_append, List.map_append]
  cases h : p n <;> simp [List.filter_cons, h]
theorem pl_len (n : Nat) (p : Nat → Bool) : (pl n p).length ≤ n := by
  unfold pl
  rw [List.length_map]
  exact Nat.le_trans (List.length_filter_le _ _) (by simp)
theorem pl_mem {n : Nat} {p : Nat → Bool} {x : Int} : x ∈ pl n p ↔ ∃ b : Nat, x = b ∧ b < n ∧ p b = true := by
  unfold pl
  simp only [List.mem_map, List.mem_filter, List.mem_range]
  constructor
  · rintro ⟨b, ⟨h1, h2⟩, rfl⟩; exact ⟨b, rfl, h1, h2⟩
  · rintro ⟨b, rfl, h1, h2⟩; exact ⟨b, ⟨h1, h2⟩, rfl⟩
theorem rangeI_s (n : Nat) : rangeI 0 ((n + 1 : Nat) : Int) = rangeI 0 (n : Int) ++ [.int n] := by
  unfold rangeI
  rw [show (((n + 1 : Nat) : Int) - 0).toNat = n + 1 by omega, show ((n : Int) - 0).toNat = n by omega, List.range_succ, List.map_append]
  simp
theorem fm_rg (n : Nat) (p : Nat → Bool) (g : FV → Option FV) (hg : ∀ b : Nat, b < n → g (.int b) = if p b then some (.int b) else none) : (rangeI 0 (n : Int)).filterMap g = (pl n p).map .int := by
  induction n with
  | zero => rfl
  | succ n ih =>
    rw [rangeI_s, List.filterMap_append, ih fun b hb => hg b (by omega), pl_s]
    have := hg n (by omega)
    cases h : p n <;> simp [List.filterMap_cons, this, h]
theorem foldmin (r : List Int) : ∀ x : Int, (r.foldl (fun m y => if y < m then y else m) x ∈ x :: r) ∧ ∀ y ∈ x :: r, r.foldl (fun m y => if y < m then y else m) x ≤ y := by
  induction r with
  | nil => intro x; simp
  | cons z r ih =>
    intro x
    rw [List.foldl_cons]
    obtain ⟨h1, h2⟩ := ih (if z < x then z else x)
    have h3 := h2 _ (List.mem_cons_self ..)
    generalize List.foldl _ (if z < x then z else x) r = F at h1 h2 h3 ⊢
    refine ⟨?_, fun y hy => ?_⟩
    · rcases List.mem_cons.mp h1 with h | h
      · rw [h]; split <;> simp
      · simp [h]
    · simp only [List.mem_cons] at hy
      rcases hy with rfl | rfl | hy
      · split at h3 <;> omega
      · split at h3 <;> omega
      · exact h2 y (by simp [hy])
theorem foldmax (r : List Int) : ∀ x : Int, (r.foldl (fun m y => if y > m then y else m) x ∈ x :: r) ∧ ∀ y ∈ x :: r, y ≤ r.foldl (fun m y => if y > m then y else m) x := by
  induction r with
  | nil => intro x; simp
  | cons z r ih =>
    intro x
    rw [List.foldl_cons]
    obtain ⟨h1, h2⟩ := ih (if z > x then z else x)
    have h3 := h2 _ (List.mem_cons_self ..)
    generalize List.foldl _ (if z > x then z else x) r = F at h1 h2 h3 ⊢
    refine ⟨?_, fun y hy => ?_⟩
    · rcases List.mem_cons.mp h1 with h | h
      · rw [h]; split <;> simp
      · simp [h]
    · simp only [List.mem_cons] at hy
      rcases hy with rfl | rfl | hy
      · split at h3 <;> omega
      · split at h3 <;> omega
      · exact h2 y (by simp [hy])
theorem min_of {L : List Int} {x : Int} (h : x ∈ L) : ∃ a, minOf L = some a ∧ a ∈ L ∧ ∀ y ∈ L, a ≤ y := by
  cases L with
  | nil => cases h
  | cons z r => exact ⟨_, rfl, (foldmin r z).1, (foldmin r z).2⟩
theorem max_of {L : List Int} {x : Int} (h : x ∈ L) : ∃ a, maxOf L = some a ∧ a ∈ L ∧ ∀ y ∈ L, y ≤ a := by
  cases L with
  | nil => cases h
  | cons z r => exact ⟨_, rfl, (foldmax r z).1, (foldmax r z).2⟩
theorem rb1 (s d f : Nat) (q : Rat) (hs : s ≤ 40) (hd : d ≤ s) (hf : f ≤ d) (k : Nat) (hq : RB k q) (hk : k ≤ 8000) (x y z : Option PV) : evE c_range_by_1 [some (.v (.int s)), some (.v (.int d)), some (.v (.int f)), some (.v (frV q)), some (.v (.list (rangeI 0 ((s + 1 : Nat) : Int)))), x, z] [] =
    .ok (.v (.list ((pl (s + 1) fun b => !decide (tl s b f d < q)).map .int))) [] := by
  rw [← fm_rg (s + 1) (fun b => !decide (tl s b f d < q)) (fun v => match v with | .int b => if decide (tl s b.toNat f d < q) then none else some (.int b) | _ => none) (fun b hb => by
    by_cases h : tl s b f d < q <;> simp [h])]
  unfold c_range_by_1
  refine lc_f _ (s1 := []) (ds := rangeI 0 ((s + 1 : Nat) : Int)) ?_ ?_
  · have : (rangeI 0 ((s + 1 : Nat) : Int)).length ≤ 16777216 := by rw [rangeI_len]; omega
    generalize rangeI 0 ((s + 1 : Nat) : Int) = L at *
    simp [this]
  · intro v hv
    obtain ⟨i, rfl, h1, h2⟩ := rangeI_mem hv
    obtain ⟨b, rfl⟩ := Int.eq_ofNat_of_zero_le (a := i) (by omega)
    have c := chance_from_ok s b d f hs (by omega) hd (by omega)
    have l := is_less_ok (tl s b f d) q 68 k (tl_RB (by omega) (by omega) (by omega)) hq (by omega)
    by_cases h : tl s b f d < q
    · simp only [h, decide_true] at l
      simp [wipeE, c, l, h]
    · simp only [h, decide_false] at l
      simp [wipeE, c, l, h]
theorem rb2 (s d f : Nat) (q : Rat) (hs : s ≤ 40) (hd : d ≤ s) (hf : f ≤ d) (k : Nat) (hq : RB k q) (hk : k ≤ 8000) (x y z : Option PV) : evE c_range_by_2 [some (.v (.int s)), some (.v (.int d)), some (.v (.int f)), some (.v (frV q)), some (.v (.list (rangeI 0 ((s + 1 : Nat) : Int)))), x, z] [] =
    .ok (.v (.list ((pl (s + 1) fun b => !decide (tu s b d f < q)).map .int))) [] := by
  rw [← fm_rg (s + 1) (fun b => !decide (tu s b d f < q)) (fun v => match v with | .int b => if decide (tu s b.toNat d f < q) then none else some (.int b) | _ => none) (fun b hb => by
    by_cases h : tu s b d f < q <;> simp [h])]
  unfold c_range_by_2
  refine lc_f _ (s1 := []) (ds := rangeI 0 ((s + 1 : Nat) : Int)) ?_ ?_
  · have : (rangeI 0 ((s + 1 : Nat) : Int)).length ≤ 16777216 := by rw [rangeI_len]; omega
    generalize rangeI 0 ((s + 1 : Nat) : Int) = L at *
    simp [this]
  · intro v hv
    obtain ⟨i, rfl, h1, h2⟩ := rangeI_mem hv
    obtain ⟨b, rfl⟩ := Int.eq_ofNat_of_zero_le (a := i) (by omega)
    have c := chance_up_to_ok s b d f hs (by omega) hd (by omega)
    have l := is_less_ok (tu s b d f) q 68 k (tu_RB (by omega) (by omega) (by omega)) hq (by omega)
    by_cases h : tu s b d f < q
    · simp only [h, decide_true] at l
      simp [wipeE, c, l, h]
    · simp only [h, decide_false] at l
      simp [wipeE, c, l, h]
theorem range_by_ok (s d f : Nat) (q : Rat) (hs : s ≤ 40) (hd : d ≤ s) (hf : f ≤ d) (k : Nat) (hq : RB k q) (hk : k ≤ 8000) (a b : Int)
    (ha : minOf (pl (s + 1) fun b => !decide (tl s b f d < q)) = some a) (hb : maxOf (pl (s + 1) fun b => !decide (tu s b d f < q)) = some b) :
    F_range_by [.v (.int s), .v (.int d), .v (.int f), .v (frV q)] = some (.ret (.v (.tuple [.int a, .int b])) []) := by
  have r := rngOk_q (i := s + 1) (by omega) (by omega)
  have c1 := rb1 s d f q hs hd hf k hq hk none none none
  have c2 := rb2 s d f q hs hd hf k hq hk (some (.v (.int a))) none none
  have e1 : bfn .min [.list ((pl (s + 1) fun b => !decide (tl s b f d < q)).map .int)] = some (.int a) := by rw [bl_minl, ha]; rfl
  have e2 : bfn .max [.list ((pl (s + 1) fun b => !decide (tu s b d f < q)).map .int)] = some (.int b) := by rw [bl_maxl, hb]; rfl
  generalize ((pl (s + 1) fun b => !decide (tl s b f d < q)).map PyData.int) = L1 at c1 e1
  generalize ((pl (s + 1) fun b => !decide (tu s b d f < q)).map PyData.int) = L2 at c2 e2
  push_cast at c1 c2
  simp [F_range_by, c_range_by, runFn_q, r, c1, e1, c2, e2]
theorem check_found_ok (s d f : Nat) (h1 : 1 ≤ s) (hs : s ≤ 40) (h2 : 1 ≤ d) (hd : d ≤ s) (hf : f ≤ d) : F_check_found [.v (.int s), .v (.int d), .v (.int f)] = some (.ret (.v .none) []) := by
  have c1 := check_size_ok s (by omega) (by omega)
  have c2 := check_number_ok d 1 s (by omega) (by omega)
  have c3 := check_number_ok f 0 d (by omega) (by omega)
  simp [F_check_found, c_check_found, runFn_q, c1, c2, c3]
theorem can_be_ok (s d f : Nat) (h1 : 1 ≤ s) (hs : s ≤ 40) (h2 : 1 ≤ d) (hd : d ≤ s) (hf : f ≤ d) : F_can_be [.v (.int s), .v (.int d), .v (.int f)] = some (.ret (.v (.tuple [.int f, .int ((s : Int) - d + f)])) []) := by
  have c1 := check_found_ok s d f h1 hs h2 hd hf
  have c2 : F_can_be_by [.v (.int s), .v (.int d), .v (.int f)] = some (.ret (.v (.tuple [.int f, .int ((s : Int) - d + f)])) []) := by simp [F_can_be_by, c_can_be_by, runFn_q]
  simp [F_can_be, c_can_be, runFn_q, c1, c2]
theorem range_of_ok (s d f : Nat) (q : Rat) (h1 : 1 ≤ s) (hs : s ≤ 40) (h2 : 1 ≤ d) (hd : d ≤ s) (hf : f ≤ d) (h0 : 0 < q) (hq1 : q < 1) (k : Nat) (hq : RB k q) (hk : k ≤ 8000) (a b : Int)
    (ha : minOf (pl (s + 1) fun b => !decide (tl s b f d < q)) = some a) (hb : maxOf (pl (s + 1) fun b => !decide (tu s b d f < q)) = some b) :
    F_range_of [.v (.int s), .v (.int d), .v (.int f), .v (frV q)] = some (.ret (.v (.tuple [.int a, .int b])) []) := by
  have c1 := check_found_ok s d f h1 hs h2 hd hf
  have c2 := check_level_ok q h0 hq1
  have c3 := range_by_ok s d f q hs hd hf k hq hk a b ha hb
  simp [F_range_of, c_range_of, runFn_q, c1, c2, c3]
theorem tl_full {s f d : Nat} (hd : d ≤ s) (hf : f ≤ d) : tl s s f d = 1 := by
  have h := hy_sum (b := s) (Nat.le_refl s) hd
  rw [show d + 1 = f + (d + 1 - f) by omega, sg_split, sg_zero (n := f) fun i hi => ?_] at h
  · unfold tl
    rw [Rat.zero_add] at h
    exact h
  · unfold hy
    rw [Nat.sub_self, ch_lt (n := 0) (k := d - i) (by omega), Rat.div_def]
    simp
theorem tu_full {s f d : Nat} (hd : d ≤ s) (hf : f ≤ d) : tu s 0 d f = 1 := by
  have h := hy_sum (b := 0) (Nat.zero_le s) hd
  rw [show d + 1 = f + 1 + (d - f) by omega, sg_split, sg_zero (n := d - f) fun i hi => ?_] at h
  · unfold tu
    rw [Rat.add_zero] at h
    exact h
  · exact hy_z (by omega)
theorem tl_less {s b f d : Nat} (h : b < f) : tl s b f d = 0 := sg_zero fun i _ => hy_z (by omega)
theorem tu_more {s b f d : Nat} (h : s - b < d - f) : tu s b d f = 0 := sg_zero fun i hi => by
  unfold hy
  rw [ch_lt (n := s - b) (by omega), Rat.div_def]
  simp
theorem lev_pos (r : Int) (m : Nat) (h0 : 0 ≤ r) (h1 : r < (m : Int) - 1) : 0 < mkRat (1 + r) m ∧ mkRat (1 + r) m < 1 := by
  have hm : 0 < m := by omega
  have hm' : (0 : Rat) < ((m : Nat) : Rat) := by
    have : ((0 : Int) : Rat) < ((m : Int) : Rat) := Rat.intCast_lt_intCast.mpr (by omega)
    exact this
  rw [Rat.mkRat_eq_div, Rat.lt_div_iff hm', Rat.div_lt_iff hm', Rat.zero_mul, Rat.one_mul]
  have a1 : ((0 : Int) : Rat) < ((1 + r : Int) : Rat) := Rat.intCast_lt_intCast.mpr (by omega)
  have a2 : ((1 + r : Int) : Rat) < ((m : Int) : Rat) := Rat.intCast_lt_intCast.mpr (by omega)
  exact ⟨a1, a2⟩
theorem fr_pair (q : Rat) : frV q = .tuple [.int q.num, .int q.den] := rfl
end G
namespace G
open PySem L3 MB
theorem hy_nn (s b d f : Nat) : 0 ≤ hy s b d f := by
  rw [← hy_mk, ← Rat.divInt_ofNat]
  exact Rat.divInt_nonneg (by omega) (by omega)
theorem sg_le {n : Nat} {f g : Nat → Rat} (h : ∀ i, i < n → f i ≤ g i) : sg n f ≤ sg n g := by
  induction n with
  | zero => exact Rat.le_refl
  | succ n ih =>
    have h1 := ih fun i hi => h i (by omega)
    have h2 := h n (by omega)
    rw [sg_s, sg_s]
    grind
theorem sg_up (n : Nat) (h : Nat → Rat) (B : Nat → Bool) (q : Rat) (hq : 0 < q) (h0 : ∀ i, 0 ≤ h i) (hB : ∀ f, f < n → B f = true → sg (f + 1) h < q) : sg n (fun f => if B f then h f else 0) < q := by
  induction n with
  | zero => exact hq
  | succ n ih =>
    by_cases g : B n = true
    · refine Std.lt_of_le_of_lt (sg_le (g := h) fun i _ => ?_) (hB n (by omega) g)
      have := h0 i
      split <;> grind
    · have := ih fun f hf => hB f (by omega)
      rw [sg_s, if_neg g]
      grind
theorem sg_dn (n : Nat) : ∀ (h : Nat → Rat) (A : Nat → Bool) (q : Rat), 0 < q → (∀ i, 0 ≤ h i) → (∀ f, f < n → A f = true → sg (n - f) (fun i => h (f + i)) < q) → sg n (fun f => if A f then h f else 0) < q := by
  induction n with
  | zero => intro h A q hq _ _; exact hq
  | succ n ih =>
    intro h A q hq h0 hA
    by_cases g : A 0 = true
    · have t := hA 0 (by omega) g
      simp only [Nat.zero_add, Nat.sub_zero] at t
      refine Std.lt_of_le_of_lt (sg_le (g := h) fun i _ => ?_) t
      have := h0 i
      split <;> grind
    · have := ih (fun i => h (i + 1)) (fun i => A (i + 1)) q hq (fun i => h0 _) fun f hf ha => by
        have t := hA (f + 1) (by omega) ha
        rw [show n + 1 - (f + 1) = n - f by omega] at t
        rw [sg_congr (g := fun i => h (f + 1 + i)) fun i _ => by rw [show f + i + 1 = f + 1 + i by omega]]
        exact t
      rw [sg_shift, if_neg g]
      grind
theorem sg_rev (n : Nat) : ∀ g : Nat → Rat, sg n (fun i => g (n - 1 - i)) = sg n g := by
  induction n with
  | zero => intro g; rfl
  | succ n ih =>
    intro g
    rw [sg_shift, sg_s, ← ih g]
    rw [sg_congr (g := fun i => g (n - 1 - i)) fun i hi => by rw [show n + 1 - 1 - (i + 1) = n - 1 - i by omega]]
    rw [show n + 1 - 1 - 0 = n by omega]
    grind
theorem fm_rgQ (n : Nat) (p : Nat → Bool) (V : Nat → FV) (g : FV → Option FV) (hg : ∀ b : Nat, b < n → g (.int b) = if p b then some (V b) else none) : (rangeI 0 (n : Int)).filterMap g = ((List.range n).filter p).map V := by
  induction n with
  | zero => rfl
  | succ n ih =>
    rw [rangeI_s, List.filterMap_append, ih fun b hb => hg b (by omega), List.range_succ, List.filter_append, List.map_append]
    have := hg n (by omega)
    cases h : p n <;> simp [List.filterMap_cons, List.filter_cons, this, h]
theorem qsum_filter (n : Nat) (p : Nat → Bool) (h : Nat → Rat) : qsum (((List.range n).filter p).map h) = sg n fun f => if p f then h f else 0 := by
  induction n with
  | zero => rfl
  | succ n ih =>
    rw [List.range_succ, List.filter_append, List.map_append, qsum_app, ih, sg_s]
    cases hp : p n
    · simp [List.filter_cons, hp]
      show _ + (0 : Rat) = _
      grind
    · simp [List.filter_cons, hp]
      show _ + (h n + (0 : Rat)) = _
      grind
theorem tl_step {s b f d : Nat} (hf : f ≤ d) : tl s b f d = hy s b d f + tl s b (f + 1) d := by
  unfold tl
  rw [show d + 1 - f = (d + 1 - (f + 1)) + 1 by omega, sg_shift]
  congr 1
  exact sg_congr fun i _ => by rw [show f + (i + 1) = f + 1 + i by omega]
theorem tu_step (s b f d : Nat) : tu s b d (f + 1) = tu s b d f + hy s b d (f + 1) := rfl
theorem tl_sym {s b f d : Nat} (hb : b ≤ s) (hf : f ≤ d) : tl s (s - b) (d - f) d = tu s b d f := by
  unfold tl tu
  rw [show d + 1 - (d - f) = f + 1 by omega, ← sg_rev (f + 1) fun i => hy s b d i]
  refine sg_congr fun i hi => ?_
  unfold hy
  rw [show s - (s - b) = b by omega, show d - (d - f + i) = f + 1 - 1 - i by omega, show d - f + i = d - (f + 1 - 1 - i) by omega, Rat.mul_comm]
theorem tu_sym {s b f d : Nat} (hb : b ≤ s) (hf : f ≤ d) : tu s (s - b) d (d - f) = tl s b f d := by
  have := tl_sym (s := s) (b := s - b) (f := d - f) (d := d) (by omega) (by omega)
  rw [show s - (s - b) = b by omega, show d - (d - f) = f by omega] at this
  exact this.symm
theorem tl_tu {s b f d : Nat} (hb : b ≤ s) (hd : d ≤ s) (hf : f < d) : tu s b d f + tl s b (f + 1) d = 1 := by
  have h := hy_sum hb hd
  rw [show d + 1 = f + 1 + (d + 1 - (f + 1)) by omega, sg_split] at h
  exact h
/-! the least and the most -/
def lo (s d : Nat) (q : Rat) (f : Nat) : Int := (minOf (pl (s + 1) fun b => !decide (tl s b f d < q))).getD 0
def hi (s d : Nat) (q : Rat) (f : Nat) : Int := (maxOf (pl (s + 1) fun b => !decide (tu s b d f < q))).getD 0
theorem lo_ok {s d f : Nat} {q : Rat} (hd : d ≤ s) (hf : f ≤ d) (hq : q < 1) : minOf (pl (s + 1) fun b => !decide (tl s b f d < q)) = some (lo s d q f) ∧
    (∃ b : Nat, lo s d q f = b ∧ b ≤ s ∧ q ≤ tl s b f d) ∧ ∀ b : Nat, b ≤ s → q ≤ tl s b f d → lo s d q f ≤ b := by
  have m : (s : Int) ∈ pl (s + 1) fun b => !decide (tl s b f d < q) := pl_mem.mpr ⟨s, rfl, by omega, by
    rw [tl_full hd hf]
    have : ¬(1 : Rat) < q := by grind
    simp [this]⟩
  obtain ⟨a, h1, h2, h3⟩ := min_of m
  have e : lo s d q f = a := by unfold lo; rw [h1]; rfl
  rw [e]
  refine ⟨h1, ?_, fun b hb hq => h3 b (pl_mem.mpr ⟨b, rfl, by omega, ?_⟩)⟩
  · obtain ⟨b, rfl, k1, k2⟩ := pl_mem.mp h2
    refine ⟨b, rfl, by omega, ?_⟩
    simp at k2
    grind
  · have : ¬tl s b f d < q := by grind
    simp [this]
theorem hi_ok {s d f : Nat} {q : Rat} (hd : d ≤ s) (hf : f ≤ d) (hq : q < 1) : maxOf (pl (s + 1) fun b => !decide (tu s b d f < q)) = some (hi s d q f) ∧
    (∃ b : Nat, hi s d q f = b ∧ b ≤ s ∧ q ≤ tu s b d f) ∧ ∀ b : Nat, b ≤ s → q ≤ tu s b d f → (b : Int) ≤ hi s d q f := by
  have m : (0 : Int) ∈ pl (s + 1) fun b => !decide (tu s b d f < q) := pl_mem.mpr ⟨0, rfl, by omega, by
    rw [tu_full hd hf]
    have : ¬(1 : Rat) < q := by grind
    simp [this]⟩
  obtain ⟨a, h1, h2, h3⟩ := max_of m
  have e : hi s d q f = a := by unfold hi; rw [h1]; rfl
  rw [e]
  refine ⟨h1, ?_, fun b hb hq => h3 b (pl_mem.mpr ⟨b, rfl, by omega, ?_⟩)⟩
  · obtain ⟨b, rfl, k1, k2⟩ := pl_mem.mp h2
    refine ⟨b, rfl, by omega, ?_⟩
    simp at k2
    grind
  · have : ¬tu s b d f < q := by grind
    simp [this]
theorem lo_mono {s d f : Nat} {q : Rat} (hd : d ≤ s) (hf : f + 1 ≤ d) (hq : q < 1) : lo s d q f ≤ lo s d q (f + 1) := by
  obtain ⟨_, ⟨b, e, h1, h2⟩, _⟩ := lo_ok hd hf hq
  rw [e]
  refine (lo_ok hd (by omega) hq).2.2 b h1 ?_
  rw [tl_step (by omega)]
  have := hy_nn s b d f
  grind
theorem hi_mono {s d f : Nat} {q : Rat} (hd : d ≤ s) (hf : f + 1 ≤ d) (hq : q < 1) : hi s d q f ≤ hi s d q (f + 1) := by
  obtain ⟨_, ⟨b, e, h1, h2⟩, _⟩ := hi_ok (f := f) hd (by omega) hq
  rw [e]
  refine (hi_ok hd hf hq).2.2 b h1 ?_
  rw [tu_step]
  have := hy_nn s b d (f + 1)
  grind
theorem lo_sym {s d f : Nat} {q : Rat} (hd : d ≤ s) (hf : f ≤ d) (hq : q < 1) : lo s d q (d - f) = s - hi s d q f := by
  obtain ⟨_, ⟨b, e, h1, h2⟩, h3⟩ := lo_ok (f := d - f) hd (by omega) hq
  obtain ⟨_, ⟨c, e', k1, k2⟩, k3⟩ := hi_ok (f := f) hd hf hq
  have x1 := h3 (s - c) (by omega) (by rw [tl_sym k1 hf]; exact k2)
  have x2 := k3 (s - b) (by omega) (by
    have := tl_sym (s := s) (b := s - b) (f := f) (d := d) (by omega) hf
    rw [show s - (s - b) = b by omega] at this
    rw [← this]; exact h2)
  omega
theorem hi_sym {s d f : Nat} {q : Rat} (hd : d ≤ s) (hf : f ≤ d) (hq : q < 1) : hi s d q (d - f) = s - lo s d q f := by
  have := lo_sym (s := s) (d := d) (f := d - f) (q := q) hd (by omega) hq
  rw [show d - (d - f) = f by omega] at this
  omega
/-- what is missed -/
theorem miss {s d b : Nat} {q : Rat} (hd : d ≤ s) (hb : b ≤ s) (h0 : 0 < q) (hq : q < 1) : sg (d + 1) (fun f => if !(decide (lo s d q f ≤ (b : Int)) && decide ((b : Int) ≤ hi s d q f)) then hy s b d f else 0) < 2 * q := by
  have a := sg_dn (d + 1) (fun f => hy s b d f) (fun f => decide ((b : Int) < lo s d q f)) q h0 (fun i => hy_nn ..) fun f hf ha => by
    have ha : (b : Int) < lo s d q f := of_decide_eq_true ha
    have := (lo_ok (f := f) hd (by omega) hq).2.2 b hb
    show tl s b f d < q
    by_cases g : q ≤ tl s b f d
    · have := this g; omega
    · grind
  have c := sg_up (d + 1) (fun f => hy s b d f) (fun f => decide (hi s d q f < (b : Int))) q h0 (fun i => hy_nn ..) fun f hf ha => by
    have ha : hi s d q f < (b : Int) := of_decide_eq_true ha
    have := (hi_ok (f := f) hd (by omega) hq).2.2 b hb
    show tu s b d f < q
    by_cases g : q ≤ tu s b d f
    · have := this g; omega
    · grind
  have e : sg (d + 1) (fun f => if !(decide (lo s d q f ≤ (b : Int)) && decide ((b : Int) ≤ hi s d q f)) then hy s b d f else 0) ≤ sg (d + 1) (fun f => (if decide ((b : Int) < lo s d q f) then hy s b d f else 0) + (if decide (hi s d q f < (b : Int)) then hy s b d f else 0)) := sg_le fun f _ => by
    have n := hy_nn s b d f
    by_cases g1 : (b : Int) < lo s d q f
    · have g1' : ¬lo s d q f ≤ (b : Int) := by omega
      simp only [g1, g1', decide_true, decide_false, Bool.false_and, Bool.not_false, if_true]
      split <;> grind
    · have g1' : lo s d q f ≤ (b : Int) := by omega
      by_cases g2 : hi s d q f < (b : Int)
      · have g2' : ¬(b : Int) ≤ hi s d q f := by omega
        simp [g1, g1', g2, g2']
        grind
      · have g2' : (b : Int) ≤ hi s d q f := by omega
        simp [g1, g1', g2, g2']
        grind
  rw [sg_add] at e
  grind
end G
namespace G
open PySem L3 MB
def RV (s d : Nat) (q : Rat) : List FV := (List.range (d + 1)).map fun f => .tuple [.int (lo s d q f), .int (hi s d q f)]
theorem RV_at {s d f : Nat} {q : Rat} (h : f ≤ d) : ixOf (RV s d q) (f : Int) = some (.tuple [.int (lo s d q f), .int (hi s d q f)]) := by
  refine ixOf_nat _ _ _ ?_
  unfold RV
  rw [List.getElem?_map, List.getElem?_range (by omega)]
  rfl
theorem rg_eq (n : Nat) (g : Nat → FV) : ((List.range ((n : Int) + 1 - 0).toNat).map fun (i : Nat) => (fun j : Int => g j.toNat) ((0 : Int) + i)) = (List.range (n + 1)).map g := by
  rw [show ((n : Int) + 1 - 0).toNat = n + 1 by omega]
  refine List.map_congr_left fun i _ => ?_
  show g ((0 : Int) + i).toNat = g i
  rw [show ((0 : Int) + i).toNat = i by omega]
theorem r1 (s d : Nat) (q : Rat) (h1 : 1 ≤ s) (hs : s ≤ 40) (h2 : 1 ≤ d) (hd : d ≤ s) (h0 : 0 < q) (hq1 : q < 1) (hq : RB 64 q) (a0 a3 a4 a5 a7 a8 a9 a10 a11 a12 : Option PV) (w : Sto) :
    evE c__law_right_1 [a0, some (.v (.int s)), some (.v (frV q)), a3, a4, a5, some (.v (.int d)), a7, a8, a9, a10, a11, a12] w = .ok (.v (.list (RV s d q))) w := by
  unfold RV
  rw [← rg_eq]
  unfold c__law_right_1
  refine lc_rg (a := 0) (b := (d : Int) + 1) (fun j : Int => .tuple [.int (lo s d q j.toNat), .int (hi s d q j.toNat)]) ?_ ?_
  · have r := rngOk_q (i := d + 1) (by omega) (by omega)
    simp [r]
  · intro i i1 i2
    obtain ⟨f, rfl⟩ := Int.eq_ofNat_of_zero_le (a := i) (by omega)
    have c := range_of_ok s d f q h1 hs h2 hd (by omega) h0 hq1 64 hq (by omega) _ _ (lo_ok hd (by omega) hq1).1 (hi_ok hd (by omega) hq1).1
    simp [wipeE, c]
theorem number_ok (x s : Int) (h0 : 0 ≤ x) (h1 : x ≤ s) : F__law_is_number [.v (.int x), .v (.int 0), .v (.int s)] = some (.ret (.v (.bool true)) []) := by
  simp [F__law_is_number, c__law_is_number, runFn_q, h0, h1]
theorem row_ok (x y : FV) : F__law_is_row [.v (.tuple [x, y]), .v (.int 2), .v (.int 2)] = some (.ret (.v (.bool true)) []) := by
  simp [F__law_is_row, c__law_is_row, runFn_q]
theorem r2 (x y s : Int) (hx : 0 ≤ x ∧ x ≤ s) (hy : 0 ≤ y ∧ y ≤ s) (a0 a2 a3 a4 a5 a6 a7 a8 a9 a10 a12 : Option PV) (w : Sto) :
    evE c__law_right_2 [a0, some (.v (.int s)), a2, a3, a4, a5, a6, a7, a8, a9, a10, some (.v (.tuple [.int x, .int y])), a12] w = .ok (.v (.list [.bool true, .bool true])) w := by
  unfold c__law_right_2
  refine lc_f (ds := [.int x, .int y]) (fun _ => some (.bool true)) (by simp) ?_
  intro v hv
  simp at hv
  rcases hv with rfl | rfl
  · simp [wipeE, number_ok _ _ hx.1 hx.2]
  · simp [wipeE, number_ok _ _ hy.1 hy.2]
theorem r3 (s d : Nat) (q : Rat) (hs : s ≤ 40) (hd : d ≤ s) (hq1 : q < 1) (a0 a2 a4 a5 a6 a7 a8 a9 a10 a11 a12 : Option PV) (w : Sto) :
    evE c__law_right_3 [a0, some (.v (.int s)), a2, some (.v (.list (RV s d q))), a4, a5, a6, a7, a8, a9, a10, a11, a12] w = .ok (.v (.list ((RV s d q).filterMap fun _ => some (.bool true)))) w := by
  unfold c__law_right_3
  have hl : (RV s d q).length ≤ 16777216 := by unfold RV; simp; omega
  refine lc_f (ds := RV s d q) (fun _ => some (.bool true)) (by generalize RV s d q = L at *; simp [hl]) ?_
  intro v hv
  unfold RV at hv
  obtain ⟨f, hf, rfl⟩ := List.mem_map.mp hv
  rw [List.mem_range] at hf
  obtain ⟨_, ⟨b, e, k1, _⟩, _⟩ := lo_ok (f := f) hd (by omega) hq1
  obtain ⟨_, ⟨c, e', k2, _⟩, _⟩ := hi_ok (f := f) hd (by omega) hq1
  have al : bfn .all [.list [.bool true, .bool true]] = some (.bool true) := rfl
  have c2 := fun a0 a2 a3 a4 a5 a6 a7 a8 a9 a10 a12 w => r2 (lo s d q f) (hi s d q f) s (by omega) (by omega) a0 a2 a3 a4 a5 a6 a7 a8 a9 a10 a12 w
  simp [wipeE, row_ok, c2, al]
theorem all_true (L : List FV) : bfn .all [.list (L.filterMap fun _ => some (.bool true))] = some (.bool true) := by
  have : (L.filterMap fun _ => some (PyData.bool true)) = (List.replicate L.length true).map .bool := by
    induction L with
    | nil => rfl
    | cons x L ih => simp [List.filterMap_cons, ih, List.replicate_succ]
  rw [this, bl_all]
  simp
theorem r4 (s d b : Nat) (q : Rat) (hs : s ≤ 40) (hd : d ≤ s) (hb : b ≤ s) (a0 a2 a5 a7 a8 a9 a10 a11 a12 : Option PV) (w : Sto) :
    evE c__law_right_4 [a0, some (.v (.int s)), a2, some (.v (.list (RV s d q))), some (.v (.int b)), a5, some (.v (.int d)), a7, a8, a9, a10, a11, a12] w =
      .ok (.v (.list ((((List.range (d + 1)).filter fun f => !(decide (lo s d q f ≤ (b : Int)) && decide ((b : Int) ≤ hi s d q f))).map fun f => hy s b d f).map frV))) w := by
  rw [List.map_map, show (frV ∘ fun f => hy s b d f) = fun f => frV (hy s b d f) from rfl]
  rw [← fm_rgQ (d + 1) _ (fun f => frV (hy s b d f)) (fun v => match v with | .int f => if decide (lo s d q f.toNat ≤ (b : Int)) && decide ((b : Int) ≤ hi s d q f.toNat) then none else some (frV (hy s b d f.toNat)) | _ => none) fun f hf => by
    show (if decide (lo s d q f ≤ (b : Int)) && decide ((b : Int) ≤ hi s d q f) then none else some (frV (hy s b d f))) = _
    cases decide (lo s d q f ≤ (b : Int)) && decide ((b : Int) ≤ hi s d q f) <;> rfl]
  unfold c__law_right_4
  refine lc_f (ds := rangeI 0 ((d + 1 : Nat) : Int)) _ ?_ ?_
  · have r := rngOk_q (i := d + 1) (by omega) (by omega)
    simp [r]
  · intro v hv
    obtain ⟨i, rfl, i1, i2⟩ := rangeI_mem hv
    obtain ⟨f, rfl⟩ := Int.eq_ofNat_of_zero_le (a := i) (by omega)
    have ix := RV_at (s := s) (d := d) (f := f) (q := q) (by omega)
    have fo := law_found_ok s b d f hs hb hd (by omega)
    generalize RV s d q = L at ix
    by_cases g1 : lo s d q f ≤ (b : Int)
    · by_cases g2 : (b : Int) ≤ hi s d q f
      · simp [wipeE, ix, g1, g2]
      · simp [wipeE, ix, g1, g2, fo]
    · simp [wipeE, ix, g1, fo]
theorem two_mk (q : Rat) : 2 * q = mkRat (2 * q.num) q.den := by
  rw [Rat.mul_def', show (2 : Rat).num = 2 from rfl, show (2 : Rat).den = 1 from rfl, Nat.one_mul]
theorem times_ok (q : Rat) (hq : RB 64 q) : F__law_times [.v (.tuple [.int 2, .int 1]), .v (frV q)] = some (.ret (.v (frV (2 * q))) []) := by
  have e := two_mk q
  have fr := law_frac_ok (2 * q.num) q.den q.den_pos 64 hq.2 (by omega)
  rw [← e] at fr
  have o1 : mulOk 2 q.num = true := mulOk_q (a := 2) (by decide) hq.1 (by omega)
  have o2 : mulOk 1 q.den = true := mulOk_q (a := 1) (by decide) (by rw [Int.natAbs_natCast]; exact hq.2) (by omega)
  rw [show F__law_times [.v (.tuple [.int 2, .int 1]), .v (frV q)] = F__law_times [.v (.tuple [.int 2, .int 1]), .v (.tuple [.int q.num, .int q.den])] from rfl]
  simp [F__law_times, c__law_times, runFn_q, o1, o2, fr]
theorem r5 (s d : Nat) (q : Rat) (hs : s ≤ 40) (hd : d ≤ s) (h0 : 0 < q) (hq1 : q < 1) (hq : RB 64 q) (a0 a5 a7 a9 a10 a11 a12 : Option PV) (w : Sto) :
    ∃ e' s', evS c__law_right_5 [a0, some (.v (.int s)), some (.v (frV q)), some (.v (.list (RV s d q))), none, a5, some (.v (.int d)), a7, none, a9, a10, a11, a12] w = .ok (.nx e') s' ∧
      (s' = w ∧ ∃ x y : Option PV, e' = [a0, some (.v (.int s)), some (.v (frV q)), some (.v (.list (RV s d q))), x, a5, some (.v (.int d)), a7, y, a9, a10, a11, a12]) := by
  unfold c__law_right_5
  refine for_r (ds := rangeI 0 ((s + 1 : Nat) : Int)) (s1 := w) (P := fun _ e s' => s' = w ∧ ∃ x y : Option PV, e = [a0, some (.v (.int s)), some (.v (frV q)), some (.v (.list (RV s d q))), x, a5, some (.v (.int d)), a7, y, a9, a10, a11, a12]) ?_ ⟨rfl, none, none, rfl⟩ ?_
  · have r := rngOk_q (i := s + 1) (by omega) (by omega)
    simp [r]
  · rintro i dd hdd e st ⟨rfl, x, y, rfl⟩
    obtain ⟨rfl, hii⟩ := rangeI_at hdd
    rw [Int.zero_add]
    have hb : i ≤ s := by omega
    have c := fun a8 => r4 s d i q hs hd hb a0 (some (.v (frV q))) a5 a7 a8 a9 a10 a11 a12 st
    have l : (((List.range (d + 1)).filter fun f => !(decide (lo s d q f ≤ (i : Int)) && decide ((i : Int) ≤ hi s d q f))).map fun f => hy s i d f).length ≤ 41 := by
      rw [List.length_map]
      exact Nat.le_trans (List.length_filter_le _ _) (by simp; omega)
    have rb : ∀ u ∈ (((List.range (d + 1)).filter fun f => !(decide (lo s d q f ≤ (i : Int)) && decide ((i : Int) ≤ hi s d q f))).map fun f => hy s i d f), RB 61 u := fun u hu => by
      obtain ⟨f, _, rfl⟩ := List.mem_map.mp hu
      exact hy_RB (by omega) hb
    have sm := law_sum_ok _ 61 rb (by omega)
    have bd := RB.sum rb
    have ms := miss hd hb h0 hq1
    rw [← qsum_filter] at ms
    generalize (((List.range (d + 1)).filter fun f => !(decide (lo s d q f ≤ (i : Int)) && decide ((i : Int) ≤ hi s d q f))).map fun f => hy s i d f) = L at c l sm bd ms
    have t := times_ok q hq
    have b2 : RB 66 (2 * q) := by
      rw [two_mk]
      have x1 := hq.1
      have x2 := hq.2
      have h3 : 2 ^ 66 = 4 * 2 ^ 64 := Nat.pow_add 2 2 64
      refine RB.mk ?_ ?_ (by omega)
      · rw [h3, Int.natAbs_mul]
        show 2 * q.num.natAbs < _
        generalize 2 ^ 64 = P at *
        omega
      · rw [h3]
        generalize 2 ^ 64 = P at *
        omega
    have bl := law_below_ok (qsum L) (2 * q) _ 66 bd b2 (by
      have : L.length * (61 + 1) ≤ 41 * (61 + 1) := Nat.mul_le_mul_right _ l
      omega)
    simp only [ms, decide_true] at bl
    generalize L.map frV = M at c sm
    simp [c, sm, t, bl]
    exact ⟨_, _, ⟨rfl, rfl⟩, rfl, _, _, rfl⟩
end G
namespace G
open PySem L3 MB
theorem pair_Sm (a b : Int) : Sm 8 (.tuple [.int a, .int b]) := ⟨by simp, fun y hy => by simp at hy; rcases hy with rfl | rfl <;> trivial⟩
theorem pair_Sm7 (a b : Int) : Sm 7 (.tuple [.int a, .int b]) := ⟨by simp, fun y hy => by simp at hy; rcases hy with rfl | rfl <;> trivial⟩
theorem r6 (s d : Nat) (q : Rat) (hs : s ≤ 40) (hd : d ≤ s) (hq1 : q < 1) (a0 a2 a4 a7 a8 a11 a12 : Option PV) (w : Sto) :
    ∃ e' s', evS c__law_right_6 [a0, some (.v (.int s)), a2, some (.v (.list (RV s d q))), a4, none, some (.v (.int d)), a7, a8, none, none, a11, a12] w = .ok (.nx e') s' ∧
      (s' = w ∧ ∃ x y z : Option PV, e' = [a0, some (.v (.int s)), a2, some (.v (.list (RV s d q))), a4, x, some (.v (.int d)), a7, a8, y, z, a11, a12]) := by
  unfold c__law_right_6
  refine for_r (ds := rangeI 0 ((d + 1 : Nat) : Int)) (s1 := w) (P := fun _ e s' => s' = w ∧ ∃ x y z : Option PV, e = [a0, some (.v (.int s)), a2, some (.v (.list (RV s d q))), a4, x, some (.v (.int d)), a7, a8, y, z, a11, a12]) ?_ ⟨rfl, none, none, none, rfl⟩ ?_
  · have r := rngOk_q (i := d + 1) (by omega) (by omega)
    simp [r]
  · rintro f dd hdd e st ⟨rfl, x, y, z, rfl⟩
    obtain ⟨rfl, hii⟩ := rangeI_at hdd
    rw [Int.zero_add]
    have hf : f ≤ d := by omega
    have i1 := RV_at (s := s) (d := d) (f := f) (q := q) hf
    have i2 := RV_at (s := s) (d := d) (f := d - f) (q := q) (by omega)
    rw [show ((d - f : Nat) : Int) = (d : Int) - f by omega, lo_sym hd hf hq1, hi_sym hd hf hq1] at i2
    have sm := same_ok 8 _ (pair_Sm ((s : Int) - hi s d q f) ((s : Int) - lo s d q f))
    by_cases g : f = 0
    · subst g
      generalize RV s d q = L at i1 i2
      simp at i1 i2
      simp [i1, i2, sm]
      exact ⟨_, _, ⟨rfl, rfl⟩, rfl, _, _, _, rfl⟩
    · obtain ⟨n, rfl⟩ : ∃ n, f = n + 1 := ⟨f - 1, by omega⟩
      have i3 := RV_at (s := s) (d := d) (f := n) (q := q) (by omega)
      have m1 := lo_mono (s := s) (d := d) (f := n) (q := q) hd (by omega) hq1
      have m2 := hi_mono (s := s) (d := d) (f := n) (q := q) hd (by omega) hq1
      have m1' : ¬lo s d q (n + 1) < lo s d q n := by omega
      have m2' : ¬hi s d q (n + 1) < hi s d q n := by omega
      generalize RV s d q = L at i1 i2 i3
      have e1 : ((n + 1 : Nat) : Int) - 1 = (n : Int) := by omega
      have e0 : (0 : Int) < ((n + 1 : Nat) : Int) := by omega
      obtain ⟨F, hF⟩ : ∃ F : Int, F = ((n + 1 : Nat) : Int) := ⟨_, rfl⟩
      rw [← hF] at i1 i2 e1 e0 ⊢
      simp [i1, i2, i3, sm, e1, e0, m1', m2']
      exact ⟨_, _, ⟨rfl, rfl⟩, rfl, _, _, _, rfl⟩
theorem tl_one {s b f : Nat} (hb : b ≤ s) (hf : f ≤ b) : tl s b f s = 1 := by
  cases f with
  | zero =>
    have := hy_sum hb (Nat.le_refl s)
    unfold tl
    rw [Nat.sub_zero, ← this]
    exact sg_congr fun i _ => by rw [Nat.zero_add]
  | succ f =>
    have := tl_tu (s := s) (b := b) (d := s) (f := f) hb (Nat.le_refl s) (by omega)
    rw [tu_more (by omega), Rat.zero_add] at this
    exact this
theorem tu_one {s b f : Nat} (hb : b ≤ s) (hf : f ≤ s) (h : b ≤ f) : tu s b s f = 1 := by
  by_cases g : f = s
  · subst g
    exact hy_sum hb (Nat.le_refl _)
  · have := tl_tu (s := s) (b := b) (d := s) (f := f) hb (Nat.le_refl s) (by omega)
    rw [tl_less (by omega), Rat.add_zero] at this
    exact this
theorem lo_all {s f : Nat} {q : Rat} (hf : f ≤ s) (h0 : 0 < q) (hq : q < 1) : lo s s q f = f := by
  obtain ⟨_, ⟨b, e, h1, h2⟩, h3⟩ := lo_ok (f := f) (Nat.le_refl s) hf hq
  have := h3 f hf (by rw [tl_one hf (Nat.le_refl f)]; grind)
  by_cases g : b < f
  · rw [tl_less g] at h2; grind
  · omega
theorem hi_all {s f : Nat} {q : Rat} (hf : f ≤ s) (h0 : 0 < q) (hq : q < 1) : hi s s q f = f := by
  obtain ⟨_, ⟨b, e, h1, h2⟩, h3⟩ := hi_ok (f := f) (Nat.le_refl s) hf hq
  have := h3 f hf (by rw [tu_one hf hf (Nat.le_refl f)]; grind)
  by_cases g : f < b
  · rw [tu_more (by omega)] at h2; grind
  · omega
theorem law_right_ok {n : Nat} {w : List FV} (hw : WL n w) (hn : n ≤ 900000) : ∃ w', WL (n + 5) w' ∧ F__law_right [.o (.lst w)] = some (.ret (.v (.bool true)) [.lst w']) := by
  obtain ⟨t1, w2, hw2, r1a, r1b, e2⟩ := law_draw_ok hw (by omega) 14 (by omega) (by omega)
  obtain ⟨s, hs⟩ : ∃ s : Nat, 1 + t1 = (s : Int) := ⟨(1 + t1).toNat, by omega⟩
  obtain ⟨t2, w3, hw3, r2a, r2b, e3⟩ := law_draw_ok hw2 (by omega) (s : Int) (by omega) (by omega)
  obtain ⟨d, hd⟩ : ∃ d : Nat, 1 + t2 = (d : Int) := ⟨(1 + t2).toNat, by omega⟩
  obtain ⟨t4, w5, hw5, r4a, r4b, e5⟩ := law_draw_ok hw3 (by omega) 17 (by omega) (by omega)
  obtain ⟨m, hm⟩ : ∃ m : Nat, 3 + t4 = (m : Int) := ⟨(3 + t4).toNat, by omega⟩
  obtain ⟨k, hk⟩ : ∃ k : Int, (if 1 < (m : Int).fdiv 2 then (m : Int).fdiv 2 else 1) = k := ⟨_, rfl⟩
  have hkb : 1 ≤ k ∧ k < (m : Int) - 1 + 1 ∧ k ≤ m - 1 := by
    have : (m : Int).fdiv 2 = m / 2 := Int.fdiv_eq_ediv_of_nonneg _ (by omega)
    rw [this] at hk
    split at hk <;> omega
  obtain ⟨t5, w6, hw6, r5a, r5b, e6⟩ := law_draw_ok hw5 (by omega) k (by omega) (by omega)
  have lv := law_frac_ok (1 + t5) m (by omega) 64 (by omega) (by omega)
  obtain ⟨q0, q1⟩ := lev_pos t5 m r5a (by omega)
  have qb : RB 64 (mkRat (1 + t5) m) := RB.mk (by omega) (by omega) (by omega)
  generalize mkRat (1 + t5) m = q at lv q0 q1 qb
  obtain ⟨t6, w7, hw7, r6a, r6b, e7⟩ := law_draw_ok hw6 (by omega) ((s : Int) + 1) (by omega) (by omega)
  obtain ⟨f, rfl⟩ := Int.eq_ofNat_of_zero_le (a := t6) r6a
  have c1 := fun a0 a3 a4 a5 a7 a8 a9 a10 a11 a12 w => r1 s d q (by omega) (by omega) (by omega) (by omega) q0 q1 qb a0 a3 a4 a5 a7 a8 a9 a10 a11 a12 w
  have c3 := fun a0 a2 a4 a5 a6 a7 a8 a9 a10 a11 a12 w => r3 s d q (by omega) (by omega) q1 a0 a2 a4 a5 a6 a7 a8 a9 a10 a11 a12 w
  have al := all_true (RV s d q)
  obtain ⟨e5', s5', c5, rfl, x5, y5, rfl⟩ := r5 s d q (by omega) (by omega) q0 q1 qb (some (.loc 0)) none (some (.v (.int m))) none none none none [some (.lst (w6.map .v))]
  obtain ⟨e6', s6', c6, rfl, x6, y6, z6, rfl⟩ := r6 s d q (by omega) (by omega) q1 (some (.loc 0)) (some (.v (frV q))) x5 (some (.v (.int m))) y5 none none [some (.lst (w6.map .v))]
  have ro := range_of_ok s s f q (by omega) (by omega) (by omega) (by omega) (by omega) q0 q1 64 qb (by omega) _ _ (lo_ok (Nat.le_refl s) (by omega) q1).1 (hi_ok (Nat.le_refl s) (by omega) q1).1
  rw [lo_all (by omega) q0 q1, hi_all (by omega) q0 q1] at ro
  have cb := can_be_ok s s f (by omega) (by omega) (by omega) (by omega) (by omega)
  rw [show (s : Int) - s + f = f by omega] at cb
  have sp := same_pair (.tuple [.int f, .int f]) (pair_Sm7 _ _)
  have hd2 : divOk 2 = true := by decide
  generalize RV s d q = L at *
  generalize (L.filterMap fun _ => some (PyData.bool true)) = M at *
  refine ⟨w7, hw7, ?_⟩
  simp [F__law_right, c__law_right, runFn_q, e2, hs, e3, hd, e5, hm, hd2, hk, e6, lv, c1, c3, al, c5, c6, e7, ro, cb, sp]
end G
namespace G
open PySem L3 MB
theorem law_true : ∀ ns : List Int, ns.length ≤ 63 → (∀ z ∈ ns, Builtin.Int.intBits z ≤ 1048576) → F_law [.v (.list (ns.map .int))] = some (.ret (.v (.bool true)) []) := by
  intro ns hn _
  obtain ⟨ws, w0, w3, hw, e1⟩ := wells_ok ns hn
  obtain ⟨k, hk⟩ : ∃ k, k = ws.length := ⟨_, rfl⟩
  obtain ⟨locs, hlocs⟩ : ∃ l : List PV, l = (List.range k).map .loc := ⟨_, rfl⟩
  rw [← hk, ← hlocs] at e1
  have ll : locs.length = k := by rw [hlocs]; simp
  have r := lc_r (t := .nm 2) (it := .rng1 (.lit (.int 4))) (c := .lit (.bool true)) (el := .fn F__law_right "_law_right" (.cons (.ix (.var 1) (.bin .Mod (.bl .int (.cons (.var 2) .nil)) (.lnl (.cons (.var 1) .nil)))) .nil)) (own := [2])
    (e := [some (.v (.list (ns.map .int))), some (.loc k), none]) (s := stW ws ++ [some (.lst locs)]) (s1 := stW ws ++ [some (.lst locs)]) (ds := rangeI 0 4) (fun i s acc => ∃ vs : List (List FV), vs.length = k ∧ (∀ w ∈ vs, WL (5 * i) w) ∧ s = stW vs ++ [some (.lst locs)] ∧ acc = List.replicate i (.v (.bool true)))
    (by
      have r1 := rngOk_q (i := 4) (by omega) (by omega)
      simp [r1]) ⟨ws, hk.symm, by simpa using hw, rfl, rfl⟩ (fun i d hd s acc hP => by
      obtain ⟨vs, hv, hw, hs, rfl⟩ := hP
      obtain ⟨rfl, hi⟩ := rangeI_at hd
      rw [Int.zero_add]
      have q := fmod_b (i : Int) (k : Int) (by omega)
      obtain ⟨j, hj⟩ := Int.eq_ofNat_of_zero_le q.1
      have hjk : j < vs.length := by omega
      have hk0 : k ≠ 0 := by omega
      obtain ⟨w', hw', hF⟩ := law_right_ok (hw vs[j] (List.getElem_mem hjk)) (by omega)
      have lw : (stW vs).length = k := by unfold stW; simp [hv]
      have o1 : obAt s k = some (.lst locs) := by
        rw [hs]; unfold obAt
        rw [List.getElem?_append_right (by omega), lw, Nat.sub_self]; rfl
      have o2 : obAt s j = some (.lst (vs[j].map .v)) := by
        rw [hs]; unfold obAt
        rw [List.getElem?_append_left (by omega)]
        unfold stW
        rw [List.getElem?_map, List.getElem?_eq_getElem hjk]; rfl
      have ix : ixOf locs (j : Int) = some (.loc j) := ixOf_nat _ _ _ (by rw [hlocs, List.getElem?_map, List.getElem?_range (by omega)]; rfl)
      have ln := kLn_q k s locs o1
      rw [ll] at ln
      refine ⟨.v (.bool true), s.set j (some (.lst (w'.map .v))), ?_, vs.set j w', by simp [hv], ?_, ?_, ?_⟩
      · simp [wipeE, -obAt_q, o1, o2, ln, hk0, hj, ix, hF]
      · intro x hx
        rcases List.mem_or_eq_of_mem_set hx with h | h
        · obtain ⟨a, b, c, q⟩ := hw x h
          exact ⟨a, b, c, q.1, q.2.1, q.2.2.1, q.2.2.2.1, q.2.2.2.2.1, by have := q.2.2.2.2.2; omega⟩
        · rw [h]; exact hw'
      · rw [hs, List.set_append_left _ _ (by omega)]
        unfold stW
        rw [List.map_set]
      · rw [List.replicate_succ'])
  obtain ⟨ps, s', h1, vs, h2, h3, rfl, rfl⟩ := r
  have c2 : evE c_law_2 [some (.v (.list (ns.map .int))), some (.loc k), none] (stW ws ++ [some (.lst locs)]) = .ok (.v (.list ((List.replicate 4 true).map .bool))) (stW vs ++ [some (.lst locs)]) := by
    unfold c_law_2
    rw [h1]
    rfl
  have al : bfn .all [.list ((List.replicate 4 true).map .bool)] = some (.bool true) := rfl
  generalize (List.replicate 4 true).map PyData.bool = L at c2 al
  simp [F_law, c_law, runFn_q, e1, c2, al]
end G
open PySem PySem.W PyProof.Rows
set_option maxHeartbeats 0 in
theorem PySem.Challenge.cw_lotdraws_k56_whole_ranges_that_fail_holds : PySem.Challenge.rw_lotdraws_k56_whole_ranges_that_fail.Holds := by
  w_on; o_law; k_head; (case hw => w_witness2)
  k_fill
  refine L2.walk_ofB (l := PySem.Challenge.rw_lotdraws_k56_whole_ranges_that_fail) (n := 63) (k := 10) (x := "script") (CX := fun _ => L2.CX0) (sp := fun w => L3.spLaw _) rfl (by decide) rfl ⟨rfl, by decide, by decide⟩ (fun w h Y => PySem.W.kIn_of Y) ?F (fun _ _ a ns hl hb _ hS => ⟨a, ns, rfl, hl, hb, hS, fun _ => rfl⟩) (fun _ _ _ _ _ h => h)
  case F =>
    intro w mg fa h KX gn hmg
    refine' G.all_mk KX gn hmg ?a__law_well ?l__law_well ?c__law_well ?k__law_well ?a__law_draw ?l__law_draw ?c__law_draw ?k__law_draw ?a__law_divisor ?l__law_divisor ?c__law_divisor ?k__law_divisor ?a__law_frac ?l__law_frac ?c__law_frac ?k__law_frac ?a_is_whole ?l_is_whole ?c_is_whole ?k_is_whole ?a_is_between ?l_is_between ?c_is_between ?k_is_between ?a_check_number ?l_check_number ?c_check_number ?k_check_number ?a_check_size ?l_check_size ?c_check_size ?k_check_size ?a_check_found ?l_check_found ?c_check_found ?k_check_found ?a_is_tuple_of ?l_is_tuple_of ?c_is_tuple_of ?k_is_tuple_of ?a_is_pair ?l_is_pair ?c_is_pair ?k_is_pair ?a_is_fraction ?l_is_fraction ?c_is_fraction ?k_is_fraction ?a_is_part ?l_is_part ?c_is_part ?k_is_part ?a_check_level ?l_check_level ?c_check_level ?k_check_level ?a_is_less ?l_is_less ?c_is_less ?k_is_less ?a_ways_of ?l_ways_of ?c_ways_of ?k_ways_of ?a_ways_found ?l_ways_found ?c_ways_found ?k_ways_found ?a_lowest ?l_lowest ?c_lowest ?k_lowest ?a_chance_from ?l_chance_from ?c_chance_from ?k_chance_from ?a_chance_up_to ?l_chance_up_to ?c_chance_up_to ?k_chance_up_to ?a_range_by ?l_range_by ?c_range_by ?k_range_by ?a_range_of ?l_range_of ?c_range_of ?k_range_of ?a__law_is_row ?l__law_is_row ?c__law_is_row ?k__law_is_row ?a__law_is_number ?l__law_is_number ?c__law_is_number ?k__law_is_number ?a__law_ways ?l__law_ways ?c__law_ways ?k__law_ways ?a__law_found ?l__law_found ?c__law_found ?k__law_found ?a__law_below ?l__law_below ?c__law_below ?k__law_below ?a__law_add ?l__law_add ?c__law_add ?k__law_add ?a__law_sum ?l__law_sum ?c__law_sum ?k__law_sum ?a__law_times ?l__law_times ?c__law_times ?k__law_times ?a__law_same ?l__law_same ?c__law_same ?k__law_same ?a_can_be_by ?l_can_be_by ?c_can_be_by ?k_can_be_by ?a_can_be ?l_can_be ?c_can_be ?k_can_be ?a__law_right ?l__law_right ?c__law_right ?k__law_right ?a_law ?l_law ?c_law ?k_law ?z_int ?z_len ?z_abs ?z_divmod ?z_isinstance ?z_bool ?z_tuple ?z_all ?z_gcd ?z_range ?z_sum ?z_list ?z_min ?z_max ?z_str ?z_dict ?q_MOST_SIZE ?q_NOTHING ?r_NOTHING ?q_WHOLE ?r_WHOLE ?HL
    (case a__law_well => k_is)
    (case l__law_well => k_is)
    (case c__law_well => k_is)
    (case k__law_well => k_is)
    (case a__law_draw => k_is)
    (case l__law_draw => k_is)
    (case c__law_draw => k_is)
    (case k__law_draw => k_is)
    (case a__law_divisor => k_is)
    (case l__law_divisor => k_is)
    (case c__law_divisor => k_is)
    (case k__law_divisor => k_is)
    (case a__law_frac => k_is)
    (case l__law_frac => k_is)
    (case c__law_frac => k_is)
    (case k__law_frac => k_is)
    (case a_is_whole => k_is)
    (case l_is_whole => k_is)
    (case c_is_whole => k_is)
    (case k_is_whole => k_is)
    (case a_is_between => k_is)
    (case l_is_between => k_is)
    (case c_is_between => k_is)
    (case k_is_between => k_is)
    (case a_check_number => k_is)
    (case l_check_number => k_is)
    (case c_check_number => k_is)
    (case k_check_number => k_is)
    (case a_check_size => k_is)
    (case l_check_size => k_is)
    (case c_check_size => k_is)
    (case k_check_size => k_is)
    (case a_check_found => k_is)
    (case l_check_found => k_is)
    (case c_check_found => k_is)
    (case k_check_found => k_is)
    (case a_is_tuple_of => k_is)
    (case l_is_tuple_of => k_is)
    (case c_is_tuple_of => k_is)
    (case k_is_tuple_of => k_is)
    (case a_is_pair => k_is)
    (case l_is_pair => k_is)
    (case c_is_pair => k_is)
    (case k_is_pair => k_is)
    (case a_is_fraction => k_is)
    (case l_is_fraction => k_is)
    (case c_is_fraction => k_is)
    (case k_is_fraction => k_is)
    (case a_is_part => k_is)
    (case l_is_part => k_is)
    (case c_is_part => k_is)
    (case k_is_part => k_is)
    (case a_check_level => k_is)
    (case l_check_level => k_is)
    (case c_check_level => k_is)
    (case k_check_level => k_is)
    (case a_is_less => k_is)
    (case l_is_less => k_is)
    (case c_is_less => k_is)
    (case k_is_less => k_is)
    (case a_ways_of => k_is)
    (case l_ways_of => k_is)
    (case c_ways_of => k_is)
    (case k_ways_of => k_is)
    (case a_ways_found => k_is)
    (case l_ways_found => k_is)
    (case c_ways_found => k_is)
    (case k_ways_found => k_is)
    (case a_lowest => k_is)
    (case l_lowest => k_is)
    (case c_lowest => k_is)
    (case k_lowest => k_is)
    (case a_chance_from => k_is)
    (case l_chance_from => k_is)
    (case c_chance_from => k_is)
    (case k_chance_from => k_is)
    (case a_chance_up_to => k_is)
    (case l_chance_up_to => k_is)
    (case c_chance_up_to => k_is)
    (case k_chance_up_to => k_is)
    (case a_range_by => k_is)
    (case l_range_by => k_is)
    (case c_range_by => k_is)
    (case k_range_by => k_is)
    (case a_range_of => k_is)
    (case l_range_of => k_is)
    (case c_range_of => k_is)
    (case k_range_of => k_is)
    (case a__law_is_row => k_is)
    (case l__law_is_row => k_is)
    (case c__law_is_row => k_is)
    (case k__law_is_row => k_is)
    (case a__law_is_number => k_is)
    (case l__law_is_number => k_is)
    (case c__law_is_number => k_is)
    (case k__law_is_number => k_is)
    (case a__law_ways => k_is)
    (case l__law_ways => k_is)
    (case c__law_ways => k_is)
    (case k__law_ways => k_is)
    (case a__law_found => k_is)
    (case l__law_found => k_is)
    (case c__law_found => k_is)
    (case k__law_found => k_is)
    (case a__law_below => k_is)
    (case l__law_below => k_is)
    (case c__law_below => k_is)
    (case k__law_below => k_is)
    (case a__law_add => k_is)
    (case l__law_add => k_is)
    (case c__law_add => k_is)
    (case k__law_add => k_is)
    (case a__law_sum => k_is)
    (case l__law_sum => k_is)
    (case c__law_sum => k_is)
    (case k__law_sum => k_is)
    (case a__law_times => k_is)
    (case l__law_times => k_is)
    (case c__law_times => k_is)
    (case k__law_times => k_is)
    (case a__law_same => k_is)
    (case l__law_same => k_is)
    (case c__law_same => k_is)
    (case k__law_same => k_is)
    (case a_can_be_by => k_is)
    (case l_can_be_by => k_is)
    (case c_can_be_by => k_is)
    (case k_can_be_by => k_is)
    (case a_can_be => k_is)
    (case l_can_be => k_is)
    (case c_can_be => k_is)
    (case k_can_be => k_is)
    (case a__law_right => k_is)
    (case l__law_right => k_is)
    (case c__law_right => k_is)
    (case k__law_right => k_is)
    (case a_law => k_is)
    (case l_law => k_is)
    (case c_law => k_is)
    (case k_law => k_is)
    (case z_int => k_is)
    (case z_len => k_is)
    (case z_abs => k_is)
    (case z_divmod => k_is)
    (case z_isinstance => k_is)
    (case z_bool => k_is)
    (case z_tuple => k_is)
    (case z_all => k_is)
    (case z_gcd => k_is)
    (case z_range => k_is)
    (case z_sum => k_is)
    (case z_list => k_is)
    (case z_min => k_is)
    (case z_max => k_is)
    (case z_str => k_is)
    (case z_dict => k_is)
    (case q_MOST_SIZE => k_is)
    (case q_NOTHING => k_is)
    (case r_NOTHING => k_is)
    (case q_WHOLE => k_is)
    (case r_WHOLE => k_is)
    (case HL => exact G.law_true)
