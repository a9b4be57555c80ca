import PyProof.Rows.All
import Wide.All
import OpenK.AllK
import Wide.FinOn
import HandS.ForMost
import HandS.Exc
import HandS.ExcOwn
import HandS.TryOnly
import HandS.WordsExc
import HandS.Wide
import HandS.WideBits
import HandS.IsInst
import HandS.Deep
import HandS.Zip
import HandS.Walk
import HandS.Conv
import HandS.TupAny
import KE.KeyNested
import HandS.TupSets
import HandS.Style
import HandS.CallSlots
import HandS.Strs
import HandS.Defaults
import HandS.Head0
import HandS.Head1
import HandS.Head2
import HandS.HeadEnd
import HandS.HeadHook1
import HandS.HeadHook2
import HandS.HeadHook4
import PySem.Challenge.RW_restdraw_k42_two_ties
set_option Elab.async false
set_option linter.all false
set_option maxRecDepth 100000
/-! Plain data, a store of mutable lists, a small tree of expressions and statements, and what they come to. -/
namespace Py
open PySem

inductive D where
  | non | bl (b : Bool) | int (i : Int) | str (x : Str) | ty (n : String)
  | tup (ds : List D) | lst (ds : List D) | fro (ds : List D) | ref (n : Nat)

inductive Ob where
  | lst (ds : List D)
  | dK (kvs : List (L2.Key × D))
  | dT (kvs : List (List L2.Key × D))

abbrev Sto := List Ob
abbrev Sl := List (Option D)

inductive Rs (α : Type) where
  | ok (a : α) (s : Sto) | ex (x : Str) (p : D) (s : Sto) | bad

def Rs.bind {α β : Type} (r : Rs α) (f : α → Sto → Rs β) : Rs β := match r with
  | .ok a s => f a s
  | .ex x p s => .ex x p s
  | .bad => .bad
@[simp] theorem bind_ok {α β : Type} (a : α) (s : Sto) (f : α → Sto → Rs β) : (Rs.ok a s).bind f = f a s := rfl
@[simp] theorem bind_ex {α β : Type} (x : Str) (p : D) (s : Sto) (f : α → Sto → Rs β) : (Rs.ex x p s : Rs α).bind f = .ex x p s := rfl
@[simp] theorem bind_bad {α β : Type} (f : α → Sto → Rs β) : (Rs.bad : Rs α).bind f = .bad := rfl

inductive Ou where
  | nx (e : Sl) (s : Sto) | rt (d : D) (s : Sto) | bk (e : Sl) (s : Sto) | ct (e : Sl) (s : Sto) | ex (e : Sl) (x : Str) (p : D) (s : Sto) | bad

/-- what a value is as data, lists read off the store -/
def strOk (x : Str) : Bool := PyData.strOk x
mutual
def pd : Nat → Sto → D → Option PyData
  | 0, _, _ => none
  | _ + 1, _, .non => some .none
  | _ + 1, _, .bl b => some (.bool b)
  | _ + 1, _, .int i => some (.int i)
  | _ + 1, _, .str x => if strOk x then some (.str x) else none
  | k + 1, s, .tup ds => (pds k s ds).map .tuple
  | k + 1, s, .lst ds => (pds k s ds).map .list
  | k + 1, s, .ref n => match s[n]? with
    | some (.lst ds) => (pds k s ds).map .list
    | _ => none
  | _ + 1, _, _ => none
def pds : Nat → Sto → List D → Option (List PyData)
  | _, _, [] => some []
  | k, s, d :: ds => match pd k s d, pds k s ds with
    | some p, some ps => some (p :: ps)
    | _, _ => none
end
abbrev deep : Nat := 9

def listOf (s : Sto) : D → Option (List D)
  | .lst ds => some ds
  | .ref n => match s[n]? with
    | some (.lst ds) => some ds
    | _ => none
  | _ => none
/-- what can be walked, cut, asked for its length -/
def seqOf (s : Sto) : D → Option (List D)
  | .tup ds => some ds
  | .fro ds => some ds
  | d => listOf s d

inductive Op where | add | sub | mul | fdiv | mod | pow
inductive Cm where | eq | ne | lt | le | gt | ge | in_ | notin | isN | notN

def addR (s : Sto) : D → D → Rs D
  | .int i, .int j => .ok (.int (i + j)) s
  | .tup xs, .tup ys => if xs.length + ys.length ≤ sizeLine then .ok (.tup (xs ++ ys)) s else .bad
  | a, b => match listOf s a, listOf s b with
    | some xs, some ys => if xs.length + ys.length ≤ sizeLine then .ok (.lst (xs ++ ys)) s else .bad
    | _, _ => .bad
def mulOk (i j : Int) : Prop := i.natAbs.log2 + j.natAbs.log2 < 1000000
instance (i j : Int) : Decidable (mulOk i j) := inferInstanceAs (Decidable (_ < _))
def divOk (j : Int) : Prop := j ≠ 0 ∧ j.natAbs.log2 < 9000
instance (j : Int) : Decidable (divOk j) := inferInstanceAs (Decidable (_ ∧ _))
def powOk (i j : Int) : Prop := 0 ≤ j ∧ j ≤ 1000000 ∧ i.natAbs < 2 ^ 64
instance (i j : Int) : Decidable (powOk i j) := inferInstanceAs (Decidable (_ ∧ _ ∧ _))
def binR (o : Op) (s : Sto) (a b : D) : Rs D := match o with
  | .add => addR s a b
  | .sub => match a, b with
    | .int i, .int j => .ok (.int (i - j)) s
    | _, _ => .bad
  | .mul => match a, b with
    | .int i, .int j => if mulOk i j then .ok (.int (i * j)) s else .bad
    | _, _ => .bad
  | .fdiv => match a, b with
    | .int i, .int j => if divOk j then .ok (.int (i.fdiv j)) s else .bad
    | _, _ => .bad
  | .mod => match a, b with
    | .int i, .int j => if j ≠ 0 then .ok (.int (i.fmod j)) s else .bad
    | _, _ => .bad
  | .pow => match a, b with
    | .int i, .int j => if powOk i j then .ok (.int (i ^ j.toNat)) s else .bad
    | _, _ => .bad

def eqB (s : Sto) (a b : D) : Option Bool := match pd deep s a, pd deep s b with
  | some p, some q => some (PyData.eqv p q)
  | _, _ => none
def inB (s : Sto) (a b : D) : Option Bool := match pd deep s a, (seqOf s b).bind (pds deep s) with
  | some p, some qs => some (qs.any fun z => PyData.eqv z p)
  | _, _ => none
def okB (s : Sto) : Option Bool → Rs D
  | some b => .ok (.bl b) s
  | none => .bad
def isNone : D → Bool
  | .non => true
  | _ => false
def cmpI (s : Sto) (p : Int → Int → Bool) (a b : D) : Rs D := match a, b with
  | .int i, .int j => .ok (.bl (p i j)) s
  | _, _ => .bad
def cmpR (o : Cm) (s : Sto) (a b : D) : Rs D := match o with
  | .eq => okB s (eqB s a b)
  | .ne => okB s ((eqB s a b).map not)
  | .lt => cmpI s (fun i j => decide (i < j)) a b
  | .le => cmpI s (fun i j => decide (i ≤ j)) a b
  | .gt => cmpI s (fun i j => decide (i > j)) a b
  | .ge => cmpI s (fun i j => decide (i ≥ j)) a b
  | .in_ => okB s (inB s a b)
  | .notin => okB s ((inB s a b).map not)
  | .isN => if isNone b then .ok (.bl (isNone a)) s else .bad
  | .notN => if isNone b then .ok (.bl (!isNone a)) s else .bad

def ixR (s : Sto) (a b : D) : Rs D := match seqOf s a, b with
  | some ds, .int i => match L2.atI ds i with
    | some d => .ok d s
    | none => .bad
  | _, _ => .bad
def cutD (ds : List D) (lo hi : Option Int) : List D := (ds.drop (HT.sIx ds.length 0 lo)).take (HT.sIx ds.length ds.length hi - HT.sIx ds.length 0 lo)
def partF (n : Bool) (d : D) : Option (Option Int) := if n then some none else match d with
  | .int i => some (some i)
  | _ => none
def slR (s : Sto) (a : D) (l h : Option Int) : Rs D := match a with
  | .tup ds => .ok (.tup (cutD ds l h)) s
  | .fro ds => .ok (.lst (cutD ds l h)) s
  | d => match listOf s d with
    | some ds => .ok (.lst (cutD ds l h)) s
    | none => .bad
def revR (s : Sto) (a : D) : Rs D := match a with
  | .tup ds => .ok (.tup ds.reverse) s
  | d => match listOf s d with
    | some ds => .ok (.lst ds.reverse) s
    | none => .bad

/-- builtins -/
inductive Bi where | len | abs | max2 | min2 | divmod | int | tuple
def lenR (s : Sto) : List D → Rs D
  | [d] => match seqOf s d with
    | some ds => .ok (.int ds.length) s
    | none => .bad
  | _ => .bad
def int1R (s : Sto) (f : Int → D) : List D → Rs D
  | [.int i] => .ok (f i) s
  | _ => .bad
def int2R (s : Sto) (f : Int → Int → D) : List D → Rs D
  | [.int i, .int j] => .ok (f i j) s
  | _ => .bad
def dmR (s : Sto) : List D → Rs D
  | [.int i, .int j] => if 0 < j ∧ divOk j then .ok (.tup [.int (i / j), .int (i % j)]) s else .bad
  | _ => .bad
def intR (s : Sto) : List D → Rs D
  | [.int i] => .ok (.int i) s
  | [.bl b] => .ok (.int (if b then 1 else 0)) s
  | _ => .bad
def tupleR (s : Sto) : List D → Rs D
  | [.tup ds] => .ok (.tup ds) s
  | [d] => match listOf s d with
    | some ds => .ok (.tup ds) s
    | none => .bad
  | _ => .bad
def biR (f : Bi) (s : Sto) (as : List D) : Rs D := match f with
  | .len => lenR s as
  | .abs => int1R s (fun i => .int (if i < 0 then -i else i)) as
  | .max2 => int2R s (fun i j => .int (if j > i then j else i)) as
  | .min2 => int2R s (fun i j => .int (if j < i then j else i)) as
  | .divmod => dmR s as
  | .int => intR s as
  | .tuple => tupleR s as
/-- methods of built-in types -/
inductive Me where | append
def putAt (s : Sto) (n : Nat) (o : Ob) : Sto := s.set n o
def appR (s : Sto) : D → List D → Rs D
  | .ref n, [d] => match s[n]? with
    | some (.lst ds) => if ds.length < sizeLine then .ok .non (putAt s n (.lst (ds ++ [d]))) else .bad
    | _ => .bad
  | _, _ => .bad
def meR (f : Me) (s : Sto) (o : D) (as : List D) : Rs D := match f with
  | .append => appR s o as
/-- the receiver is of the method's type -/
def recvR (f : Me) (s : Sto) (o : D) : Bool := match f with
  | .append => (listOf s o).isSome
/-- isinstance of a built-in class -/
def tyOf : D → Option String
  | .non => some "NoneType"
  | .bl _ => some "bool"
  | .int _ => some "int"
  | .str _ => some "str"
  | .tup _ => some "tuple"
  | .lst _ => some "list"
  | _ => none
def isiR (n : String) (s : Sto) (a : D) : Rs D := match (tyOf a).bind fun t => L2.kitB t n with
  | some b => .ok (.bl b) s
  | none => .bad


mutual
def keyOf : D → Option NestedKey
  | .int i => some (.num i)
  | .tup ds => (keysOf ds).map .tup
  | _ => none
def keysOf : List D → Option (List NestedKey)
  | [] => some []
  | d :: ds => match keyOf d, keysOf ds with
    | some k, some ks => some (k :: ks)
    | _, _ => none
end
def isTup : D → Bool
  | .tup _ => true
  | _ => false
/-- the unlike ones -/
def dist (ks : List NestedKey) : List NestedKey := ks.foldl (fun (acc : List NestedKey) (k : NestedKey) => if k ∈ acc then acc else acc ++ [k]) []
/-- len(set(x)) of few tuples -/
def lsetR (s : Sto) (x : D) : Rs D := match x with
  | .tup ds => match keysOf ds with
    | some ks => if ks.length ≤ 4 ∧ ds.all isTup = true ∧ NestedKey.depthAll ks ≤ 8 then .ok (.int (dist ks).length) s else .bad
    | none => .bad
  | _ => .bad

/-- what a for walks -/
inductive Ik where | plain | rng | enum | zip
def plainI (s : Sto) : List D → Option (List D)
  | [d] => seqOf s d
  | _ => none
def rngI : List D → Option (List D)
  | [.int j] => if -(2 ^ 62) ≤ j ∧ j < 2 ^ 62 then some ((List.range j.toNat).map fun i => .int (0 + (i : Nat))) else none
  | [.int i, .int j] => if -(2 ^ 62) ≤ i ∧ i < 2 ^ 62 ∧ -(2 ^ 62) ≤ j ∧ j < 2 ^ 62 then some ((List.range (j - i).toNat).map fun k => .int (i + (k : Nat))) else none
  | _ => none
def enumI (s : Sto) : List D → Option (List D)
  | [d] => (seqOf s d).map fun ds => (List.range ds.length).zipWith (fun i d => .tup [.int (i : Nat), d]) ds
  | _ => none
def zipI (s : Sto) : List D → Option (List D)
  | [d, e] => match seqOf s d, seqOf s e with
    | some xs, some ys => some (List.zipWith (fun x y => .tup [x, y]) xs ys)
    | _, _ => none
  | _ => none
def itemsOf (k : Ik) (s : Sto) (a : D) : Option (List D) := match a with
  | .tup as => match k with
    | .plain => plainI s as
    | .rng => rngI as
    | .enum => enumI s as
    | .zip => zipI s as
  | _ => none
/-- targets of a for -/
inductive Tc where | nm (i : Nat) | nil | cons (t ts : Tc)
def asgC : Tc → D → Sl → Option Sl
  | .nm i, d, e => some (e.set i (some d))
  | .nil, .tup [], e => some e
  | .cons t ts, .tup (d :: ds), e => match asgC t d e with
    | some e' => asgC ts (.tup ds) e'
    | none => none
  | _, _, _ => none

inductive Em where
  | var (i : Nat) | c (d : D) | gl (x : Nat)
  | nil | cons (e es : Em)
  | tup (es : Em) | lst (mt : Bool) (es : Em)
  | bin (o : Op) (a b : Em) | neg (a : Em)
  | cmp (o : Cm) (a b : Em) | chain (o o' : Cm) (a b c : Em)
  | and (a b : Em) | or (a b : Em) | not (a : Em) | ite (c a b : Em)
  | ix (a b : Em) | sl (a lo hi : Em) | rev (a : Em)
  | call (f : Nat) (es : Em) | bi (f : Bi) (es : Em) | me (f : Me) (o es : Em)
  | lset (a : Em) | isi (n : String) (a : Em)
  | it (k : Ik) (es : Em)
  | comp (mt : Bool) (own : List (Str × Nat)) (t : Tc) (it : Em) (k : Ik) (c : Em) (elt : Em)

/-- the defs by number; the module's constants -/
structure Tb where
  f : Nat → List D → Sto → Rs D
  c : Nat → Option D
def Tst (r : Rs D) (f : Bool → Sto → Rs D) : Rs D := r.bind fun d s => match d with
  | .bl b => f b s
  | _ => .bad
/-- a refusal within a comprehension is not carried -/
def Rs.noex {α : Type} : Rs α → Rs α
  | .ex _ _ _ => .bad
  | r => r
def newL (mt : Bool) (ds : List D) (s : Sto) : Rs D := if mt then .ok (.ref s.length) (s ++ [.lst ds]) else .ok (.lst ds) s
def wipeD (e : Sl) : List Nat → Sl
  | [] => e
  | v :: vs => (wipeD e vs).set v none
def tupOf : D → List D
  | .tup ds => ds
  | _ => []
/-- a comprehension's turns: from the items that are left, upon what is made so far; all: the items at the start -/
noncomputable def compL (k : Ik) (src : D) (all : List D) (t : Tc) (e : Sl) (c elt : Sl → Sto → Rs D) : List D → List D → Sto → Rs (List D)
  | [], acc, s => open Classical in if itemsOf k s src = some all then .ok acc s else .bad
  | d :: ds, acc, s => open Classical in if itemsOf k s src = some all then match asgC t d e with
    | some e' => Rs.bind (c e' s).noex fun b s1 => match b with
      | .bl true => Rs.bind (elt e' s1).noex fun y s2 => if acc.length < sizeLine then compL k src all t e c elt ds (acc ++ [y]) s2 else .bad
      | .bl false => compL k src all t e c elt ds acc s1
      | _ => .bad
    | none => .bad else .bad

def nonM : Em → Bool
  | .c .non => true
  | _ => false
def part (s : Sto) (o : Option (Option Int)) (f : Option Int → Rs D) : Rs D := match o with
  | some l => f l
  | none => .bad
section
variable (T : Tb)
noncomputable def ev : Em → Sl → Sto → Rs D
  | .var i, e, s => match e[i]? with
    | some (some d) => .ok d s
    | _ => .bad
  | .c d, _, s => .ok d s
  | .gl x, _, s => match T.c x with
    | some d => .ok d s
    | none => .bad
  | .nil, _, s => .ok (.tup []) s
  | .cons a b, e, s => (ev a e s).bind fun d s1 => (ev b e s1).bind fun ds s2 => .ok (.tup (d :: tupOf ds)) s2
  | .tup a, e, s => (ev a e s).bind fun d s1 => if (tupOf d).length ≤ sizeLine then .ok (.tup (tupOf d)) s1 else .bad
  | .lst mt a, e, s => (ev a e s).bind fun d s1 => if (tupOf d).length ≤ sizeLine then newL mt (tupOf d) s1 else .bad
  | .bin o a b, e, s => (ev a e s).bind fun x s1 => (ev b e s1).bind fun y s2 => binR o s2 x y
  | .neg a, e, s => (ev a e s).bind fun x s1 => match x with
    | .int i => .ok (.int (-i)) s1
    | _ => .bad
  | .cmp o a b, e, s => (ev a e s).bind fun x s1 => (ev b e s1).bind fun y s2 => cmpR o s2 x y
  | .chain o o' a b c, e, s => (ev a e s).bind fun x s1 => (ev b e s1).bind fun y s2 => Tst (cmpR o s2 x y) fun k s3 => if k then (ev c e s3).bind fun z s4 => cmpR o' s4 y z else .ok (.bl false) s3
  | .and a b, e, s => Tst (ev a e s) fun k s1 => if k then ev b e s1 else .ok (.bl false) s1
  | .or a b, e, s => Tst (ev a e s) fun k s1 => if k then .ok (.bl true) s1 else ev b e s1
  | .not a, e, s => Tst (ev a e s) fun k s1 => .ok (.bl (!k)) s1
  | .ite c a b, e, s => Tst (ev c e s) fun k s1 => if k then ev a e s1 else ev b e s1
  | .ix a b, e, s => (ev a e s).bind fun x s1 => (ev b e s1).bind fun y s2 => ixR s2 x y
  | .sl a lo hi, e, s => (ev a e s).bind fun x s1 => (ev lo e s1).bind fun l s2 => part s2 (partF (nonM lo) l) fun l => (ev hi e s2).bind fun h s3 => part s3 (partF (nonM hi) h) fun h => slR s3 x l h
  | .rev a, e, s => (ev a e s).bind fun x s1 => revR s1 x
  | .call f a, e, s => (ev a e s).bind fun d s1 => T.f f (tupOf d) s1
  | .bi f a, e, s => (ev a e s).bind fun d s1 => biR f s1 (tupOf d)
  | .me f o a, e, s => (ev o e s).bind fun x s1 => if recvR f s1 x then (ev a e s1).bind fun d s2 => meR f s2 x (tupOf d) else .bad
  | .lset a, e, s => (ev a e s).bind fun x s1 => lsetR s1 x
  | .isi n a, e, s => (ev a e s).bind fun x s1 => isiR n s1 x
  | .it k a, e, s => match k with
    | .plain => (ev a e s).bind fun d s1 => .ok (.tup [d]) s1
    | _ => ev a e s
  | .comp mt own t it k c elt, e, s => (ev it e s).bind fun src s1 => match itemsOf k s1 src with
    | some all => (compL k src all t (wipeD e (own.map (·.2))) (fun e' s' => ev c e' s') (fun e' s' => ev elt e' s') all [] s1).bind fun ds s2 => newL mt ds s2
    | none => .bad
end

def Ou.of {α : Type} (e : Sl) (r : Rs α) (f : α → Sto → Ou) : Ou := match r with
  | .ok a s => f a s
  | .ex x p s => .ex e x p s
  | .bad => .bad
@[simp] theorem of_ok {α : Type} (e : Sl) (a : α) (s : Sto) (f : α → Sto → Ou) : Ou.of e (Rs.ok a s) f = f a s := rfl
@[simp] theorem of_ex {α : Type} (e : Sl) (x : Str) (p : D) (s : Sto) (f : α → Sto → Ou) : Ou.of e (Rs.ex x p s : Rs α) f = .ex e x p s := rfl
@[simp] theorem of_bad {α : Type} (e : Sl) (f : α → Sto → Ou) : Ou.of e (Rs.bad : Rs α) f = .bad := rfl
/-- targets of an assignment -/
inductive Tg where | nm (i : Nat) | sub (a b : Em) | nil | cons (t ts : Tg)

inductive Sm where
  | nil | seq (a b : Sm)
  | asg (t : Tg) (e : Em)
  | par (i j : Nat) (a b : Em)
  | ex (e : Em) | ret (e : Em) | retN | pass
  | ite (c : Em) (a b : Sm)
  | for_ (t : Tc) (it : Em) (k : Ik) (b : Sm)
  | while_ (c : Em) (b : Sm)

def setR (s : Sto) (o i d : D) : Option Sto := match o, i with
  | .ref n, .int j => match s[n]? with
    | some (.lst ds) => (L2.ixN ds.length j).map fun k => putAt s n (.lst (ds.set k d))
    | _ => none
  | _, _ => none
/-- as many values as targets -/
def fitsT : Tg → D → Bool
  | .nm _, _ => true
  | .sub _ _, _ => true
  | .nil, .tup [] => true
  | .cons t ts, .tup (d :: ds) => fitsT t d && fitsT ts (.tup ds)
  | _, _ => false
def Ou.step (r : Ou) (f : Sl → Sto → Ou) : Ou := match r with
  | .nx e s => f e s
  | .ex e x p s => .ex e x p s
  | _ => .bad
/-- a store to a target: the slots and the store behind it -/
noncomputable def asgT (T : Tb) : Tg → D → Sl → Sto → Ou
  | .nm i, d, e, s => .nx (e.set i (some d)) s
  | .sub a b, d, e, s => Ou.of e (ev T a e s) fun o s1 => Ou.of e (ev T b e s1) fun i s2 => match setR s2 o i d with
    | some s3 => .nx e s3
    | none => .bad
  | .nil, .tup [], e, s => .nx e s
  | .cons t ts, .tup (d :: ds), e, s => (asgT T t d e s).step fun e' s' => asgT T ts (.tup ds) e' s'
  | _, _, _, _ => .bad
/-- behind a turn -/
def Ou.turn (r : Ou) (f : Sl → Sto → Ou) : Ou := match r with
  | .nx e s => f e s
  | .ct e s => f e s
  | .bk e s => .nx e s
  | r => r
def Ou.next (r : Ou) (f : Sl → Sto → Ou) : Ou := match r with
  | .nx e s => f e s
  | r => r
/-- a for's turns -/
noncomputable def forL (k : Ik) (src : D) (all : List D) (t : Tc) (b : Sl → Sto → Ou) : List D → Sl → Sto → Ou
  | [], e, s => open Classical in if itemsOf k s src = some all then .nx e s else .bad
  | d :: ds, e, s => open Classical in if itemsOf k s src = some all then match asgC t d e with
    | some e' => (b e' s).turn fun e2 s2 => forL k src all t b ds e2 s2
    | none => .bad else .bad
/-- behind a while's test, behind its body -/
def wtst (e : Sl) (r : Rs D) (f : Sto → Option Ou) : Option Ou := match r with
  | .ok (.bl true) s1 => f s1
  | .ok (.bl false) s1 => some (.nx e s1)
  | .ex x p s1 => some (.ex e x p s1)
  | _ => some .bad
def wturn (r : Ou) (f : Sl → Sto → Option Ou) : Option Ou := match r with
  | .nx e2 s2 => f e2 s2
  | .ct e2 s2 => f e2 s2
  | .bk e2 s2 => some (.nx e2 s2)
  | r => some r
/-- a while of at most n turns -/
def whileN (c : Sl → Sto → Rs D) (b : Sl → Sto → Ou) : Nat → Sl → Sto → Option Ou
  | 0, _, _ => none
  | n + 1, e, s => wtst e (c e s) fun s1 => wturn (b e s1) (whileN c b n)
open Classical in
noncomputable def whileS (c : Sl → Sto → Rs D) (b : Sl → Sto → Ou) (e : Sl) (s : Sto) : Ou :=
  if h : ∃ n r, whileN c b n e s = some r then (Classical.choose (Classical.choose_spec h)) else .bad
noncomputable def ex (T : Tb) : Sm → Sl → Sto → Ou
  | .nil, e, s => .nx e s
  | .pass, e, s => .nx e s
  | .seq a b, e, s => (ex T a e s).next fun e1 s1 => ex T b e1 s1
  | .asg t x, e, s => Ou.of e (ev T x e s) fun d s1 => if fitsT t d then asgT T t d e s1 else .bad
  | .par i j a b, e, s => Ou.of e (ev T a e s) fun x s1 => Ou.of e (ev T b e s1) fun y s2 => .nx ((e.set i (some x)).set j (some y)) s2
  | .ex x, e, s => Ou.of e (ev T x e s) fun _ s1 => .nx e s1
  | .ret x, e, s => Ou.of e (ev T x e s) fun d s1 => .rt d s1
  | .retN, _, s => .rt .non s
  | .ite c a b, e, s => Ou.of e (ev T c e s) fun d s1 => match d with
    | .bl k => if k then ex T a e s1 else ex T b e s1
    | _ => .bad
  | .for_ t it k b, e, s => Ou.of e (ev T it e s) fun src s1 => match itemsOf k s1 src with
    | some all => forL k src all t (fun e' s' => ex T b e' s') all e s1
    | none => .bad
  | .while_ c b, e, s => whileS (fun e' s' => ev T c e' s') (fun e' s' => ex T b e' s') e s
end Py
/-! How data lie in the abstract heap. -/
namespace Py
open PySem PySem.Spec PyProof.Rows L2

/-- m: where the store's objects stand; b: what is being made and not yet handed out -/
structure Wd where
  m : List Addr
  b : List Addr
/-- not to be written by anybody else -/
def Wd.out (w : Wd) (a : Addr) : Prop := a ∉ w.m ∧ a ∉ w.b

def TupAt (K : PySem.W.Frag) (w : Wd) (H : Hp) (a : Addr) (vs : List V) : Prop :=
  (Rd H a (.tup vs) ∧ w.out a) ∨
    ∃ (o : Obj) (its : Array Value) (n : Nat), K.lookup a = some o ∧ o.cls = .type "tuple" ∧ o.data = .seq its n ∧ its.size ≤ sizeLine ∧ Vals vs its.toList
def FroAt (K : PySem.W.Frag) (w : Wd) (H : Hp) (a : Addr) (vs : List V) : Prop :=
  (Rd H a (.lst vs) ∧ w.out a) ∨
    ∃ (o : Obj) (its : Array Value) (n : Nat), K.lookup a = some o ∧ o.cls = .type "list" ∧ o.dict = none ∧ o.data = .seq its n ∧ its.size ≤ sizeLine ∧ Vals vs its.toList
mutual
inductive Rep (K : PySem.W.Frag) (w : Wd) (H : Hp) : V → D → Prop
  | non : Rep K w H .non .non
  | bl (b : Bool) : Rep K w H (.bl b) (.bl b)
  | int (i : Int) : Rep K w H (.int i) (.int i)
  | str (x : Str) : Rep K w H (.str x) (.str x)
  | ty (n : String) : Rep K w H (.ty n) (.ty n)
  | tup {a : Addr} {vs : List V} {ds : List D} : TupAt K w H a vs → RepL K w H vs ds → Rep K w H (.ref a) (.tup ds)
  | lst {a : Addr} {vs : List V} {ds : List D} : H a = some (.lst vs) → w.out a → RepL K w H vs ds → Rep K w H (.ref a) (.lst ds)
  | fro {a : Addr} {vs : List V} {ds : List D} : FroAt K w H a vs → RepL K w H vs ds → Rep K w H (.ref a) (.fro ds)
  | ref {n : Nat} {a : Addr} : w.m[n]? = some a → Rep K w H (.ref a) (.ref n)
inductive RepL (K : PySem.W.Frag) (w : Wd) (H : Hp) : List V → List D → Prop
  | nil : RepL K w H [] []
  | cons {v : V} {vs : List V} {d : D} {ds : List D} : Rep K w H v d → RepL K w H vs ds → RepL K w H (v :: vs) (d :: ds)
end

/-- what was handed out stands as it stood -/
structure Kq (w : Wd) (H : Hp) (w' : Wd) (H' : Hp) : Prop where
  pre : w.m <+: w'.m
  b : ∀ a o, H a = some o → a ∉ w.b → a ∉ w'.b
  keep : ∀ a o, H a = some o → w.out a → H' a = some o
  new : ∀ a, a ∈ w'.m → a ∉ w.m → w.out a → H a = none
structure Kp (w : Wd) (H : Hp) (w' : Wd) (H' : Hp) : Prop where
  pre : w.m <+: w'.m
  b : w'.b = w.b
  keep : ∀ a o, H a = some o → a ∉ w.m → H' a = some o
  new : ∀ a, a ∈ w'.m → a ∉ w.m → H a = none
theorem Kp.q {w w' : Wd} {H H' : Hp} (k : Kp w H w' H') : Kq w H w' H' :=
  ⟨k.pre, fun _ _ _ n => by rw [k.b]; exact n, fun a o h n => k.keep a o h n.1, fun a h n _ => k.new a h n⟩
theorem Kp.refl (w : Wd) (H : Hp) : Kp w H w H := ⟨List.prefix_refl _, rfl, fun _ _ h _ => h, fun _ h n => (n h).elim⟩
theorem Kp.sub {w w' : Wd} {H H' : Hp} (k : Kp w H w' H') {a : Addr} (h : a ∈ w.m) : a ∈ w'.m := k.pre.subset h
theorem Kp.outm {w w' : Wd} {H H' : Hp} (k : Kp w H w' H') {a : Addr} {o : HO} (h : H a = some o) (n : a ∉ w.m) : a ∉ w'.m := fun z => by
  have e := k.new a z n
  rw [h] at e; cases e
theorem Kp.trans {w w1 w2 : Wd} {H H1 H2 : Hp} (k : Kp w H w1 H1) (l : Kp w1 H1 w2 H2) : Kp w H w2 H2 where
  pre := k.pre.trans l.pre
  b := l.b.trans k.b
  keep := fun a o h n => l.keep a o (k.keep a o h n) (k.outm h n)
  new := fun a h n => by
    by_cases h1 : a ∈ w1.m
    · exact k.new a h1 n
    · have e := l.new a h h1
      cases q : H a with
      | none => rfl
      | some o => rw [k.keep a o q n] at e; cases e
theorem Kq.out {w w' : Wd} {H H' : Hp} (k : Kq w H w' H') {a : Addr} {o : HO} (h : H a = some o) (n : w.out a) : w'.out a := by
  refine ⟨fun z => ?_, k.b a o h n.2⟩
  have e := k.new a z n.1 n
  rw [h] at e
  cases e
theorem Rd.some {H : Hp} {a : Addr} {u : HO} (h : Rd H a u) : ∃ o, H a = some o := by
  rcases h with h | ⟨o, h⟩
  · exact ⟨_, h⟩
  · exact ⟨_, h⟩
theorem Kq.tup {K : PySem.W.Frag} {w w' : Wd} {H H' : Hp} (k : Kq w H w' H') {a : Addr} {vs : List V} (h : TupAt K w H a vs) : TupAt K w' H' a vs := by
  rcases h with ⟨h, n⟩ | h
  · left
    rcases h with h | ⟨o, h⟩
    · exact ⟨Or.inl (k.keep _ _ h n), k.out h n⟩
    · exact ⟨Or.inr ⟨o, k.keep _ _ h n⟩, k.out h n⟩
  · exact Or.inr h
theorem Kq.fro {K : PySem.W.Frag} {w w' : Wd} {H H' : Hp} (k : Kq w H w' H') {a : Addr} {vs : List V} (h : FroAt K w H a vs) : FroAt K w' H' a vs := by
  rcases h with ⟨h, n⟩ | h
  · left
    rcases h with h | ⟨o, h⟩
    · exact ⟨Or.inl (k.keep _ _ h n), k.out h n⟩
    · exact ⟨Or.inr ⟨o, k.keep _ _ h n⟩, k.out h n⟩
  · exact Or.inr h
theorem Kq.at {w w' : Wd} {H H' : Hp} (k : Kq w H w' H') {n : Nat} {a : Addr} (h : w.m[n]? = some a) : w'.m[n]? = some a := by
  obtain ⟨r, e⟩ := k.pre
  rw [← e]
  have hn : n < w.m.length := (List.getElem?_eq_some_iff.mp h).1
  rw [List.getElem?_append_left hn]
  exact h
mutual
theorem Rep.monoQ {K : PySem.W.Frag} {w w' : Wd} {H H' : Hp} (k : Kq w H w' H') : ∀ {v : V} {d : D}, Rep K w H v d → Rep K w' H' v d
  | _, _, .non => .non
  | _, _, .bl b => .bl b
  | _, _, .int i => .int i
  | _, _, .str x => .str x
  | _, _, .ty n => .ty n
  | _, _, .tup h r => .tup (k.tup h) (RepL.monoQ k r)
  | _, _, .lst h n r => .lst (k.keep _ _ h n) (k.out h n) (RepL.monoQ k r)
  | _, _, .fro h r => .fro (k.fro h) (RepL.monoQ k r)
  | _, _, .ref h => .ref (k.at h)
theorem RepL.monoQ {K : PySem.W.Frag} {w w' : Wd} {H H' : Hp} (k : Kq w H w' H') : ∀ {vs : List V} {ds : List D}, RepL K w H vs ds → RepL K w' H' vs ds
  | _, _, .nil => .nil
  | _, _, .cons h r => .cons (Rep.monoQ k h) (RepL.monoQ k r)
end
theorem Rep.mono {K : PySem.W.Frag} {w w' : Wd} {H H' : Hp} (k : Kp w H w' H') {v : V} {d : D} (h : Rep K w H v d) : Rep K w' H' v d := h.monoQ k.q
theorem RepL.mono {K : PySem.W.Frag} {w w' : Wd} {H H' : Hp} (k : Kp w H w' H') {vs : List V} {ds : List D} (h : RepL K w H vs ds) : RepL K w' H' vs ds := h.monoQ k.q
/-- what is being made is written -/
theorem Wd.ne {w : Wd} {a p : Addr} (n : w.out a) (hp : p ∈ w.b) : a ≠ p := fun z => n.2 (z ▸ hp)
mutual
theorem Rep.own {K : PySem.W.Frag} {w : Wd} {H : Hp} {p : Addr} {o : HO} (hp : p ∈ w.b) : ∀ {v : V} {d : D}, Rep K w H v d → Rep K w (upd H p o) v d
  | _, _, .non => .non
  | _, _, .bl b => .bl b
  | _, _, .int i => .int i
  | _, _, .str x => .str x
  | _, _, .ty n => .ty n
  | _, _, .tup h r => .tup (by
    rcases h with ⟨h, n⟩ | h
    · left
      have e : upd H p o _ = H _ := upd_ne (Wd.ne n hp)
      refine ⟨?_, n⟩
      rcases h with h | ⟨q, h⟩
      · exact Or.inl (e.trans h)
      · exact Or.inr ⟨q, e.trans h⟩
    · exact Or.inr h) (RepL.own hp r)
  | _, _, .lst h n r => .lst ((upd_ne (Wd.ne n hp)).trans h) n (RepL.own hp r)
  | _, _, .fro h r => .fro (by
    rcases h with ⟨h, n⟩ | h
    · left
      have e : upd H p o _ = H _ := upd_ne (Wd.ne n hp)
      refine ⟨?_, n⟩
      rcases h with h | ⟨q, h⟩
      · exact Or.inl (e.trans h)
      · exact Or.inr ⟨q, e.trans h⟩
    · exact Or.inr h) (RepL.own hp r)
  | _, _, .ref h => .ref h
theorem RepL.own {K : PySem.W.Frag} {w : Wd} {H : Hp} {p : Addr} {o : HO} (hp : p ∈ w.b) : ∀ {vs : List V} {ds : List D}, RepL K w H vs ds → RepL K w (upd H p o) vs ds
  | _, _, .nil => .nil
  | _, _, .cons h r => .cons (Rep.own hp h) (RepL.own hp r)
end
section
variable {K : PySem.W.Frag} {w : Wd} {H : Hp}
theorem RepL.length : ∀ {vs : List V} {ds : List D}, RepL K w H vs ds → vs.length = ds.length
  | _, _, .nil => rfl
  | _, _, .cons _ r => by simp [RepL.length r]
theorem RepL.app : ∀ {vs us : List V} {ds es : List D}, RepL K w H vs ds → RepL K w H us es → RepL K w H (vs ++ us) (ds ++ es)
  | _, _, _, _, .nil, s => s
  | _, _, _, _, .cons h r, s => .cons h (RepL.app r s)
theorem RepL.at : ∀ {vs : List V} {ds : List D} {i : Nat} {d : D}, RepL K w H vs ds → ds[i]? = some d → ∃ v, vs[i]? = some v ∧ Rep K w H v d
  | _, _, _, _, .nil, e => by simp at e
  | _, _, 0, _, .cons h _, e => by simp at e; subst e; exact ⟨_, rfl, h⟩
  | _, _, i + 1, _, .cons _ r, e => by
    obtain ⟨v, h1, h2⟩ := RepL.at r (i := i) (by simpa using e)
    exact ⟨v, by simpa using h1, h2⟩
theorem RepL.at' : ∀ {vs : List V} {ds : List D} {i : Nat} {v : V}, RepL K w H vs ds → vs[i]? = some v → ∃ d, ds[i]? = some d ∧ Rep K w H v d
  | _, _, _, _, .nil, e => by simp at e
  | _, _, 0, _, .cons h _, e => by simp at e; subst e; exact ⟨_, rfl, h⟩
  | _, _, i + 1, _, .cons _ r, e => by
    obtain ⟨v, h1, h2⟩ := RepL.at' r (i := i) (by simpa using e)
    exact ⟨v, by simpa using h1, h2⟩
theorem RepL.set : ∀ {vs : List V} {ds : List D} {v : V} {d : D} (i : Nat), RepL K w H vs ds → Rep K w H v d → RepL K w H (vs.set i v) (ds.set i d)
  | _, _, _, _, _, .nil, _ => .nil
  | _, _, _, _, 0, .cons _ r, x => .cons x r
  | _, _, _, _, i + 1, .cons h r, x => .cons h (RepL.set i r x)
theorem RepL.take : ∀ {vs : List V} {ds : List D} (n : Nat), RepL K w H vs ds → RepL K w H (vs.take n) (ds.take n)
  | _, _, 0, _ => .nil
  | _, _, _ + 1, .nil => .nil
  | _, _, n + 1, .cons h r => .cons h (RepL.take n r)
theorem RepL.drop : ∀ {vs : List V} {ds : List D} (n : Nat), RepL K w H vs ds → RepL K w H (vs.drop n) (ds.drop n)
  | _, _, 0, r => r
  | _, _, _ + 1, .nil => .nil
  | _, _, n + 1, .cons _ r => RepL.drop n r
theorem RepL.one {v : V} {d : D} (h : Rep K w H v d) : RepL K w H [v] [d] := .cons h .nil
theorem RepL.rev : ∀ {vs : List V} {ds : List D}, RepL K w H vs ds → RepL K w H vs.reverse ds.reverse
  | _, _, .nil => .nil
  | _, _, .cons h r => by
    simp only [List.reverse_cons]
    exact (RepL.rev r).app (.one h)
end

def RepO (K : PySem.W.Frag) (w : Wd) (H : Hp) : HO → Ob → Prop
  | .lst vs, .lst ds => RepL K w H vs ds
  | .dK kvs, .dK kds => kvs.map (·.1) = kds.map (·.1) ∧ RepL K w H (kvs.map (·.2)) (kds.map (·.2))
  | .dT kvs, .dT kds => kvs.map (·.1) = kds.map (·.1) ∧ RepL K w H (kvs.map (·.2)) (kds.map (·.2))
  | _, _ => False
theorem RepO.monoQ {K : PySem.W.Frag} {w w' : Wd} {H H' : Hp} (k : Kq w H w' H') {ho : HO} {o : Ob} (h : RepO K w H ho o) : RepO K w' H' ho o := by
  cases o <;> cases ho <;> simp only [RepO] at h ⊢
  · exact h.monoQ k
  · exact ⟨h.1, h.2.monoQ k⟩
  · exact ⟨h.1, h.2.monoQ k⟩
theorem RepO.mono {K : PySem.W.Frag} {w w' : Wd} {H H' : Hp} (k : Kp w H w' H') {ho : HO} {o : Ob} (h : RepO K w H ho o) : RepO K w' H' ho o := h.monoQ k.q
theorem RepO.own {K : PySem.W.Frag} {w : Wd} {H : Hp} {p : Addr} {u : HO} (hp : p ∈ w.b) {ho : HO} {o : Ob} (h : RepO K w H ho o) : RepO K w (upd H p u) ho o := by
  cases o <;> cases ho <;> simp only [RepO] at h ⊢
  · exact h.own hp
  · exact ⟨h.1, h.2.own hp⟩
  · exact ⟨h.1, h.2.own hp⟩

structure HR (K : PySem.W.Frag) (w : Wd) (H : Hp) (s : Sto) : Prop where
  len : w.m.length = s.length
  nd : w.m.Nodup
  obj : ∀ (n : Nat) (a : Addr) (o : Ob), w.m[n]? = some a → s[n]? = some o → ∃ ho, H a = some ho ∧ RepO K w H ho o
  nb : ∀ a ∈ w.b, a ∉ w.m
  bt : ∀ a ∈ w.b, ∃ o, H a = some o
theorem HR.tracked {K : PySem.W.Frag} {w : Wd} {H : Hp} {s : Sto} (h : HR K w H s) {a : Addr} (ha : a ∈ w.m) : ∃ o, H a = some o := by
  obtain ⟨n, hn, e⟩ := List.mem_iff_getElem.mp ha
  have h1 : w.m[n]? = some a := by rw [List.getElem?_eq_getElem hn, e]
  have h2 : n < s.length := by rw [← h.len]; exact hn
  obtain ⟨ho, q, _⟩ := h.obj n a s[n] h1 (List.getElem?_eq_getElem h2)
  exact ⟨ho, q⟩
theorem HR.fresh {K : PySem.W.Frag} {w : Wd} {H : Hp} {s : Sto} (h : HR K w H s) {p : Addr} (hp : H p = none) : w.out p := by
  refine ⟨fun z => ?_, fun z => ?_⟩
  · obtain ⟨o, e⟩ := h.tracked z; rw [hp] at e; cases e
  · obtain ⟨o, e⟩ := h.bt p z; rw [hp] at e; cases e
/-- a new object that nobody of the store knows -/
theorem kp_new {w : Wd} {H : Hp} {p : Addr} {o : HO} (hp : H p = none) : Kp w H w (upd H p o) where
  pre := List.prefix_refl _
  b := rfl
  keep := fun a u h _ => by rw [upd_ne (ne_of_none h hp)]; exact h
  new := fun _ h n => (n h).elim
theorem HR.mono {K : PySem.W.Frag} {w : Wd} {H H' : Hp} {s : Sto} (h : HR K w H s) (k : Kp w H w H') (hm : ∀ a ∈ w.m, H' a = H a) : HR K w H' s where
  len := h.len
  nd := h.nd
  obj := fun n a o e1 e2 => by
    obtain ⟨ho, q, r⟩ := h.obj n a o e1 e2
    exact ⟨ho, (hm a (List.mem_of_getElem? e1)).trans q, r.mono k⟩
  nb := h.nb
  bt := fun a ha => by
    obtain ⟨o, e⟩ := h.bt a ha
    exact ⟨o, k.keep a o e (h.nb a ha)⟩
theorem HR.new {K : PySem.W.Frag} {w : Wd} {H : Hp} {s : Sto} (h : HR K w H s) {p : Addr} {o : HO} (hp : H p = none) : HR K w (upd H p o) s :=
  h.mono (kp_new hp) fun a ha => by
    obtain ⟨u, e⟩ := h.tracked ha
    exact upd_ne (ne_of_none e hp)
/-- a new object, taken into the store -/
theorem HR.push {K : PySem.W.Frag} {w : Wd} {H : Hp} {s : Sto} (h : HR K w H s) {p : Addr} {ho : HO} {o : Ob} (hp : H p = none) (r : RepO K w H ho o) :
    Kp w H ⟨w.m ++ [p], w.b⟩ (upd H p ho) ∧ HR K ⟨w.m ++ [p], w.b⟩ (upd H p ho) (s ++ [o]) := by
  have np := h.fresh hp
  have k : Kp w H ⟨w.m ++ [p], w.b⟩ (upd H p ho) := ⟨List.prefix_append _ _, rfl, fun a u e _ => by rw [upd_ne (ne_of_none e hp)]; exact e, fun a e n => by
    rcases List.mem_append.mp e with z | z
    · exact (n z).elim
    · have : a = p := by simpa using z
      rw [this]; exact hp⟩
  refine ⟨k, by simp [h.len], ?_, fun n a u e1 e2 => ?_, fun a ha z => ?_, fun a ha => ?_⟩
  · refine List.nodup_append.mpr ⟨h.nd, by simp, fun a ha b hb => ?_⟩
    have : b = p := by simpa using hb
    subst this
    exact fun z => np.1 (z ▸ ha)
  · by_cases hn : n < w.m.length
    · have e1' : w.m[n]? = some a := by
        have := e1; simp only at this; rw [List.getElem?_append_left hn] at this; exact this
      rw [List.getElem?_append_left (by rw [← h.len]; exact hn)] at e2
      obtain ⟨v, q, r⟩ := h.obj n a u e1' e2
      exact ⟨v, by rw [upd_ne (ne_of_none q hp)]; exact q, r.mono k⟩
    · have hl := (List.getElem?_eq_some_iff.mp e1).1
      simp at hl
      have hn' : n = w.m.length := by omega
      subst hn'
      simp at e1
      subst e1
      rw [h.len] at e2
      simp at e2
      subst e2
      exact ⟨ho, upd_same, r.mono k⟩
  · rcases List.mem_append.mp z with z | z
    · exact h.nb a ha z
    · have : a = p := by simpa using z
      subst this
      exact np.2 ha
  · obtain ⟨u, e⟩ := h.bt a ha
    exact ⟨u, by rw [upd_ne (ne_of_none e hp)]; exact e⟩
/-- an object of the store is written -/
theorem HR.put {K : PySem.W.Frag} {w : Wd} {H : Hp} {s : Sto} (h : HR K w H s) {n : Nat} {a : Addr} {ho : HO} {o : Ob} (hn : w.m[n]? = some a) (r : RepO K w H ho o) :
    Kp w H w (upd H a ho) ∧ HR K w (upd H a ho) (putAt s n o) := by
  have ha : a ∈ w.m := List.mem_of_getElem? hn
  have k : Kp w H w (upd H a ho) := ⟨List.prefix_refl _, rfl, fun c u e z => by rw [upd_ne (fun (q : c = a) => z (q ▸ ha))]; exact e, fun _ e z => (z e).elim⟩
  refine ⟨k, by simp [h.len, putAt], h.nd, fun m c u e1 e2 => ?_, h.nb, fun c hc => ?_⟩
  · by_cases hm : m = n
    · subst hm
      rw [hn] at e1; cases e1
      have hlt : m < s.length := by rw [← h.len]; exact (List.getElem?_eq_some_iff.mp hn).1
      unfold putAt at e2
      rw [List.getElem?_set_self hlt] at e2
      cases e2
      exact ⟨ho, upd_same, r.mono k⟩
    · unfold putAt at e2
      rw [List.getElem?_set_ne (Ne.symm hm)] at e2
      obtain ⟨v, q, r'⟩ := h.obj m c u e1 e2
      refine ⟨v, ?_, r'.mono k⟩
      rw [upd_ne]
      · exact q
      · intro z
        subst z
        exact hm (nd_ix h.nd e1 hn)
  · obtain ⟨u, e⟩ := h.bt c hc
    exact ⟨u, by rw [upd_ne (fun (q : c = a) => h.nb c hc (q ▸ ha))]; exact e⟩

/-- what is being made: begun, written, handed out, taken into the store -/
theorem HR.hide {K : PySem.W.Frag} {w : Wd} {H : Hp} {s : Sto} (h : HR K w H s) {p : Addr} {o : HO} (hp : H p = none) : Kq w H ⟨w.m, p :: w.b⟩ (upd H p o) ∧ HR K ⟨w.m, p :: w.b⟩ (upd H p o) s := by
  have np := h.fresh hp
  have k : Kq w H ⟨w.m, p :: w.b⟩ (upd H p o) := ⟨List.prefix_refl _, fun a u e n z => by
    rcases List.mem_cons.mp z with z | z
    · subst z; rw [hp] at e; cases e
    · exact n z, fun a u e _ => by rw [upd_ne (ne_of_none e hp)]; exact e, fun _ z n _ => (n z).elim⟩
  refine ⟨k, h.len, h.nd, fun n a u e1 e2 => ?_, fun a ha z => ?_, fun a ha => ?_⟩
  · obtain ⟨ho, q, r⟩ := h.obj n a u e1 e2
    exact ⟨ho, by rw [upd_ne (ne_of_none q hp)]; exact q, r.monoQ k⟩
  · rcases List.mem_cons.mp ha with q | q
    · subst q; exact np.1 z
    · exact h.nb a q z
  · rcases List.mem_cons.mp ha with q | q
    · subst q; exact ⟨o, upd_same⟩
    · obtain ⟨u, e⟩ := h.bt a q
      exact ⟨u, by rw [upd_ne (ne_of_none e hp)]; exact e⟩
theorem HR.own {K : PySem.W.Frag} {w : Wd} {H : Hp} {s : Sto} (h : HR K w H s) {p : Addr} {o : HO} (hp : p ∈ w.b) : HR K w (upd H p o) s := by
  refine ⟨h.len, h.nd, fun n a u e1 e2 => ?_, h.nb, fun a ha => ?_⟩
  · obtain ⟨ho, q, r⟩ := h.obj n a u e1 e2
    refine ⟨ho, ?_, r.own hp⟩
    rw [upd_ne]
    · exact q
    · intro z; subst z; exact h.nb a hp (List.mem_of_getElem? e1)
  · by_cases z : a = p
    · subst z; exact ⟨o, upd_same⟩
    · obtain ⟨u, e⟩ := h.bt a ha
      exact ⟨u, by rw [upd_ne z]; exact e⟩
theorem HR.show {K : PySem.W.Frag} {m b : List Addr} {p : Addr} {H : Hp} {s : Sto} (h : HR K ⟨m, p :: b⟩ H s) : Kq ⟨m, p :: b⟩ H ⟨m, b⟩ H ∧ HR K ⟨m, b⟩ H s := by
  have k : Kq ⟨m, p :: b⟩ H ⟨m, b⟩ H := ⟨List.prefix_refl _, fun a _ _ n z => n (List.mem_cons_of_mem _ z), fun _ _ e _ => e, fun _ z n _ => (n z).elim⟩
  refine ⟨k, h.len, h.nd, fun n a u e1 e2 => ?_, fun a ha => h.nb a (List.mem_cons_of_mem _ ha), fun a ha => h.bt a (List.mem_cons_of_mem _ ha)⟩
  obtain ⟨ho, q, r⟩ := h.obj n a u e1 e2
  exact ⟨ho, q, r.monoQ k⟩
theorem HR.take {K : PySem.W.Frag} {m b : List Addr} {p : Addr} {H : Hp} {s : Sto} (h : HR K ⟨m, p :: b⟩ H s) {ho : HO} {o : Ob} (hb : p ∉ b) (e : H p = some ho) (r : RepO K ⟨m, p :: b⟩ H ho o) :
    Kq ⟨m, p :: b⟩ H ⟨m ++ [p], b⟩ H ∧ HR K ⟨m ++ [p], b⟩ H (s ++ [o]) := by
  have np : p ∉ m := h.nb p List.mem_cons_self
  have k : Kq ⟨m, p :: b⟩ H ⟨m ++ [p], b⟩ H := ⟨List.prefix_append _ _, fun a _ _ n z => n (List.mem_cons_of_mem _ z), fun _ _ e _ => e, fun a z n q => by
    rcases List.mem_append.mp z with z | z
    · exact (n z).elim
    · have z : a = p := by simpa using z
      subst z
      exact (q.2 List.mem_cons_self).elim⟩
  refine ⟨k, by simp [h.len], ?_, fun n a u e1 e2 => ?_, fun a ha z => ?_, fun a ha => h.bt a (List.mem_cons_of_mem _ ha)⟩
  · refine List.nodup_append.mpr ⟨h.nd, by simp, fun a ha c hc => ?_⟩
    have : c = p := by simpa using hc
    subst this
    exact fun z => np (z ▸ ha)
  · have hl : m.length = s.length := h.len
    by_cases hn : n < m.length
    · have e1' : m[n]? = some a := by
        have := e1; simp only at this; rw [List.getElem?_append_left hn] at this; exact this
      rw [List.getElem?_append_left (by omega)] at e2
      obtain ⟨v, q, r⟩ := h.obj n a u e1' e2
      exact ⟨v, q, r.monoQ k⟩
    · have hl' := (List.getElem?_eq_some_iff.mp e1).1
      simp at hl'
      have hn' : n = m.length := by omega
      subst hn'
      simp at e1
      subst e1
      rw [hl] at e2
      simp at e2
      subst e2
      exact ⟨ho, e, r.monoQ k⟩
  · rcases List.mem_append.mp z with z | z
    · exact h.nb a (List.mem_cons_of_mem _ ha) z
    · have : a = p := by simpa using z
      subst this
      exact hb ha

/-- the slots -/
structure RE (K : PySem.W.Frag) (w : Wd) (H : Hp) (σ : L2.St) (e : Sl) : Prop where
  len : σ.length = e.length
  at_ : ∀ (i : Nat) (d : D), e[i]? = some (some d) → ∃ v, σ[i]? = some (some v) ∧ Rep K w H v d
theorem RE.monoQ {K : PySem.W.Frag} {w w' : Wd} {H H' : Hp} {σ : L2.St} {e : Sl} (h : RE K w H σ e) (k : Kq w H w' H') : RE K w' H' σ e :=
  ⟨h.len, fun i d q => let ⟨v, a, b⟩ := h.at_ i d q; ⟨v, a, b.monoQ k⟩⟩
theorem RE.mono {K : PySem.W.Frag} {w w' : Wd} {H H' : Hp} {σ : L2.St} {e : Sl} (h : RE K w H σ e) (k : Kp w H w' H') : RE K w' H' σ e := h.monoQ k.q
theorem RE.own {K : PySem.W.Frag} {w : Wd} {H : Hp} {σ : L2.St} {e : Sl} {p : Addr} {o : HO} (h : RE K w H σ e) (hp : p ∈ w.b) : RE K w (upd H p o) σ e :=
  ⟨h.len, fun i d q => let ⟨v, a, b⟩ := h.at_ i d q; ⟨v, a, b.own hp⟩⟩
theorem RE.set {K : PySem.W.Frag} {w : Wd} {H : Hp} {σ : L2.St} {e : Sl} (h : RE K w H σ e) (i : Nat) {v : V} {d : D} (r : Rep K w H v d) : RE K w H (σ.set i (some v)) (e.set i (some d)) := by
  refine ⟨by simp [h.len], fun j x q => ?_⟩
  by_cases hj : j = i
  · subst hj
    have hl : j < e.length := by
      have := (List.getElem?_eq_some_iff.mp q).1
      simpa using this
    rw [List.getElem?_set_self hl] at q
    cases q
    exact ⟨v, by rw [List.getElem?_set_self (by rw [h.len]; exact hl)], r⟩
  · rw [List.getElem?_set_ne (Ne.symm hj)] at q ⊢
    exact h.at_ j x q
theorem RE.clear {K : PySem.W.Frag} {w : Wd} {H : Hp} {σ : L2.St} {e : Sl} (h : RE K w H σ e) (i : Nat) : RE K w H (σ.set i none) (e.set i none) := by
  refine ⟨by simp [h.len], fun j x q => ?_⟩
  by_cases hj : j = i
  · subst hj
    have hl : j < e.length := by
      have := (List.getElem?_eq_some_iff.mp q).1
      simpa using this
    rw [List.getElem?_set_self hl] at q
    cases q
  · rw [List.getElem?_set_ne (Ne.symm hj)] at q ⊢
    exact h.at_ j x q
theorem RE.wipe {K : PySem.W.Frag} {w : Wd} {H : Hp} {σ : L2.St} {e : Sl} (h : RE K w H σ e) : ∀ vs : List Nat, RE K w H (L2.wipe σ vs) (wipeD e vs)
  | [] => h
  | v :: vs => (RE.wipe h vs).clear v

/-! ### what a result asks -/
structure G where
  K : PySem.W.Frag
  cl : Str → Value
  fld : Str → Str
def Pay (g : G) (w : Wd) (H : Hp) (x : Str) (p : D) (dx : Option Addr) : Prop :=
  (p = .non ∧ dx = none) ∨ ∃ (d : Addr) (v : V), dx = some d ∧ d ∉ w.m ∧ H d = some (.xd [(g.fld x, v)]) ∧ Rep g.K w H v p
def con (g : G) (E : XK) (w : Wd) (H : Hp) {α : Type} (r : Rs α) (P : α → Wd → Sto → Hp → Prop) : Prop := match r with
  | .ok d s' => ∀ w' H', Kp w H w' H' → HR g.K w' H' s' → P d w' s' H'
  | .ex x p s' => ∀ w' H' dx, Kp w H w' H' → HR g.K w' H' s' → Pay g w' H' x p dx → E (g.cl x) dx H'
  | .bad => False
section
variable {g : G} {E : XK} {w w' : Wd} {H H' : Hp} {α β : Type}
theorem con.mono {r : Rs α} {P : α → Wd → Sto → Hp → Prop} (h : con g E w H r P) (k : Kp w H w' H') : con g E w' H' r P := by
  cases r with
  | ok d s => exact fun w1 H1 k1 hr => h w1 H1 (k.trans k1) hr
  | ex x p s => exact fun w1 H1 dx k1 hr hp => h w1 H1 dx (k.trans k1) hr hp
  | bad => exact h
theorem con.imp {r : Rs α} {P P' : α → Wd → Sto → Hp → Prop} (h : con g E w H r P) (hp : ∀ d w' s' H', Kp w H w' H' → HR g.K w' H' s' → P d w' s' H' → P' d w' s' H') : con g E w H r P' := by
  cases r with
  | ok d s => exact fun w1 H1 k1 hr => hp _ _ _ _ k1 hr (h w1 H1 k1 hr)
  | ex x p s => exact h
  | bad => exact h
theorem con.bind {r : Rs α} {f : α → Sto → Rs β} {P : β → Wd → Sto → Hp → Prop} (h : con g E w H (r.bind f) P) : con g E w H r fun d w1 s1 H1 => con g E w1 H1 (f d s1) P := by
  cases r with
  | ok d s => exact fun w1 H1 k1 hr => con.mono (r := f d s) h k1
  | ex x p s => exact h
  | bad => exact h
end
abbrev VQ (g : G) (Q : VK) : D → Wd → Sto → Hp → Prop := fun d w' _ H' => ∀ v, Rep g.K w' H' v d → Q v H'
/-- what an expression of that value asks -/
def te (g : G) (E : L2.St → XK) (f : Sl → Sto → Rs D) : TE := fun σ H Q => ∃ w e s, HR g.K w H s ∧ RE g.K w H σ e ∧ con g (E σ) w H (f e s) (VQ g Q)
def tt (g : G) (E : L2.St → XK) (f : Sl → Sto → Rs D) : TT := fun σ H Q => ∃ w e s, HR g.K w H s ∧ RE g.K w H σ e ∧ con g (E σ) w H (f e s) (fun d _ _ H' => ∃ b, d = .bl b ∧ Q b H')
def ta (g : G) (E : L2.St → XK) (f : Sl → Sto → Rs D) : TA := fun σ H Q => ∃ w e s, HR g.K w H s ∧ RE g.K w H σ e ∧ con g (E σ) w H (f e s) (fun d w' _ H' => ∃ ds, d = .tup ds ∧ ∀ vs, RepL g.K w' H' vs ds → Q vs H')
/-- by values -/
def rd2 (g : G) (f : Sto → D → D → Rs D) : R2 := fun x y H Q => ∃ w s a b, HR g.K w H s ∧ Rep g.K w H x a ∧ Rep g.K w H y b ∧ con g (fun _ _ _ => False) w H (f s a b) (VQ g Q)
def rd1 (g : G) (f : Sto → D → Rs D) : V → Hp → VK → Prop := fun x H Q => ∃ w s a, HR g.K w H s ∧ Rep g.K w H x a ∧ con g (fun _ _ _ => False) w H (f s a) (VQ g Q)
def rdC (g : G) (f : Sto → List D → Rs D) : List V → Hp → VK → Prop := fun xs H Q => ∃ w s as, HR g.K w H s ∧ RepL g.K w H xs as ∧ con g (fun _ _ _ => False) w H (f s as) (VQ g Q)
def rdM (g : G) (f : Sto → D → List D → Rs D) : V → List V → Hp → VK → Prop := fun x xs H Q => ∃ w s a as, HR g.K w H s ∧ Rep g.K w H x a ∧ RepL g.K w H xs as ∧ con g (fun _ _ _ => False) w H (f s a as) (VQ g Q)
/-- no refusal -/
def Rs.calm {α : Type} : Rs α → Prop
  | .ex _ _ _ => False
  | _ => True
theorem con.calm {g : G} {E E' : XK} {w : Wd} {H : Hp} {α : Type} {r : Rs α} {P : α → Wd → Sto → Hp → Prop} (h : con g E w H r P) (c : r.calm) : con g E' w H r P := by
  cases r with
  | ok d s => exact h
  | ex x p s => exact c.elim
  | bad => exact h
section
variable {g : G} {E : L2.St → XK} {fa fb : Sl → Sto → Rs D} {σ : L2.St} {H : Hp} {Q : VK}
theorem te_op2 {f : Sto → D → D → Rs D} (hc : ∀ s a b, (f s a b).calm) (h : te g E (fun e s => (fa e s).bind fun x s1 => (fb e s1).bind fun y s2 => f s2 x y) σ H Q) :
    tOp (rd2 g f) (te g E fa) (te g E fb) σ H Q := by
  obtain ⟨w, e, s, hr, re, h⟩ := h
  refine ⟨w, e, s, hr, re, h.bind.imp fun a w1 s1 H1 k1 hr1 h1 x rx => ?_⟩
  refine ⟨w1, e, s1, hr1, re.mono k1, h1.bind.imp fun b w2 s2 H2 k2 hr2 h2 y ry => ?_⟩
  exact ⟨w2, s2, a, b, hr2, rx.mono k2, ry, h2.calm (hc _ _ _)⟩
theorem te_op1 {f : Sto → D → Rs D} (hc : ∀ s a, (f s a).calm) (h : te g E (fun e s => (fa e s).bind fun x s1 => f s1 x) σ H Q) :
    tUn (rd1 g f) (te g E fa) σ H Q := by
  obtain ⟨w, e, s, hr, re, h⟩ := h
  refine ⟨w, e, s, hr, re, h.bind.imp fun a w1 s1 H1 k1 hr1 h1 x rx => ?_⟩
  exact ⟨w1, s1, a, hr1, rx, h1.calm (hc _ _)⟩
theorem te_var {i : Nat} (h : te g E (fun e s => match e[i]? with
    | some (some d) => .ok d s
    | _ => .bad) σ H Q) : tVar i σ H Q := by
  obtain ⟨w, e, s, hr, re, h⟩ := h
  cases q : e[i]? with
  | none => simp only [q] at h; exact h.elim
  | some o =>
    cases o with
    | none => simp only [q] at h; exact h.elim
    | some d =>
      simp only [q] at h
      obtain ⟨v, a, b⟩ := re.at_ i d q
      exact ⟨v, a, h w H (Kp.refl w H) hr v b⟩
theorem te_c {v : V} {d : D} (hv : ∀ w H, Rep g.K w H v d) (h : te g E (fun _ s => .ok d s) σ H Q) : tC v σ H Q := by
  obtain ⟨w, e, s, hr, re, h⟩ := h
  exact h w H (Kp.refl w H) hr v (hv _ _)
theorem ta_nil {Q : List V → Hp → Prop} (h : ta g E (fun _ s => .ok (.tup []) s) σ H Q) : tNil σ H Q := by
  obtain ⟨w, e, s, hr, re, h⟩ := h
  obtain ⟨ds, e1, h1⟩ := h w H (Kp.refl w H) hr
  cases e1
  exact h1 [] .nil
theorem ta_cons {Q : List V → Hp → Prop} (h : ta g E (fun e s => (fa e s).bind fun d s1 => (fb e s1).bind fun ds s2 => .ok (.tup (d :: tupOf ds)) s2) σ H Q) (hb : ∀ e s d s', fb e s = .ok d s' → ∃ ds, d = .tup ds) :
    tCons (te g E fa) (ta g E fb) σ H Q := by
  obtain ⟨w, e, s, hr, re, h⟩ := h
  refine ⟨w, e, s, hr, re, h.bind.imp fun a w1 s1 H1 k1 hr1 h1 x rx => ?_⟩
  refine ⟨w1, e, s1, hr1, re.mono k1, ?_⟩
  have h2 := h1.bind
  cases q : fb e s1 with
  | bad => rw [q] at h2; exact h2
  | ex n p s2 => rw [q] at h2; exact h2
  | ok d s2 =>
    rw [q] at h2
    intro w2 H2 k2 hr2
    obtain ⟨ds, rfl⟩ := hb _ _ _ _ q
    refine ⟨ds, rfl, fun vs rv => ?_⟩
    obtain ⟨es, e1, h3⟩ := h2 w2 H2 k2 hr2 w2 H2 (Kp.refl _ _) hr2
    cases e1
    exact h3 _ (.cons (rx.mono k2) rv)
end
end Py
/-! The operations on data are the machine's. -/
namespace Py
open PySem PySem.Spec PyProof.Rows L2

section
variable {K : PySem.W.Frag} {w : Wd} {H : Hp} {s : Sto}
theorem TupAt.sq {a : Addr} {vs : List V} (h : TupAt K w H a vs) : SqT K H a vs := by
  rcases h with ⟨h, _⟩ | h
  · exact Or.inl h
  · exact Or.inr h
theorem FroAt.sq {a : Addr} {vs : List V} (h : FroAt K w H a vs) : SqL K H a vs := by
  rcases h with ⟨h, _⟩ | h
  · exact Or.inl h
  · exact Or.inr h
theorem listOf_rep (hr : HR K w H s) {v : V} {d : D} {ds : List D} (r : Rep K w H v d) (h : listOf s d = some ds) : ∃ a vs, v = .ref a ∧ H a = some (.lst vs) ∧ RepL K w H vs ds := by
  cases r with
  | @lst a vs ds' e o r => 
    cases h
    exact ⟨a, vs, rfl, e, r⟩
  | @ref n a e =>
    unfold listOf at h
    simp only at h
    cases q : s[n]? with
    | none => rw [q] at h; cases h
    | some o =>
      rw [q] at h
      cases o with
      | lst es =>
        cases h
        obtain ⟨ho, e1, e2⟩ := hr.obj n a _ e q
        cases ho <;> simp only [RepO] at e2
        exact ⟨a, _, rfl, e1, e2⟩
      | dK _ => cases h
      | dT _ => cases h
  | _ => cases h
theorem seqOf_rep (hr : HR K w H s) {v : V} {d : D} {ds : List D} (r : Rep K w H v d) (h : seqOf s d = some ds) : ∃ a vs, v = .ref a ∧ (SqL K H a vs ∨ SqT K H a vs) ∧ RepL K w H vs ds := by
  have lst : ∀ d', listOf s d' = some ds → Rep K w H v d' → ∃ a vs, v = .ref a ∧ (SqL K H a vs ∨ SqT K H a vs) ∧ RepL K w H vs ds := fun d' e r => by
    obtain ⟨a, vs, e1, e2, e3⟩ := listOf_rep hr r e
    exact ⟨a, vs, e1, Or.inl (SqL.of e2), e3⟩
  unfold seqOf at h
  split at h
  · cases h
    cases r with
    | tup e r => exact ⟨_, _, rfl, Or.inr e.sq, r⟩
  · cases h
    cases r with
    | fro e r => exact ⟨_, _, rfl, Or.inl e.sq, r⟩
  · exact lst _ h r
/-- a new list, a new tuple, handed out -/
theorem new_lst {g : G} {E : XK} {Q : VK} {w : Wd} {H : Hp} {s : Sto} (hr : HR g.K w H s) {vs : List V} {ds : List D} (r : RepL g.K w H vs ds) (h : con g E w H (.ok (.lst ds) s) (VQ g Q)) : ∀ p, H p = none → Q (.ref p) (upd H p (.lst vs)) := fun p hp =>
  h w _ (kp_new hp) (hr.new hp) (.ref p) (.lst upd_same (hr.fresh hp) (r.mono (kp_new hp)))
theorem new_tup {g : G} {E : XK} {Q : VK} {w : Wd} {H : Hp} {s : Sto} (hr : HR g.K w H s) {vs : List V} {ds : List D} (r : RepL g.K w H vs ds) (h : con g E w H (.ok (.tup ds) s) (VQ g Q)) : ∀ p, H p = none → Q (.ref p) (upd H p (.tup vs)) := fun p hp =>
  h w _ (kp_new hp) (hr.new hp) (.ref p) (.tup (Or.inl ⟨Or.inl upd_same, hr.fresh hp⟩) (r.mono (kp_new hp)))
theorem same_ {g : G} {E : XK} {Q : VK} {w : Wd} {H : Hp} {s : Sto} (hr : HR g.K w H s) {v : V} {d : D} (r : Rep g.K w H v d) (h : con g E w H (.ok d s) (VQ g Q)) : Q v H := h w H (Kp.refl w H) hr v r
/-- .. or taken into the store -/
theorem new_L {g : G} {E : XK} {Q : VK} {w : Wd} {H : Hp} {s : Sto} {mt : Bool} (hr : HR g.K w H s) {vs : List V} {ds : List D} (r : RepL g.K w H vs ds) (h : con g E w H (newL mt ds s) (VQ g Q)) : ∀ p, H p = none → Q (.ref p) (upd H p (.lst vs)) := by
  cases mt with
  | false => exact new_lst hr r h
  | true =>
    intro p hp
    obtain ⟨k, hr'⟩ := hr.push (ho := .lst vs) (o := .lst ds) hp r
    exact h _ _ k hr' (.ref p) (.ref (by rw [← hr.len]; simp))
end

section
variable {X : Cx} {g : G}
theorem dp_of {K : PySem.W.Frag} {w : Wd} {H : Hp} {s : Sto} (hr : HR K w H s) : ∀ (k : Nat),
    (∀ (d : D) (v : V) (p : PyData), Rep K w H v d → pd k s d = some p → Dp K H v p ∧ p.canLay0 = true ∧ p.depth ≤ k) ∧
    (∀ (ds : List D) (vs : List V) (ps : List PyData), RepL K w H vs ds → pds k s ds = some ps → DpAll K H vs ps ∧ PyData.canLayAll0 ps = true ∧ PyData.depthAll ps ≤ k)
  | 0 => by
    constructor
    · intro d v p _ h; unfold pd at h; cases h
    · intro ds vs ps r h
      cases r with
      | nil => unfold pds at h; cases h; exact ⟨.nil, rfl, Nat.le_refl _⟩
      | cons a b =>
        unfold pds at h
        have : ∀ d, pd 0 s d = none := fun d => by unfold pd; rfl
        simp only [this] at h
        cases h
  | k + 1 => by
    have ih := dp_of hr k
    have one : ∀ (d : D) (v : V) (p : PyData), Rep K w H v d → pd (k + 1) s d = some p → Dp K H v p ∧ p.canLay0 = true ∧ p.depth ≤ k + 1 := by
      intro d v p r h
      cases r with
      | non => unfold pd at h; cases h; exact ⟨.non, rfl, Nat.zero_le _⟩
      | bl b => unfold pd at h; cases h; exact ⟨.bl b, rfl, Nat.zero_le _⟩
      | int i => unfold pd at h; cases h; exact ⟨.int i, rfl, Nat.zero_le _⟩
      | str x =>
        unfold pd at h
        split at h
        · rename_i hx; cases h; exact ⟨.str x, hx, Nat.zero_le _⟩
        · cases h
      | ty n => unfold pd at h; cases h
      | fro _ _ => unfold pd at h; cases h
      | tup e r =>
        unfold pd at h
        simp only [Option.map_eq_some_iff] at h
        obtain ⟨ps, h1, rfl⟩ := h
        obtain ⟨a, b, c⟩ := ih.2 _ _ _ r h1
        exact ⟨.tup e.sq a, b, Nat.succ_le_succ c⟩
      | lst e o r =>
        unfold pd at h
        simp only [Option.map_eq_some_iff] at h
        obtain ⟨ps, h1, rfl⟩ := h
        obtain ⟨a, b, c⟩ := ih.2 _ _ _ r h1
        exact ⟨.lst (SqL.of e) a, b, Nat.succ_le_succ c⟩
      | @ref n a e =>
        unfold pd at h
        cases q : s[n]? with
        | none => rw [q] at h; cases h
        | some o =>
          rw [q] at h
          cases o with
          | lst es =>
            simp only [Option.map_eq_some_iff] at h
            obtain ⟨ps, h1, rfl⟩ := h
            obtain ⟨ho, e1, e2⟩ := hr.obj n a _ e q
            cases ho <;> simp only [RepO] at e2
            obtain ⟨a, b, c⟩ := ih.2 _ _ _ e2 h1
            exact ⟨.lst (SqL.of e1) a, b, Nat.succ_le_succ c⟩
          | dK _ => cases h
          | dT _ => cases h
    refine ⟨one, ?_⟩
    intro ds
    induction ds with
    | nil => intro vs ps r h; cases r; unfold pds at h; cases h; exact ⟨.nil, rfl, Nat.zero_le _⟩
    | cons d ds ihd =>
      intro vs ps r h
      cases r with
      | cons r1 r2 =>
        unfold pds at h
        cases q1 : pd (k + 1) s d with
        | none => rw [q1] at h; cases h
        | some p =>
          rw [q1] at h
          cases q2 : pds (k + 1) s ds with
          | none => rw [q2] at h; cases h
          | some qs =>
            rw [q2] at h
            cases h
            obtain ⟨a1, b1, c1⟩ := one _ _ _ r1 q1
            obtain ⟨a2, b2, c2⟩ := ihd _ _ r2 q2
            refine ⟨.cons a1 a2, ?_, ?_⟩
            · show (p.canLay0 && PyData.canLayAll0 qs) = true
              rw [b1, b2]; rfl
            · show max p.depth (PyData.depthAll qs) ≤ k + 1
              omega
theorem shaped_of {p : PyData} {k : Nat} (hk : k ≤ 64) (h : p.canLay0 = true) (d : p.depth ≤ k) : SeqAt.shaped p = true := by
  unfold SeqAt.shaped
  rw [h]
  simp
  omega

theorem opAny {f : Value → Value → Sem Value} {r r' : R2} (h : OpR X f r) (hi : ∀ x y H Q, r' x y H Q → r x y H Q) : OpR X f r' := fun pins s σ H x y v u Q I rx ry q => h pins s σ H x y v u Q I rx ry (hi _ _ _ _ q)
theorem binI {f : Value → Value → Sem Value} {C : Int → Int → Prop} {gg : Int → Int → V} (h : OpR X f (rI C gg)) {ff : Sto → D → D → Rs D}
    (hi : ∀ s a b, ff s a b = .bad ∨ ∃ i j d, a = .int i ∧ b = .int j ∧ C i j ∧ ff s a b = .ok d s ∧ ∀ K w H, Rep K w H (gg i j) d) : OpR X f (rd2 g ff) :=
  opAny h fun x y H Q ⟨w, s, a, b, hr, ra, rb, q⟩ => by
    rcases hi s a b with e | ⟨i, j, d, rfl, rfl, hc, e, hd⟩
    · rw [e] at q; exact q.elim
    · rw [e] at q
      cases ra; cases rb
      exact ⟨i, j, rfl, rfl, hc, q w H (Kp.refl w H) hr _ (hd _ _ _)⟩
theorem op_fdivX : OpR X (binaryOp .FloorDiv) (rI (fun _ j => divOk j) fun i j => .int (i.fdiv j)) := opI fun i j _ _ _ _ _ hc q => floordiv_int hc.1 q (.inl (PyProof.noPylong_of_log2 hc.2))
theorem bin_sub : OpR X (binaryOp .Sub) (rd2 g (binR .sub)) := binI (opAny op_sub (r' := rI (fun _ _ => True) fun i j => .int (i - j)) fun _ _ _ _ ⟨i, j, a, b, _, q⟩ => ⟨i, j, a, b, q⟩) fun s a b => by
  unfold binR
  simp only
  split
  · exact Or.inr ⟨_, _, _, rfl, rfl, trivial, rfl, fun _ _ _ => .int _⟩
  · exact Or.inl rfl
theorem bin_mul : OpR X (binaryOp .Mult) (rd2 g (binR .mul)) := binI op_mulW fun s a b => by
  unfold binR
  simp only
  split
  · split
    · rename_i h; exact Or.inr ⟨_, _, _, rfl, rfl, h, rfl, fun _ _ _ => .int _⟩
    · exact Or.inl rfl
  · exact Or.inl rfl
theorem bin_fdiv : OpR X (binaryOp .FloorDiv) (rd2 g (binR .fdiv)) := binI op_fdivX fun s a b => by
  unfold binR
  simp only
  split
  · split
    · rename_i h; exact Or.inr ⟨_, _, _, rfl, rfl, h, rfl, fun _ _ _ => .int _⟩
    · exact Or.inl rfl
  · exact Or.inl rfl
theorem bin_mod : OpR X (binaryOp .Mod) (rd2 g (binR .mod)) := binI op_modN fun s a b => by
  unfold binR
  simp only
  split
  · split
    · rename_i h; exact Or.inr ⟨_, _, _, rfl, rfl, h, rfl, fun _ _ _ => .int _⟩
    · exact Or.inl rfl
  · exact Or.inl rfl
theorem bin_pow : OpR X (binaryOp .Pow) (rd2 g (binR .pow)) := binI op_pow fun s a b => by
  unfold binR
  simp only
  split
  · split
    · rename_i h; exact Or.inr ⟨_, _, _, rfl, rfl, h, rfl, fun _ _ _ => .int _⟩
    · exact Or.inl rfl
  · exact Or.inl rfl
theorem bin_add (hK : g.K = X.K) : OpR X (binaryOp .Add) (rd2 g (binR .add)) := by
  intro pins s σ H x y v u Q I rx ry ⟨w, st, a, b, hr, ra, rb, h⟩
  have h : con g (fun _ _ _ => False) w H (addR st a b) (VQ g Q) := h
  unfold addR at h
  split at h
  · cases ra; cases rb
    exact op_add pins s σ H _ _ v u Q I rx ry ⟨_, _, rfl, rfl, same_ hr (.int _) h⟩
  · split at h
    · rename_i hz
      cases ra with
      | tup e1 r1 =>
        cases rb with
        | tup e2 r2 =>
          rw [hK] at e1 e2
          have l1 := r1.length
          have l2 := r2.length
          refine op_catA pins s σ H _ _ v u Q I rx ry ⟨_, _, _, _, rfl, rfl, e1.sq, e2.sq, by omega, fun e => ?_, fun _ e => ?_, fun _ _ => new_tup hr (r1.app r2) h⟩
          · subst e
            cases r1
            exact same_ hr (.tup (hK ▸ e2) r2) h
          · subst e
            cases r2
            rw [List.append_nil] at h
            exact same_ hr (.tup (hK ▸ e1) r1) h
    · exact h.elim
  · split at h
    · rename_i h1 h2
      split at h
      · rename_i hz
        obtain ⟨a1, vs1, rfl, e1, r1⟩ := listOf_rep hr ra h1
        obtain ⟨a2, vs2, rfl, e2, r2⟩ := listOf_rep hr rb h2
        have l1 := r1.length
        have l2 := r2.length
        exact op_cat pins s σ H _ _ v u Q I rx ry ⟨_, _, _, _, rfl, rfl, e1, e2, by omega, new_lst hr (r1.app r2) h⟩
      · exact h.elim
    · exact h.elim
def opOf : Op → Operator
  | .add => .Add | .sub => .Sub | .mul => .Mult | .fdiv => .FloorDiv | .mod => .Mod | .pow => .Pow
theorem bin_all (hK : g.K = X.K) : ∀ o : Op, OpR X (binaryOp (opOf o)) (rd2 g (binR o))
  | .add => bin_add hK | .sub => bin_sub | .mul => bin_mul | .fdiv => bin_fdiv | .mod => bin_mod | .pow => bin_pow
theorem addR_calm (s : Sto) (a b : D) : (addR s a b).calm := by
  unfold addR
  split
  · trivial
  · split <;> trivial
  · split
    · split <;> trivial
    · trivial
theorem binR_calm (o : Op) (s : Sto) (a b : D) : (binR o s a b).calm := by
  cases o
  · exact addR_calm s a b
  all_goals
    unfold binR
    simp only
    split
    · first | trivial | (split <;> trivial)
    · trivial

theorem cmpI_calm (p : Int → Int → Bool) (s : Sto) (a b : D) : (cmpI s p a b).calm := by
  unfold cmpI
  split <;> trivial
theorem okB_calm (s : Sto) (o : Option Bool) : (okB s o).calm := by cases o <;> trivial
theorem cmpR_calm (o : Cm) (s : Sto) (a b : D) : (cmpR o s a b).calm := by
  cases o <;> unfold cmpR <;> simp only <;> first | exact okB_calm _ _ | exact cmpI_calm _ _ _ _ | (split <;> trivial)
theorem cmp_int {f : Value → Value → Sem Value} {p : Int → Int → Bool} (h : OpR X f (rI0 fun i j => .bl (p i j))) : OpR X f (rd2 g fun s => cmpI s p) :=
  binI (opAny h (r' := rI (fun _ _ => True) fun i j => .bl (p i j)) fun _ _ _ _ ⟨i, j, a, b, _, q⟩ => ⟨i, j, a, b, q⟩) fun s a b => by
    unfold cmpI
    split
    · exact Or.inr ⟨_, _, _, rfl, rfl, trivial, rfl, fun _ _ _ => .bl _⟩
    · exact Or.inl rfl
theorem cmp_eq (hK : g.K = X.K) (hu : X.A.units + 65 < cLine) : OpR X (compareOp .Eq) (rd2 g (cmpR .eq)) :=
  opAny (op_eqD (by omega)) fun x y H Q ⟨w, s, a, b, hr, ra, rb, q⟩ => by
    have q : con g (fun _ _ _ => False) w H (okB s (eqB s a b)) (VQ g Q) := q
    unfold eqB at q
    split at q
    · rename_i h1 h2
      obtain ⟨a1, b1, c1⟩ := (dp_of hr deep).1 _ _ _ ra h1
      obtain ⟨a2, b2, c2⟩ := (dp_of hr deep).1 _ _ _ rb h2
      rw [hK] at a1 a2
      exact ⟨_, _, a1, a2, shaped_of (by decide) b1 c1, shaped_of (by decide) b2 c2, same_ hr (.bl _) q⟩
    · exact q.elim
theorem cmp_ne (hK : g.K = X.K) (hu : X.A.units + 65 < cLine) : OpR X (compareOp .NotEq) (rd2 g (cmpR .ne)) :=
  opAny (op_neD (by omega)) fun x y H Q ⟨w, s, a, b, hr, ra, rb, q⟩ => by
    have q : con g (fun _ _ _ => False) w H (okB s ((eqB s a b).map not)) (VQ g Q) := q
    unfold eqB at q
    split at q
    · rename_i h1 h2
      obtain ⟨a1, b1, c1⟩ := (dp_of hr deep).1 _ _ _ ra h1
      obtain ⟨a2, b2, c2⟩ := (dp_of hr deep).1 _ _ _ rb h2
      rw [hK] at a1 a2
      exact ⟨_, _, a1, a2, shaped_of (by decide) b1 c1, shaped_of (by decide) b2 c2, same_ hr (.bl _) q⟩
    · exact q.elim
/-- x in y, y a list or a tuple of data -/
def rInA (K : PySem.W.Frag) (neg : Bool) : R2 := fun x y H Q => ∃ d a vs ds, Dp K H x d ∧ y = .ref a ∧ (SqL K H a vs ∨ SqT K H a vs) ∧ DpAll K H vs ds ∧ SeqAt.shaped d = true ∧ SeqAt.shaped (.list ds) = true ∧
  Q (.bl (if neg then !ds.any fun z => PyData.eqv z d else ds.any fun z => PyData.eqv z d)) H
theorem op_inA (hu : X.A.units + 65 < cLine) : OpR X (compareOp .In) (rInA X.K false) := by
  intro pins s σ H x y v u Q I rx ry ⟨d, a, vs, ds, hd, ey, hs, hv, sd, se, q⟩
  subst ey
  rcases hs with hs | hs
  · exact op_inD hu pins s σ H x _ v u Q I rx ry ⟨d, ds, hd, .lst hs hv, sd, se, q⟩
  · obtain ⟨as, r1⟩ := Dp.reads I d x v hd rx
    obtain ⟨bs, r2⟩ := Dp.reads I (.tuple ds) _ u (.tup hs hv) ry
    exact SeqAt.in_tuple_reads r2 r1 (SeqAt.canLay_of_shaped se) (SeqAt.canLay_of_shaped sd) (room_in_shaped sd hu) ⟨.bl _, H, I, rfl, q⟩
theorem op_notInA (hu : X.A.units + 65 < cLine) : OpR X (compareOp .NotIn) (rInA X.K true) := by
  intro pins s σ H x y v u Q I rx ry ⟨d, a, vs, ds, hd, ey, hs, hv, sd, se, q⟩
  subst ey
  rcases hs with hs | hs
  · exact op_notInD hu pins s σ H x _ v u Q I rx ry ⟨d, ds, hd, .lst hs hv, sd, se, q⟩
  · obtain ⟨as, r1⟩ := Dp.reads I d x v hd rx
    obtain ⟨bs, r2⟩ := Dp.reads I (.tuple ds) _ u (.tup hs hv) ry
    exact SeqAt.notIn_tuple_reads r2 r1 (SeqAt.canLay_of_shaped se) (SeqAt.canLay_of_shaped sd) (room_in_shaped sd hu) ⟨.bl _, H, I, rfl, q⟩
theorem in_rd {neg : Bool} {w : Wd} {H : Hp} {s : Sto} {a b : D} {x y : V} {Q : VK} (hK : g.K = X.K) (hr : HR g.K w H s) (ra : Rep g.K w H x a) (rb : Rep g.K w H y b)
    (q : con g (fun _ _ _ => False) w H (okB s ((inB s a b).map fun k => if neg then !k else k)) (VQ g Q)) : rInA X.K neg x y H Q := by
  cases ei : inB s a b with
  | none => rw [ei] at q; exact q.elim
  | some k =>
    rw [ei] at q
    unfold inB at ei
    split at ei
    · rename_i p qs h1 h2
      rw [Option.bind_eq_some_iff] at h2
      obtain ⟨ds, e1, e2⟩ := h2
      obtain ⟨a1, b1, c1⟩ := (dp_of hr deep).1 _ _ _ ra h1
      obtain ⟨ad, vs, ey, hs, rv⟩ := seqOf_rep hr rb e1
      obtain ⟨a2, b2, c2⟩ := (dp_of hr deep).2 _ _ _ rv e2
      rw [hK] at a1 a2 hs
      cases ei
      exact ⟨_, ad, vs, _, a1, ey, hs, a2, shaped_of (by decide) b1 c1, shaped_of (k := deep + 1) (by decide) b2 (Nat.succ_le_succ c2), same_ hr (.bl _) q⟩
    · cases ei
theorem cmp_in (hK : g.K = X.K) (hu : X.A.units + 65 < cLine) : OpR X (compareOp .In) (rd2 g (cmpR .in_)) :=
  opAny (op_inA hu) fun x y H Q ⟨w, s, a, b, hr, ra, rb, q⟩ => in_rd (neg := false) hK hr ra rb (by
    have q : con g (fun _ _ _ => False) w H (okB s (inB s a b)) (VQ g Q) := q
    have e : ((inB s a b).map fun k => if false = true then !k else k) = inB s a b := by cases inB s a b <;> rfl
    rw [e]; exact q)
theorem cmp_notin (hK : g.K = X.K) (hu : X.A.units + 65 < cLine) : OpR X (compareOp .NotIn) (rd2 g (cmpR .notin)) :=
  opAny (op_notInA hu) fun x y H Q ⟨w, s, a, b, hr, ra, rb, q⟩ => in_rd (neg := true) hK hr ra rb q
end
end Py
/-! Subscripts, slices, builtins, methods. -/
namespace Py
open PySem PySem.Spec PyProof.Rows L2

/-! ### t[::-1] -/
section
variable {prog : Program} {w : World} {A : Around} {E : Value → Shared → Prop} {s : Shared}
theorem back_adjust (n : Nat) : Builtin.Slice.sliceAdjust none none (-1) (n : Int) = ((n : Int) - 1, -1) := by
  unfold Builtin.Slice.sliceAdjust
  simp
theorem back_places (n : Nat) : Builtin.Slice.slicePlaces ((n : Int) - 1) (-1) (-1) = n := by
  unfold Builtin.Slice.slicePlaces
  simp
  omega
theorem applied_back {sl : Addr} {vs : Value} {n : Nat} {Q : Int × Int × Nat → Shared → Prop} (hs : s.heap.IsSliceOf sl .none .none vs) (ps : IsPart vs (some (-1)))
    (h : Q ((n : Int) - 1, -1, n) s) : wpAny (model prog w) A (Builtin.Slice.sliceApplied (.ref sl) (pure (n : Int))) Q E s := by
  obtain ⟨os, hos, hcs, hds⟩ := id hs
  unfold Builtin.Slice.sliceApplied Builtin.Slice.sliceFields
  refine wpAny_bind (wpAny_bind (wpAny_field hos hds (x := .none) rfl (wpAny_bind (wpAny_field hos hds (x := .none) rfl (wpAny_bind (wpAny_field hos hds (x := vs) rfl (wpAny_pure ?_)))))))
  refine wpAny_bind (HT.slicePart_ ps ?_)
  show wpAny _ _ (if ((-1 : Int) == 0) = true then _ else _) _ _ s
  rw [if_neg (by decide)]
  refine wpAny_bind (slicePart_none (wpAny_bind (slicePart_none (wpAny_bind (wpAny_pure ?_)))))
  show wpAny _ _ (match Builtin.Slice.sliceAdjust none none (-1) (n : Int) with | (lo, hi) => pure (lo, (-1 : Int), Builtin.Slice.slicePlaces lo hi (-1))) _ _ s
  rw [back_adjust n]
  show wpAny _ _ (pure ((n : Int) - 1, (-1 : Int), Builtin.Slice.slicePlaces ((n : Int) - 1) (-1) (-1))) _ _ s
  rw [back_places]
  exact wpAny_pure h
theorem fm_some {α β : Type} (f : α → Option β) (h : α → β) : ∀ l : List α, (∀ x ∈ l, f x = some (h x)) → l.filterMap f = l.map h
  | [], _ => rfl
  | x :: l, e => by
    rw [List.filterMap_cons, e x List.mem_cons_self, List.map_cons, fm_some f h l fun y hy => e y (List.mem_cons_of_mem _ hy)]
theorem pick_back (xs : List Value) : ((List.range xs.length).filterMap fun (m : Nat) => xs.toArray[((xs.length : Int) - 1 + (m : Int) * (-1)).toNat]?) = xs.reverse := by
  apply List.ext_getElem?
  intro i
  have e : ∀ m ∈ List.range xs.length, (xs.toArray[((xs.length : Int) - 1 + (m : Int) * (-1)).toNat]?) = some (xs.reverse.getD m .none) := by
    intro m hm
    have hm := List.mem_range.mp hm
    have e1 : ((xs.length : Int) - 1 + (m : Int) * (-1)).toNat = xs.length - 1 - m := by omega
    rw [e1]
    simp only [List.getElem?_toArray, List.getD_eq_getElem?_getD]
    rw [List.getElem?_reverse hm]
    have h2 : xs.length - 1 - m < xs.length := by omega
    rw [List.getElem?_eq_getElem h2]
    rfl
  have e2 : ((List.range xs.length).filterMap fun (m : Nat) => xs.toArray[((xs.length : Int) - 1 + (m : Int) * (-1)).toNat]?) = (List.range xs.length).map fun m => xs.reverse.getD m .none := by
    exact fm_some _ _ _ e
  rw [e2]
  rw [List.getElem?_map]
  by_cases hi : i < xs.length
  · rw [List.getElem?_range hi]
    simp only [Option.map_some, List.getD_eq_getElem?_getD]
    have h2 : i < xs.reverse.length := by simpa using hi
    rw [List.getElem?_eq_getElem h2]
    rfl
  · rw [List.getElem?_eq_none (by simpa using hi), List.getElem?_eq_none (by simpa using hi)]
    rfl
theorem getItem_tuple_back {t sl : Addr} {its : List Value} {vs : Value} {Q : Value → Shared → Prop} (ht : IsTup s.heap t its.toArray) (hs : s.heap.IsSliceOf sl .none .none vs) (ps : IsPart vs (some (-1)))
    (h : Q (.ref s.heap.objs.size) { s with heap := s.heap.push { cls := .type "tuple", data := .seq its.reverse.toArray } })
    (hsz : its.length ≤ sizeLine) : wpAny (model prog w) A (getItem (.ref t) (.ref sl)) Q E s := by
  have htake : sizeOk (.seq its.reverse.toArray) := by
    show its.reverse.toArray.size ≤ sizeLine
    rw [List.size_toArray, List.length_reverse]
    exact hsz
  obtain ⟨os, hos, hcs, hds⟩ := id hs
  have hTs : s.TypeIs (.ref sl) "slice" := ⟨os, hos, hcs⟩
  unfold getItem
  try with_reducible refine wpAny_holding ?_
  first | refine wpAny_bind (wpAny_pure ?_) | skip
  refine wpAny_bind (wpAny_sequenceKey ht.typeIs (by decide) ?_)
  refine wpAny_bind (wpAny_callSpecial?_slot (name := Str.ofString "__getitem__") ht.typeIs PyProof.Rows.slot_tuple_getitem
    (wpAny_call_entry PyProof.Rows.slot_tuple_getitem ht.typeIs entry_tuple_getitem ?_ (args_tuple_getitem _ _)))
  show wpAny _ _ (Builtin.Tuple.tupleItemsOf (.ref t) >>= _) _ _ s
  refine wpAny_bind (tupleItemsOf_ ht ?_)
  refine wpAny_bind (wpAny_typeOf hTs ?_)
  rw [if_pos (by decide)]
  have hsize : (its.toArray.size : Int) = (its.length : Int) := by simp
  refine wpAny_bind (?_ : wpAny _ _ (Builtin.Slice.sliceApplied (.ref sl) (pure (its.toArray.size : Int))) _ _ s)
  rw [hsize]
  refine applied_back hs ps ?_
  have hno : ¬ ((((its.length : Int) - 1) == 0 && (-1 : Int) == 1 && its.length == its.toArray.size) = true) := by
    intro q
    rw [Bool.and_eq_true, Bool.and_eq_true] at q
    exact absurd q.1.2 (by decide)
  show wpAny _ _ (if (((its.length : Int) - 1) == 0 && (-1 : Int) == 1 && its.length == its.toArray.size) = true then _ else _) _ _ s
  rw [if_neg hno, pick_back]
  first
    | exact wpAny_bind (m := Builtin.Tuple.tupleExact _) (wpAny_newObj_type (wpAny_pure ⟨_, rfl, wpAny_pure h⟩) htake)
    | exact wpAny_bind (m := Builtin.Tuple.tupleExact _) (wpAny_newObj_type (wpAny_bind (wpAny_pure (wpAny_pure ⟨_, rfl, wpAny_pure h⟩))) htake)
    | exact wpAny_bind (wpAny_bind (m := Builtin.Tuple.tupleExact _) (wpAny_newObj_type (wpAny_pure (wpAny_pure ⟨_, rfl, wpAny_pure h⟩)) htake))
    | exact wpAny_bind (wpAny_bind (m := Builtin.Tuple.tupleExact _) (wpAny_newObj_type (wpAny_pure ⟨_, rfl, wpAny_pure h⟩) htake))
end
section
variable {X : Cx} {g : G}
def tBack (K : PySem.W.Frag) (te : TE) : TE := fun σ H Q => te σ H fun x H1 => ∃ a xs, x = .ref a ∧ ((SqL K H1 a xs ∧ ∀ p, H1 p = none → Q (.ref p) (upd H1 p (.lst xs.reverse))) ∨ (SqT K H1 a xs ∧ ∀ p, H1 p = none → Q (.ref p) (upd H1 p (.tup xs.reverse))))
theorem pe_back {e : Expr} {te : TE} {k : Nat} {p1 p2 p3 pos : Pos} (he : PE X e te) : PE X (.Subscript e (.Slice none none (some (.UnaryOp .USub (.Constant (.int 1) k p1) p2)) p3) pos) (tBack X.K te) := by
  refine ⟨fun pins s σ H Q I h => ?_⟩
  refine Subscript_ (thn (he.run pins s σ H _ I h) fun v s1 ⟨x, H1, I1, r1, q1⟩ => ?_)
  obtain ⟨a, xs, ex, hx⟩ := q1
  subst ex
  cases r1
  have hst : PO X (some (.UnaryOp .USub (.Constant (.int 1) k p1) p2)) (tPart (tUn (rU fun i => .int (-i)) (tC (.int 1)))) := po_some (pe_un un_neg pe_int)
  refine wpAny_Slice (thn (po_none.run pins s1 σ H1 (fun o H2 => o = none ∧ H2 = H1) I1 ⟨rfl, rfl⟩) fun vl s2 ⟨l, H2, I2, pl, el, e2⟩ => ?_)
  subst el e2
  refine thn (po_none.run pins s2 σ H2 (fun o H3 => o = none ∧ H3 = H2) I2 ⟨rfl, rfl⟩) fun vu s3 ⟨u, H3, I3, pu, eu, e3⟩ => ?_
  subst eu e3
  refine thn (hst.run pins s3 σ H3 (fun o H4 => o = some (-1) ∧ H4 = H3) I3 ⟨1, rfl, -1, rfl, rfl, rfl⟩) fun vs s4 ⟨o, H4, I4, ps, eo, e4⟩ => ?_
  subst eo e4
  have I5 : Inv X pins σ H4 { s4 with heap := s4.heap.push { cls := .type "slice", data := .fields #[vl, vu, vs] } } := I4.kept (t' := s4.toks) fun b ob q => Heap.get?_push_of_some _ q
  show wpAny (model X.prog X.w) X.A (subscriptTail e (.Slice none none (some (.UnaryOp .USub (.Constant (.int 1) k p1) p2)) p3) (.ref a) (.ref s4.heap.objs.size)) (EP X pins σ Q) X.xe { s4 with heap := s4.heap.push { cls := .type "slice", data := .fields #[vl, vu, vs] } }
  rcases hx with ⟨hx, q⟩ | ⟨hx, q⟩
  · obtain ⟨its, r, ht, hz⟩ := I5.list hx
    have hlen := r.length
    refine tail_any (ops := [.ref a, .ref s4.heap.objs.size]) ht.isList.typeIs (PySem.slot_list_getitem.lookup) ?_ (by with_unfolding_all rfl)
    refine wpAny_getItem_list_slice ht.isList (Heap.IsSliceOf.new _ vl vu vs) pl pu ps (by decide) ?_ (by rw [List.size_toArray]; omega)
    rw [PySem.W.krv_pick]
    refine ⟨.ref _, _, I5.laid (t' := s4.toks) (o := .lst xs.reverse) (fun b ob q => Heap.get?_push_of_some _ q) (Nat.le_refl _) ?_, rfl, q _ (I5.hok.fresh (Nat.le_refl _))⟩
    exact ⟨by rw [List.length_reverse]; exact hz, _, 0, r.reverse, Heap.get?_push_size _ rfl⟩
  · obtain ⟨its, r, ht, hz⟩ := I5.tuple hx
    have hlen := r.length
    cases pl
    cases pu
    refine tail_any (ops := [.ref a, .ref s4.heap.objs.size]) ht.typeIs (PyProof.Rows.slot_tuple_getitem.lookup) ?_ (by with_unfolding_all rfl)
    refine getItem_tuple_back ht (Heap.IsSliceOf.new _ .none .none vs) ps ?_ (by omega)
    refine ⟨.ref _, _, I5.laid (t' := s4.toks) (o := .tup xs.reverse) (fun b ob q => Heap.get?_push_of_some _ q) (Nat.le_refl _) ?_, rfl, q _ (I5.hok.fresh (Nat.le_refl _))⟩
    exact ⟨by rw [List.length_reverse]; exact hz, _, r.reverse, _, Heap.get?_push_size _ rfl, rfl, 0, rfl⟩
end
end Py
/-! Subscripts, slices, builtins, methods. -/
namespace Py
open PySem PySem.Spec PyProof.Rows L2
section
variable {X : Cx} {g : G}
theorem atI_rep {K : PySem.W.Frag} {w : Wd} {H : Hp} {vs : List V} {ds : List D} (r : RepL K w H vs ds) {i : Int} {d : D} (h : atI ds i = some d) : ∃ v, atI vs i = some v ∧ Rep K w H v d := by
  unfold atI at h ⊢
  rw [r.length]
  cases e : ixN ds.length i with
  | none => rw [e] at h; cases h
  | some j =>
    rw [e] at h
    exact r.at h
theorem ix_all (hK : g.K = X.K) : IxR X (rd2 g ixR) := fun value slice pins s σ H x y v u Q I rx ry q hs => by
  refine ix_seq value slice pins s σ H x y v u Q I rx ry ?_ hs
  obtain ⟨w, st, a, b, hr, ra, rb, q⟩ := q
  unfold ixR at q
  split at q
  · rename_i ds i h1
    cases rb
    split at q
    · rename_i d h2
      obtain ⟨ad, vs, rfl, hs, rv⟩ := seqOf_rep hr ra h1
      obtain ⟨v, e1, e2⟩ := atI_rep rv h2
      rw [hK] at hs
      rcases hs with hs | hs
      · exact Or.inl ⟨_, _, _, _, rfl, rfl, hs, e1, same_ hr e2 q⟩
      · exact Or.inr (Or.inl ⟨_, _, _, _, rfl, rfl, hs, e1, same_ hr e2 q⟩)
    · exact q.elim
  · exact q.elim
theorem ixR_calm (s : Sto) (a b : D) : (ixR s a b).calm := by
  unfold ixR
  split
  · split <;> trivial
  · trivial
/-! slices -/
theorem cut_rep {K : PySem.W.Frag} {w : Wd} {H : Hp} {vs : List V} {ds : List D} (r : RepL K w H vs ds) (lo hi : Option Int) : RepL K w H (cutV vs lo hi) (cutD ds lo hi) := by
  unfold cutV cutD
  rw [r.length]
  exact (r.drop _).take _
theorem cut_whole {α : Type} (ds : List α) (lo hi : Option Int) (h : HT.sIx ds.length 0 lo = 0 ∧ HT.sIx ds.length ds.length hi = ds.length) : (ds.drop (HT.sIx ds.length 0 lo)).take (HT.sIx ds.length ds.length hi - HT.sIx ds.length 0 lo) = ds := by
  rw [h.1, h.2]
  simp
def rdS (g : G) : V → Option Int → Option Int → Hp → VK → Prop := fun x lo hi H Q => ∃ w s a, HR g.K w H s ∧ Rep g.K w H x a ∧ con g (fun _ _ _ => False) w H (slR s a lo hi) (VQ g Q)
theorem sl_all (hK : g.K = X.K) : SlR X (rdS g) := fun pins s σ H x v vl vu lo hi sl Q I rx hs pl pu q => by
  obtain ⟨w, st, a, hr, ra, q⟩ := q
  unfold slR at q
  split at q
  · rename_i ds
    cases ra with
    | tup e r =>
      refine sl_tupA pins s σ H _ v vl vu lo hi sl Q I rx hs pl pu ⟨_, _, rfl, hK ▸ e.sq, fun z => ?_, fun _ => new_tup hr (cut_rep r lo hi) q⟩
      rw [r.length] at z
      have e1 : cutD ds lo hi = ds := cut_whole ds lo hi z
      rw [e1] at q
      exact same_ hr (.tup e r) q
  · rename_i ds
    cases ra with
    | fro e r => exact sl_list pins s σ H _ v vl vu lo hi sl Q I rx hs pl pu ⟨_, _, rfl, hK ▸ e.sq, new_lst hr (cut_rep r lo hi) q⟩
  · split at q
    · rename_i ds h1
      obtain ⟨ad, vs, rfl, e, r⟩ := listOf_rep hr ra h1
      exact sl_list pins s σ H _ v vl vu lo hi sl Q I rx hs pl pu ⟨_, _, rfl, SqL.of e, new_lst hr (cut_rep r lo hi) q⟩
    · exact q.elim
theorem slR_calm (s : Sto) (a : D) (l h : Option Int) : (slR s a l h).calm := by
  unfold slR
  split
  · trivial
  · trivial
  · split <;> trivial
theorem back_rd (hK : g.K = X.K) {te : TE} {σ : L2.St} {H : Hp} {Q : VK} (h : te σ H fun x H1 => rd1 g revR x H1 Q) (mono : ∀ σ H (Q Q' : VK), (∀ v H1, Q v H1 → Q' v H1) → te σ H Q → te σ H Q') : tBack X.K te σ H Q := by
  refine mono _ _ _ _ (fun x H1 q => ?_) h
  obtain ⟨w, s, a, hr, ra, q⟩ := q
  unfold revR at q
  split at q
  · cases ra with
    | tup e r => exact ⟨_, _, rfl, Or.inr ⟨hK ▸ e.sq, new_tup hr r.rev q⟩⟩
  · split at q
    · rename_i ds h1
      obtain ⟨ad, vs, rfl, e, r⟩ := listOf_rep hr ra h1
      exact ⟨_, _, rfl, Or.inl ⟨SqL.of e, new_lst hr r.rev q⟩⟩
    · exact q.elim
theorem revR_calm (s : Sto) (a : D) : (revR s a).calm := by
  unfold revR
  split
  · trivial
  · split <;> trivial
/-! builtins -/
def biV : Bi → Value
  | .len => .builtin "len" | .abs => .builtin "abs" | .max2 => .builtin "max" | .min2 => .builtin "min" | .divmod => .builtin "divmod" | .int => .type "int" | .tuple => .type "tuple"
theorem callAny {f : Value} {r r' : List V → Hp → VK → Prop} (h : CallR X f r) (hi : ∀ xs H Q, r' xs H Q → r xs H Q) : CallR X f r' := fun pins s σ H xs us Q I rx q => h pins s σ H xs us Q I rx (hi _ _ _ q)
theorem RepL.int1 {K : PySem.W.Frag} {w : Wd} {H : Hp} {vs : List V} {i : Int} (r : RepL K w H vs [.int i]) : vs = [.int i] := by
  cases r with
  | cons a b => cases a; cases b; rfl
theorem RepL.int2 {K : PySem.W.Frag} {w : Wd} {H : Hp} {vs : List V} {i j : Int} (r : RepL K w H vs [.int i, .int j]) : vs = [.int i, .int j] := by
  cases r with
  | cons a b =>
    cases a
    rw [b.int1]
theorem RepL.single {K : PySem.W.Frag} {w : Wd} {H : Hp} {vs : List V} {d : D} (r : RepL K w H vs [d]) : ∃ v, vs = [v] ∧ Rep K w H v d := by
  cases r with
  | cons a b => cases b; exact ⟨_, rfl, a⟩
theorem bi_all (hK : g.K = X.K) (hc : X.calm = true) : ∀ f : Bi, CallR X (biV f) (rdC g (biR f))
  | .len => callAny call_len_seq fun xs H Q ⟨w, s, as, hr, ra, q⟩ => by
    have q : con g (fun _ _ _ => False) w H (lenR s as) (VQ g Q) := q
    unfold lenR at q
    split at q
    · split at q
      · rename_i ds h1
        obtain ⟨v, rfl, rv⟩ := ra.single
        obtain ⟨ad, vs, rfl, hs, rl⟩ := seqOf_rep hr rv h1
        rw [hK] at hs
        refine ⟨ad, vs, rfl, hs, ?_⟩
        rw [rl.length]
        exact same_ hr (.int _) q
      · exact q.elim
    · exact q.elim
  | .abs => callAny call_abs fun xs H Q ⟨w, s, as, hr, ra, q⟩ => by
    have q : con g (fun _ _ _ => False) w H (int1R s _ as) (VQ g Q) := q
    unfold int1R at q
    split at q
    · rw [ra.int1]; exact ⟨_, rfl, same_ hr (.int _) q⟩
    · exact q.elim
  | .max2 => callAny (call_max2 hc) fun xs H Q ⟨w, s, as, hr, ra, q⟩ => by
    have q : con g (fun _ _ _ => False) w H (int2R s _ as) (VQ g Q) := q
    unfold int2R at q
    split at q
    · rw [ra.int2]; exact ⟨_, _, rfl, same_ hr (.int _) q⟩
    · exact q.elim
  | .min2 => callAny (call_min2 hc) fun xs H Q ⟨w, s, as, hr, ra, q⟩ => by
    have q : con g (fun _ _ _ => False) w H (int2R s _ as) (VQ g Q) := q
    unfold int2R at q
    split at q
    · rw [ra.int2]; exact ⟨_, _, rfl, same_ hr (.int _) q⟩
    · exact q.elim
  | .divmod => callAny call_divmodW fun xs H Q ⟨w, s, as, hr, ra, q⟩ => by
    have q : con g (fun _ _ _ => False) w H (dmR s as) (VQ g Q) := q
    unfold dmR at q
    split at q
    · split at q
      · rename_i h
        rw [ra.int2]
        exact ⟨_, _, rfl, ⟨h.1, PyProof.noPylong_of_log2 h.2.2⟩, new_tup hr (.cons (.int _) (.cons (.int _) .nil)) q⟩
      · exact q.elim
    · exact q.elim
  | .int => callAny call_int1 fun xs H Q ⟨w, s, as, hr, ra, q⟩ => by
    have q : con g (fun _ _ _ => False) w H (intR s as) (VQ g Q) := q
    unfold intR at q
    split at q
    · rw [ra.int1]
      exact Or.inl ⟨_, rfl, same_ hr (.int _) q⟩
    · obtain ⟨v, rfl, rv⟩ := ra.single
      cases rv
      exact Or.inr ⟨_, rfl, same_ hr (.int _) q⟩
    · exact q.elim
  | .tuple => callAny call_tuple_of fun xs H Q ⟨w, s, as, hr, ra, q⟩ => by
    have q : con g (fun _ _ _ => False) w H (tupleR s as) (VQ g Q) := q
    unfold tupleR at q
    split at q
    · obtain ⟨v, rfl, rv⟩ := ra.single
      cases rv with
      | tup e r => exact ⟨_, _, rfl, Or.inr ⟨hK ▸ e.sq, same_ hr (.tup e r) q⟩⟩
    · split at q
      · rename_i ds h1
        obtain ⟨v, rfl, rv⟩ := ra.single
        obtain ⟨ad, vs, rfl, e, r⟩ := listOf_rep hr rv h1
        exact ⟨_, _, rfl, Or.inl ⟨SqL.of e, new_tup hr r q⟩⟩
      · exact q.elim
    · exact q.elim
theorem biR_calm (f : Bi) (s : Sto) (as : List D) : (biR f s as).calm := by
  cases f <;> (show Rs.calm (_ : Rs D)) <;> unfold biR <;> simp only [lenR, int1R, int2R, dmR, intR, tupleR] <;> repeat' (first | trivial | split)
/-! methods -/
def meId : Me → String
  | .append => "list.append"
def meT : Me → String
  | .append => "list"
theorem me_all : ∀ f : Me, MtR X (meId f) (rdM g (meR f))
  | .append => fun pins s σ H x xs v us Q I rx rs q => by
    refine mt_append pins s σ H x xs v us Q I rx rs ?_
    obtain ⟨w, st, a, as, hr, ra, ras, q⟩ := q
    have q : con g (fun _ _ _ => False) w H (appR st a as) (VQ g Q) := q
    unfold appR at q
    split at q
    · split at q
      · rename_i ds h1
        split at q
        · rename_i hz
          obtain ⟨y, rfl, ry⟩ := ras.single
          cases ra with
          | @ref _ a e =>
            obtain ⟨ho, e1, e2⟩ := hr.obj _ a _ e h1
            cases ho <;> simp only [RepO] at e2
            rename_i vs
            obtain ⟨k, hr'⟩ := hr.put (ho := .lst (vs ++ [y])) (o := .lst (ds ++ [_])) e (RepL.app e2 (.one ry))
            exact ⟨_, _, _, rfl, rfl, e1, by rw [e2.length]; exact hz, q w _ k hr' _ .non⟩
        · exact q.elim
      · exact q.elim
    · exact q.elim
theorem meR_calm (f : Me) (s : Sto) (o : D) (as : List D) : (meR f s o as).calm := by
  cases f <;> unfold meR <;> simp only [appR] <;> repeat' (first | trivial | split)
theorem recv_rep {K : PySem.W.Frag} {w : Wd} {H : Hp} {s : Sto} (hr : HR K w H s) {f : Me} {v : V} {d : D} (r : Rep K w H v d) (h : recvR f s d = true) : tyV K (meT f) v H := by
  cases f with
  | append =>
    obtain ⟨ds, e⟩ := Option.isSome_iff_exists.mp (show (listOf s d).isSome = true from h)
    obtain ⟨a, vs, rfl, e1, _⟩ := listOf_rep hr r e
    exact Or.inl ⟨rfl, vs, SqL.of e1⟩
/-! isinstance of a built-in class -/
theorem tyOf_rep {w : Wd} {H : Hp} {s : Sto} (hr : HR g.K w H s) (hK : g.K = X.K) {v : V} {d : D} {t : String} (r : Rep g.K w H v d) (h : tyOf d = some t) : TyX X.K H v (.type t) := by
  cases r with
  | non => cases h; exact .base .non
  | bl b => cases h; exact .base (.bl b)
  | int i => cases h; exact .base (.int i)
  | str x => cases h; exact .base (.str x)
  | ty n => cases h
  | tup e r =>
    cases h
    rcases e with ⟨e | ⟨o, e⟩, _⟩ | ⟨o, its, n, e, c, _⟩
    · exact .base (.tup e)
    · exact .fTuple e
    · exact .kTuple (hK ▸ e) c
  | lst e o r => cases h; exact .base (.lst e)
  | fro e r => cases h
  | ref e => cases h
theorem isi_rd (hK : g.K = X.K) (n : String) : CallR X (.builtin "isinstance") (fun xs H Q => ∃ x, xs = [x, .ty n] ∧ rd1 g (isiR n) x H Q) := callAny call_isi fun xs H Q ⟨x, e, w, s, a, hr, ra, q⟩ => by
  unfold isiR at q
  split at q
  · rename_i b h
    rw [Option.bind_eq_some_iff] at h
    obtain ⟨t, h1, h2⟩ := h
    exact ⟨x, .ty n, .type t, .type n, b, e, .ty n, tyOf_rep hr hK ra h1, kit_ty h2, same_ hr (.bl _) q⟩
  · exact q.elim
theorem isiR_calm (n : String) (s : Sto) (a : D) : (isiR n s a).calm := by
  unfold isiR
  split <;> trivial
end
end Py
/-! The checker: a tree of ours against the row's. -/
namespace Py
open PySem PySem.Spec PyProof.Rows L2

/-- what is known of a def: its names by slot, the defs that it may call with how many arguments, the builtins that are still so, the constants -/
structure Fx where
  N : List Str
  fns : Nat → Option (Str × Nat)
  fr : Str → Bool
  gs : Nat → Option Str
/-- the block at hand: its scope; the names whose cells it made -/
structure Cs where
  sc : Scope
  fn : Str → Bool
def visB (sc : Scope) (x : Str) : Bool := match sc.names.lookup x with
  | some .local => true
  | some .cell => true
  | some .free => true
  | _ => false
def glB (sc : Scope) (x : Str) : Bool := decide (sc.names.lookup x = some .globalImplicit) && !(x == ("__debug__" : Str))
def locB (c : Cs) (x : Str) : Bool := match c.sc.names.lookup x with
  | some .local => true
  | some .cell => c.fn x
  | _ => false
def relB (sc scope : Scope) : Scope :=
  { scope with names := scope.names.map fun (n, k) => if (k == .free && sc.kind == .function && sc.names.lookup n == some .cell) then (n, .cell) else (n, k) }
def nameB (F : Fx) (c : Cs) (i : Nat) (x : Str) : Bool := decide (F.N[i]? = some x) && visB c.sc x && !(x == ("__debug__" : Str)) && !(x == ("__classdict__" : Str))
def constB : D → Const → Bool
  | .non, .none => true
  | .bl a, .bool b => a == b
  | .int i, .int j => decide (i = j)
  | .str x, .str y => decide (x = y)
  | _, _ => false
def Tc.slots : Tc → List Nat
  | .nm i => [i]
  | .nil => []
  | .cons t ts => t.slots ++ ts.slots
mutual
def chkT (F : Fx) (c : Cs) : Tc → Expr → Bool
  | .nm i, e => (match e with
    | .Name x _ => decide (F.N[i]? = some x) && locB c x
    | _ => false)
  | .nil, e => (match e with
    | .Tuple es _ _ => es.isEmpty
    | _ => false)
  | .cons t ts, e => (match e with
    | .Tuple es _ _ => (match es with
      | e :: es => chkT F c t e && chkTs F c ts es
      | [] => false)
    | _ => false)
def chkTs (F : Fx) (c : Cs) : Tc → List Expr → Bool
  | .nm _, _ => false
  | .nil, es => es.isEmpty
  | .cons t ts, es => (match es with
    | e :: es => chkT F c t e && chkTs F c ts es
    | [] => false)
end
def opB : Op → Operator → Bool
  | .add, .Add => true | .sub, .Sub => true | .mul, .Mult => true | .fdiv, .FloorDiv => true | .mod, .Mod => true | .pow, .Pow => true
  | _, _ => false
def cmB : Cm → CmpOp → Bool
  | .eq, .Eq => true | .ne, .NotEq => true | .lt, .Lt => true | .le, .LtE => true | .gt, .Gt => true | .ge, .GtE => true | .in_, .In => true | .notin, .NotIn => true
  | _, _ => false
def isNB : Cm → CmpOp → Bool
  | .isN, .Is => true | .notN, .IsNot => true
  | _, _ => false
def noneB : Expr → Bool
  | .Constant .none _ _ => true
  | _ => false
def setB : Expr → Bool
  | .Set _ _ _ => true
  | _ => false
def ifB : Expr → Bool
  | .IfExp _ _ _ _ => true
  | _ => false
def sliceB : Expr → Bool
  | .Slice _ _ _ _ => true
  | _ => false
def starB : Expr → Bool
  | .Starred _ _ => true
  | _ => false
/-- what may stand ahead of a method's name -/
def recvB : Expr → Bool
  | .Call _ [] _ _ => false
  | _ => true
def backB : Expr → Bool
  | .Slice none none (some (.UnaryOp .USub (.Constant (.int i) _ _) _)) _ => decide (i = 1)
  | _ => false
def biN : Bi → Str
  | .len => "len" | .abs => "abs" | .max2 => "max" | .min2 => "min" | .divmod => "divmod" | .int => "int" | .tuple => "tuple"
def biA : Bi → Nat
  | .len => 1 | .abs => 1 | .max2 => 2 | .min2 => 2 | .divmod => 2 | .int => 1 | .tuple => 1
def meN : Me → Str
  | .append => "append"
def meA : Me → Nat
  | .append => 1
def tyN : String → Option Str
  | "int" => some "int" | "bool" => some "bool" | "str" => some "str" | "tuple" => some "tuple" | "list" => some "list"
  | _ => none
/-- f(..) by its name -/
def callB (x : Str) : Expr → Option (List Expr)
  | .Call (.Name y _) es [] _ => if x = y then some es else none
  | _ => none
mutual
def chk (F : Fx) : Em → Cs → Expr → Bool
  | .var i, c, e => (match e with
    | .Name x _ => nameB F c i x
    | _ => false)
  | .c d, _, e => (match e with
    | .Constant k _ _ => constB d k
    | _ => false)
  | .gl x, c, e => (match e with
    | .Name y _ => decide (F.gs x = some y) && glB c.sc y
    | _ => false)
  | .nil, _, _ => false
  | .cons _ _, _, _ => false
  | .tup a, c, e => (match e with
    | .Tuple es _ _ => chkA F a c es
    | _ => false)
  | .lst _ a, c, e => (match e with
    | .List es _ => chkA F a c es
    | _ => false)
  | .bin o a b, c, e => (match e with
    | .BinOp x p y _ => opB o p && chk F a c x && chk F b c y
    | _ => false)
  | .neg a, c, e => (match e with
    | .UnaryOp .USub x _ => chk F a c x
    | _ => false)
  | .cmp o a b, c, e => (match e with
    | .Compare x [p] [y] _ => chk F a c x && !setB y && ((cmB o p && chk F b c y) || (isNB o p && noneB y && chk F b c y))
    | _ => false)
  | .chain o o' a b d, c, e => (match e with
    | .Compare x [p, q] [y, z] _ => chk F a c x && !setB y && !setB z && (cmB o p && chk F b c y) && (cmB o' q && chk F d c z)
    | _ => false)
  | .and a b, c, e => (match e with
    | .BoolOp .And [x, y] _ => !ifB x && !ifB y && chk F a c x && chk F b c y
    | .BoolOp .And (x :: y :: z :: r) _ => !ifB x && chk F a c x && chkR F b true c (y :: z :: r)
    | _ => false)
  | .or a b, c, e => (match e with
    | .BoolOp .Or [x, y] _ => !ifB x && !ifB y && chk F a c x && chk F b c y
    | .BoolOp .Or (x :: y :: z :: r) _ => !ifB x && chk F a c x && chkR F b false c (y :: z :: r)
    | _ => false)
  | .not a, c, e => (match e with
    | .UnaryOp .Not x _ => !ifB x && chk F a c x
    | _ => false)
  | .ite t a b, c, e => (match e with
    | .IfExp u x y _ => !ifB u && chk F t c u && chk F a c x && chk F b c y
    | _ => false)
  | .ix a b, c, e => (match e with
    | .Subscript x y _ => !sliceB y && chk F a c x && chk F b c y
    | _ => false)
  | .sl a lo hi, c, e => (match e with
    | .Subscript x (.Slice l h none _) _ => chk F a c x && (match l with | none => nonM lo | some u => !nonM lo && chk F lo c u) && (match h with | none => nonM hi | some u => !nonM hi && chk F hi c u)
    | _ => false)
  | .rev a, c, e => (match e with
    | .Subscript x y _ => backB y && chk F a c x
    | _ => false)
  | .call f a, c, e => (match F.fns f with
    | some (nm, n) => (match callB nm e with
      | some (x :: es) => glB c.sc nm && decide (n = es.length + 1) && chkA F a c (x :: es)
      | _ => false)
    | none => false)
  | .bi f a, c, e => (match callB (biN f) e with
    | some (x :: es) => glB c.sc (biN f) && F.fr (biN f) && decide (biA f = es.length + 1) && chkA F a c (x :: es)
    | _ => false)
  | .me f o a, c, e => (match e with
    | .Call (.Attribute x m apos) (y :: es) [] cpos => decide (m = meN f) && recvB x && (apos.endLine == cpos.line) && decide (meA f = es.length + 1) && chk F o c x && chkA F a c (y :: es)
    | _ => false)
  | .lset a, c, e => (match callB "len" e with
    | some [x] => (match callB "set" x with
      | some [y] => glB c.sc "len" && F.fr "len" && glB c.sc "set" && F.fr "set" && !starB y && chk F a c y
      | _ => false)
    | _ => false)
  | .isi n a, c, e => (match callB "isinstance" e with
    | some [x, .Name y _] => glB c.sc "isinstance" && F.fr "isinstance" && decide (tyN n = some y) && glB c.sc y && F.fr y && !starB x && chk F a c x
    | _ => false)
  | .it _ _, _, _ => false
  | .comp _ own t it k cnd elt, c, e => (match e with
    | .ListComp el [⟨tg, iter, ifs, a⟩] scope _ => decide (a = 0) && !setB iter && blkC F.N c.sc scope own && t.slots.all (fun i => own.any fun p => p.2 == i) &&
        chkT F ⟨relB c.sc scope, fun x => scope.names.lookup x == some .cell⟩ t tg && chkI F it k c tg iter &&
        (match ifs with
          | [] => (match cnd with
            | .c (.bl true) => true
            | _ => false)
          | [x] => !ifB x && chk F cnd ⟨relB c.sc scope, fun x => scope.names.lookup x == some .cell⟩ x
          | _ => false) && chk F elt ⟨relB c.sc scope, fun x => scope.names.lookup x == some .cell⟩ el
    | _ => false)
def chkA (F : Fx) : Em → Cs → List Expr → Bool
  | .nil, _, es => es.isEmpty
  | .cons a b, c, es => (match es with
    | e :: es => !starB e && chk F a c e && chkA F b c es
    | [] => false)
  | _, _, _ => false
def chkR (F : Fx) : Em → Bool → Cs → List Expr → Bool
  | .and a b, k, c, es => k && (match es with
    | [x, y] => !ifB x && !ifB y && chk F a c x && chk F b c y
    | x :: y :: z :: r => !ifB x && chk F a c x && chkR F b true c (y :: z :: r)
    | _ => false)
  | .or a b, k, c, es => !k && (match es with
    | [x, y] => !ifB x && !ifB y && chk F a c x && chk F b c y
    | x :: y :: z :: r => !ifB x && chk F a c x && chkR F b false c (y :: z :: r)
    | _ => false)
  | _, _, _, _ => false
/-- what is walked -/
def chkI (F : Fx) : Em → Ik → Cs → Expr → Expr → Bool
  | .it k' a, k, c, tg, iter => (match k', k with
    | .plain, .plain => !setB iter && chk F a c iter
    | .rng, .rng => (match callB "range" iter with
      | some [x] => glB c.sc "range" && F.fr "range" && chkA F a c [x]
      | some [x, y] => glB c.sc "range" && F.fr "range" && chkA F a c [x, y]
      | _ => false)
    | _, _ => false)
  | _, _, _, _, _ => false
end
end Py
/-! Readings: what our results ask is what the rules ask. -/
namespace Py
open PySem PySem.Spec PyProof.Rows L2

def spOf (g : G) (n : Nat) (F : List D → Sto → Rs D) : Sp := fun vs H Q E => ∃ w s ds, ds.length = n ∧ HR g.K w H s ∧ RepL g.K w H vs ds ∧ con g E w H (F ds s) (VQ g Q)
/-- it yields argument lists alone -/
def Args (f : Sl → Sto → Rs D) : Prop := ∀ e s d s', f e s = .ok d s' → ∃ ds, d = .tup ds

section
variable {X : Cx} {g : G} {E : L2.St → XK}
theorem pe_imp {e : Expr} {t t' : TE} (h : PE X e t) (hi : ∀ σ H Q, t' σ H Q → t σ H Q) : PE X e t' := ⟨fun pins s σ H Q I q => h.run pins s σ H Q I (hi _ _ _ q)⟩
theorem pt_imp {e : Expr} {t t' : TT} (h : PT X e t) (hi : ∀ σ H Q, t' σ H Q → t σ H Q) : PT X e t' := ⟨fun pins s σ H Q I q => h.run pins s σ H Q I (hi _ _ _ q)⟩
theorem pw_imp {e : Expr} {t t' : TT} (h : PW X e t) (hi : ∀ σ H Q, t' σ H Q → t σ H Q) : PW X e t' := ⟨fun whole pins s σ H Q I q => h.run whole pins s σ H Q I (hi _ _ _ q)⟩
theorem pa_imp {e : List Expr} {t t' : TA} (h : PA X e t) (hi : ∀ σ H Q, t' σ H Q → t σ H Q) : PA X e t' := ⟨fun pos pins s σ H Q I q => h.run pos pins s σ H Q I (hi _ _ _ q)⟩
theorem po_imp {e : Option Expr} {t t' : TO} (h : PO X e t) (hi : ∀ σ H Q, t' σ H Q → t σ H Q) : PO X e t' := ⟨fun pins s σ H Q I q => h.run pins s σ H Q I (hi _ _ _ q)⟩
variable {fa fb fc : Sl → Sto → Rs D} {σ : L2.St} {H : Hp} {Q : VK}
/-- a value that is a truth, as a test -/
theorem tt_B {QB : Bool → Hp → Prop} (h : tt g E fa σ H QB) : tB (te g E fa) σ H QB := by
  obtain ⟨w, e, s, hr, re, h⟩ := h
  refine ⟨w, e, s, hr, re, h.imp fun d w' s' H' k hr' q v rv => ?_⟩
  obtain ⟨b, rfl, q⟩ := q
  cases rv
  exact ⟨b, rfl, q⟩
theorem ta_intro {QA : List V → Hp → Prop} (hT : Args fa) {w : Wd} {e : Sl} {s : Sto} (hr : HR g.K w H s) (re : RE g.K w H σ e)
    (h : con g (E σ) w H (fa e s) fun d w' s' H' => ∀ ds vs, d = .tup ds → HR g.K w' H' s' → RepL g.K w' H' vs ds → QA vs H') : ta g E fa σ H QA := by
  refine ⟨w, e, s, hr, re, ?_⟩
  cases q : fa e s with
  | bad => rw [q] at h; exact h
  | ex n p s2 => rw [q] at h; exact h
  | ok d s2 =>
    rw [q] at h
    obtain ⟨ds, rfl⟩ := hT _ _ _ _ q
    exact fun w' H' k hr' => ⟨ds, rfl, fun vs rv => h w' H' k hr' ds vs rfl hr' rv⟩
theorem te_tup (hT : Args fa) (h : te g E (fun e s => (fa e s).bind fun d s1 => if (tupOf d).length ≤ sizeLine then .ok (.tup (tupOf d)) s1 else .bad) σ H Q) : tTup (ta g E fa) σ H Q := by
  obtain ⟨w, e, s, hr, re, h⟩ := h
  refine ta_intro hT hr re (h.bind.imp fun d w1 s1 H1 k hr1 q ds vs ed _ rv => ?_)
  subst ed
  have q : con g (E σ) w1 H1 (if ds.length ≤ sizeLine then .ok (.tup ds) s1 else .bad) (VQ g Q) := q
  split at q
  · rename_i hz
    exact ⟨by rw [rv.length]; exact hz, new_tup hr1 rv q⟩
  · exact q.elim
theorem te_lst {mt : Bool} (hT : Args fa) (h : te g E (fun e s => (fa e s).bind fun d s1 => if (tupOf d).length ≤ sizeLine then newL mt (tupOf d) s1 else .bad) σ H Q) : tLst (ta g E fa) σ H Q := by
  obtain ⟨w, e, s, hr, re, h⟩ := h
  refine ta_intro hT hr re (h.bind.imp fun d w1 s1 H1 k hr1 q ds vs ed _ rv => ?_)
  subst ed
  have q : con g (E σ) w1 H1 (if ds.length ≤ sizeLine then newL mt ds s1 else .bad) (VQ g Q) := q
  split at q
  · rename_i hz
    exact ⟨by rw [rv.length]; exact hz, new_L hr1 rv q⟩
  · exact q.elim
theorem te_neg (h : te g E (fun e s => (fa e s).bind fun x s1 => match x with
    | .int i => .ok (.int (-i)) s1
    | _ => .bad) σ H Q) : tUn (rU fun i => .int (-i)) (te g E fa) σ H Q := by
  obtain ⟨w, e, s, hr, re, h⟩ := h
  refine ⟨w, e, s, hr, re, h.bind.imp fun d w1 s1 H1 k hr1 q v rv => ?_⟩
  cases rv with
  | int i => exact ⟨i, rfl, same_ hr1 (.int _) q⟩
  | _ => exact q.elim
/-- the test's way on -/
theorem con_tst {r : Rs D} {f : Bool → Sto → Rs D} {E' : XK} {w : Wd} {P : D → Wd → Sto → Hp → Prop} (h : con g E' w H (Tst r f) P) : con g E' w H r fun d w1 s1 H1 => ∃ b, d = .bl b ∧ con g E' w1 H1 (f b s1) P := by
  refine (con.bind (r := r) h).imp fun d w1 s1 H1 k hr q => ?_
  cases d with
  | bl b => exact ⟨b, rfl, q⟩
  | _ => exact q.elim
theorem tt_tst {f : Bool → Sl → Sto → Rs D} {QB : Bool → Hp → Prop} {QT : Bool → Hp → Prop} (h : tt g E (fun e s => Tst (fa e s) fun b s1 => f b e s1) σ H QB)
    (hb : ∀ b H1, tt g E (f b) σ H1 QB → QT b H1) : tt g E fa σ H QT := by
  obtain ⟨w, e, s, hr, re, h⟩ := h
  refine ⟨w, e, s, hr, re, (con_tst h).imp fun d w1 s1 H1 k hr1 q => ?_⟩
  obtain ⟨b, rfl, q⟩ := q
  exact ⟨b, rfl, hb b H1 ⟨w1, e, s1, hr1, re.mono k, q⟩⟩
theorem te_tst {f : Bool → Sl → Sto → Rs D} {QT : Bool → Hp → Prop} (h : te g E (fun e s => Tst (fa e s) fun b s1 => f b e s1) σ H Q)
    (hb : ∀ b H1, te g E (f b) σ H1 Q → QT b H1) : tt g E fa σ H QT := by
  obtain ⟨w, e, s, hr, re, h⟩ := h
  refine ⟨w, e, s, hr, re, (con_tst h).imp fun d w1 s1 H1 k hr1 q => ?_⟩
  obtain ⟨b, rfl, q⟩ := q
  exact ⟨b, rfl, hb b H1 ⟨w1, e, s1, hr1, re.mono k, q⟩⟩
theorem te_done {b : Bool} (h : te g E (fun _ s => .ok (.bl b) s) σ H Q) : Q (.bl b) H := by
  obtain ⟨w, e, s, hr, re, h⟩ := h
  exact same_ hr (.bl b) h
theorem tt_done {b : Bool} {QB : Bool → Hp → Prop} (h : tt g E (fun _ s => .ok (.bl b) s) σ H QB) : QB b H := by
  obtain ⟨w, e, s, hr, re, h⟩ := h
  obtain ⟨b', e1, q⟩ := h w H (Kp.refl _ _) hr
  cases e1
  exact q
theorem te_ite (h : te g E (fun e s => Tst (fc e s) fun k s1 => if k then fa e s1 else fb e s1) σ H Q) : tIf (tt g E fc) (te g E fa) (te g E fb) σ H Q :=
  te_tst (f := fun k e s1 => if k then fa e s1 else fb e s1) h fun b H1 q => by cases b <;> exact q
theorem tt_and {QB : Bool → Hp → Prop} (h : tt g E (fun e s => Tst (fa e s) fun k s1 => if k then fb e s1 else .ok (.bl false) s1) σ H QB) : tAnd (tt g E fa) (tt g E fb) σ H QB :=
  tt_tst (f := fun k e s1 => if k then fb e s1 else .ok (.bl false) s1) h fun b H1 q => by
    cases b
    · exact tt_done q
    · exact q
theorem tt_or {QB : Bool → Hp → Prop} (h : tt g E (fun e s => Tst (fa e s) fun k s1 => if k then .ok (.bl true) s1 else fb e s1) σ H QB) : tOr (tt g E fa) (tt g E fb) σ H QB :=
  tt_tst (f := fun k e s1 => if k then .ok (.bl true) s1 else fb e s1) h fun b H1 q => by
    cases b
    · exact q
    · exact tt_done q
theorem tt_not {QB : Bool → Hp → Prop} (h : tt g E (fun e s => Tst (fa e s) fun k s1 => .ok (.bl (!k)) s1) σ H QB) : tNot (tt g E fa) σ H QB :=
  tt_tst (f := fun k _ s1 => .ok (.bl (!k)) s1) h fun b H1 q => tt_done q
theorem te_val {QT : Bool → Hp → Prop} (h : tt g E fa σ H QT) : te g E fa σ H fun x H1 => ∃ c, x = .bl c ∧ QT c H1 := tt_B h
theorem te_and (h : te g E (fun e s => Tst (fa e s) fun k s1 => if k then fb e s1 else .ok (.bl false) s1) σ H Q) : tAndV (te g E fa) (te g E fb) σ H Q :=
  te_val (te_tst (f := fun k e s1 => if k then fb e s1 else .ok (.bl false) s1) h fun b H1 q => by
    cases b
    · exact te_done q
    · exact q)
theorem te_or (h : te g E (fun e s => Tst (fa e s) fun k s1 => if k then .ok (.bl true) s1 else fb e s1) σ H Q) : tOrV (te g E fa) (te g E fb) σ H Q :=
  te_val (te_tst (f := fun k e s1 => if k then .ok (.bl true) s1 else fb e s1) h fun b H1 q => by
    cases b
    · exact q
    · exact te_done q)
theorem te_not (h : te g E (fun e s => Tst (fa e s) fun k s1 => .ok (.bl (!k)) s1) σ H Q) : tNotV (te g E fa) σ H Q :=
  te_val (te_tst (f := fun k _ s1 => .ok (.bl (!k)) s1) h fun b H1 q => te_done q)
theorem te_chain {f f' : Sto → D → D → Rs D} (hc : ∀ s a b, (f s a b).calm) (hc' : ∀ s a b, (f' s a b).calm)
    (h : te g E (fun e s => (fa e s).bind fun x s1 => (fb e s1).bind fun y s2 => Tst (f s2 x y) fun k s3 => if k then (fc e s3).bind fun z s4 => f' s4 y z else .ok (.bl false) s3) σ H Q) :
    tChain (rd2 g f) (rd2 g f') (te g E fa) (te g E fb) (te g E fc) σ H Q := by
  obtain ⟨w, e, s, hr, re, h⟩ := h
  refine ⟨w, e, s, hr, re, h.bind.imp fun a w1 s1 H1 k1 hr1 h1 x rx => ?_⟩
  refine ⟨w1, e, s1, hr1, re.mono k1, h1.bind.imp fun b w2 s2 H2 k2 hr2 h2 y ry => ?_⟩
  refine ⟨w2, s2, a, b, hr2, rx.mono k2, ry, ((con_tst h2).calm (hc _ _ _)).imp fun d w3 s3 H3 k3 hr3 h3 v rv => ?_⟩
  obtain ⟨k, rfl, h3⟩ := h3
  cases rv
  refine ⟨k, rfl, ?_⟩
  cases k
  · exact same_ hr3 (.bl false) h3
  · refine ⟨w3, e, s3, hr3, (re.mono (k1.trans k2)).mono k3, (con.bind h3).imp fun c w4 s4 H4 k4 hr4 h4 z rz => ?_⟩
    exact ⟨w4, s4, b, c, hr4, (ry.mono k3).mono k4, rz, h4.calm (hc' _ _ _)⟩
/-- a slice's parts -/
def to (g : G) (E : L2.St → XK) (n : Bool) (f : Sl → Sto → Rs D) : TO := fun σ H Q => ∃ w e s, HR g.K w H s ∧ RE g.K w H σ e ∧ con g (E σ) w H (f e s) (fun d _ _ H' => ∃ o, partF n d = some o ∧ Q o H')
theorem to_part {QO : Option Int → Hp → Prop} (h : to g E false fa σ H QO) : tPart (te g E fa) σ H QO := by
  obtain ⟨w, e, s, hr, re, h⟩ := h
  refine ⟨w, e, s, hr, re, h.imp fun d w' s' H' k hr' q v rv => ?_⟩
  obtain ⟨o, e1, q1⟩ := q
  unfold partF at e1
  cases rv with
  | int i => cases e1; exact ⟨i, rfl, q1⟩
  | _ => cases e1
theorem to_none {QO : Option Int → Hp → Prop} (h : to g E true (fun _ s => .ok .non s) σ H QO) : tNoPart σ H QO := by
  obtain ⟨w, e, s, hr, re, h⟩ := h
  obtain ⟨o, e1, q⟩ := h w H (Kp.refl _ _) hr
  cases e1
  exact q
theorem con_part {E' : XK} {w : Wd} {s : Sto} {o : Option (Option Int)} {f : Option Int → Rs D} {P : D → Wd → Sto → Hp → Prop} (h : con g E' w H (part s o f) P) : ∃ l, o = some l ∧ con g E' w H (f l) P := by
  cases o with
  | none => exact h.elim
  | some l => exact ⟨l, rfl, h⟩
theorem te_sl {n n' : Bool} (h : te g E (fun e s => (fa e s).bind fun x s1 => (fb e s1).bind fun l s2 => part s2 (partF n l) fun l => (fc e s2).bind fun h s3 => part s3 (partF n' h) fun h => slR s3 x l h) σ H Q) :
    tSl (rdS g) (te g E fa) (to g E n fb) (to g E n' fc) σ H Q := by
  obtain ⟨w, e, s, hr, re, h⟩ := h
  refine ⟨w, e, s, hr, re, h.bind.imp fun a w1 s1 H1 k1 hr1 h1 x rx => ?_⟩
  refine ⟨w1, e, s1, hr1, re.mono k1, h1.bind.imp fun l w2 s2 H2 k2 hr2 h2 => ?_⟩
  obtain ⟨lo, e1, h2⟩ := con_part h2
  refine ⟨lo, e1, w2, e, s2, hr2, re.mono (k1.trans k2), (con.bind h2).imp fun u w3 s3 H3 k3 hr3 h3 => ?_⟩
  obtain ⟨hi, e2, h3⟩ := con_part h3
  exact ⟨hi, e2, w3, s3, a, hr3, (rx.mono k2).mono k3, h3.calm (slR_calm _ _ _ _)⟩
theorem te_rev (hK : g.K = X.K) (h : te g E (fun e s => (fa e s).bind fun x s1 => revR s1 x) σ H Q) : tBack X.K (te g E fa) σ H Q := by
  obtain ⟨w, e, s, hr, re, h⟩ := h
  refine ⟨w, e, s, hr, re, h.bind.imp fun a w1 s1 H1 k1 hr1 q x ra => ?_⟩
  unfold revR at q
  split at q
  · cases ra with
    | tup e r => exact ⟨_, _, rfl, Or.inr ⟨hK ▸ e.sq, new_tup hr1 r.rev q⟩⟩
  · split at q
    · rename_i ds h1
      obtain ⟨ad, vs, rfl, e, r⟩ := listOf_rep hr1 ra h1
      exact ⟨_, _, rfl, Or.inl ⟨SqL.of e, new_lst hr1 r.rev q⟩⟩
    · exact q.elim
/-! calls -/
theorem te_call {n : Nat} {F : List D → Sto → Rs D} (hT : Args fa) (hn : ∀ e s ds s', fa e s = .ok (.tup ds) s' → ds.length = n) (h : te g E (fun e s => (fa e s).bind fun d s1 => F (tupOf d) s1) σ H Q) :
    tCallSD (spOf g n F) [] E (ta g E fa) σ H Q := by
  obtain ⟨w, e, s, hr, re, h⟩ := h
  refine ⟨w, e, s, hr, re, ?_⟩
  have hb := h.bind
  cases q : fa e s with
  | bad => rw [q] at hb; exact hb
  | ex n p s2 => rw [q] at hb; exact hb
  | ok d s2 =>
    rw [q] at hb
    obtain ⟨ds, rfl⟩ := hT _ _ _ _ q
    refine fun w' H' k hr' => ⟨ds, rfl, fun vs rv => ?_⟩
    show spOf g n F (vs ++ []) H' Q (E σ)
    rw [List.append_nil]
    exact ⟨w', s2, ds, hn _ _ _ _ q, hr', rv, hb w' H' k hr'⟩
theorem te_bi {F : Sto → List D → Rs D} (hT : Args fa) (hc : ∀ s as, (F s as).calm) (h : te g E (fun e s => (fa e s).bind fun d s1 => F s1 (tupOf d)) σ H Q) : tCB (rdC g F) (ta g E fa) σ H Q := by
  obtain ⟨w, e, s, hr, re, h⟩ := h
  refine ta_intro hT hr re (h.bind.imp fun d w1 s1 H1 k hr1 q ds vs ed _ rv => ?_)
  subst ed
  exact ⟨w1, s1, ds, hr1, rv, con.calm (r := F s1 ds) q (hc _ _)⟩
theorem te_me {f : Me} (hK : g.K = X.K) (hT : Args fb) (h : te g E (fun e s => (fa e s).bind fun x s1 => if recvR f s1 x then (fb e s1).bind fun d s2 => meR f s2 x (tupOf d) else .bad) σ H Q) :
    tBM X.K (meT f) (rdM g (meR f)) (te g E fa) (ta g E fb) σ H Q := by
  obtain ⟨w, e, s, hr, re, h⟩ := h
  refine ⟨w, e, s, hr, re, h.bind.imp fun a w1 s1 H1 k1 hr1 h1 x rx => ?_⟩
  split at h1
  · rename_i hv
    refine ⟨hK ▸ recv_rep hr1 rx hv, ta_intro hT hr1 (re.mono k1) ((con.bind h1).imp fun d w2 s2 H2 k2 hr2 q ds vs ed _ rv => ?_)⟩
    subst ed
    exact ⟨w2, s2, a, ds, hr2, rx.mono k2, rv, con.calm (r := meR f s2 a ds) q (meR_calm _ _ _ _)⟩
  · exact h1.elim
theorem te_isi {n : String} (h : te g E (fun e s => (fa e s).bind fun x s1 => isiR n s1 x) σ H Q) :
    tCB (fun xs H Q => ∃ x, xs = [x, .ty n] ∧ rd1 g (isiR n) x H Q) (tCons (te g E fa) (tCons (tC (.ty n)) tNil)) σ H Q := by
  obtain ⟨w, e, s, hr, re, h⟩ := h
  refine ⟨w, e, s, hr, re, h.bind.imp fun a w1 s1 H1 k1 hr1 q x rx => ?_⟩
  exact ⟨x, rfl, w1, s1, a, hr1, rx, q.calm (isiR_calm _ _ _)⟩
end
end Py
/-! Targets, what is walked, comprehensions. -/
namespace Py
open PySem PySem.Spec PyProof.Rows L2

section
variable {X : Cx} {g : G} {E : L2.St → XK}
/-! ### targets -/
/-- the target takes a value -/
def tcR (g : G) (t : Tc) : TG := fun v σ H Q => ∃ w e s d e', HR g.K w H s ∧ RE g.K w H σ e ∧ Rep g.K w H v d ∧ asgC t d e = some e' ∧
  ∀ σ', RE g.K w H σ' e' → (∀ vs : List Nat, (∀ i ∈ t.slots, i ∈ vs) → wipe σ' vs = wipe σ vs) → Q σ' H
def tcRs (g : G) (t : Tc) : TGs := fun us σ H Q => ∃ w e s ds e', HR g.K w H s ∧ RE g.K w H σ e ∧ RepL g.K w H us ds ∧ asgC t (.tup ds) e = some e' ∧
  ∀ σ', RE g.K w H σ' e' → (∀ vs : List Nat, (∀ i ∈ t.slots, i ∈ vs) → wipe σ' vs = wipe σ vs) → Q σ' H
theorem wipe_set : ∀ (vs : List Nat) (σ : L2.St) (i : Nat) (x : Option V), i ∈ vs → wipe (σ.set i x) vs = wipe σ vs
  | [], _, _, _, h => by cases h
  | v :: vs, σ, i, x, h => by
    show (wipe (σ.set i x) vs).set v none = (wipe σ vs).set v none
    by_cases hi : i ∈ vs
    · rw [wipe_set vs σ i x hi]
    · have e : i = v := by
        rcases List.mem_cons.mp h with e | e
        · exact e
        · exact (hi e).elim
      subst e
      apply List.ext_getElem?
      intro j
      by_cases hj : j = i
      · subst hj
        by_cases hl : j < σ.length
        · rw [List.getElem?_set_self (by rw [wipe_length]; simpa using hl), List.getElem?_set_self (by rw [wipe_length]; exact hl)]
        · rw [List.getElem?_eq_none (by simp [wipe_length]; omega), List.getElem?_eq_none (by simp [wipe_length]; omega)]
      · rw [List.getElem?_set_ne (Ne.symm hj), List.getElem?_set_ne (Ne.symm hj)]
        exact wipe_at vs σ i j x hj
where
  wipe_at : ∀ (vs : List Nat) (σ : L2.St) (i j : Nat) (x : Option V), j ≠ i → (wipe (σ.set i x) vs)[j]? = (wipe σ vs)[j]?
  | [], σ, i, j, x, h => List.getElem?_set_ne (Ne.symm h)
  | v :: vs, σ, i, j, x, h => by
    show ((wipe (σ.set i x) vs).set v none)[j]? = ((wipe σ vs).set v none)[j]?
    by_cases hv : j = v
    · subst hv
      by_cases hl : j < σ.length
      · rw [List.getElem?_set_self (by rw [wipe_length]; simpa using hl), List.getElem?_set_self (by rw [wipe_length]; exact hl)]
      · rw [List.getElem?_eq_none (by simp [wipe_length]; omega), List.getElem?_eq_none (by simp [wipe_length]; omega)]
    · rw [List.getElem?_set_ne (Ne.symm hv), List.getElem?_set_ne (Ne.symm hv)]
      exact wipe_at vs σ i j x h
structure TOk (F : Fx) (X : Cx) (c : Cs) : Prop where
  calm : X.calm = true
  N : X.N = F.N
  nd : F.N.Nodup
  sc : X.env.scope = c.sc
  fn : ∀ x, c.fn x = true → X.fn x = true
theorem chkTs_star {F : Fx} {c : Cs} : ∀ (t : Tc) (e : Expr), chkT F c t e = true → starB e = false
  | .nm _, e, h => by
    unfold chkT at h
    cases e <;> first | rfl | cases h
  | .nil, e, h => by
    unfold chkT at h
    cases e <;> first | rfl | cases h
  | .cons _ _, e, h => by
    unfold chkT at h
    cases e <;> first | rfl | cases h
theorem each_cons {env : Env} {e : Expr} {es : List Expr} (h : starB e = false) : assignEach (e :: es) env = (false, assign e env) :: assignEach es env := by
  cases e <;> first | rfl | cases h
theorem each_ok {F : Fx} {c : Cs} {env : Env} : ∀ (t : Tc) (es : List Expr), chkTs F c t es = true → (assignEach es env).length = es.length ∧ (assignEach es env).findIdx? (·.1) = none
  | .nm _, es, h => by unfold chkTs at h; cases h
  | .nil, es, h => by
    unfold chkTs at h
    have : es = [] := by simpa using h
    subst this
    exact ⟨rfl, rfl⟩
  | .cons t ts, es, h => by
    unfold chkTs at h
    cases es with
    | nil => cases h
    | cons e es =>
      simp only [Bool.and_eq_true] at h
      obtain ⟨a, b⟩ := each_ok (env := env) ts es h.2
      rw [each_cons (chkTs_star t e h.1)]
      refine ⟨by simp [a], ?_⟩
      rw [List.findIdx?_cons]
      simp [b]
theorem asgC_len : ∀ (t : Tc) (ds : List D) (e e' : Sl), asgC t (.tup ds) e = some e' → ∀ F c es, chkTs F c t es = true → ds.length = es.length
  | .nm _, ds, e, e', h, F, c, es, h2 => by unfold chkTs at h2; cases h2
  | .nil, ds, e, e', h, F, c, es, h2 => by
    unfold chkTs at h2
    have : es = [] := by simpa using h2
    subst this
    cases ds with
    | nil => rfl
    | cons d ds => unfold asgC at h; cases h
  | .cons t ts, ds, e, e', h, F, c, es, h2 => by
    unfold chkTs at h2
    cases es with
    | nil => cases h2
    | cons x es =>
      cases ds with
      | nil => unfold asgC at h; cases h
      | cons d ds =>
        simp only [Bool.and_eq_true] at h2
        unfold asgC at h
        cases q : asgC t d e with
        | none => rw [q] at h; cases h
        | some e1 =>
          rw [q] at h
          simp [asgC_len ts ds e1 e' h F c es h2.2]
theorem asgC_nil {d : D} {e e' : Sl} (h : asgC .nil d e = some e') : d = .tup [] ∧ e' = e := by
  cases d with
  | tup ds =>
    cases ds with
    | nil => unfold asgC at h; exact ⟨rfl, (Option.some.inj h).symm⟩
    | cons _ _ => unfold asgC at h; cases h
  | _ => unfold asgC at h; cases h
theorem asgC_cons {t ts : Tc} {d : D} {e e' : Sl} (h : asgC (.cons t ts) d e = some e') : ∃ x ds e1, d = .tup (x :: ds) ∧ asgC t x e = some e1 ∧ asgC ts (.tup ds) e1 = some e' := by
  cases d with
  | tup ds =>
    cases ds with
    | nil => unfold asgC at h; cases h
    | cons x ds =>
      unfold asgC at h
      cases q : asgC t x e with
      | none => rw [q] at h; cases h
      | some e1 => rw [q] at h; exact ⟨x, ds, e1, rfl, q, h⟩
  | _ => unfold asgC at h; cases h
theorem pg_imp {e : Expr} {t t' : TG} (h : PG X e t) (hi : ∀ v σ H Q, t' v σ H Q → t v σ H Q) : PG X e t' := ⟨fun pins s σ H v u Q I r q => h.run pins s σ H v u Q I r (hi _ _ _ _ q)⟩
theorem pgs_imp {e : List Expr} {t t' : TGs} (h : PGs X e t) (hi : ∀ v σ H Q, t' v σ H Q → t v σ H Q) : PGs X e t' := ⟨fun pins s σ H v u Q I r q => h.run pins s σ H v u Q I r (hi _ _ _ _ q)⟩
mutual
theorem pg_tc {F : Fx} {c : Cs} (hK : g.K = X.K) (o : TOk F X c) : ∀ (t : Tc) (e : Expr), chkT F c t e = true → PG X e (tcR g t)
  | .nm i, e, h => by
    unfold chkT at h
    cases e <;> first | cases h | skip
    rename_i x pos
    simp only [Bool.and_eq_true, decide_eq_true_eq] at h
    have hloc := h.2
    unfold locB at hloc
    have hN : X.N[i]? = some x := by rw [o.N]; exact h.1
    have hl : L2.Loc X.env.scope x ∧ (X.fn x = true ∨ X.env.scope.names.lookup x = some .local) := by
      rw [← o.sc] at hloc
      unfold L2.Loc
      split at hloc
      · rename_i q; exact ⟨Or.inl q, Or.inr q⟩
      · rename_i q; exact ⟨Or.inr q, Or.inl (o.fn x hloc)⟩
      · cases hloc
    refine pg_imp (pg_name (by rw [o.N]; exact o.nd) hN hl.1 hl.2) fun v σ H Q ⟨w, e, s, d, e', hr, re, rv, ea, q⟩ => ?_
    unfold asgC at ea
    cases ea
    exact q _ (re.set i rv) fun vs hv => wipe_set vs σ i _ (hv i (by unfold Tc.slots; simp))
  | .nil, e, h => by
    unfold chkT at h
    cases e <;> first | cases h | skip
    rename_i es k pos
    have : es = [] := by simpa using h
    subst this
    refine pg_imp (pg_tup o.calm pgs_nil) fun v σ H Q ⟨w, e, s, d, e', hr, re, rv, ea, q⟩ => ?_
    obtain ⟨rfl, rfl⟩ := asgC_nil ea
    cases rv with
    | tup a r =>
      cases r
      exact ⟨_, _, rfl, hK ▸ a.sq, rfl, rfl, q σ re fun _ _ => rfl⟩
  | .cons t ts, e, h => by
    unfold chkT at h
    cases e <;> first | cases h | skip
    rename_i es k pos
    cases es with
    | nil => cases h
    | cons x es =>
      have h2 : chkTs F c (.cons t ts) (x :: es) = true := by unfold chkTs; exact h
      simp only [Bool.and_eq_true] at h
      obtain ⟨a, b⟩ := each_ok (env := X.env) (.cons t ts) (x :: es) h2
      have hb : PGs X (x :: es) (gCons (tcR g t) (tcRs g ts)) := pgs_cons (pg_tc hK o t x h.1) (pgs_tc hK o ts es h.2) (by rw [each_cons (chkTs_star t x h.1)]; rfl)
      refine pg_imp (pg_tup o.calm hb a b) fun v σ H Q ⟨w, e, s, d, e', hr, re, rv, ea, q⟩ => ?_
      obtain ⟨y, ds, e1, rfl, q1, q2⟩ := asgC_cons ea
      have hlen := asgC_len (.cons t ts) (y :: ds) e e' ea F c (x :: es) h2
      cases rv with
      | tup ha rl =>
        have l1 := rl.length
        refine ⟨_, _, rfl, hK ▸ ha.sq, by rw [l1]; exact hlen, ?_⟩
        cases rl with
        | cons r1 r2 =>
          refine ⟨_, _, rfl, w, e, s, y, e1, hr, re, r1, q1, fun σ1 re1 ho1 => ?_⟩
          exact ⟨w, e1, s, ds, e', hr, re1, r2, q2, fun σ2 re2 ho2 => q σ2 re2 fun vs hv => (ho2 vs fun i hi => hv i (by unfold Tc.slots; exact List.mem_append_right _ hi)).trans (ho1 vs fun i hi => hv i (by unfold Tc.slots; exact List.mem_append_left _ hi))⟩
theorem pgs_tc {F : Fx} {c : Cs} (hK : g.K = X.K) (o : TOk F X c) : ∀ (t : Tc) (es : List Expr), chkTs F c t es = true → PGs X es (tcRs g t)
  | .nm i, es, h => by unfold chkTs at h; cases h
  | .nil, es, h => by
    unfold chkTs at h
    have : es = [] := by simpa using h
    subst this
    refine pgs_imp pgs_nil fun v σ H Q ⟨w, e, s, ds, e', hr, re, rv, ea, q⟩ => ?_
    obtain ⟨e1, rfl⟩ := asgC_nil ea
    cases e1
    cases rv
    exact ⟨rfl, q σ re fun _ _ => rfl⟩
  | .cons t ts, es, h => by
    unfold chkTs at h
    cases es with
    | nil => cases h
    | cons x es =>
      simp only [Bool.and_eq_true] at h
      refine pgs_imp (pgs_cons (pg_tc hK o t x h.1) (pgs_tc hK o ts es h.2) (by rw [each_cons (chkTs_star t x h.1)]; rfl)) fun v σ H Q ⟨w, e, s, ds', e', hr, re, rv, ea, q⟩ => ?_
      obtain ⟨y, ds, e1, eq1, q1, q2⟩ := asgC_cons ea
      cases eq1
      cases rv with
      | cons r1 r2 =>
        refine ⟨_, _, rfl, w, e, s, y, e1, hr, re, r1, q1, fun σ1 re1 ho1 => ?_⟩
        exact ⟨w, e1, s, ds, e', hr, re1, r2, q2, fun σ2 re2 ho2 => q σ2 re2 fun vs hv => (ho2 vs fun i hi => hv i (by unfold Tc.slots; exact List.mem_append_right _ hi)).trans (ho1 vs fun i hi => hv i (by unfold Tc.slots; exact List.mem_append_left _ hi))⟩
end
end
end Py
/-! What is walked; comprehensions. -/
namespace Py
open PySem PySem.Spec PyProof.Rows L2

/-- J walks the items ds of the source, as they stand -/
structure WalksD (g : G) (k : Ik) (as : List D) (vs : List V) (ds : List D) (J : L2.It) : Prop where
  go : ∀ (i : Nat) (w : Wd) (H : Hp) (s : Sto), i < ds.length → HR g.K w H s → RepL g.K w H vs as → itemsOf k s (.tup as) = some ds → J.go i H
  stop : ∀ (w : Wd) (H : Hp) (s : Sto), HR g.K w H s → RepL g.K w H vs as → itemsOf k s (.tup as) = some ds → J.stop ds.length H
  yld : ∀ (i : Nat) (w : Wd) (H : Hp) (s : Sto) (x : V) (H' : Hp), i < ds.length → HR g.K w H s → RepL g.K w H vs as → itemsOf k s (.tup as) = some ds → J.yld i H x H' →
    ∃ d, ds[i]? = some d ∧ Kp w H w H' ∧ HR g.K w H' s ∧ Rep g.K w H' x d ∧ ∀ a ∈ w.b, H' a = H a
def ti (g : G) (E : L2.St → XK) (k : Ik) (f : Sl → Sto → Rs D) : TI := fun σ H R => ∃ w e s, HR g.K w H s ∧ RE g.K w H σ e ∧
  con g (E σ) w H (f e s) fun d w' s' H' => ∃ as ds, d = .tup as ∧ itemsOf k s' d = some ds ∧ ∀ vs J, RepL g.K w' H' vs as → WalksD g k as vs ds J → R J H'
theorem seqOf_list {K : PySem.W.Frag} {w : Wd} {H : Hp} {s : Sto} (hr : HR K w H s) {v : V} {d : D} {ds : List D} (r : Rep K w H v d) (h : seqOf s d = some ds) (nt : ∀ es, d ≠ .tup es) : ∃ a vs, v = .ref a ∧ SqL K H a vs ∧ RepL K w H vs ds := by
  unfold seqOf at h
  split at h
  · rename_i es; exact (nt es rfl).elim
  · cases h
    cases r with
    | fro e r => exact ⟨_, _, rfl, e.sq, r⟩
  · obtain ⟨a, vs, e1, e2, e3⟩ := listOf_rep hr r h
    exact ⟨a, vs, e1, SqL.of e2, e3⟩
section
variable {X : Cx} {g : G} {E : L2.St → XK}
theorem walks_list {a : Addr} {d : D} {ds : List D} (hK : g.K = X.K) (nt : ∀ es, d ≠ .tup es) : WalksD g .plain [d] [.ref a] ds (Itl X.K a) where
  go := fun i w H s hi hr r e => by
    obtain ⟨v, e1, rv⟩ := r.single
    cases e1
    obtain ⟨b, vs, e2, h, rl⟩ := seqOf_list hr rv e nt
    cases e2
    rw [← rl.length] at hi
    exact ⟨vs, vs[i], hK ▸ h, List.getElem?_eq_getElem hi⟩
  stop := fun w H s hr r e => by
    obtain ⟨v, e1, rv⟩ := r.single
    cases e1
    obtain ⟨b, vs, e2, h, rl⟩ := seqOf_list hr rv e nt
    cases e2
    exact ⟨vs, hK ▸ h, by rw [rl.length]; exact Nat.le_refl _⟩
  yld := fun i w H s x H' hi hr r e y => by
    obtain ⟨v, e1, rv⟩ := r.single
    cases e1
    obtain ⟨b, vs, e2, h, rl⟩ := seqOf_list hr rv e nt
    cases e2
    obtain ⟨rfl, hy⟩ := y
    obtain ⟨d', h1, h2⟩ := rl.at' (hy vs (hK ▸ h))
    exact ⟨d', h1, Kp.refl _ _, hr, h2, fun _ _ => rfl⟩
theorem walks_tup {a : Addr} {es ds : List D} (hK : g.K = X.K) : WalksD g .plain [.tup es] [.ref a] ds (Itt X.K a) where
  go := fun i w H s hi hr r e => by
    obtain ⟨v, e1, rv⟩ := r.single
    cases e1
    cases rv with
    | tup h rl =>
      cases e
      rw [← rl.length] at hi
      exact ⟨_, _, hK ▸ h.sq, List.getElem?_eq_getElem hi⟩
  stop := fun w H s hr r e => by
    obtain ⟨v, e1, rv⟩ := r.single
    cases e1
    cases rv with
    | tup h rl =>
      cases e
      exact ⟨_, hK ▸ h.sq, by rw [rl.length]; exact Nat.le_refl _⟩
  yld := fun i w H s x H' hi hr r e y => by
    obtain ⟨v, e1, rv⟩ := r.single
    cases e1
    cases rv with
    | tup h rl =>
      cases e
      obtain ⟨rfl, hy⟩ := y
      obtain ⟨d', h1, h2⟩ := rl.at' (hy _ (hK ▸ h.sq))
      exact ⟨d', h1, Kp.refl _ _, hr, h2, fun _ _ => rfl⟩
/-- a list or a tuple, whichever it is -/
def iAny (K : PySem.W.Frag) (tl : TE) : TI := fun σ H R => tl σ H fun x H1 => ∃ a, x = .ref a ∧ (((∃ xs, SqL K H1 a xs) ∧ R (Itl K a) H1) ∨ ((∃ xs, SqT K H1 a xs) ∧ R (Itt K a) H1))
theorem pi_any {tg l : Expr} {tl : TE} (hl : PE X l tl) : PI X tg l (iAny X.K tl) := by
  constructor
  intro pins s σ H R I h
  apply thn (hl.run pins s σ H _ I h)
  rintro v s1 ⟨x, H1, I1, r1, a, e, q⟩
  subst e
  cases r1
  have fp : ∀ b ∈ [s1.heap.objs.size], FpOk X pins H1 b := by
    intro b hb
    have e : b = s1.heap.objs.size := by simpa using hb
    subst e
    exact I1.fpOk (Nat.le_refl _) (I1.hok.fresh (Nat.le_refl _))
  rcases q with ⟨⟨xs, hq⟩, q⟩ | ⟨⟨xs, hq⟩, q⟩
  · obtain ⟨its, _, p, _⟩ := I1.list hq
    apply wpAny_pyIter_list p.isList
    exact ⟨_, [_], _, _, H1, rfl, I1.kept (t' := s1.toks) fun b o z => Heap.get?_push_of_some _ z, turn_list a _, ⟨_, Heap.get?_push_size _ rfl, rfl, rfl⟩, fp, q⟩
  · obtain ⟨its, _, p, _⟩ := I1.tuple hq
    apply wpAny_pyIter_tuple (show s1.heap.IsTuple a its.toArray from p)
    exact ⟨_, [_], _, _, H1, rfl, I1.kept (t' := s1.toks) fun b o z => Heap.get?_push_of_some _ z, turn_tuple a _, ⟨_, Heap.get?_push_size _ rfl, rfl, rfl⟩, fp, q⟩
theorem pi_imp {tg e : Expr} {t t' : TI} (h : PI X tg e t) (hi : ∀ σ H R, t' σ H R → t σ H R) : PI X tg e t' := ⟨fun pins s σ H Q I q => h.run pins s σ H Q I (hi _ _ _ q)⟩
variable {fa : Sl → Sto → Rs D}
theorem pi_plain {tg iter : Expr} (hK : g.K = X.K) (he : PE X iter (te g E fa)) : PI X tg iter (ti g E .plain fun e s => (fa e s).bind fun d s1 => .ok (.tup [d]) s1) :=
  pi_imp (pi_any he) fun σ H R ⟨w, e, s, hr, re, h⟩ => by
    refine ⟨w, e, s, hr, re, h.bind.imp fun d w1 s1 H1 k hr1 q x rx => ?_⟩
    obtain ⟨as, ds, e1, e2, q⟩ := q w1 H1 (Kp.refl _ _) hr1
    cases e1
    have e3 : seqOf s1 d = some ds := e2
    by_cases ht : ∃ es, d = .tup es
    · obtain ⟨es, rfl⟩ := ht
      cases rx with
      | tup h rl => exact ⟨_, rfl, Or.inr ⟨⟨_, hK ▸ h.sq⟩, q _ _ (.one (.tup h rl)) (walks_tup hK)⟩⟩
    · have nt : ∀ es, d ≠ .tup es := fun es z => ht ⟨es, z⟩
      obtain ⟨a, vs, rfl, h, rl⟩ := seqOf_list hr1 rx e3 nt
      exact ⟨_, rfl, Or.inl ⟨⟨_, hK ▸ h⟩, q _ _ (.one rx) (walks_list hK nt)⟩⟩
theorem walks_rng {as : List D} {vs : List V} {lo : Int} {n : Nat} {ds : List D} (hd : ∀ s ds', itemsOf .rng s (.tup as) = some ds' → ds' = (List.range n).map fun i => .int (lo + (i : Nat))) (hds : ds = (List.range n).map fun i => .int (lo + (i : Nat))) : WalksD g .rng as vs ds (Itr lo n) where
  go := fun i w H s hi _ _ _ => by
    rw [hds] at hi
    show i < n
    simpa using hi
  stop := fun w H s _ _ _ => by
    rw [hds]
    show n ≤ _
    simp
  yld := fun i w H s x H' hi hr _ _ y => by
    obtain ⟨rfl, rfl⟩ := y
    have hi' : i < n := by rw [hds] at hi; simpa using hi
    exact ⟨.int (lo + i), by rw [hds, List.getElem?_map, List.getElem?_range hi']; rfl, Kp.refl _ _, hr, .int _, fun _ _ => rfl⟩
theorem ti_args {k : Ik} {n : Nat} {R : L2.It → Hp → Prop} {σ : L2.St} {H : Hp} {QA : List V → Hp → Prop} (hT : Args fa) (hn : ∀ e s ds s', fa e s = .ok (.tup ds) s' → ds.length = n) (h : ti g E k fa σ H R)
    (hq : ∀ w' H' s' as ds vs, as.length = n → HR g.K w' H' s' → RepL g.K w' H' vs as → itemsOf k s' (.tup as) = some ds → (∀ J, WalksD g k as vs ds J → R J H') → QA vs H') : ta g E fa σ H QA := by
  obtain ⟨w, e, s, hr, re, h⟩ := h
  refine ⟨w, e, s, hr, re, ?_⟩
  cases q : fa e s with
  | bad => rw [q] at h; exact h
  | ex n p s2 => rw [q] at h; exact h
  | ok d s2 =>
    rw [q] at h
    obtain ⟨as, rfl⟩ := hT _ _ _ _ q
    refine fun w' H' k hr' => ⟨as, rfl, fun vs rv => ?_⟩
    obtain ⟨as', its, e1, e2, q1⟩ := h w' H' k hr'
    cases e1
    exact hq _ _ _ _ _ _ (hn _ _ _ _ q) hr' rv e2 fun J hJ => q1 _ _ rv hJ
theorem star_cons {e : Expr} {es : List Expr} {env : Env} (h : starB e = false) : starEach (e :: es) env = (false, eval e env) :: starEach es env := by
  cases e <;> first | rfl | cases h
theorem pi_rng1 {tg a : Expr} {p pos : Pos} (hg : Gl X "range") (hm : X.mg "range" = none) (ha : PA X [a] (ta g E fa)) (hT : Args fa) (hn : ∀ e s ds s', fa e s = .ok (.tup ds) s' → ds.length = 1) (hs : starB a = false) : PI X tg (.Call (.Name "range" p) [a] [] pos) (ti g E .rng fa) := by
  refine pi_imp (pi_range1 hg hm ha (star_cons hs)) fun σ H R h => ?_
  refine ti_args hT hn h fun w' H' s' as ds vs hl hr rv e q => ?_
  have e' : rngI as = some ds := e
  unfold rngI at e'
  split at e'
  · split at e'
    · rename_i j hb
      cases e'
      rw [rv.int1]
      exact ⟨_, rfl, hb.1, hb.2, q _ (walks_rng (lo := 0) (fun s ds' e2 => (Option.some.inj (e.symm.trans e2)).symm) rfl)⟩
    · cases e'
  · cases hl
  · cases e'
theorem pi_rng2 {tg a b : Expr} {p pos : Pos} (hg : Gl X "range") (hm : X.mg "range" = none) (ha : PA X [a, b] (ta g E fa)) (hT : Args fa) (hn : ∀ e s ds s', fa e s = .ok (.tup ds) s' → ds.length = 2) (hs : starB a = false) (hs2 : starB b = false) : PI X tg (.Call (.Name "range" p) [a, b] [] pos) (ti g E .rng fa) := by
  refine pi_imp (pi_range2 hg hm ha (by rw [star_cons hs, star_cons hs2]; rfl) (star_cons hs2)) fun σ H R h => ?_
  refine ti_args hT hn h fun w' H' s' as ds vs hl hr rv e q => ?_
  have e' : rngI as = some ds := e
  unfold rngI at e'
  split at e'
  · cases hl
  · split at e'
    · rename_i j hb
      cases e'
      rw [rv.int2]
      exact ⟨_, _, rfl, hb, q _ (walks_rng (fun s ds' e2 => (Option.some.inj (e.symm.trans e2)).symm) rfl)⟩
    · cases e'
  · cases e'
/-! ### comprehensions -/
theorem ofnoex {α : Type} {r : Rs α} {w : Wd} {H : Hp} {E1 E2 : XK} {P : α → Wd → Sto → Hp → Prop} (h : con g E1 w H r.noex P) : con g E2 w H r P := by
  cases r with
  | ok d s => exact h
  | ex x p s => exact h.elim
  | bad => exact h
theorem wipe_in : ∀ (vs : List Nat) (σ : L2.St) (i : Nat), i ∈ vs → i < σ.length → (wipe σ vs)[i]? = some none
  | [], _, _, h, _ => by cases h
  | v :: vs, σ, i, h, hl => by
    show ((wipe σ vs).set v none)[i]? = some none
    by_cases hv : i = v
    · subst hv
      rw [List.getElem?_set_self (by rw [wipe_length]; exact hl)]
    · rw [List.getElem?_set_ne (Ne.symm hv)]
      exact wipe_in vs σ i ((List.mem_cons.mp h).resolve_left hv) hl
theorem wipe_idem (σ : L2.St) (vs : List Nat) : wipe (wipe σ vs) vs = wipe σ vs := by
  apply List.ext_getElem?
  intro i
  by_cases h : i ∈ vs
  · by_cases hl : i < σ.length
    · rw [wipe_in vs _ i h (by rw [wipe_length]; exact hl), wipe_in vs σ i h hl]
    · rw [List.getElem?_eq_none (by simp [wipe_length]; omega), List.getElem?_eq_none (by simp [wipe_length]; omega)]
  · exact wipe_out h
theorem upd_ne' {H : Hp} {p : Addr} {o : HO} {a : Addr} (h : a ≠ p) : upd H p o a = H a := upd_ne h
/-- the turns: what is left to be asked of the whole is carried as it was -/
theorem te_comp {mt : Bool} {own : List (Str × Nat)} {t : Tc} {k : Ik} {fi fc fe : Sl → Sto → Rs D} {σ : L2.St} {H : Hp} {Q : VK} (hown : ∀ i ∈ t.slots, i ∈ own.map (·.2))
    (h : te g E (fun e s => (fi e s).bind fun src s1 => match itemsOf k s1 src with
      | some all => (compL k src all t (wipeD e (own.map (·.2))) fc fe all [] s1).bind fun ds s2 => newL mt ds s2
      | none => .bad) σ H Q) (hTi : Args fi) :
    tLc (ti g E k fi) (tcR g t) (tt g (fun _ _ _ _ => False) fc) (te g (fun _ _ _ _ => False) fe) (own.map (·.2)) σ H Q := by
  obtain ⟨w, e, s, hr, re, h⟩ := h
  refine ⟨w, e, s, hr, re, ?_⟩
  have hb := h.bind
  cases q : fi e s with
  | bad => rw [q] at hb; exact hb
  | ex n p s2 => rw [q] at hb; exact hb
  | ok src s1 =>
    rw [q] at hb
    obtain ⟨as, rfl⟩ := hTi _ _ _ _ q
    intro w1 H1 k1 hr1
    have h1 : con g (E σ) w1 H1 (match itemsOf k s1 (.tup as) with
      | some all => (compL k (.tup as) all t (wipeD e (own.map (·.2))) fc fe all [] s1).bind fun ds s2 => newL mt ds s2
      | none => .bad) (VQ g Q) := hb w1 H1 k1 hr1
    cases hall : itemsOf k s1 (.tup as) with
    | none => rw [hall] at h1; exact h1.elim
    | some all =>
      rw [hall] at h1
      refine ⟨as, all, rfl, rfl, fun vs J rv wk => ?_⟩
      have h1 : con g (E σ) w1 H1 ((compL k (.tup as) all t (wipeD e (own.map (·.2))) fc fe all [] s1).bind fun ds s2 => newL mt ds s2) (VQ g Q) := h1
      have re1 := re.mono k1
      intro p hp
      have np := hr1.fresh hp
      obtain ⟨kq, hr2⟩ := hr1.hide (o := .lst []) hp
      refine ⟨fun i m H => i + m = all.length ∧ ∃ (m2 : List Addr) (s : Sto) (acc : List D) (vacc : List V), Kp w1 H1 ⟨m2, w1.b⟩ H ∧ HR g.K ⟨m2, p :: w1.b⟩ H s ∧ H p = some (.lst vacc) ∧ RepL g.K ⟨m2, p :: w1.b⟩ H vacc acc ∧
        RE g.K ⟨m2, p :: w1.b⟩ H (wipe σ (own.map (·.2))) (wipeD e (own.map (·.2))) ∧ RepL g.K ⟨m2, p :: w1.b⟩ H vs as ∧
        con g (E σ) w1 H1 ((compL k (.tup as) all t (wipeD e (own.map (·.2))) fc fe (all.drop i) acc s).bind fun ds s2 => newL mt ds s2) (VQ g Q), ⟨all.length, by omega, w1.m, s1, [], [], kp_new hp, hr2, upd_same, .nil, (re1.monoQ kq).wipe _, rv.monoQ kq, by rw [List.drop_zero]; exact h1⟩, ?_⟩
      rintro i m H2 ⟨him, m2, s2, acc, vacc, kp2, hr2, hpa, racc, re2, rv2, h1⟩
      cases m with
      | zero =>
        left
        have hi : i = all.length := by omega
        subst hi
        rw [List.drop_length] at h1
        unfold compL at h1
        split at h1
        · rename_i hg
          refine ⟨wk.stop _ _ _ hr2 rv2 hg, ?_⟩
          cases mt with
          | false =>
            obtain ⟨kq2, hr3⟩ := hr2.show
            exact h1 _ _ kp2 hr3 (.ref p) (.lst hpa ⟨hr2.nb p List.mem_cons_self, np.2⟩ (racc.monoQ kq2))
          | true =>
            obtain ⟨kq2, hr3⟩ := hr2.take (ho := .lst vacc) (o := .lst acc) np.2 hpa racc
            refine h1 ⟨m2 ++ [p], w1.b⟩ _ ⟨kp2.pre.trans (List.prefix_append _ _), rfl, fun a o ha n => kp2.keep a o ha n, fun a ha n => ?_⟩ hr3 (.ref p) (.ref (by rw [← hr2.len]; simp))
            rcases List.mem_append.mp ha with z | z
            · exact kp2.new a z n
            · have z : a = p := by simpa using z
              subst z
              exact hp
        · exact h1.elim
      | succ m =>
        right
        have hi : i < all.length := by omega
        rw [List.drop_eq_getElem_cons hi] at h1
        unfold compL at h1
        split at h1
        · rename_i hg
          split at h1
          · rename_i e' he'
            refine ⟨wk.go i _ _ _ hi hr2 rv2 hg, _, fun H' q => ⟨m, Nat.lt_succ_self m, q⟩, fun x H' y => ?_⟩
            obtain ⟨d, hd, ky, hry, rx, hh⟩ := wk.yld i _ _ _ x H' hi hr2 rv2 hg y
            have ed : all[i] = d := by rw [List.getElem?_eq_getElem hi] at hd; exact Option.some.inj hd
            rw [ed] at he'
            have hpa' : H' p = some (.lst vacc) := (hh p List.mem_cons_self).trans hpa
            have next : ∀ (m3 : List Addr) (s3 : Sto) (H3 : Hp) (acc3 : List D) (vacc3 : List V), Kp ⟨m2, p :: w1.b⟩ H' ⟨m3, p :: w1.b⟩ H3 → HR g.K ⟨m3, p :: w1.b⟩ H3 s3 → RepL g.K ⟨m3, p :: w1.b⟩ H3 vacc3 acc3 →
                con g (E σ) w1 H1 ((compL k (.tup as) all t (wipeD e (own.map (·.2))) fc fe (all.drop (i + 1)) acc3 s3).bind fun ds s2 => newL mt ds s2) (VQ g Q) →
                i + 1 + m = all.length ∧ ∃ (m2 : List Addr) (s : Sto) (acc : List D) (vacc : List V), Kp w1 H1 ⟨m2, w1.b⟩ (upd H3 p (.lst vacc3)) ∧ HR g.K ⟨m2, p :: w1.b⟩ (upd H3 p (.lst vacc3)) s ∧ (upd H3 p (.lst vacc3)) p = some (.lst vacc) ∧ RepL g.K ⟨m2, p :: w1.b⟩ (upd H3 p (.lst vacc3)) vacc acc ∧
                  RE g.K ⟨m2, p :: w1.b⟩ (upd H3 p (.lst vacc3)) (wipe σ (own.map (·.2))) (wipeD e (own.map (·.2))) ∧ RepL g.K ⟨m2, p :: w1.b⟩ (upd H3 p (.lst vacc3)) vs as ∧
                  con g (E σ) w1 H1 ((compL k (.tup as) all t (wipeD e (own.map (·.2))) fc fe (all.drop (i + 1)) acc s).bind fun ds s2 => newL mt ds s2) (VQ g Q) := by
              intro m3 s3 H3 acc3 vacc3 k3 hr3 r3 e3
              have k23 := ky.trans k3
              refine ⟨by omega, m3, s3, acc3, vacc3, ⟨kp2.pre.trans k23.pre, rfl, fun a o ha n => ?_, fun a ha n => ?_⟩, hr3.own List.mem_cons_self, upd_same, r3.own List.mem_cons_self, (re2.mono k23).own List.mem_cons_self, (rv2.mono k23).own List.mem_cons_self, e3⟩
              · rw [upd_ne (ne_of_none ha hp)]
                exact k23.keep a o (kp2.keep a o ha n) (kp2.outm ha n)
              · by_cases h2 : a ∈ m2
                · exact kp2.new a h2 n
                · have z := k23.new a ha h2
                  cases q : H1 a with
                  | none => rfl
                  | some o => rw [kp2.keep a o q n] at z; cases z
            refine ⟨_, _, s2, d, e', hry, re2.mono ky, rx, he', fun σ' re' hw => ⟨(hw _ hown).trans (wipe_idem _ _), ⟨_, e', s2, hry, re', ?_⟩⟩⟩
            cases qc : fc e' s2 with
            | bad => rw [qc] at h1; exact h1.elim
            | ex n pp s3 => rw [qc] at h1; exact h1.elim
            | ok dc s3 =>
              rw [qc] at h1
              intro w3 H3 k3 hr3
              obtain ⟨m3, b3⟩ := w3
              have eb : b3 = p :: w1.b := k3.b
              subst eb
              have hpa3 : H3 p = some (.lst vacc) := k3.keep p _ hpa' (hry.nb p List.mem_cons_self)
              cases dc with
              | bl b =>
                refine ⟨b, rfl, ?_⟩
                cases b with
                | true =>
                  show te g (fun _ _ _ _ => False) fe σ' H3 _
                  refine ⟨_, e', s3, hr3, re'.mono k3, ?_⟩
                  have h1 : con g (E σ) w1 H1 ((Rs.bind (fe e' s3).noex fun y s2 => if acc.length < sizeLine then compL k (.tup as) all t (wipeD e (own.map (·.2))) fc fe (all.drop (i + 1)) (acc ++ [y]) s2 else .bad).bind fun ds s2 => newL mt ds s2) (VQ g Q) := h1
                  cases qe : fe e' s3 with
                  | bad => rw [qe] at h1; exact h1.elim
                  | ex n pp s4 => rw [qe] at h1; exact h1.elim
                  | ok dy s4 =>
                    rw [qe] at h1
                    have h1 : con g (E σ) w1 H1 ((if acc.length < sizeLine then compL k (.tup as) all t (wipeD e (own.map (·.2))) fc fe (all.drop (i + 1)) (acc ++ [dy]) s4 else .bad).bind fun ds s2 => newL mt ds s2) (VQ g Q) := h1
                    intro w4 H4 k4 hr4 y ry
                    obtain ⟨m4, b4⟩ := w4
                    have eb : b4 = p :: w1.b := k4.b
                    subst eb
                    have hpa4 : H4 p = some (.lst vacc) := k4.keep p _ hpa3 (hr3.nb p List.mem_cons_self)
                    have racc4 := ((racc.mono ky).mono k3).mono k4
                    split at h1
                    · rename_i hz
                      exact ⟨vacc, hpa4, by rw [racc.length]; exact hz, next m4 s4 H4 (acc ++ [dy]) (vacc ++ [y]) (k3.trans k4) hr4 (racc4.app (.one ry)) h1⟩
                    · exact h1.elim
                | false =>
                  have e3 : upd H3 p (.lst vacc) = H3 := by
                    funext a
                    by_cases ha : a = p
                    · subst ha; rw [upd_same, hpa3]
                    · rw [upd_ne ha]
                  have z := next m3 s3 H3 acc vacc k3 hr3 ((racc.mono ky).mono k3) h1
                  rw [e3] at z
                  exact z
              | _ => exact h1.elim
          · exact h1.elim
        · exact h1.elim
end
end Py
/-! Expressions: what the checker takes does what we say. -/
namespace Py
open PySem PySem.Spec PyProof.Rows L2

structure XOk (g : G) (F : Fx) (T : Tb) (X : Cx) (c : Cs) (E : L2.St → XK) (k : Nat) : Prop where
  K : g.K = X.K
  calm : X.calm = true
  room : Room k X.A
  N : X.N = F.N
  nd : F.N.Nodup
  sc : X.env.scope = c.sc
  kind : c.sc.kind = .function
  fn : ∀ x, c.fn x = true → X.fn x = true
  fr : ∀ x, F.fr x = true → X.mg x = none
  fns : ∀ f nm n, F.fns f = some (nm, n) → ∃ (a : Addr) (fd : FuncData) (ps : List Str) (CX : CXT), FnOk X.prog X.w X.K X.mg X.base CX k a fd ps (spOf g n (T.f f)) ∧ X.mg nm = some (.ref a) ∧ PySem.W.keepIn X.K (.ref a) = true ∧ Binds X.K fd ps [] ∧
    (∀ σ, PassesAt CX X σ (E σ)) ∧ ∀ outer H s e s', ¬ CX outer H s (fun _ _ _ => False) e s'
  gs : ∀ x y, F.gs x = some y → ∃ d v u, T.c x = some d ∧ X.mg y = some u ∧ RelV v u ∧ ∀ w H, Rep g.K w H v d
theorem XOk.tok {g : G} {F : Fx} {T : Tb} {X : Cx} {c : Cs} {E : L2.St → XK} {k : Nat} (o : XOk g F T X c E k) : TOk F X c := ⟨o.calm, o.N, o.nd, o.sc, o.fn⟩
def blkCs (c : Cs) (scope : Scope) : Cs := ⟨relB c.sc scope, fun x => scope.names.lookup x == some .cell⟩
theorem XOk.blk {g : G} {F : Fx} {T : Tb} {X : Cx} {c : Cs} {E : L2.St → XK} {k : Nat} (o : XOk g F T X c E k) {scope : Scope} (hs : scope.kind = .function) (s : Shared) (H : Hp) (C : Addr) (cl : List (Str × Addr)) (fp : List Addr) :
    XOk g F T (X.blk s H scope (compEnvC scope cl C X.env) fp) (blkCs c scope) (fun _ _ _ _ => False) k where
  K := o.K
  calm := o.calm
  room := o.room
  N := o.N
  nd := o.nd
  sc := by
    show relabel scope X.env = relB c.sc scope
    rw [← o.sc]
    rfl
  kind := hs
  fn := fun x h => h
  fr := o.fr
  fns := fun f nm n e => by
    obtain ⟨a, fd, ps, CX, h1, h2, h3, h4, h5, h6⟩ := o.fns f nm n e
    exact ⟨a, fd, ps, CX, h1, h2, h3, h4, fun σ pins H s e s' _ z => h6 _ _ _ _ _ z, h6⟩
  gs := o.gs
def alen : Em → Nat
  | .cons _ b => alen b + 1
  | _ => 0
theorem args_of {F : Fx} {T : Tb} {c : Cs} : ∀ (a : Em) (es : List Expr), chkA F a c es = true → alen a = es.length ∧ ∀ e s d s', ev T a e s = .ok d s' → ∃ ds, d = .tup ds ∧ ds.length = es.length
  | .nil, es, h => by
    unfold chkA at h
    have : es = [] := by simpa using h
    subst this
    exact ⟨rfl, fun e s d s' q => by unfold ev at q; cases q; exact ⟨[], rfl, rfl⟩⟩
  | .cons a b, es, h => by
    unfold chkA at h
    cases es with
    | nil => cases h
    | cons x es =>
      simp only [Bool.and_eq_true] at h
      obtain ⟨i1, i2⟩ := args_of (T := T) b es h.2
      refine ⟨by simp [alen, i1], fun e s d s' q => ?_⟩
      unfold ev at q
      cases qa : ev T a e s with
      | bad => rw [qa] at q; cases q
      | ex n p s2 => rw [qa] at q; cases q
      | ok d1 s1 =>
        rw [qa] at q
        have q : (ev T b e s1).bind (fun ds s2 => .ok (.tup (d1 :: tupOf ds)) s2) = .ok d s' := q
        cases qb : ev T b e s1 with
        | bad => rw [qb] at q; cases q
        | ex n p s2 => rw [qb] at q; cases q
        | ok d2 s2 =>
          rw [qb] at q
          cases q
          obtain ⟨ds, rfl, hl⟩ := i2 _ _ _ _ qb
          exact ⟨_, rfl, by simp [tupOf, hl]⟩
  | .var _, es, h => by unfold chkA at h; cases h
  | .c _, es, h => by unfold chkA at h; cases h
  | .gl _, es, h => by unfold chkA at h; cases h
  | .tup _, es, h => by unfold chkA at h; cases h
  | .lst _ _, es, h => by unfold chkA at h; cases h
  | .bin _ _ _, es, h => by unfold chkA at h; cases h
  | .neg _, es, h => by unfold chkA at h; cases h
  | .cmp _ _ _, es, h => by unfold chkA at h; cases h
  | .chain _ _ _ _ _, es, h => by unfold chkA at h; cases h
  | .and _ _, es, h => by unfold chkA at h; cases h
  | .or _ _, es, h => by unfold chkA at h; cases h
  | .not _, es, h => by unfold chkA at h; cases h
  | .ite _ _ _, es, h => by unfold chkA at h; cases h
  | .ix _ _, es, h => by unfold chkA at h; cases h
  | .sl _ _ _, es, h => by unfold chkA at h; cases h
  | .rev _, es, h => by unfold chkA at h; cases h
  | .call _ _, es, h => by unfold chkA at h; cases h
  | .bi _ _, es, h => by unfold chkA at h; cases h
  | .me _ _ _, es, h => by unfold chkA at h; cases h
  | .lset _, es, h => by unfold chkA at h; cases h
  | .isi _ _, es, h => by unfold chkA at h; cases h
  | .it _ _, es, h => by unfold chkA at h; cases h
  | .comp _ _ _ _ _ _ _, es, h => by unfold chkA at h; cases h
theorem Args.of {F : Fx} {T : Tb} {c : Cs} {a : Em} {es : List Expr} (h : chkA F a c es = true) : Args (ev T a) := fun e s d s' q => let ⟨ds, e1, _⟩ := (args_of a es h).2 e s d s' q; ⟨ds, e1⟩
theorem Args.len {F : Fx} {T : Tb} {c : Cs} {a : Em} {es : List Expr} (h : chkA F a c es = true) : ∀ e s ds s', ev T a e s = .ok (.tup ds) s' → ds.length = es.length := fun e s ds s' q => by
  obtain ⟨ds', e1, e2⟩ := (args_of a es h).2 e s _ s' q
  cases e1
  exact e2
theorem chk_star {F : Fx} {c : Cs} {a : Em} {e : Expr} (h : chk F a c e = true) : starB e = false := by
  cases e <;> first | rfl | skip
  cases a <;> (unfold chk at h) <;> first | cases h | skip
  all_goals (first | (unfold callB at h; cases h) | (split at h <;> first | cases h | (unfold callB at h; cases h)) | cases h)
/-- not one of the forms that a test treats on its own -/
def plainB : Expr → Bool
  | .UnaryOp .Not _ _ => false
  | .BoolOp _ _ _ => false
  | .IfExp _ _ _ _ => false
  | .Compare _ _ _ _ => false
  | _ => true
theorem pt_plain {X : Cx} {e : Expr} {t : TE} (h : PE X e t) (hp : plainB e = true) : PT X e (tB t) := by
  refine pt_val h fun whole => ?_
  cases e <;> first | rfl | cases hp | skip
  rename_i op x pos
  cases op <;> first | rfl | cases hp
theorem recv_base {e : Expr} {m : Str} {env : Env} (h : recvB e = true) : attributeBase e m env (eval e env) = eval e env := by
  unfold attributeBase
  cases e <;> first | rfl | skip
  rename_i f args kws pos
  cases args with
  | nil => cases h
  | cons a as => cases f <;> rfl
theorem few_ok {es : List Expr} {env : Env} {pos : Pos} (h : ∀ e ∈ es, starB e = false) : ((backTo pos (starEach es env)).any (·.1) = false) ∧ ((backTo pos (starEach es env)).all fun x => !x.1) = true := by
  induction es with
  | nil => exact ⟨rfl, rfl⟩
  | cons e es ih =>
    obtain ⟨a, b⟩ := ih fun x hx => h x (List.mem_cons_of_mem _ hx)
    rw [star_cons (h e List.mem_cons_self)]
    unfold backTo at a b ⊢
    simp only [List.map_cons, List.any_cons, List.all_cons]
    rw [a, b]
    exact ⟨rfl, rfl⟩
theorem chkA_star {F : Fx} {c : Cs} : ∀ (a : Em) (es : List Expr), chkA F a c es = true → ∀ e ∈ es, starB e = false := by
  intro a es
  induction es generalizing a with
  | nil => intro _ e he; cases he
  | cons x es ih =>
    intro h e he
    cases a <;> (unfold chkA at h) <;> first | cases h | skip
    · simp only [Bool.and_eq_true, Bool.not_eq_true'] at h
      rcases List.mem_cons.mp he with z | z
      · rw [z]; exact h.1.1
      · exact ih _ h.2 e z
end Py
/-! Expressions: what the checker takes does what we say. -/
namespace Py
open PySem PySem.Spec PyProof.Rows L2

structure Snd (g : G) (F : Fx) (T : Tb) (a : Em) : Prop where
  pe : ∀ (X : Cx) (c : Cs) (E : L2.St → XK) (k : Nat), XOk g F T X c E k → ∀ (e : Expr), chk F a c e = true → PE X e (te g E (ev T a))
  pt : ∀ (X : Cx) (c : Cs) (E : L2.St → XK) (k : Nat), XOk g F T X c E k → ∀ (e : Expr), chk F a c e = true → ifB e = false → PT X e (tt g E (ev T a))
  pa : ∀ (X : Cx) (c : Cs) (E : L2.St → XK) (k : Nat), XOk g F T X c E k → ∀ (es : List Expr), chkA F a c es = true → PA X es (ta g E (ev T a))
  pr : ∀ (X : Cx) (c : Cs) (E : L2.St → XK) (k : Nat), XOk g F T X c E k → ∀ (es : List Expr) (b : Bool), chkR F a b c es = true → ∀ pos,
    PE X (.BoolOp (if b then .And else .Or) es pos) (te g E (ev T a)) ∧ PW X (.BoolOp (if b then .And else .Or) es pos) (tt g E (ev T a))
  pi : ∀ (X : Cx) (c : Cs) (E : L2.St → XK) (k : Nat), XOk g F T X c E k → ∀ (kk : Ik) (tg iter : Expr), chkI F a kk c tg iter = true → PI X tg iter (ti g E kk (ev T a)) ∧ setB iter = false
section
variable {g : G} {F : Fx} {T : Tb}
theorem Snd.val {a : Em} (pe : ∀ (X : Cx) (c : Cs) (E : L2.St → XK) (k : Nat), XOk g F T X c E k → ∀ (e : Expr), chk F a c e = true → PE X e (te g E (ev T a)) ∧ plainB e = true)
    (hA : ∀ c es, chkA F a c es = false) (hR : ∀ b c es, chkR F a b c es = false) (hI : ∀ k c tg it, chkI F a k c tg it = false) : Snd g F T a where
  pe := fun X c E k o e h => (pe X c E k o e h).1
  pt := fun X c E k o e h _ => pt_imp (pt_plain (pe X c E k o e h).1 (pe X c E k o e h).2) fun _ _ _ q => tt_B q
  pa := fun X c E k o es h => by rw [hA] at h; cases h
  pr := fun X c E k o es b h => by rw [hR] at h; cases h
  pi := fun X c E k o kk tg iter h => by rw [hI] at h; cases h
theorem Snd.both {a : Em} (main : ∀ (X : Cx) (c : Cs) (E : L2.St → XK) (k : Nat), XOk g F T X c E k → ∀ (e : Expr), chk F a c e = true → PE X e (te g E (ev T a)) ∧ PT X e (tt g E (ev T a)))
    (hA : ∀ c es, chkA F a c es = false) (hR : ∀ b c es, chkR F a b c es = false) (hI : ∀ k c tg it, chkI F a k c tg it = false) : Snd g F T a where
  pe := fun X c E k o e h => (main X c E k o e h).1
  pt := fun X c E k o e h _ => (main X c E k o e h).2
  pa := fun X c E k o es h => by rw [hA] at h; cases h
  pr := fun X c E k o es b h => by rw [hR] at h; cases h
  pi := fun X c E k o kk tg iter h => by rw [hI] at h; cases h
theorem Snd.E {a : Em} (s : Snd g F T a) {X : Cx} {c : Cs} {E : L2.St → XK} {k : Nat} (o : XOk g F T X c E k) {e : Expr} (h : chk F a c e = true) : PE X e (te g E (ev T a)) := s.pe X c E k o e h
theorem Snd.Tt {a : Em} (s : Snd g F T a) {X : Cx} {c : Cs} {E : L2.St → XK} {k : Nat} (o : XOk g F T X c E k) {e : Expr} (h : chk F a c e = true) (hi : ifB e = false) : PT X e (tt g E (ev T a)) := s.pt X c E k o e h hi
theorem Snd.A {a : Em} (s : Snd g F T a) {X : Cx} {c : Cs} {E : L2.St → XK} {k : Nat} (o : XOk g F T X c E k) {es : List Expr} (h : chkA F a c es = true) : PA X es (ta g E (ev T a)) := s.pa X c E k o es h
theorem Snd.R {a : Em} (s : Snd g F T a) {X : Cx} {c : Cs} {E : L2.St → XK} {k : Nat} (o : XOk g F T X c E k) {es : List Expr} {b : Bool} (h : chkR F a b c es = true) (pos : Pos) :
    PE X (.BoolOp (if b then .And else .Or) es pos) (te g E (ev T a)) ∧ PW X (.BoolOp (if b then .And else .Or) es pos) (tt g E (ev T a)) := s.pr X c E k o es b h pos
theorem not_lit {x y : Str} (h : (!(x == y)) = true) : (x == y) = false := by simpa using h
theorem snd_var (i : Nat) : Snd g F T (.var i) := Snd.val (fun X c E k o e h => by
  unfold chk at h
  cases e <;> first | cases h | skip
  rename_i x pos
  unfold nameB at h
  simp only [Bool.and_eq_true, decide_eq_true_eq] at h
  obtain ⟨⟨⟨h1, h2⟩, h3⟩, h4⟩ := h
  refine ⟨pe_imp (pe_var (i := i) (by rw [o.N]; exact h1) ?_ (not_lit h3) (not_lit h4)) fun σ H Q q => te_var (by unfold te at q ⊢; exact q), rfl⟩
  unfold Vis
  rw [o.sc]
  unfold visB at h2
  split at h2
  · rename_i q; exact Or.inl q
  · rename_i q; exact Or.inr (Or.inl q)
  · rename_i q; exact Or.inr (Or.inr q)
  · cases h2) (fun _ _ => by unfold chkA; rfl) (fun _ _ _ => by unfold chkR; rfl) (fun _ _ _ _ => by unfold chkI; rfl)
theorem snd_c (d : D) : Snd g F T (.c d) := Snd.val (fun X c E k o e h => by
  unfold chk at h
  cases e <;> first | cases h | skip
  rename_i cst kk pos
  refine ⟨?_, rfl⟩
  cases d <;> cases cst <;> unfold constB at h <;> first | cases h | skip
  · exact pe_imp pe_non fun σ H Q q => te_c (d := .non) (fun _ _ => .non) (show te g E (fun _ s => .ok .non s) σ H Q from q)
  · have e := eq_of_beq h
    subst e
    exact pe_imp pe_bl fun σ H Q q => te_c (d := .bl _) (fun _ _ => .bl _) (show te g E (fun _ s => .ok (.bl _) s) σ H Q from q)
  · have e := of_decide_eq_true h
    subst e
    exact pe_imp pe_int fun σ H Q q => te_c (d := .int _) (fun _ _ => .int _) (show te g E (fun _ s => .ok (.int _) s) σ H Q from q)
  · have e := of_decide_eq_true h
    subst e
    exact pe_imp pe_str fun σ H Q q => te_c (d := .str _) (fun _ _ => .str _) (show te g E (fun _ s => .ok (.str _) s) σ H Q from q)) (fun _ _ => by unfold chkA; rfl) (fun _ _ _ => by unfold chkR; rfl) (fun _ _ _ _ => by unfold chkI; rfl)
theorem glB_ok {X : Cx} {c : Cs} {E : L2.St → XK} {k : Nat} (o : XOk g F T X c E k) {x : Str} (h : glB c.sc x = true) : Gl X x ∧ (x == ("__debug__" : Str)) = false := by
  unfold glB at h
  simp only [Bool.and_eq_true, decide_eq_true_eq] at h
  refine ⟨?_, not_lit h.2⟩
  show X.env.scope.names.lookup x = some .globalImplicit
  rw [o.sc]
  exact h.1
theorem snd_gl (x : Nat) : Snd g F T (.gl x) := Snd.val (fun X c E k o e h => by
  unfold chk at h
  cases e <;> first | cases h | skip
  rename_i y pos
  simp only [Bool.and_eq_true, decide_eq_true_eq] at h
  obtain ⟨h3, h2⟩ := h
  obtain ⟨d, v, u, e1, e2, e3, e4⟩ := o.gs x y h3
  obtain ⟨hg, hd⟩ := glB_ok o h2
  refine ⟨pe_imp (pe_glob hg e2 e3 hd) fun σ H Q q => te_c (E := E) (d := d) e4 ?_, rfl⟩
  have e5 : (fun (e : Sl) (s : Sto) => ev T (.gl x) e s) = fun _ s => .ok d s := by
    funext e s
    unfold ev
    rw [e1]
  rw [← e5]
  exact q) (fun _ _ => by unfold chkA; rfl) (fun _ _ _ => by unfold chkR; rfl) (fun _ _ _ _ => by unfold chkI; rfl)
theorem snd_nil : Snd g F T .nil where
  pe := fun X c E k o e h => by unfold chk at h; cases h
  pt := fun X c E k o e h => by unfold chk at h; cases h
  pa := fun X c E k o es h => by
    unfold chkA at h
    have : es = [] := by simpa using h
    subst this
    exact pa_imp pa_nil fun σ H Q q => ta_nil q
  pr := fun X c E k o es b h => by unfold chkR at h; cases h
  pi := fun X c E k o kk tg iter h => by unfold chkI at h; cases h
theorem snd_cons {a b : Em} (ia : Snd g F T a) (ib : Snd g F T b) : Snd g F T (.cons a b) where
  pe := fun X c E k o e h => by unfold chk at h; cases h
  pt := fun X c E k o e h => by unfold chk at h; cases h
  pa := fun X c E k o es h => by
    unfold chkA at h
    cases es with
    | nil => cases h
    | cons x es =>
      simp only [Bool.and_eq_true, Bool.not_eq_true'] at h
      exact pa_imp (pa_cons (ia.E o h.1.2) (ib.A o h.2) (star_cons h.1.1)) fun σ H Q q => ta_cons q (Args.of h.2)
  pr := fun X c E k o es b h => by unfold chkR at h; cases h
  pi := fun X c E k o kk tg iter h => by unfold chkI at h; cases h
theorem snd_tup {a : Em} (ia : Snd g F T a) : Snd g F T (.tup a) := Snd.val (fun X c E k o e h => by
  unfold chk at h
  cases e <;> first | cases h | skip
  exact ⟨pe_imp (pe_tup (ia.A o h)) fun σ H Q q => te_tup (Args.of h) q, rfl⟩) (fun _ _ => by unfold chkA; rfl) (fun _ _ _ => by unfold chkR; rfl) (fun _ _ _ _ => by unfold chkI; rfl)
theorem snd_lst {mt : Bool} {a : Em} (ia : Snd g F T a) : Snd g F T (.lst mt a) := Snd.val (fun X c E k o e h => by
  unfold chk at h
  cases e <;> first | cases h | skip
  exact ⟨pe_imp (pe_lst (ia.A o h)) fun σ H Q q => te_lst (Args.of h) q, rfl⟩) (fun _ _ => by unfold chkA; rfl) (fun _ _ _ => by unfold chkR; rfl) (fun _ _ _ _ => by unfold chkI; rfl)
theorem opB_ok {o : Op} {p : Operator} (h : opB o p = true) : p = opOf o := by
  cases o <;> cases p <;> first | rfl | cases h
theorem snd_bin {op : Op} {a b : Em} (ia : Snd g F T a) (ib : Snd g F T b) : Snd g F T (.bin op a b) := Snd.val (fun X c E k o e h => by
  unfold chk at h
  cases e <;> first | cases h | skip
  simp only [Bool.and_eq_true] at h
  have e1 := opB_ok h.1.1
  subst e1
  exact ⟨pe_imp (pe_op (bin_all o.K op) (ia.E o h.1.2) (ib.E o h.2)) fun σ H Q q => te_op2 (binR_calm op) q, rfl⟩) (fun _ _ => by unfold chkA; rfl) (fun _ _ _ => by unfold chkR; rfl) (fun _ _ _ _ => by unfold chkI; rfl)
theorem snd_neg {a : Em} (ia : Snd g F T a) : Snd g F T (.neg a) := Snd.val (fun X c E k o e h => by
  unfold chk at h
  cases e <;> first | cases h | skip
  rename_i op x pos
  cases op <;> first | cases h | skip
  exact ⟨pe_imp (pe_un un_neg (ia.E o h)) fun σ H Q q => te_neg q, rfl⟩) (fun _ _ => by unfold chkA; rfl) (fun _ _ _ => by unfold chkR; rfl) (fun _ _ _ _ => by unfold chkI; rfl)
/-! comparisons -/
theorem cmp_isN {X : Cx} : OpR X (compareOp .Is) (rd2 g (cmpR .isN)) := opAny op_isN fun x y H Q ⟨w, s, a, b, hr, ra, rb, q⟩ => by
  have q : con g (fun _ _ _ => False) w H (if isNone b then .ok (.bl (isNone a)) s else .bad) (VQ g Q) := q
  split at q
  · rename_i hb
    cases rb <;> first | cases hb | skip
    refine ⟨rfl, ?_⟩
    have e : decide (x = .non) = isNone a := by cases ra <;> simp [isNone]
    rw [e]
    exact same_ hr (.bl _) q
  · exact q.elim
theorem cmp_notN {X : Cx} : OpR X (compareOp .IsNot) (rd2 g (cmpR .notN)) := opAny op_notN fun x y H Q ⟨w, s, a, b, hr, ra, rb, q⟩ => by
  have q : con g (fun _ _ _ => False) w H (if isNone b then .ok (.bl (!isNone a)) s else .bad) (VQ g Q) := q
  split at q
  · rename_i hb
    cases rb <;> first | cases hb | skip
    refine ⟨rfl, ?_⟩
    have e : decide (x = .non) = isNone a := by cases ra <;> simp [isNone]
    rw [e]
    exact same_ hr (.bl _) q
  · exact q.elim
theorem cmp_all {X : Cx} {c : Cs} {E : L2.St → XK} {k : Nat} (o : XOk g F T X c E k) {m : Cm} {p : CmpOp} (h : cmB m p = true ∨ isNB m p = true) : OpR X (compareOp p) (rd2 g (cmpR m)) := by
  have hu : X.A.units + 65 < cLine := by have := o.room.un; omega
  cases m <;> cases p <;> first | (rcases h with h | h <;> cases h; done) | skip
  · exact cmp_eq o.K hu
  · exact cmp_ne o.K hu
  · exact cmp_int op_lt
  · exact cmp_int op_le
  · exact cmp_int op_gt
  · exact cmp_int op_ge
  · exact cmp_in o.K hu
  · exact cmp_notin o.K hu
  · exact cmp_isN
  · exact cmp_notN
theorem set_mark {op : CmpOp} {e : Expr} (h : setB e = false) : behindInMarks op e = false := by
  cases e <;> first | rfl | cases h
theorem snd_cmp {m : Cm} {a b : Em} (ia : Snd g F T a) (ib : Snd g F T b) : Snd g F T (.cmp m a b) := by
  have main : ∀ (X : Cx) (c : Cs) (E : L2.St → XK) (k : Nat), XOk g F T X c E k → ∀ (e : Expr), chk F (.cmp m a b) c e = true →
      PE X e (te g E (ev T (.cmp m a b))) ∧ PT X e (tt g E (ev T (.cmp m a b))) := by
    intro X c E k o e h
    unfold chk at h
    split at h
    · rename_i x p y pos
      simp only [Bool.and_eq_true, Bool.or_eq_true, Bool.not_eq_true'] at h
      obtain ⟨⟨h1, h2⟩, h3⟩ := h
      have hb : chk F b c y = true := h3.elim (fun z => z.2) (fun z => z.2)
      have hop : OpR X (compareOp p) (rd2 g (cmpR m)) := cmp_all o (h3.elim (fun z => Or.inl z.1) (fun z => Or.inr z.1.1))
      exact ⟨pe_imp (pe_cmpR hop (ia.E o h1) (ib.E o hb) (set_mark h2)) fun σ H Q q => te_op2 (cmpR_calm m) q,
        pt_imp (pt_cmpR hop (ia.E o h1) (ib.E o hb) (set_mark h2)) fun σ H Q q => te_op2 (cmpR_calm m) (tt_B q)⟩
    · cases h
  exact Snd.both main (fun _ _ => by unfold chkA; rfl) (fun _ _ _ => by unfold chkR; rfl) (fun _ _ _ _ => by unfold chkI; rfl)
theorem snd_chain {m m' : Cm} {a b d : Em} (ia : Snd g F T a) (ib : Snd g F T b) (id : Snd g F T d) : Snd g F T (.chain m m' a b d) := by
  have main : ∀ (X : Cx) (c : Cs) (E : L2.St → XK) (k : Nat), XOk g F T X c E k → ∀ (e : Expr), chk F (.chain m m' a b d) c e = true →
      PE X e (te g E (ev T (.chain m m' a b d))) ∧ PT X e (tt g E (ev T (.chain m m' a b d))) := by
    intro X c E k o e h
    unfold chk at h
    split at h
    · rename_i x p q y z pos
      simp only [Bool.and_eq_true, Bool.not_eq_true'] at h
      obtain ⟨⟨⟨⟨h1, h2⟩, h3⟩, h4⟩, h5⟩ := h
      have hop : OpR X (compareOp p) (rd2 g (cmpR m)) := cmp_all o (Or.inl h4.1)
      have hop' : OpR X (compareOp q) (rd2 g (cmpR m')) := cmp_all o (Or.inl h5.1)
      have hm : lastMarks [p, q] [y, z] = false := set_mark h3
      exact ⟨pe_imp (pe_chain hop hop' (ia.E o h1) (ib.E o h4.2) (id.E o h5.2) hm) fun σ H Q q => te_chain (cmpR_calm m) (cmpR_calm m') q,
        pt_imp (pt_chain hop hop' (ia.E o h1) (ib.E o h4.2) (id.E o h5.2) hm) fun σ H Q q => te_chain (cmpR_calm m) (cmpR_calm m') (tt_B q)⟩
    · cases h
  exact Snd.both main (fun _ _ => by unfold chkA; rfl) (fun _ _ _ => by unfold chkR; rfl) (fun _ _ _ _ => by unfold chkI; rfl)
end
end Py
/-! len(set(x)), x a tuple of few tuples of whole numbers and such tuples. -/
namespace Py
open PySem PySem.Spec PyProof.Rows L2
open Sem (wp)

mutual
def numK : NestedKey → Bool
  | .num _ => true
  | .tup ks => numsK ks
  | _ => false
def numsK : List NestedKey → Bool
  | [] => true
  | k :: ks => numK k && numsK ks
end
theorem numsK_mem : ∀ {ks : List NestedKey}, numsK ks = true → ∀ k ∈ ks, numK k = true
  | _ :: ks, h, k, hk => by
    unfold numsK at h
    rw [Bool.and_eq_true] at h
    cases hk with
    | head => exact h.1
    | tail _ hk => exact numsK_mem h.2 k hk
theorem depth_mem : ∀ {ks : List NestedKey}, ∀ k ∈ ks, k.depth ≤ NestedKey.depthAll ks
  | _ :: ks, k, hk => by
    unfold NestedKey.depthAll
    cases hk with
    | head => exact Nat.le_max_left _ _
    | tail _ hk => exact Nat.le_trans (depth_mem k hk) (Nat.le_max_right _ _)
theorem nested_mem {h : Heap} : ∀ {ks : List NestedKey} {vs : List Value}, NestedAll h ks vs → ∀ v ∈ vs, ∃ k ∈ ks, NestedIs h k v
  | _, _, .cons a b, v, hv => by
    cases hv with
    | head => exact ⟨_, List.mem_cons_self, a⟩
    | tail _ hv =>
      obtain ⟨k, h1, h2⟩ := nested_mem b v hv
      exact ⟨k, List.mem_cons_of_mem _ h1, h2⟩
/-- what is asked of an element: how deep, what it is -/
structure Elt (h : Heap) (n : Nat) (k : NestedKey) (v : Value) : Prop where
  is : NestedIs h k v
  nums : numK k = true
  dep : k.depth ≤ n
/-- the elements of one of them -/
theorem Elt.parts {h : Heap} {n : Nat} {ks : List NestedKey} {b : Addr} (e : Elt h (n + 1) (.tup ks) (.ref b)) :
    ∃ (o : Obj) (vs : Array Value) (c : Nat), h.get? b = some o ∧ o.cls = .type "tuple" ∧ o.data = .seq vs c ∧ ∀ v ∈ vs.toList, ∃ k, Elt h n k v := by
  obtain ⟨i, nm, dp⟩ := e
  cases i with
  | @tup _ o vs c _ h1 h2 h3 h4 =>
    refine ⟨o, vs, c, h1, h2, h3, fun v hv => ?_⟩
    obtain ⟨k, hk, hi⟩ := nested_mem h4 v hv
    unfold NestedKey.depth at dp
    unfold numK at nm
    exact ⟨k, hi, numsK_mem nm k hk, by have := depth_mem k hk; omega⟩
section
variable {P : Program} {w : World} {E : Value → Shared → Prop}
theorem elt_hash : ∀ (n : Nat) (k : NestedKey) (v : Value) (A : Around) (s : Shared) (Q : Bool → Shared → Prop), Elt s.heap n k v → Q true s → wpAny (model P w) A (hashByValue n v) Q E s := by
  intro n
  induction n with
  | zero =>
    rintro k v A s Q ⟨i, nm, dp⟩ q
    cases i with
    | none => cases nm
    | bool _ => exact wpAny_pure q
    | int => exact wpAny_pure q
    | text => cases nm
    | tup _ _ _ _ => unfold NestedKey.depth at dp; omega
  | succ n ih =>
    intro k v A s Q e q
    cases e.is with
    | none => cases e.nums
    | bool _ => exact wpAny_pure q
    | int => exact wpAny_pure q
    | text => cases e.nums
    | @tup b _ _ _ _ _ _ _ _ =>
      obtain ⟨o, vs, c, ho, hc, hd, hall⟩ := e.parts
      have hT : s.TypeIs (.ref b) "tuple" := ⟨o, ho, hc⟩
      unfold hashByValue
      apply wpAny_bind
      apply wpAny_specialOf hT F.slot_tuple_hash.lookup
      show wpAny _ _ (seqItems? (.ref b) >>= _) _ _ s
      apply wpAny_bind
      apply wpAny_seqItems ho hd
      apply wpAny_bind
      show wpAny _ _ (forIn vs _ _) _ _ s
      rw [← Array.forIn_toList]
      apply wpAny_forIn_list _ (fun rest r t => r.1 = none ∧ t = s ∧ ∀ v ∈ rest, ∃ k, Elt s.heap n k v)
      · rintro v rest r t ⟨hr, rfl, ha⟩
        obtain ⟨k', e'⟩ := ha v List.mem_cons_self
        apply wpAny_bind
        apply ih k' v _ _ _ e'
        simp only [Bool.not_true, Bool.false_eq_true, if_false]
        exact wpAny_pure ⟨rfl, rfl, fun u hu => ha u (List.mem_cons_of_mem _ hu)⟩
      · rintro ⟨r1, r2⟩ t ⟨hr, rfl, _⟩
        simp only at hr
        subst hr
        exact wpAny_pure q
      · exact ⟨rfl, rfl, hall⟩
theorem elt_class : ∀ (n : Nat) (k : NestedKey) (v : Value) (A : Around) (s : Shared) (Q : Bool → Shared → Prop), Elt s.heap n k v → Q false s → wpAny (model P w) A (ofAClassStatement n v) Q E s := by
  have flat : ∀ (n : Nat) (v : Value) (A : Around) (s : Shared) (Q : Bool → Shared → Prop), ofAClassStatement n v = pure false → Q false s → wpAny (model P w) A (ofAClassStatement n v) Q E s := fun n v A s Q h q => by
    rw [h]
    exact wpAny_pure q
  intro n
  induction n with
  | zero =>
    rintro k v A s Q ⟨i, nm, dp⟩ q
    cases i with
    | none => cases nm
    | bool _ => exact flat _ _ _ _ _ rfl q
    | int => exact flat _ _ _ _ _ rfl q
    | text => cases nm
    | tup _ _ _ _ => unfold NestedKey.depth at dp; omega
  | succ n ih =>
    intro k v A s Q e q
    cases e.is with
    | none => cases e.nums
    | bool _ => exact flat _ _ _ _ _ rfl q
    | int => exact flat _ _ _ _ _ rfl q
    | text => cases e.nums
    | @tup b _ _ _ _ _ _ _ _ =>
      obtain ⟨o, vs, c, ho, hc, hd, hall⟩ := e.parts
      have hT : s.TypeIs (.ref b) "tuple" := ⟨o, ho, hc⟩
      unfold ofAClassStatement
      apply wpAny_bind
      apply wpAny_typeOf hT
      have e1 : (("tuple" : String) == "tuple") = true := by decide
      simp only [e1, if_true, Bool.not_true, Bool.false_eq_true, if_false]
      show wpAny _ _ (seqItems? (.ref b) >>= _) _ _ s
      apply wpAny_bind
      apply wpAny_seqItems ho hd
      dsimp only
      apply wpAny_bind
      show wpAny _ _ (forIn vs _ _) _ _ s
      rw [← Array.forIn_toList]
      apply wpAny_forIn_list _ (fun rest r t => r.1 = none ∧ t = s ∧ ∀ v ∈ rest, ∃ k, Elt s.heap n k v)
      · rintro v rest r t ⟨hr, rfl, ha⟩
        obtain ⟨k', e'⟩ := ha v List.mem_cons_self
        apply wpAny_bind
        apply ih k' v _ _ _ e'
        simp only [Bool.false_eq_true, if_false]
        exact wpAny_pure ⟨rfl, rfl, fun u hu => ha u (List.mem_cons_of_mem _ hu)⟩
      · rintro ⟨r1, r2⟩ t ⟨hr, rfl, _⟩
        simp only at hr
        subst hr
        exact wpAny_pure q
      · exact ⟨rfl, rfl, hall⟩
/-- nobody sees the search -/
theorem elt_seen {A : Around} {s : Shared} {k : NestedKey} {b : Addr} {Q : Bool → Shared → Prop} (e : Elt s.heap 8 k (.ref b)) {ys : List Value} (hy : ∀ y ∈ ys, ∃ k' c, y = Value.ref c ∧ Elt s.heap 8 k' (.ref c)) (q : Q false s) :
    wpAny (model P w) A (searchCouldBeSeen (.ref b) ys) Q E s := by
  unfold searchCouldBeSeen
  apply wpAny_bind
  apply wpAny_forIn_list _ (fun rest r t => r.1 = none ∧ t = s ∧ ∀ y ∈ rest, ∃ k' c, y = Value.ref c ∧ Elt s.heap 8 k' (.ref c))
  · rintro v rest r t ⟨hr, rfl, ha⟩
    obtain ⟨k', c, rfl, e'⟩ := ha v List.mem_cons_self
    have more : ∀ y ∈ rest, ∃ k' c, y = Value.ref c ∧ Elt t.heap 8 k' (.ref c) := fun u hu => ha u (List.mem_cons_of_mem _ hu)
    dsimp only
    by_cases hv : (b == c || (carriedByValue (.ref b) && carriedByValue (.ref c))) = true
    · apply wp_if_pos hv
      exact wpAny_pure ⟨rfl, rfl, more⟩
    · apply wp_if_neg hv
      apply wpAny_bind
      apply quiet_key k _ 8 _ e.is e.dep
      simp only [Bool.not_true, Bool.false_eq_true, if_false]
      apply wpAny_bind
      apply quiet_key k' _ 8 _ e'.is e'.dep
      simp only [Bool.not_true, Bool.false_eq_true, if_false]
      apply wpAny_bind
      apply elt_class 8 k _ _ _ _ e
      simp only [Bool.false_eq_true, if_false]
      apply wpAny_bind
      apply elt_class 8 k' _ _ _ _ e'
      simp only [Bool.false_eq_true, if_false]
      exact wpAny_pure ⟨rfl, rfl, more⟩
  · rintro ⟨r1, r2⟩ t ⟨hr, rfl, _⟩
    simp only at hr
    subst hr
    exact wpAny_pure q
  · exact ⟨rfl, rfl, hy⟩
end

/-! ### the table -/
/-- a set with these elements, each by its object and its key -/
structure SetK (w : World) (h : Heap) (a : Addr) (L : List (Addr × NestedKey)) (es : Array (Int × Value)) (ep : Nat) (t : SetTable) : Prop where
  ob : ∃ o, h.get? a = some o ∧ o.ExactSet ∧ o.data = .set es ep t
  rows : es.toList = L.map fun p => (p.2.hash w, Value.ref p.1)
  tab : TabOk t (L.map fun p => p.2.hash w)
  nd : (L.map (·.2)).Nodup
  el : ∀ p ∈ L, Elt h 8 p.2 (.ref p.1)
  plain : t.plain = true
  mask : t.mask = 7
  few : L.length ≤ 4
section
variable {P : Program} {w : World} {A : Around} {E : Value → Shared → Prop} {s : Shared} {a : Addr} {L : List (Addr × NestedKey)} {es : Array (Int × Value)} {ep : Nat} {t : SetTable}
theorem SetK.size (R : SetK w s.heap a L es ep t) : es.size = L.length := by
  have h := congrArg List.length R.rows
  rwa [Array.length_toList, List.length_map] at h
theorem SetK.places (R : SetK w s.heap a L es ep t) : t.place.size = L.length := by
  have h := R.tab.sz
  rwa [List.length_map] at h
theorem SetK.fits (R : SetK w s.heap a L es ep t) : t.fits es.size = true := by
  have h1 := R.places
  have h2 := R.size
  have h3 := R.few
  have h4 := R.mask
  unfold SetTable.fits SetTable.fill
  rw [R.tab.dm, Bool.and_eq_true, beq_iff_eq, decide_eq_true_eq]
  constructor
  · show t.place.size = es.size
    omega
  · show t.place.size + 0 ≤ t.mask
    omega
theorem SetK.row (R : SetK w s.heap a L es ep t) {i : Nat} {p : Addr × NestedKey} (h : L[i]? = some p) : es[i]? = some (p.2.hash w, Value.ref p.1) := by
  rw [← Array.getElem?_toList, R.rows, List.getElem?_map, h]
  rfl
theorem nth_clean (m : Nat) : ∀ (n : Nat) (p : SetTable.Probe), p.dummy = none → (nth m p n).dummy = none
  | 0, p, h => h
  | n + 1, p, h => nth_clean m n (adv m p) (by unfold adv; split <;> exact h)
/-- where the way stands behind c steps -/
abbrev at_ (t : SetTable) (H : Int) (c : Nat) : SetTable.Probe := nth t.mask (runAt t.mask (SetTable.bits H % (t.mask + 1)) (SetTable.bits H)) c
theorem look (R : SetK w s.heap a L es ep t) {x : Addr} {k : NestedKey} (hx : Elt s.heap 8 k (.ref x)) (hu : A.units + 8 < cLine) {K : Nat} (hf : K < 10 * SetTable.turns t.mask)
    (hK : way t.mask (k.hash w) K ∉ t.place.toList) (hb : ∀ c, c < K → way t.mask (k.hash w) c ∈ t.place.toList) {Q : SetFound → Shared → Prop}
    (yes : k ∈ L.map (·.2) → Q (.there none) s) (no : k ∉ L.map (·.2) → Q (.free (way t.mask (k.hash w) K) false) s) :
    ∀ (f c : Nat) (st : Option SetTable.Probe), st.getD (t.probeStart (k.hash w)) = at_ t (k.hash w) c → c ≤ K → K - c < f →
      (∀ (i : Nat) q, L[i]? = some q → q.2 = k → ∃ d, c ≤ d ∧ d < K ∧ t.place.toList[i]? = some (way t.mask (k.hash w) d)) →
      wpAny (model P w) A (setSearchFrom a (.ref x) (k.hash w) true f st) Q E s
  | 0, _, _, _, _, h0, _ => absurd h0 (Nat.not_lt_zero _)
  | f + 1, c, st, hst, hc, hlt, seen => by
    obtain ⟨o, ho, hex, hd⟩ := R.ob
    generalize hH : k.hash w = H at *
    rw [setSearchFrom_succ]
    apply wpAny_bind
    apply wpAny_setState_of ho hd R.fits
    dsimp only
    have gw : ¬ t.gaveWay = true := by
      unfold SetTable.gaveWay
      rw [R.mask]
      decide
    apply wp_if_neg gw
    try apply wpAny_bind
    try apply wpAny_pure
    have along : ∀ q, nth t.mask (at_ t H c) q = at_ t H (c + q) := fun q => (nth_add t.mask c _ q).symm
    have alongj : ∀ q, (nth t.mask (at_ t H c) q).j = way t.mask H (c + q) := fun q => congrArg SetTable.Probe.j (along q)
    have hcK : c + (K - c) = K := by omega
    have hashes : ∀ (i : Nat) q, L[i]? = some q → (es[i]?.map (·.1)).getD 0 = q.2.hash w := fun i q hq => by rw [R.row hq]; rfl
    rcases go_spec t R.tab.ris R.tab.dm (fun i => (es[i]?.map (·.1)).getD 0) H (10 * SetTable.turns t.mask) (K - c) (at_ t H c) (nth_clean _ _ _ rfl) (by omega)
      (fun q hq => by rw [alongj]; exact hb _ (by omega)) (by rw [alongj, hcK]; exact hK) with ⟨q, i, hq, hi, hh, first, pr⟩ | ⟨none_, pr⟩
    · -- some entry of that hash
      have pr' : t.probe (fun i => (es[i]?.map (·.1)).getD 0) H (st.getD (t.probeStart H)) = some (.candidate (way t.mask H (c + q)) i (at_ t H (c + (q + 1)))) := by
        rw [hst, ← alongj, ← along]
        exact pr
      rw [pr']
      dsimp only
      rw [alongj] at hi
      have il : i < L.length := by
        have h1 := (List.getElem?_eq_some_iff.mp hi).1
        rw [Array.length_toList, R.places] at h1
        exact h1
      obtain ⟨y, hy⟩ : ∃ y, L[i]? = some y := ⟨_, List.getElem?_eq_getElem il⟩
      have ym : y ∈ L := List.mem_of_getElem? hy
      have ye := R.el y ym
      have live : t.slot (way t.mask H (c + q)) = .live i := slot_live R.tab.ris hi
      have after : wpAny (model P w) A (searchRest a (.ref x) H true f es t (way t.mask H (c + q)) i (at_ t H (c + (q + 1)))) Q E s := by
        unfold searchRest
        rw [R.row hy]
        dsimp only
        apply wpAny_bind
        apply wpAny_holding
        apply (nestedKind P w).eqBool hu (x := y.2) (y := k) ⟨ye.is, ye.dep⟩ ⟨hx.is, hx.dep⟩
        apply wpAny_bind
        apply wpAny_setState_of ho hd R.fits
        dsimp only
        by_cases ek : y.2 = k
        · apply wp_if_pos (by simp [ek])
          exact wpAny_pure (yes (List.mem_map.mpr ⟨y, ym, ek⟩))
        · apply wp_if_neg (by simp [ek])
          try apply wpAny_bind
          try apply wpAny_pure
          rw [L2.sameMem]
          dsimp only
          simp only [if_true, live, R.row hy]
          apply wpAny_bind
          apply wpAny_isSame_ref_self
          apply wpAny_bind
          apply wpAny_pure
          simp only [if_true]
          apply wp_if_neg (by simp [ek])
          subst hH
          refine look R hx hu hf hK hb yes no f (c + (q + 1)) _ rfl (by omega) (by omega) fun j z hz ez => ?_
          obtain ⟨d, d1, d2, d3⟩ := seen j z hz ez
          refine ⟨d, ?_, d2, d3⟩
          by_cases lt : d < c + q
          · exact absurd ((hashes j z hz).trans (congrArg (NestedKey.hash w) ez)) (first (d - c) j (by omega) (by rw [alongj, show c + (d - c) = d by omega]; exact d3))
          · by_cases eq : d = c + q
            · subst eq
              have l2 := slot_live R.tab.ris d3
              rw [live] at l2
              injection l2 with l2
              subst l2
              rw [hy] at hz
              exact absurd ((congrArg Prod.snd (Option.some.inj hz)).trans ez) ek
            · omega
      by_cases hl : t.led = true
      · apply wp_if_neg (by simp [hl])
        try apply wpAny_bind
        try apply wpAny_pure
        exact after
      · apply wp_if_pos (by simp [hl])
        apply wpAny_bind
        apply elt_seen hx
        · intro v hv
          obtain ⟨e, he, ee⟩ := List.mem_map.mp hv
          have he2 : e ∈ es.toList := by
            have : e ∈ es ∧ e.1 = H := by simpa using he
            simpa using this.1
          rw [R.rows] at he2
          obtain ⟨z, hz, e2⟩ := List.mem_map.mp he2
          exact ⟨z.2, z.1, by rw [← ee, ← e2], R.el z hz⟩
        · apply wp_if_neg (by decide)
          try apply wpAny_bind
          try apply wpAny_pure
          exact after
    · -- none
      have pr' : t.probe (fun i => (es[i]?.map (·.1)).getD 0) H (st.getD (t.probeStart H)) = some (.empty (way t.mask H K) none) := by
        have e2 : way t.mask H K = (nth t.mask (at_ t H c) (K - c)).j := by rw [alongj, hcK]
        rw [hst, e2]
        exact pr
      rw [pr']
      dsimp only
      apply wpAny_pure
      apply no
      intro hm
      obtain ⟨z, hz, ez⟩ := List.mem_map.mp hm
      obtain ⟨j, hj, e0⟩ := List.getElem_of_mem hz
      have hz' : L[j]? = some z := by rw [List.getElem?_eq_getElem hj, e0]
      obtain ⟨d, d1, d2, d3⟩ := seen j z hz' ez
      refine none_ (d - c) j (by omega) (by rw [alongj, show c + (d - c) = d by omega]; exact d3) ?_
      exact (hashes j z hz').trans ((congrArg (NestedKey.hash w) ez).trans hH)
end
end Py
/-! set(x) of a tuple: one by one. -/
namespace Py
open PySem PySem.Spec PyProof.Rows L2
open Sem (wp)

theorem NestedAt {h h' : Heap} (hk : ∀ a o, h.get? a = some o → ∀ vs n, o.data = .seq vs n → h'.get? a = some o) {n : Nat} {k : NestedKey} {v : Value} (e : Elt h n k v) : Elt h' n k v :=
  ⟨NestedIs.at (fun a o vs n e1 e2 => hk a o e1 vs n e2) k v e.is, e.nums, e.dep⟩
theorem Elt.keep {h h' : Heap} (hk : ∀ a o, h.get? a = some o → h'.get? a = some o) {n : Nat} {k : NestedKey} {v : Value} (e : Elt h n k v) : Elt h' n k v := NestedAt (fun a o e1 _ _ _ => hk a o e1) e
/-- what the set does at its own place no tuple feels -/
theorem Elt.beside {h h' : Heap} {a : Addr} {o : Obj} {es : Array (Int × Value)} {ep : Nat} {t : SetTable} (ho : h.get? a = some o) (hd : o.data = .set es ep t) (sb : Heap.SameBut a h h') {n : Nat} {k : NestedKey} {v : Value} (e : Elt h n k v) : Elt h' n k v :=
  NestedAt (fun b ob e1 vs c e2 => by
    have ne : b ≠ a := by
      intro z
      rw [z, ho] at e1
      cases e1
      rw [hd] at e2
      cases e2
    exact (sb.2 b ne).trans e1) e
section
variable {P : Program} {w : World} {A : Around} {E : Value → Shared → Prop} {s : Shared} {a : Addr} {L : List (Addr × NestedKey)} {es : Array (Int × Value)} {ep : Nat} {t : SetTable}
/-- one more is put to it, or not -/
theorem put_one (R : SetK w s.heap a L es ep t) {x : Addr} {k : NestedKey} (hx : Elt s.heap 8 k (.ref x)) (hu : A.units + 8 < cLine) (few : L.length < 4) {Q : Bool → Shared → Prop}
    (hq : ∀ b h' L' es' ep' t', Heap.SameBut a s.heap h' → SetK w h' a L' es' ep' t' → (k ∈ L.map (·.2) → L' = L) → (k ∉ L.map (·.2) → L'.Perm ((x, k) :: L)) → Q b { s with heap := h' }) :
    wpAny (model P w) A (setAddHashed a (.ref x) (k.hash w)) Q E s := by
  obtain ⟨o, ho, hex, hd⟩ := R.ob
  have m7 := R.mask
  have tk : 10 * SetTable.turns t.mask ≤ 1420 := by
    unfold SetTable.turns
    rw [m7]
    omega
  obtain ⟨K, hf, hK, hb⟩ := R.tab.first (by rw [List.length_map]; omega) (k.hash w)
  unfold setAddHashed
  apply wpAny_holding
  rw [show (100000 : Nat) = 99999 + 1 from rfl, setAddHashedIn_succ]
  apply wpAny_bind
  apply wpAny_setState_of ho hd R.fits
  dsimp only
  refine wp_if_neg (by simp [byScan, Value.scannable]) ?_
  try refine wpAny_bind (wpAny_pure ?_)
  refine wpAny_bind ?_
  unfold setSearch
  refine look R hx hu hf hK hb (fun hm => ?_) (fun hm => ?_) 100000 0 none rfl (Nat.zero_le _) (by omega) fun i q hq eq => ?_
  · exact wpAny_pure (hq false s.heap L es ep t (Heap.SameBut.refl a s.heap) R (fun _ => rfl) fun z => absurd hm z)
  · dsimp only
    apply wpAny_bind
    apply wpAny_setState_of ho hd R.fits
    dsimp only
    obtain ⟨q1, q2, q3, q4, _, q6, _, _, q9⟩ := R.tab.put hK hb
    have pl : (t.put (way t.mask (k.hash w) K)).1.plain = true := q6.trans R.plain
    generalize hpt : t.put (way t.mask (k.hash w) K) = pt at q1 q3 q4 q6 q9 pl ⊢
    obtain ⟨t1, p⟩ := pt
    dsimp only at q1 q3 q4 q6 q9 pl ⊢
    subst q1
    first
      | (apply wpAny_bind; apply wp_if_pos pl; apply elt_hash 8 k _ _ _ _ hx)
      | (apply wp_if_pos pl; apply wpAny_bind; apply elt_hash 8 k _ _ _ _ hx)
    simp only [if_true]
    generalize hp : SetTable.below t.place (way t.mask (k.hash w) K) = p at q2 q3 ⊢
    -- the rows behind it
    have split : ((L.take p ++ (x, k) :: L.drop p) : List (Addr × NestedKey)).Perm ((x, k) :: L) := by
      have h := List.perm_middle (a := (x, k)) (l₁ := L.take p) (l₂ := L.drop p)
      rwa [List.take_append_drop] at h
    have rows : (SetTable.insertAt es p (k.hash w, Value.ref x)).toList = (L.take p ++ (x, k) :: L.drop p).map fun q => (q.2.hash w, Value.ref q.1) := by
      rw [SetTable.toList_insertAt, R.rows, List.map_append, List.map_cons, List.map_take, List.map_drop]
    have tabs : (L.take p ++ (x, k) :: L.drop p).map (fun q => q.2.hash w) = (L.map fun q => q.2.hash w).take p ++ k.hash w :: (L.map fun q => q.2.hash w).drop p := by
      rw [List.map_append, List.map_cons, List.map_take, List.map_drop]
    rw [← tabs] at q3
    have len1 : (L.take p ++ (x, k) :: L.drop p).length = L.length + 1 := split.length_eq
    have nd1 : ((L.take p ++ (x, k) :: L.drop p).map (·.2)).Nodup := (split.map (·.2)).nodup_iff.mpr (by rw [List.map_cons]; exact List.nodup_cons.mpr ⟨hm, R.nd⟩)
    have sz1 : (SetTable.insertAt es p (k.hash w, Value.ref x)).size = L.length + 1 := by
      have h := congrArg List.length rows
      rwa [Array.length_toList, List.length_map, len1] at h
    generalize SetTable.insertAt es p (k.hash w, Value.ref x) = es1 at rows sz1 ⊢
    generalize L.take p ++ (x, k) :: L.drop p = L1 at split len1 q3 nd1 rows
    apply wpAny_bind
    refine wpAny_storeSet_of ho hd ?_ (by rw [sz1, sizeLine_eq]; omega)
    have sb : Heap.SameBut a s.heap (s.heap.update a (Obj.putSet es1 t1)) := Heap.SameBut.update ..
    have ho1 := store_at (es' := es1) (t' := t1) ho hd
    generalize s.heap.update a (Obj.putSet es1 t1) = h1 at sb ho1 ⊢
    have nf : ¬ t1.tooFull = true := by
      unfold SetTable.tooFull
      rw [decide_eq_true_eq, q9, List.length_map, q4, m7]
      omega
    have R1 : SetK w h1 a L1 es1 (ep + 1) t1 := {
      ob := ⟨_, ho1, ⟨hex.1, hex.2.1, hex.2.2⟩, rfl⟩
      rows := rows
      tab := q3
      nd := nd1
      el := fun q hq => by
        rcases List.mem_cons.mp (split.mem_iff.mp hq) with z | z
        · rw [z]; exact hx.beside ho hd sb
        · exact (R.el q z).beside ho hd sb
      plain := pl
      mask := q4.trans m7
      few := by omega }
    first
      | apply wp_if_neg (by simp [nf])
      | (apply wpAny_bind; apply wp_if_neg (by simp [nf]); apply wpAny_pure)
    exact wpAny_pure (hq true h1 L1 es1 (ep + 1) t1 sb R1 (fun z => absurd z hm) fun _ => split)
  · have hi : (L.map fun q => q.2.hash w)[i]? = some (k.hash w) := by rw [List.getElem?_map, hq, ← eq]; rfl
    have il : i < t.place.toList.length := by
      rw [Array.length_toList, R.places]
      exact (List.getElem?_eq_some_iff.mp hq).1
    have hj := List.getElem?_eq_getElem il
    obtain ⟨c, c1, c2⟩ := R.tab.before hK hi hj
    exact ⟨c, Nat.zero_le _, c1, by rw [hj, c2]⟩
end
/-- what came of the first i -/
structure Took (ks : List (Addr × NestedKey)) (i : Nat) (L : List (Addr × NestedKey)) : Prop where
  sub : ∀ p ∈ L, p ∈ ks.take i
  all : ∀ p ∈ ks.take i, p.2 ∈ L.map (·.2)
  len : L.length ≤ i
theorem Took.next {ks L L' : List (Addr × NestedKey)} {i : Nat} {x : Addr × NestedKey} (g : Took ks i L) (h : ks[i]? = some x) (h1 : x.2 ∈ L.map (·.2) → L' = L) (h2 : x.2 ∉ L.map (·.2) → L'.Perm (x :: L)) : Took ks (i + 1) L' := by
  have e : ks.take (i + 1) = ks.take i ++ [x] := by rw [List.take_succ, h]; rfl
  by_cases c : x.2 ∈ L.map (·.2)
  · rw [h1 c]
    refine ⟨fun p hp => ?_, fun p hp => ?_, Nat.le_succ_of_le g.len⟩
    · rw [e]; exact List.mem_append_left _ (g.sub p hp)
    · rw [e, List.mem_append, List.mem_singleton] at hp
      rcases hp with z | z
      · exact g.all p z
      · rw [z]; exact c
  · have pm := h2 c
    refine ⟨fun p hp => ?_, fun p hp => ?_, ?_⟩
    · rw [e]
      rcases List.mem_cons.mp (pm.mem_iff.mp hp) with z | z
      · rw [z]; simp
      · exact List.mem_append_left _ (g.sub p z)
    · rw [(pm.map (·.2)).mem_iff, List.map_cons]
      rw [e, List.mem_append, List.mem_singleton] at hp
      rcases hp with z | z
      · exact List.mem_cons_of_mem _ (g.all p z)
      · rw [z]; exact List.mem_cons_self
    · have := pm.length_eq
      have := g.len
      simp only [List.length_cons] at *
      omega
theorem SetK.keep {w : World} {h h' : Heap} {a : Addr} {L : List (Addr × NestedKey)} {es : Array (Int × Value)} {ep : Nat} {t : SetTable} (R : SetK w h a L es ep t) (ha : ∀ o, h.get? a = some o → h'.get? a = some o) (hl : ∀ p ∈ L, Elt h' 8 p.2 (.ref p.1)) : SetK w h' a L es ep t := by
  obtain ⟨o, ho, r⟩ := R.ob
  exact { R with ob := ⟨o, ha o ho, r⟩, el := hl }
def newSetObj (b : Bool) : Obj := { cls := .type "set", dict := none, data := .set #[] 0 (.fresh 0 0 b) }
theorem SetK.new {w : World} {h : Heap} {a : Addr} {b : Bool} (ho : h.get? a = some (newSetObj b)) : SetK w h a [] #[] 0 (.fresh 0 0 b) where
  ob := ⟨_, ho, ⟨rfl, rfl, rfl⟩, rfl⟩
  rows := rfl
  tab := ⟨List.Pairwise.nil, rfl, rfl, .inl rfl, fun x hx => (by cases hx), fun i h j hi => (by simp at hi)⟩
  nd := List.nodup_nil
  el := fun p hp => (by cases hp)
  plain := rfl
  mask := rfl
  few := Nat.zero_le _
section
variable {P : Program} {w : World} {A : Around} {E : Value → Shared → Prop}
/-- the loop that puts them in -/
theorem fill_loop {I : Addr} {fp wr : List Addr} {G : Array GenState → Array GenState → Prop} {n : Nat} {Pv : Nat → Value → Prop} {St : Nat → Shared → Prop} {R : Result → Shared → Prop}
    (W : WalksS P w A.in1 I fp wr G n Pv St) {S : Addr} (hS : S ∉ fp) (ks : List (Addr × NestedKey)) (hn : n = ks.length) (few : ks.length ≤ 4) (val : ∀ i v, Pv i v → ∃ p, ks[i]? = some p ∧ v = .ref p.1)
    {h0 : Heap} (hk : ∀ p ∈ ks, Elt h0 8 p.2 (.ref p.1)) (hS0 : h0.get? S = none) (hw0 : ∀ b ∈ wr, h0.get? b = none) (hu : A.in1.units + 8 < cLine) :
    ∀ (j i : Nat) (s : Shared), n - i = j → i ≤ n → St i s → (∀ b o, h0.get? b = some o → s.heap.get? b = some o) → (∃ L es ep t, SetK w s.heap S L es ep t ∧ Took ks i L) →
      (∀ s' L es ep t, Moved (S :: wr) G s s' → SetK w s'.heap S L es ep t → Took ks n L → (∀ b o, h0.get? b = some o → s'.heap.get? b = some o) → R (.ok (.ret .none)) s') →
      codeAny (model P w) A (.builtin "set.update.loop" ⟨[.ref S, .ref I], []⟩) R s := by
  have hSw : S ∉ wr := fun z => hS (W.sub _ z)
  have up : ∀ b ∈ wr, b ∈ S :: wr := fun b hb => List.mem_cons_of_mem _ hb
  have stay : ∀ {s s' : Shared}, Moved wr G s s' → (∀ b o, h0.get? b = some o → s.heap.get? b = some o) → ∀ b o, h0.get? b = some o → s'.heap.get? b = some o := fun m old b o e =>
    m.heap b o (fun z => by rw [hw0 b z] at e; cases e) (old b o e)
  have mine : ∀ {i : Nat} {L : List (Addr × NestedKey)}, Took ks i L → ∀ p ∈ L, p ∈ ks := fun g p hp => List.mem_of_mem_take (g.sub p hp)
  intro j
  induction j with
  | zero =>
    intro i s hj hi st old ⟨L, es, ep, t, R0, g⟩ hR
    obtain rfl : i = n := by omega
    apply codeAny_builtin F.entry_set_update_loop
    rw [Around.under_plainId F.plain_set_update_loop _]
    show wpAny _ A.in1 (pyNext (.ref I) >>= _) _ _ s
    refine wpAny_bind (W.done s _ _ st fun s' m => ?_)
    show wpAny _ A.in1 (ret Value.none) _ _ s'
    have old' := stay m old
    exact wpAny_pure (hR s' L es ep t (m.mono up) (R0.keep (fun o e => m.heap S o hSw e) fun p hp => (hk p (mine g p hp)).keep old') g old')
  | succ j ih =>
    intro i s hj hi st old ⟨L, es, ep, t, R0, g⟩ hR
    have lt : i < n := by omega
    apply codeAny_builtin F.entry_set_update_loop
    rw [Around.under_plainId F.plain_set_update_loop _]
    show wpAny _ A.in1 (pyNext (.ref I) >>= _) _ _ s
    refine wpAny_bind (W.item i s _ _ lt st fun v s' pv st' m => ?_)
    obtain ⟨p, hp, rfl⟩ := val i v pv
    have old' := stay m old
    have R1 : SetK w s'.heap S L es ep t := R0.keep (fun o e => m.heap S o hSw e) fun q hq => (hk q (mine g q hq)).keep old'
    have hx : Elt s'.heap 8 p.2 (.ref p.1) := (hk p (List.mem_of_getElem? hp)).keep old'
    show wpAny _ A.in1 (holding [Value.ref p.1] (setAdd S (.ref p.1)) >>= _) _ _ s'
    refine wpAny_bind (wpAny_holding ?_)
    unfold setAdd
    refine wpAny_holding (wpAny_bind ?_)
    have dp := hx.dep
    refine pyHash_key p.2 _ _ _ _ hx.is (by omega) ?_
    refine put_one (s := { s' with toks := s'.toks + p.2.draws }) R1 hx hu (by have := g.len; omega) fun b h' L' es' ep' t' sb R2 c1 c2 => ?_
    have old2 : ∀ b o, h0.get? b = some o → h'.get? b = some o := fun b o e => (sb.2 b (fun z => by rw [z, hS0] at e; cases e)).trans (old' b o e)
    refine wpAny_pure ⟨plainId_quiet F.plain_set_update_loop _, ih (i + 1) _ (by omega) lt (W.frame _ s' _ _ st' (Nat.le_add_right _ _) fun b hb o e => ?_) old2 ⟨L', es', ep', t', R2, g.next hp c1 c2⟩ fun s2 L2 es2 ep2 t2 m2 R3 g2 old3 => ?_⟩
    · rw [sb.2 b (fun z : b = S => hS (z ▸ hb))]; exact e
    · refine hR s2 L2 es2 ep2 t2 (Moved.trans W.gtrans ((m.mono up).then_heap (Nat.le_add_right _ _) fun b o hb e => ?_) m2) R3 g2 old3
      rw [sb.2 b (fun z : b = S => hb (z ▸ List.mem_cons_self))]; exact e
end
section
variable {P : Program} {w : World} {A : Around} {E : Value → Shared → Prop} {s : Shared}
def iterObj (l : Addr) : Obj := { cls := .type "tuple_iterator", data := .fields #[.ref l, .int 0 0] }
set_option maxHeartbeats 3200000 in
/-- set(x) of a tuple of them -/
theorem set_of_tuple {l : Addr} {its : Array Value} (ks : List (Addr × NestedKey)) {Q : Value → Shared → Prop} (hh : A.handled = none) (hl : s.heap.IsTuple l its) (hit : its.toList = ks.map fun p => Value.ref p.1)
    (hk : ∀ p ∈ ks, Elt s.heap 8 p.2 (.ref p.1)) (few : ks.length ≤ 4) (hu : A.units + 16 < cLine)
    (h : ∀ (h' : Heap) (tk : Nat) L es ep t, SetK w h' s.heap.objs.size L es ep t → Took ks ks.length L → (∀ b o, s.heap.get? b = some o → h'.get? b = some o) → Q (.ref s.heap.objs.size) { s with heap := h', toks := tk }) :
    wpAny (model P w) A (call (.type "set") [.ref l]) Q E s := by
  have sz : its.size = ks.length := by
    have q := congrArg List.length hit
    rwa [Array.length_toList, List.length_map] at q
  obtain ⟨c, tl, mro⟩ := F.called_set.mro
  have made := F.called_set.made
  have sub := F.called_set.sub
  apply wpAny_call
  apply codeAny_of_tree
  show wpAny _ _ (PySem.callAny (.type "set") _) _ _ _
  refine wpAny_pure ⟨Code.quiet_builtin _ (by decide +kernel), codeAny_builtin F.entry_type_call ?_⟩
  rw [Around.under_plain (weight_type_call_type "set" [.ref l] []) rfl]
  have n1 := F.called_set.notType
  have n2 := F.called_set.canCreate
  have n3 := F.typeCall_set_1 (.ref l)
  repeat (any_goals (first | assumption | wp_step))
  refine codeAny_mono (code_set_led1 (.ref l) (E := E) (Q₁ := fun v s1 => v = .ref s.heap.objs.size ∧ s1 = { s with heap := s.heap.push (newSetObj (!w.params.followText "set-order")) }) ⟨rfl, rfl⟩) fun r s1 hr => ?_
  cases r with
  | error e => exact hr
  | ok fl =>
    cases fl with
    | ret v =>
      obtain ⟨rfl, rfl⟩ := hr
      generalize hb : (!w.params.followText "set-order") = b0
      have at0 : (s.heap.push (newSetObj b0)).get? s.heap.objs.size = some (newSetObj b0) := Heap.get?_push_size _ rfl
      have ty0 : Shared.TypeIs { s with heap := s.heap.push (newSetObj b0) } (.ref s.heap.objs.size) "set" := ⟨_, at0, rfl⟩
      have i1 := F.called_set.init.lookup
      have i2 := F.called_set.init.bind (.ref s.heap.objs.size)
      repeat (any_goals (first | assumption | wp_step))
      refine codeAny_mono (codeAny_call_builtin (R := wants (fun v s2 => v = .none ∧ ∃ h' tk L es ep t, s2 = { s with heap := h', toks := tk } ∧ SetK w h' s.heap.objs.size L es ep t ∧ Took ks ks.length L ∧ (∀ b o, s.heap.get? b = some o → h'.get? b = some o)) E)
        F.called_set.init.plain F.entry_set_init (check_set_init_1 ty0 ?_)) fun r2 s2 hr2 => ?_
      · obtain ⟨ol, hol, hcl, nl, hdl⟩ := hl
        have hol1 : (s.heap.push (newSetObj b0)).get? l = some ol := Heap.get?_push_of_some _ hol
        have tup1 : (s.heap.push (newSetObj b0)).IsTuple l its := ⟨ol, hol1, hcl, nl, hdl⟩
        obtain ⟨ocls, odict, odata, oslots⟩ := ol
        simp only at hcl hdl
        subst hcl; subst hdl
        have u1 := F.sub_tuple_set
        have u2 := F.sub_tuple_frozenset
        have u3 : (Value.type "tuple" == Value.type "dict") = false := by decide
        unfold Builtin.«set.__init__» noKeywords Builtin.Frozenset.updateFrom
        generalize hPI : pyIter = PI
        wp_walk
        subst hPI
        apply wpAny_pyIter_tuple tup1
        apply wpAny_bind
        apply wpAny_runValue
        have ls : l < s.heap.objs.size := Heap.lt_size hol
        have h3 : A.in1.in1.in1.handled = none := by simp [hh]
        have s1z : (s.heap.push (newSetObj b0)).objs.size = s.heap.objs.size + 1 := Heap.size_push ..
        have ne : l ≠ (s.heap.push (newSetObj b0)).objs.size := by rw [s1z]; exact Nat.ne_of_lt (Nat.lt_succ_of_lt ls)
        have out : s.heap.objs.size ∉ [(s.heap.push (newSetObj b0)).objs.size, l] := by
          rw [s1z]
          simp only [List.mem_cons, List.not_mem_nil, or_false, not_or]
          exact ⟨Nat.ne_of_lt (Nat.lt_succ_self _), Nat.ne_of_gt ls⟩
        have val : ∀ (i : Nat) (v : Value), its[i]? = some v → ∃ p, ks[i]? = some p ∧ v = .ref p.1 := fun i v hv => by
          rw [← Array.getElem?_toList, hit, List.getElem?_map, Option.map_eq_some_iff] at hv
          obtain ⟨p, e1, e2⟩ := hv
          exact ⟨p, e1, e2.symm⟩
        have gone : ∀ b, s.heap.objs.size ≤ b → s.heap.get? b = none := fun b hb => by
          cases q : s.heap.get? b with
          | none => rfl
          | some o => exact absurd (Heap.lt_size q) (Nat.not_lt_of_le hb)
        have hu4 : A.in1.in1.in1.units + 8 < cLine := by
          show A.units + 3 + 8 < cLine
          omega
        have hS1 : ((s.heap.push (newSetObj b0)).push (iterObj l)).get? s.heap.objs.size = some (newSetObj b0) := Heap.get?_push_of_some _ at0
        refine fill_loop (Walks.tuple h3 _ l ne its).toS out ks sz few val hk (gone _ (Nat.le_refl _)) (fun b hb => gone b (by rw [List.mem_singleton.mp hb, s1z]; exact Nat.le_succ _)) hu4
          (its.size - 0) 0 _ (by omega) (Nat.zero_le _) ⟨⟨_, Heap.get?_push_size _ rfl, rfl, rfl⟩, tup1.push _⟩ (fun b o e => Heap.get?_push_of_some _ (Heap.get?_push_of_some _ e))
          ⟨[], #[], 0, _, SetK.new hS1, ⟨fun p hp => (by cases hp), fun p hp => (by simp at hp), Nat.le_refl _⟩⟩ ?_
        intro s' L es ep t m R g old
        obtain ⟨h', g2, d', tk', os'⟩ := s'
        have e1 : g2 = s.gens := m.gens
        have e2 : d' = s.drawn := m.drawn
        have e3 : os' = s.os := m.os
        subst e1; subst e2; subst e3
        show wpAny _ _ _ _ _ _
        apply wpAny_pure
        show wpAny _ _ (ret Value.none) _ _ _
        rw [sz] at g
        exact wpAny_pure ⟨rfl, h', tk', L, es, ep, t, rfl, R, g, old⟩
      · cases r2 with
        | error e => exact hr2
        | ok f2 =>
          cases f2 with
          | ret v =>
            obtain ⟨rfl, h', tk, L, es, ep, t, rfl, R, g, old⟩ := hr2
            repeat (any_goals (first | assumption | wp_step))
            exact h _ _ _ _ _ _ R g old
          | _ => exact hr2.elim
    | _ => exact hr.elim
end
end Py
/-! len(set(x)) by its tree. -/
namespace Py
open PySem PySem.Spec PyProof.Rows L2

theorem tupAt_sq {K : PySem.W.Frag} {w : Wd} {H : Hp} {a : Addr} {vs : List V} (h : TupAt K w H a vs) : SqT K H a vs := by
  rcases h with ⟨h, _⟩ | h
  · exact .inl h
  · exact .inr h
mutual
theorem key_num : ∀ (d : D) (k : NestedKey), keyOf d = some k → numK k = true
  | .int i, k, h => by unfold keyOf at h; cases h; rfl
  | .tup ds, k, h => by
    unfold keyOf at h
    rw [Option.map_eq_some_iff] at h
    obtain ⟨ks, h1, rfl⟩ := h
    unfold numK
    exact keys_num ds ks h1
  | .non, k, h => by unfold keyOf at h; cases h
  | .bl _, k, h => by unfold keyOf at h; cases h
  | .str _, k, h => by unfold keyOf at h; cases h
  | .ty _, k, h => by unfold keyOf at h; cases h
  | .lst _, k, h => by unfold keyOf at h; cases h
  | .fro _, k, h => by unfold keyOf at h; cases h
  | .ref _, k, h => by unfold keyOf at h; cases h
theorem keys_num : ∀ (ds : List D) (ks : List NestedKey), keysOf ds = some ks → numsK ks = true
  | [], ks, h => by unfold keysOf at h; cases h; rfl
  | d :: ds, ks, h => by
    unfold keysOf at h
    cases q1 : keyOf d with
    | none => rw [q1] at h; cases h
    | some k =>
      rw [q1] at h
      cases q2 : keysOf ds with
      | none => rw [q2] at h; cases h
      | some ks' =>
        rw [q2] at h
        cases h
        unfold numsK
        rw [key_num d k q1, keys_num ds ks' q2]
        rfl
end
section
variable {g : G} {X : Cx} {pins : List (Addr × Obj)} {σ : L2.St} {w : Wd} {H : Hp} {s : Shared}
mutual
theorem key_at (hK : g.K = X.K) (I : Inv X pins σ H s) : ∀ {v : V} {d : D}, Rep g.K w H v d → ∀ {k : NestedKey} {u : Value}, keyOf d = some k → RelV v u → NestedIs s.heap k u
  | _, _, .int i, k, u, h, r => by
    unfold keyOf at h
    cases h
    obtain ⟨t, rfl⟩ : ∃ t, u = Value.int i t := r
    exact .int i t
  | _, _, .tup (a := a) e r0, k, u, h, r => by
    unfold keyOf at h
    rw [Option.map_eq_some_iff] at h
    obtain ⟨ks, h1, rfl⟩ := h
    obtain rfl : u = Value.ref a := r
    obtain ⟨its, rv, ⟨o, ho, hc, n, hd⟩, _⟩ := I.tuple (hK ▸ tupAt_sq e)
    exact .tup ho hc hd (by simpa using keys_at hK I r0 h1 rv)
  | _, _, .non, k, u, h, r => by unfold keyOf at h; cases h
  | _, _, .bl _, k, u, h, r => by unfold keyOf at h; cases h
  | _, _, .str _, k, u, h, r => by unfold keyOf at h; cases h
  | _, _, .ty _, k, u, h, r => by unfold keyOf at h; cases h
  | _, _, .lst _ _ _, k, u, h, r => by unfold keyOf at h; cases h
  | _, _, .fro _ _, k, u, h, r => by unfold keyOf at h; cases h
  | _, _, .ref _, k, u, h, r => by unfold keyOf at h; cases h
theorem keys_at (hK : g.K = X.K) (I : Inv X pins σ H s) : ∀ {vs : List V} {ds : List D}, RepL g.K w H vs ds → ∀ {ks : List NestedKey} {us : List Value}, keysOf ds = some ks → Vals vs us → NestedAll s.heap ks us
  | _, _, .nil, ks, us, h, r => by
    unfold keysOf at h
    cases h
    cases r
    exact .nil
  | _, _, .cons (d := d) (ds := ds) a b, ks, us, h, r => by
    unfold keysOf at h
    cases q1 : keyOf d with
    | none => rw [q1] at h; cases h
    | some k =>
      rw [q1] at h
      cases q2 : keysOf ds with
      | none => rw [q2] at h; cases h
      | some ks' =>
        rw [q2] at h
        cases h
        cases r with
        | cons r1 r2 => exact .cons (key_at hK I a q1 r1) (keys_at hK I b q2 r2)
end
/-- the pairs of object and key -/
theorem key_pairs (hK : g.K = X.K) (I : Inv X pins σ H s) : ∀ {vs : List V} {ds : List D}, RepL g.K w H vs ds → ∀ {ks : List NestedKey} {us : List Value}, keysOf ds = some ks → ds.all isTup = true → NestedKey.depthAll ks ≤ 8 → Vals vs us →
    ∃ ps : List (Addr × NestedKey), us = ps.map (fun p => Value.ref p.1) ∧ ks = ps.map (·.2) ∧ ∀ p ∈ ps, Elt s.heap 8 p.2 (.ref p.1) := by
  intro vs ds r
  induction ds generalizing vs with
  | nil =>
    intro ks us h _ _ rv
    cases r
    cases rv
    unfold keysOf at h
    cases h
    exact ⟨[], rfl, rfl, fun p hp => by cases hp⟩
  | cons d ds ih =>
    intro ks us h ht hd rv
    cases r with
    | cons a b =>
      unfold keysOf at h
      cases q1 : keyOf d with
      | none => rw [q1] at h; cases h
      | some k =>
        rw [q1] at h
        cases q2 : keysOf ds with
        | none => rw [q2] at h; cases h
        | some ks' =>
          rw [q2] at h
          cases h
          rw [List.all_cons, Bool.and_eq_true] at ht
          unfold NestedKey.depthAll at hd
          cases rv with
          | cons r1 r2 =>
            obtain ⟨ps, e1, e2, e3⟩ := ih b q2 ht.2 (by omega) r2
            have n := key_at hK I a q1 r1
            cases d with
            | tup es =>
              cases a with
              | @tup ad _ _ e r0 =>
                cases r1
                refine ⟨(ad, k) :: ps, by rw [e1]; rfl, by rw [e2]; rfl, fun p hp => ?_⟩
                cases hp with
                | head => exact ⟨n, key_num _ _ q1, by show k.depth ≤ 8; omega⟩
                | tail _ hp => exact e3 p hp
            | _ => cases ht.1
end
theorem nodup_short {α : Type} [DecidableEq α] : ∀ (l r : List α), l.Nodup → (∀ x ∈ l, x ∈ r) → l.length ≤ r.length
  | [], r, _, _ => Nat.zero_le _
  | x :: l, r, nd, h => by
    rw [List.nodup_cons] at nd
    have hx := h x List.mem_cons_self
    have ih := nodup_short l (r.erase x) nd.2 fun y hy => (List.mem_erase_of_ne (fun e => nd.1 (by rw [← e]; exact hy))).mpr (h y (List.mem_cons_of_mem _ hy))
    rw [List.length_erase_of_mem hx] at ih
    have : 0 < r.length := List.length_pos_of_mem hx
    rw [List.length_cons]
    omega
theorem dist_spec (ks : List NestedKey) : (dist ks).Nodup ∧ ∀ k, k ∈ dist ks ↔ k ∈ ks := by
  have key : ∀ (l acc : List NestedKey), acc.Nodup → (l.foldl (fun (acc : List NestedKey) (k : NestedKey) => if k ∈ acc then acc else acc ++ [k]) acc).Nodup ∧
      ∀ k, k ∈ l.foldl (fun (acc : List NestedKey) (k : NestedKey) => if k ∈ acc then acc else acc ++ [k]) acc ↔ k ∈ acc ∨ k ∈ l := by
    intro l
    induction l with
    | nil => intro acc h; exact ⟨h, fun k => by simp⟩
    | cons x l ih =>
      intro acc h
      rw [List.foldl_cons]
      by_cases hx : x ∈ acc
      · rw [if_pos hx]
        obtain ⟨a, b⟩ := ih acc h
        refine ⟨a, fun k => ?_⟩
        rw [b k, List.mem_cons]
        constructor
        · rintro (z | z)
          · exact .inl z
          · exact .inr (.inr z)
        · rintro (z | z | z)
          · exact .inl z
          · subst z; exact .inl hx
          · exact .inr z
      · rw [if_neg hx]
        obtain ⟨a, b⟩ := ih (acc ++ [x]) (by
          rw [List.nodup_append]
          refine ⟨h, by simp, fun y hy z hz e => ?_⟩
          rw [List.mem_singleton] at hz
          subst hz
          subst e
          exact hx hy)
        refine ⟨a, fun k => ?_⟩
        rw [b k, List.mem_append, List.mem_singleton, List.mem_cons]
        constructor
        · rintro ((z | z) | z)
          · exact .inl z
          · exact .inr (.inl z)
          · exact .inr (.inr z)
        · rintro (z | z | z)
          · exact .inl (.inl z)
          · exact .inl (.inr z)
          · exact .inr z
  obtain ⟨a, b⟩ := key ks [] List.nodup_nil
  exact ⟨a, fun k => (b k).trans ⟨fun h => h.elim (fun z => by cases z) id, .inr⟩⟩
theorem pe_lset {g : G} {X : Cx} {k : Nat} {a : Expr} {ta : TE} {p p2 q pos : Pos} (hK : g.K = X.K) (hc : X.calm = true) (hu : Room k X.A) (hg : Gl X "len") (hm : X.mg "len" = none) (hg2 : Gl X "set") (hm2 : X.mg "set" = none) (ha : PE X a ta) (hs : starB a = false) :
    PE X (.Call (.Name "len" p) [.Call (.Name "set" p2) [a] [] q] [] pos) (fun σ H Q => ta σ H fun x H1 => rd1 g lsetR x H1 Q) := by
  have na : starEach [a] X.env = (false, eval a X.env) :: starEach [] X.env := star_cons hs
  refine ⟨fun pins s σ H Q I h => ?_⟩
  refine Call_ (ld_blt I hg hm PySem.boot_len ?_)
  refine PyProof.Rows.callWith_builtin1 (PyProof.Rows.args_cons ?_ rfl) rfl rfl
  refine Call_ (ld_blt I hg2 hm2 PyProof.Rows.boot_set ?_)
  refine PyProof.Rows.callWith_type1 (PyProof.Rows.args_cons (thn (ha.run pins s σ H _ I h) fun v s1 ⟨x, H1, I1, r1, q1⟩ => PyProof.Rows.args_nil ?_) na) na rfl
  obtain ⟨w, st, d, hr, rx, hq⟩ := q1
  cases d with
  | tup ds =>
    cases qk : keysOf ds with
    | none =>
      exfalso
      unfold lsetR at hq
      simp only [qk] at hq
      exact hq
    | some ks =>
      unfold lsetR at hq
      simp only [qk] at hq
      split at hq
      · rename_i hif
        obtain ⟨h4, ht, hdp⟩ := hif
        have fin := hq w H1 (Kp.refl w H1) hr
        cases rx with
        | @tup ad vs _ e r0 =>
          obtain rfl : v = Value.ref ad := r1
          obtain ⟨its, rv, it, _⟩ := I1.tuple (hK ▸ tupAt_sq e)
          obtain ⟨ps, e1, e2, e3⟩ := key_pairs hK I1 r0 qk ht hdp rv
          have lp : ps.length = ks.length := by rw [e2, List.length_map]
          have hz : X.A.units + 16 < cLine := by have := hu.un; omega
          refine set_of_tuple ps (I1.ok.hd hc) it (by simpa using e1) e3 (by omega) hz fun h' tk L es ep t R tk2 old => ?_
          refine PyProof.Rows.args_nil ?_
          obtain ⟨o, ho, hex, hd⟩ := R.ob
          have I2 : Inv X pins σ H1 { s1 with heap := h', toks := tk } := I1.kept old
          have nL : es.size = (dist ks).length := by
            rw [SetK.size (s := { s1 with heap := h' }) R]
            obtain ⟨d1, d2⟩ := dist_spec ks
            have hL : L.length = (L.map (·.2)).length := by rw [List.length_map]
            have a1 := nodup_short (L.map (·.2)) (dist ks) R.nd fun y hy => by
              obtain ⟨z, hz, rfl⟩ := List.mem_map.mp hy
              rw [d2, e2]
              exact List.mem_map.mpr ⟨z, List.mem_of_mem_take (tk2.sub z hz), rfl⟩
            have a2 := nodup_short (dist ks) (L.map (·.2)) d1 fun y hy => by
              rw [d2, e2] at hy
              obtain ⟨z, hz, rfl⟩ := List.mem_map.mp hy
              exact tk2.all z (by rw [List.take_length]; exact hz)
            omega
          have few := R.few
          have sz := SetK.size (s := { s1 with heap := h' }) R
          refine call_len_set ho hex hd (SetK.fits (s := { s1 with heap := h' }) R) (by omega) ⟨.int es.size, H1, I2.tok _, ⟨_, rfl⟩, ?_⟩
          rw [nL]
          exact fin _ (.int _)
      · exact hq.elim
  | _ => unfold lsetR at hq; exact hq.elim
end Py
/-! Expressions: the rest. -/
namespace Py
open PySem PySem.Spec PyProof.Rows L2

section
variable {g : G} {F : Fx} {T : Tb}
/-! and, or -/
theorem and_two {X : Cx} {c : Cs} {E : L2.St → XK} {k : Nat} {a b : Em} {x y : Expr} (pos : Pos) (pa : PE X x (te g E (ev T a))) (ta : PT X x (tt g E (ev T a))) (pb : PE X y (te g E (ev T b))) (tb : PT X y (tt g E (ev T b))) :
    PE X (.BoolOp .And [x, y] pos) (te g E (ev T (.and a b))) ∧ PW X (.BoolOp .And [x, y] pos) (tt g E (ev T (.and a b))) :=
  ⟨pe_imp (pe_and pa (pe_one pb)) fun σ H Q q => te_and q, pw_imp (pw_and ta (pw_and1 tb)) fun σ H Q q => tt_and q⟩
theorem or_two {X : Cx} {c : Cs} {E : L2.St → XK} {k : Nat} {a b : Em} {x y : Expr} (pos : Pos) (pa : PE X x (te g E (ev T a))) (ta : PT X x (tt g E (ev T a))) (pb : PE X y (te g E (ev T b))) (tb : PT X y (tt g E (ev T b))) :
    PE X (.BoolOp .Or [x, y] pos) (te g E (ev T (.or a b))) ∧ PW X (.BoolOp .Or [x, y] pos) (tt g E (ev T (.or a b))) :=
  ⟨pe_imp (pe_or pa (pe_one pb)) fun σ H Q q => te_or q, pw_imp (pw_or ta (pw_or1 tb)) fun σ H Q q => tt_or q⟩
theorem snd_and {a b : Em} (ia : Snd g F T a) (ib : Snd g F T b) : Snd g F T (.and a b) := by
  have R : ∀ (X : Cx) (c : Cs) (E : L2.St → XK) (k : Nat), XOk g F T X c E k → ∀ (es : List Expr) (pos : Pos),
      ((∃ x y, es = [x, y] ∧ ifB x = false ∧ ifB y = false ∧ chk F a c x = true ∧ chk F b c y = true) ∨ ∃ x y z r, es = x :: y :: z :: r ∧ ifB x = false ∧ chk F a c x = true ∧ chkR F b true c (y :: z :: r) = true) →
      PE X (.BoolOp .And es pos) (te g E (ev T (.and a b))) ∧ PW X (.BoolOp .And es pos) (tt g E (ev T (.and a b))) := by
    intro X c E k o es pos h
    rcases h with ⟨x, y, rfl, h1, h2, h3, h4⟩ | ⟨x, y, z, r, rfl, h1, h2, h3⟩
    · exact and_two (k := k) (c := c) pos (ia.E o h3) (ia.Tt o h3 h1) (ib.E o h4) (ib.Tt o h4 h2)
    · obtain ⟨p, q⟩ := ib.R o h3 pos
      exact ⟨pe_imp (pe_and (ia.E o h2) p) fun σ H Q q => te_and q, pw_imp (pw_and (ia.Tt o h2 h1) q) fun σ H Q q => tt_and q⟩
  have C : ∀ (c : Cs) (e : Expr), chk F (.and a b) c e = true → ∃ es pos, e = .BoolOp .And es pos ∧ ((∃ x y, es = [x, y] ∧ ifB x = false ∧ ifB y = false ∧ chk F a c x = true ∧ chk F b c y = true) ∨ ∃ x y z r, es = x :: y :: z :: r ∧ ifB x = false ∧ chk F a c x = true ∧ chkR F b true c (y :: z :: r) = true) := by
    intro c e h
    unfold chk at h
    split at h
    · simp only [Bool.and_eq_true, Bool.not_eq_true'] at h
      exact ⟨_, _, rfl, Or.inl ⟨_, _, rfl, h.1.1.1, h.1.1.2, h.1.2, h.2⟩⟩
    · simp only [Bool.and_eq_true, Bool.not_eq_true'] at h
      exact ⟨_, _, rfl, Or.inr ⟨_, _, _, _, rfl, h.1.1, h.1.2, h.2⟩⟩
    · cases h
  refine ⟨fun X c E k o e h => ?_, fun X c E k o e h _ => ?_, fun X c E k o es h => ?_, fun X c E k o es kb h pos => ?_, fun X c E k o kk tg iter h => ?_⟩
  · obtain ⟨es, pos, rfl, q⟩ := C c e h
    exact (R X c E k o es pos q).1
  · obtain ⟨es, pos, rfl, q⟩ := C c e h
    exact (R X c E k o es pos q).2.pt
  · unfold chkA at h; cases h
  · unfold chkR at h
    cases kb with
    | false => cases h
    | true =>
      refine R X c E k o es pos ?_
      simp only [Bool.true_and] at h
      split at h
      · simp only [Bool.and_eq_true, Bool.not_eq_true'] at h
        exact Or.inl ⟨_, _, rfl, h.1.1.1, h.1.1.2, h.1.2, h.2⟩
      · simp only [Bool.and_eq_true, Bool.not_eq_true'] at h
        exact Or.inr ⟨_, _, _, _, rfl, h.1.1, h.1.2, h.2⟩
      · cases h
  · unfold chkI at h; cases h
theorem snd_or {a b : Em} (ia : Snd g F T a) (ib : Snd g F T b) : Snd g F T (.or a b) := by
  have R : ∀ (X : Cx) (c : Cs) (E : L2.St → XK) (k : Nat), XOk g F T X c E k → ∀ (es : List Expr) (pos : Pos),
      ((∃ x y, es = [x, y] ∧ ifB x = false ∧ ifB y = false ∧ chk F a c x = true ∧ chk F b c y = true) ∨ ∃ x y z r, es = x :: y :: z :: r ∧ ifB x = false ∧ chk F a c x = true ∧ chkR F b false c (y :: z :: r) = true) →
      PE X (.BoolOp .Or es pos) (te g E (ev T (.or a b))) ∧ PW X (.BoolOp .Or es pos) (tt g E (ev T (.or a b))) := by
    intro X c E k o es pos h
    rcases h with ⟨x, y, rfl, h1, h2, h3, h4⟩ | ⟨x, y, z, r, rfl, h1, h2, h3⟩
    · exact or_two (k := k) (c := c) pos (ia.E o h3) (ia.Tt o h3 h1) (ib.E o h4) (ib.Tt o h4 h2)
    · obtain ⟨p, q⟩ := ib.R o h3 pos
      exact ⟨pe_imp (pe_or (ia.E o h2) p) fun σ H Q q => te_or q, pw_imp (pw_or (ia.Tt o h2 h1) q) fun σ H Q q => tt_or q⟩
  have C : ∀ (c : Cs) (e : Expr), chk F (.or a b) c e = true → ∃ es pos, e = .BoolOp .Or es pos ∧ ((∃ x y, es = [x, y] ∧ ifB x = false ∧ ifB y = false ∧ chk F a c x = true ∧ chk F b c y = true) ∨ ∃ x y z r, es = x :: y :: z :: r ∧ ifB x = false ∧ chk F a c x = true ∧ chkR F b false c (y :: z :: r) = true) := by
    intro c e h
    unfold chk at h
    split at h
    · simp only [Bool.and_eq_true, Bool.not_eq_true'] at h
      exact ⟨_, _, rfl, Or.inl ⟨_, _, rfl, h.1.1.1, h.1.1.2, h.1.2, h.2⟩⟩
    · simp only [Bool.and_eq_true, Bool.not_eq_true'] at h
      exact ⟨_, _, rfl, Or.inr ⟨_, _, _, _, rfl, h.1.1, h.1.2, h.2⟩⟩
    · cases h
  refine ⟨fun X c E k o e h => ?_, fun X c E k o e h _ => ?_, fun X c E k o es h => ?_, fun X c E k o es kb h pos => ?_, fun X c E k o kk tg iter h => ?_⟩
  · obtain ⟨es, pos, rfl, q⟩ := C c e h
    exact (R X c E k o es pos q).1
  · obtain ⟨es, pos, rfl, q⟩ := C c e h
    exact (R X c E k o es pos q).2.pt
  · unfold chkA at h; cases h
  · unfold chkR at h
    cases kb with
    | true => cases h
    | false =>
      refine R X c E k o es pos ?_
      simp only [Bool.not_false, Bool.true_and] at h
      split at h
      · simp only [Bool.and_eq_true, Bool.not_eq_true'] at h
        exact Or.inl ⟨_, _, rfl, h.1.1.1, h.1.1.2, h.1.2, h.2⟩
      · simp only [Bool.and_eq_true, Bool.not_eq_true'] at h
        exact Or.inr ⟨_, _, _, _, rfl, h.1.1, h.1.2, h.2⟩
      · cases h
  · unfold chkI at h; cases h
theorem snd_not {a : Em} (ia : Snd g F T a) : Snd g F T (.not a) := Snd.both (fun X c E k o e h => by
  unfold chk at h
  cases e <;> first | cases h | skip
  rename_i op x pos
  cases op <;> first | cases h | skip
  simp only [Bool.and_eq_true, Bool.not_eq_true'] at h
  exact ⟨pe_imp (pe_not (ia.E o h.2)) fun σ H Q q => te_not q, pt_imp (pt_not (ia.Tt o h.2 h.1)) fun σ H Q q => tt_not q⟩)
  (fun _ _ => by unfold chkA; rfl) (fun _ _ _ => by unfold chkR; rfl) (fun _ _ _ _ => by unfold chkI; rfl)
theorem snd_ite {d a b : Em} (id : Snd g F T d) (ia : Snd g F T a) (ib : Snd g F T b) : Snd g F T (.ite d a b) where
  pe := fun X c E k o e h => by
    unfold chk at h
    cases e <;> first | cases h | skip
    simp only [Bool.and_eq_true, Bool.not_eq_true'] at h
    exact pe_imp (pe_ifExp (id.Tt o h.1.1.2 h.1.1.1) (ia.E o h.1.2) (ib.E o h.2)) fun σ H Q q => te_ite q
  pt := fun X c E k o e h hi => by
    unfold chk at h
    cases e <;> first | cases h | skip
    cases hi
  pa := fun X c E k o es h => by unfold chkA at h; cases h
  pr := fun X c E k o es b h => by unfold chkR at h; cases h
  pi := fun X c E k o kk tg iter h => by unfold chkI at h; cases h
theorem plain_ix {b : Expr} (h : sliceB b = false) : PlainIx b := fun o i => by
  unfold subscripted
  cases b <;> first | rfl | cases h
theorem snd_ix {a b : Em} (ia : Snd g F T a) (ib : Snd g F T b) : Snd g F T (.ix a b) := Snd.val (fun X c E k o e h => by
  unfold chk at h
  cases e <;> first | cases h | skip
  simp only [Bool.and_eq_true, Bool.not_eq_true'] at h
  exact ⟨pe_imp (pe_ix (ix_all o.K) (ia.E o h.1.2) (ib.E o h.2) (plain_ix h.1.1)) fun σ H Q q => te_op2 ixR_calm q, rfl⟩) (fun _ _ => by unfold chkA; rfl) (fun _ _ _ => by unfold chkR; rfl) (fun _ _ _ _ => by unfold chkI; rfl)
theorem po_of {X : Cx} {c : Cs} {E : L2.St → XK} {k : Nat} (o : XOk g F T X c E k) {a : Em} (ia : Snd g F T a) {l : Option Expr} (h : (match l with | none => nonM a | some u => !nonM a && chk F a c u) = true) :
    PO X l (to g E (nonM a) (ev T a)) := by
  cases l with
  | none =>
    have h : nonM a = true := h
    unfold nonM at h
    split at h
    · exact po_imp po_none fun σ H Q q => to_none q
    · cases h
  | some u =>
    have h : (!nonM a && chk F a c u) = true := h
    simp only [Bool.and_eq_true, Bool.not_eq_true'] at h
    rw [h.1]
    exact po_imp (po_some (ia.E o h.2)) fun σ H Q q => to_part q
theorem snd_sl {a lo hi : Em} (ia : Snd g F T a) (il : Snd g F T lo) (ih : Snd g F T hi) : Snd g F T (.sl a lo hi) := Snd.val (fun X c E k o e h => by
  unfold chk at h
  split at h
  · rename_i x l u p2 pos
    rw [Bool.and_eq_true, Bool.and_eq_true] at h
    exact ⟨pe_imp (pe_slice (sl_all o.K) (ia.E o h.1.1) (po_of o il h.1.2) (po_of o ih h.2)) fun σ H Q q => te_sl q, rfl⟩
  · cases h) (fun _ _ => by unfold chkA; rfl) (fun _ _ _ => by unfold chkR; rfl) (fun _ _ _ _ => by unfold chkI; rfl)
theorem snd_rev {a : Em} (ia : Snd g F T a) : Snd g F T (.rev a) := Snd.val (fun X c E k o e h => by
  unfold chk at h
  cases e <;> first | cases h | skip
  rename_i x y pos
  simp only [Bool.and_eq_true] at h
  have hy := h.1
  unfold backB at hy
  split at hy
  · have e1 := of_decide_eq_true hy
    subst e1
    exact ⟨pe_imp (pe_back (ia.E o h.2)) fun σ H Q q => te_rev o.K q, rfl⟩
  · cases hy) (fun _ _ => by unfold chkA; rfl) (fun _ _ _ => by unfold chkR; rfl) (fun _ _ _ _ => by unfold chkI; rfl)
theorem callB_ok {x : Str} {e : Expr} {es : List Expr} (h : callB x e = some es) : ∃ p pos, e = .Call (.Name x p) es [] pos := by
  unfold callB at h
  split at h
  · split at h
    · rename_i e1
      subst e1
      cases h
      exact ⟨_, _, rfl⟩
    · cases h
  · cases h
theorem snd_call {f : Nat} {a : Em} (ia : Snd g F T a) : Snd g F T (.call f a) := Snd.val (fun X c E k o e h => by
  unfold chk at h
  split at h
  · rename_i nm n hf
    split at h
    · rename_i x es he
      obtain ⟨p, pos, rfl⟩ := callB_ok he
      simp only [Bool.and_eq_true, decide_eq_true_eq] at h
      obtain ⟨⟨h1, rfl⟩, h3⟩ := h
      obtain ⟨ad, fd, ps, CX, e1, e2, e3, e4, e5, _⟩ := o.fns f _ _ hf
      obtain ⟨hg, hd⟩ := glB_ok o h1
      have hst := chkA_star a (x :: es) h3
      refine ⟨pe_imp (pe_callSD (dvs := []) e1 o.room hg e2 e3 e4 .nil e5 (ia.A o h3) hd (star_cons (hst x List.mem_cons_self)) (few_ok fun y hy => hst y (List.mem_cons_of_mem _ hy)).1) fun σ H Q q => ?_, rfl⟩
      exact te_call (Args.of h3) (Args.len h3) q
    · cases h
  · cases h) (fun _ _ => by unfold chkA; rfl) (fun _ _ _ => by unfold chkR; rfl) (fun _ _ _ _ => by unfold chkI; rfl)
theorem boot_bi (f : Bi) : bootBuiltins (biN f) = some (biV f) := by cases f <;> decide +kernel
theorem snd_bi {f : Bi} {a : Em} (ia : Snd g F T a) : Snd g F T (.bi f a) := Snd.val (fun X c E k o e h => by
  unfold chk at h
  split at h
  · rename_i x es he
    obtain ⟨p, pos, rfl⟩ := callB_ok he
    simp only [Bool.and_eq_true, decide_eq_true_eq] at h
    obtain ⟨⟨⟨h1, h2⟩, h4⟩, h3⟩ := h
    obtain ⟨hg, hd⟩ := glB_ok o h1
    have hst := chkA_star a (x :: es) h3
    have h5 := star_cons (env := X.env) (es := es) (hst x List.mem_cons_self)
    have h6 := (few_ok (env := X.env) (pos := pos) fun y hy => hst y (List.mem_cons_of_mem _ hy)).1
    have hb := boot_bi f
    have hc := bi_all (g := g) o.K o.calm f
    refine ⟨?_, rfl⟩
    cases f
    all_goals first
      | exact pe_imp (pe_callB hc hg (o.fr _ h2) hb (ia.A o h3) (by decide) hd h5 h6) fun σ H Q q => te_bi (Args.of h3) (biR_calm _) q
      | exact pe_imp (pe_callTy hc hg (o.fr _ h2) hb (ia.A o h3) (by decide) hd h5 h6) fun σ H Q q => te_bi (Args.of h3) (biR_calm _) q
  · cases h) (fun _ _ => by unfold chkA; rfl) (fun _ _ _ => by unfold chkR; rfl) (fun _ _ _ _ => by unfold chkI; rfl)
theorem snd_me {f : Me} {b a : Em} (ib : Snd g F T b) (ia : Snd g F T a) : Snd g F T (.me f b a) := Snd.val (fun X c E k o e h => by
  unfold chk at h
  split at h
  · rename_i x m apos y es cpos
    simp only [Bool.and_eq_true, decide_eq_true_eq] at h
    obtain ⟨⟨⟨⟨⟨rfl, h2⟩, h3⟩, h4⟩, h5⟩, h6⟩ := h
    have hst := chkA_star a (y :: es) h6
    have s1 := star_cons (env := X.env) (es := es) (hst y List.mem_cons_self)
    have s2 := few_ok (env := X.env) (pos := cpos) fun z hz => hst z (List.mem_cons_of_mem _ hz)
    have s3 := few_ok (env := X.env) (pos := cpos) (es := y :: es) fun z hz => hst z hz
    refine ⟨?_, rfl⟩
    have hm := me_all (X := X) (g := g) f
    cases f
    have hfew : ((backTo cpos (starEach (y :: es) X.env)).all (fun x => !x.1) && (backToKw cpos (keywordEach [] X.env)).all (fun x => x.1.isSome)
      && decide ((y :: es).length + ([] : List Keyword).length + (if ([] : List Keyword).isEmpty then 0 else 1) < 30)) = true := by
      rw [s3.2]
      have e1 : 1 = es.length + 1 := h4
      simp only [List.length_cons, List.length_nil, List.isEmpty_nil, if_true, Bool.true_and]
      rw [← e1]
      rfl
    exact pe_imp (pe_bm PySem.F.plainAttrs_list PySem.F.slot_list_append PySem.F.type_list_append hm (ib.E o h5) (ia.A o h6) (recv_base h2) hfew h3 s1 s2.1) fun σ H Q q => te_me o.K (Args.of h6) q
  · cases h) (fun _ _ => by unfold chkA; rfl) (fun _ _ _ => by unfold chkR; rfl) (fun _ _ _ _ => by unfold chkI; rfl)
theorem tyN_boot {n : String} {y : Str} (h : tyN n = some y) : bootBuiltins y = some (.type n) ∧ y ≠ "__name__" := by
  unfold tyN at h
  split at h <;> first | cases h | skip
  all_goals exact ⟨by decide +kernel, by decide⟩
theorem snd_isi {n : String} {a : Em} (ia : Snd g F T a) : Snd g F T (.isi n a) := Snd.val (fun X c E k o e h => by
  unfold chk at h
  split at h
  · rename_i x y ypos he
    obtain ⟨p, pos, rfl⟩ := callB_ok he
    simp only [Bool.and_eq_true, decide_eq_true_eq, Bool.not_eq_true'] at h
    obtain ⟨⟨⟨⟨⟨⟨h1, h2⟩, h3⟩, h4⟩, h5⟩, h6⟩, h7⟩ := h
    obtain ⟨hg, hd⟩ := glB_ok o h1
    obtain ⟨hg2, hd2⟩ := glB_ok o h4
    obtain ⟨hb, hn⟩ := tyN_boot h3
    have hy : PE X (.Name y ypos) (tC (.ty n)) := pe_bltn hg2 (o.fr _ h5) hb rfl hn hd2
    have s1 : ∀ env, starEach [x, Expr.Name y ypos] env = (false, eval x env) :: starEach [Expr.Name y ypos] env := fun env => star_cons h6
    exact ⟨pe_imp (pe_callB (isi_rd o.K n) hg (o.fr _ h2) (by decide +kernel) (pa_cons (ia.E o h7) (pa_cons hy pa_nil) (s1 _)) (by decide) hd (s1 _) rfl) fun σ H Q q => te_isi q, rfl⟩
  · cases h) (fun _ _ => by unfold chkA; rfl) (fun _ _ _ => by unfold chkR; rfl) (fun _ _ _ _ => by unfold chkI; rfl)
theorem snd_it {k : Ik} {a : Em} (ia : Snd g F T a) : Snd g F T (.it k a) where
  pe := fun X c E k o e h => by unfold chk at h; cases h
  pt := fun X c E k o e h => by unfold chk at h; cases h
  pa := fun X c E k o es h => by unfold chkA at h; cases h
  pr := fun X c E k o es b h => by unfold chkR at h; cases h
  pi := fun X c E k' o kk tg iter h => by
    unfold chkI at h
    split at h
    · simp only [Bool.and_eq_true, Bool.not_eq_true'] at h
      exact ⟨pi_plain o.K (ia.E o h.2), h.1⟩
    · split at h
      · rename_i x he
        obtain ⟨p, pos, rfl⟩ := callB_ok he
        simp only [Bool.and_eq_true] at h
        obtain ⟨hg, hd⟩ := glB_ok o h.1.1
        show PI X tg _ (ti g E .rng (ev T a)) ∧ _
        exact ⟨pi_rng1 hg (o.fr _ h.1.2) (ia.A o h.2) (Args.of h.2) (Args.len h.2) (chkA_star a _ h.2 _ List.mem_cons_self), rfl⟩
      · rename_i x y he
        obtain ⟨p, pos, rfl⟩ := callB_ok he
        simp only [Bool.and_eq_true] at h
        obtain ⟨hg, hd⟩ := glB_ok o h.1.1
        show PI X tg _ (ti g E .rng (ev T a)) ∧ _
        exact ⟨pi_rng2 hg (o.fr _ h.1.2) (ia.A o h.2) (Args.of h.2) (Args.len h.2) (chkA_star a _ h.2 _ List.mem_cons_self) (chkA_star a _ h.2 _ (by simp)), rfl⟩
      · cases h
    · cases h
theorem it_args (k : Ik) (a : Em) (h : ∀ k', k = k' → k' = .plain ∨ Args (ev T a)) : Args (ev T (.it k a)) := by
  intro e s d s' q
  unfold ev at q
  cases k with
  | plain =>
    have q : (ev T a e s).bind (fun d s1 => .ok (.tup [d]) s1) = .ok d s' := q
    cases qa : ev T a e s with
    | bad => rw [qa] at q; cases q
    | ex n p s2 => rw [qa] at q; cases q
    | ok d1 s1 => rw [qa] at q; cases q; exact ⟨_, rfl⟩
  | rng => exact (h _ rfl).elim (fun z => by cases z) fun z => z _ _ _ _ q
  | enum => exact (h _ rfl).elim (fun z => by cases z) fun z => z _ _ _ _ q
  | zip => exact (h _ rfl).elim (fun z => by cases z) fun z => z _ _ _ _ q
/-- what is walked is an argument list -/
theorem chkI_args {kk : Ik} {c : Cs} {tg iter : Expr} {i : Em} (h : chkI F i kk c tg iter = true) : Args (ev T i) := by
  cases i with
  | it k a =>
    refine it_args k a fun k' e => ?_
    subst e
    unfold chkI at h
    split at h
    · exact Or.inl rfl
    · right
      split at h
      · simp only [Bool.and_eq_true] at h; exact Args.of h.2
      · simp only [Bool.and_eq_true] at h; exact Args.of h.2
      · cases h
    · cases h
  | _ => unfold chkI at h; cases h
theorem not_set_folded {e : Expr} {env : Env} (h : setB e = false) : ∀ x, foldedSetIterable e env x = pure x := fun x => by
  cases e <;> first | rfl | cases h
theorem snd_comp {mt : Bool} {own : List (Str × Nat)} {t : Tc} {i : Em} {kk : Ik} {cnd elt : Em} (ii : Snd g F T i) (ic : Snd g F T cnd) (ie : Snd g F T elt) : Snd g F T (.comp mt own t i kk cnd elt) := Snd.val (fun X c E k o e h => by
  unfold chk at h
  split at h
  · rename_i el tg iter ifs a scope pos
    simp only [Bool.and_eq_true, decide_eq_true_eq, Bool.not_eq_true'] at h
    obtain ⟨⟨⟨⟨⟨⟨⟨rfl, h2⟩, h3⟩, h4⟩, h5⟩, h6⟩, h7⟩, h8⟩ := h
    have hk : scope.kind = .function := by
      unfold blkC at h3
      simp only [Bool.and_eq_true] at h3
      have z := h3.1.1.1
      split at z
      · assumption
      · cases z
    have ok : BlkOk X.N X.env.scope scope own := by
      rw [o.N, o.sc]
      exact blkOk_by h3
    have hown : ∀ j ∈ t.slots, j ∈ own.map (·.2) := fun j hj => by
      have z := List.all_eq_true.mp h4 j hj
      obtain ⟨p, hp, e1⟩ := List.any_eq_true.mp z
      have e1 := eq_of_beq e1
      exact List.mem_map.mpr ⟨p, hp, e1⟩
    obtain ⟨hi, hset⟩ := ii.pi X c E k o kk tg iter h6
    have ob := fun s H C cl fp => o.blk hk s H C cl fp
    have htst : ∀ (s : Shared) (H : Hp) (C : Addr) (cl : List (Str × Addr)) (fp : List Addr), PTs (X.blk s H scope (compEnvC scope cl C X.env) fp) ifs (tt g (fun _ _ _ _ => False) (ev T cnd)) := by
      intro s H C cl fp
      split at h7
      · split at h7
        · refine ⟨fun pins s1 σ H1 Q I q => pts_nil.run pins s1 σ H1 Q I ?_⟩
          exact tt_done (show tt g _ (fun _ s => .ok (.bl true) s) σ H1 Q from q)
        · cases h7
      · simp only [Bool.and_eq_true, Bool.not_eq_true'] at h7
        exact pts_one (ic.Tt (ob s H C cl fp) h7.2 h7.1)
      · cases h7
    refine ⟨pe_imp (pe_lc o.calm (by rw [o.N]; exact o.nd) hi ok (fun s H C cl fp => pg_tc (X := X.blk s H scope (compEnvC scope cl C X.env) fp) o.K (ob s H C cl fp).tok t tg h5) htst (fun s H C cl fp => ie.E (ob s H C cl fp) h8) (not_set_folded h2)) fun σ H Q q => ?_, rfl⟩
    exact te_comp hown q (chkI_args h6)
  · cases h) (fun _ _ => by unfold chkA; rfl) (fun _ _ _ => by unfold chkR; rfl) (fun _ _ _ _ => by unfold chkI; rfl)
theorem snd_lset {a : Em} (ia : Snd g F T a) : Snd g F T (.lset a) := Snd.val (fun X c E k o e h => by
  unfold chk at h
  split at h
  · rename_i x he
    obtain ⟨p, pos, rfl⟩ := callB_ok he
    split at h
    · rename_i y hy
      obtain ⟨p2, q, rfl⟩ := callB_ok hy
      simp only [Bool.and_eq_true, Bool.not_eq_true'] at h
      obtain ⟨⟨⟨⟨⟨h1, h2⟩, h3⟩, h4⟩, h5⟩, h6⟩ := h
      refine ⟨pe_imp (pe_lset (g := g) o.K o.calm o.room (glB_ok o h1).1 (o.fr _ h2) (glB_ok o h3).1 (o.fr _ h4) (ia.E o h6) h5) fun σ H Q q => ?_, rfl⟩
      obtain ⟨w, e, s, hr, re, h⟩ := q
      have h : con g (E σ) w H ((ev T a e s).bind fun x s1 => lsetR s1 x) (VQ g Q) := h
      refine ⟨w, e, s, hr, re, h.bind.imp fun d w1 s1 H1 k1 hr1 q v rv => ?_⟩
      refine ⟨w1, s1, d, hr1, rv, q.calm ?_⟩
      unfold lsetR
      split
      · split
        · split <;> trivial
        · trivial
      · trivial
    · cases h
  · cases h) (fun _ _ => by unfold chkA; rfl) (fun _ _ _ => by unfold chkR; rfl) (fun _ _ _ _ => by unfold chkI; rfl)
/-- EXPRESSIONS -/
theorem snd (a : Em) : Snd g F T a := by
  induction a with
  | var i => exact snd_var i
  | c d => exact snd_c d
  | gl x => exact snd_gl x
  | nil => exact snd_nil
  | cons a b ia ib => exact snd_cons ia ib
  | tup a ia => exact snd_tup ia
  | lst mt a ia => exact snd_lst ia
  | bin o a b ia ib => exact snd_bin ia ib
  | neg a ia => exact snd_neg ia
  | cmp o a b ia ib => exact snd_cmp ia ib
  | chain o o' a b d ia ib id => exact snd_chain ia ib id
  | and a b ia ib => exact snd_and ia ib
  | or a b ia ib => exact snd_or ia ib
  | not a ia => exact snd_not ia
  | ite d a b id ia ib => exact snd_ite id ia ib
  | ix a b ia ib => exact snd_ix ia ib
  | sl a lo hi ia il ih => exact snd_sl ia il ih
  | rev a ia => exact snd_rev ia
  | call f a ia => exact snd_call ia
  | bi f a ia => exact snd_bi ia
  | me f b a ib ia => exact snd_me ib ia
  | lset a ia => exact snd_lset ia
  | isi n a ia => exact snd_isi ia
  | it k a ia => exact snd_it ia
  | comp mt own t i k cnd elt ii ic ie => exact snd_comp ii ic ie
end
end Py
/-! Statements. -/
namespace Py
open PySem PySem.Spec PyProof.Rows L2

theorem swap_two {x y : Str} {px py pt : Pos} {kt k2 : Nat} {pt2 : Pos} {a b : Expr} {env : Env} (hk : env.blockKind = .function) (hx : env.kindOf x = some .local) (hy : env.kindOf y = some .local) (hl : px.line = py.line) (hne : x ≠ y)
    (hs : starB a = false) (hs2 : starB b = false) (hf : ([a, b].all (foldedForSure 8)) = false) (hc : ([a, b].all (constantsAlone 8)) = false) :
    swappedStores [.Tuple [.Name x px, .Name y py] kt pt] (.Tuple [a, b] k2 pt2) env = pure (some [x, y]) := by
  unfold swappedStores
  have e1 : ([x, y].eraseDups).length = 2 := by
    have h2 : (y == x) = false := by simpa using (Ne.symm hne)
    simp [List.eraseDups, List.eraseDupsBy, List.eraseDupsBy.loop, h2]
  simp only [hk, hx, hy, hl, hf, hc, List.filterMap_cons, List.filterMap_nil, List.length_cons, List.length_nil, List.head?_cons, Option.map_some, Option.getD_some, Expr.pos]
  simp [e1]
  intro h
  exfalso
  rcases h with h | h
  · cases a <;> first | (cases hs; done) | cases h
  · cases b <;> first | (cases hs2; done) | cases h
/-- some target is no local name of that line -/
def noSwapB (c : Cs) (ts : List Expr) : Bool := !(ts.length == 2 || ts.length == 3) || (ts.filterMap fun
    | .Name id pos => if c.sc.names.lookup id == some .local && pos.line == (ts.head?.map (·.pos.line)).getD 0 then some id else none
    | _ => none).length != ts.length
theorem swap_none {c : Cs} {env : Env} {ts vs : List Expr} {kt k2 : Nat} {pt pt2 : Pos} (hs : env.scope = c.sc) (h : noSwapB c ts = true) : swappedStores [.Tuple ts kt pt] (.Tuple vs k2 pt2) env = pure none := by
  unfold swappedStores
  unfold noSwapB at h
  simp only [Env.kindOf, hs]
  split
  · rfl
  · rename_i n1
    split
    · rfl
    · split
      · rfl
      · rename_i n2 n3
        exfalso
        rcases Bool.or_eq_true_iff.mp h with h | h
        · exact n1 (by rw [h]; rfl)
        · exact n3 (by rw [Bool.or_eq_true]; exact Or.inl h)
/-- what is kept of a value when a name takes it: a comprehension goes straight to a local name of its line -/
def scopeOf : Expr → Option Scope
  | .ListComp _ _ s _ => some s
  | .SetComp _ _ s _ => some s
  | .DictComp _ _ _ s _ => some s
  | _ => none
theorem sw_plain {e : Expr} {tg : Option Expr} {l : Nat} {env : Env} (h : scopeOf e = none) : swapsWith e tg l env = pure false := by
  cases e <;> first | rfl | cases h
theorem sw_other {e tg : Expr} {l : Nat} {env : Env} (h : ∀ x p, tg ≠ .Name x p) : swapsWith e (some tg) l env = pure false := by
  unfold swapsWith
  split
  · split
    · rename_i q; cases q
    · rename_i q; cases q; exact (h _ _ rfl).elim
    · rfl
  · rfl
def swapB (c : Cs) (x : Str) (pos : Pos) (e : Expr) : Bool := match scopeOf e with
  | none => false
  | some scope => c.sc.names.lookup x == some .local && pos.line == e.pos.line && !(scope.names.any fun (n, k) => n == x && (k == .local || k == .cell))
theorem sw_name {c : Cs} {e : Expr} {x : Str} {pos : Pos} {l : Nat} {env : Env} (hs : env.scope = c.sc) (hk : c.sc.kind = .function) : swapsWith e (some (.Name x pos)) l env = pure (swapB c x pos e) := by
  have hb : env.blockKind = .function := by
    unfold Env.blockKind
    rw [hs, hk]
    rfl
  unfold swapsWith swapB scopeOf
  cases e <;> first | rfl | skip
  all_goals
    simp only [hb, Env.kindOf, hs]
    rfl

/-! ### what a statement asks -/
def conO (g : G) (E : L2.St → XK) (w : Wd) (H : Hp) (r : Ou) (D : Ends) : Prop := match r with
  | .nx e' s' => ∀ w' H' σ', Kp w H w' H' → HR g.K w' H' s' → RE g.K w' H' σ' e' → D.nx σ' H'
  | .bk e' s' => ∀ w' H' σ', Kp w H w' H' → HR g.K w' H' s' → RE g.K w' H' σ' e' → D.bk σ' H'
  | .ct e' s' => ∀ w' H' σ', Kp w H w' H' → HR g.K w' H' s' → RE g.K w' H' σ' e' → D.ct σ' H'
  | .rt d s' => ∀ w' H' v, Kp w H w' H' → HR g.K w' H' s' → Rep g.K w' H' v d → D.rt v H'
  | .ex e' x p s' => ∀ w' H' σ' dx, Kp w H w' H' → HR g.K w' H' s' → RE g.K w' H' σ' e' → Pay g w' H' x p dx → E σ' (g.cl x) dx H'
  | .bad => False
section
variable {g : G} {E : L2.St → XK} {w w' : Wd} {H H' : Hp} {r : Ou} {D D' : Ends}
theorem conO.mono (h : conO g E w H r D) (k : Kp w H w' H') : conO g E w' H' r D := by
  cases r with
  | nx e s => exact fun w1 H1 σ k1 hr re => h w1 H1 σ (k.trans k1) hr re
  | bk e s => exact fun w1 H1 σ k1 hr re => h w1 H1 σ (k.trans k1) hr re
  | ct e s => exact fun w1 H1 σ k1 hr re => h w1 H1 σ (k.trans k1) hr re
  | rt d s => exact fun w1 H1 v k1 hr rv => h w1 H1 v (k.trans k1) hr rv
  | ex e x p s => exact fun w1 H1 σ dx k1 hr re hp => h w1 H1 σ dx (k.trans k1) hr re hp
  | bad => exact h
theorem conO_of {α : Type} {e : Sl} {q : Rs α} {f : α → Sto → Ou} {σ : L2.St} (re : RE g.K w H σ e) (h : conO g E w H (Ou.of e q f) D) : con g (E σ) w H q fun d w1 s1 H1 => conO g E w1 H1 (f d s1) D := by
  cases q with
  | ok d s => exact fun w1 H1 k1 hr => conO.mono (r := f d s) h k1
  | ex x p s => exact fun w1 H1 dx k1 hr hp => h w1 H1 σ dx k1 hr (re.mono k1) hp
  | bad => exact h
/-- statements -/
def ts (g : G) (E : L2.St → XK) (f : Sl → Sto → Ou) : TS := fun D σ H => ∃ w e s, HR g.K w H s ∧ RE g.K w H σ e ∧ conO g E w H (f e s) D
theorem conO_next {f : Sl → Sto → Ou} (h : conO g E w H (r.next f) D) : conO g E w H r { D with nx := ts g E f D } := by
  cases r with
  | nx e s => exact fun w1 H1 σ k1 hr re => ⟨w1, e, s, hr, re, conO.mono (r := f e s) h k1⟩
  | bk e s => exact h
  | ct e s => exact h
  | rt d s => exact h
  | ex e x p s => exact h
  | bad => exact h
theorem conO_step {f : Sl → Sto → Ou} {Q : L2.St → Hp → Prop} {N : L2.St → Hp → Prop} (h : conO g E w H (r.step f) ⟨Q, fun _ _ => False, fun _ _ => False, fun _ _ => False⟩)
    (hn : ∀ w1 H1 σ e s, r = .nx e s → Kp w H w1 H1 → HR g.K w1 H1 s → RE g.K w1 H1 σ e → conO g E w1 H1 (f e s) ⟨Q, fun _ _ => False, fun _ _ => False, fun _ _ => False⟩ → N σ H1) : conO g E w H r ⟨N, fun _ _ => False, fun _ _ => False, fun _ _ => False⟩ := by
  cases r with
  | nx e s => exact fun w1 H1 σ k1 hr re => hn w1 H1 σ e s rfl k1 hr re (conO.mono (r := f e s) h k1)
  | bk e s => exact h.elim
  | ct e s => exact h.elim
  | rt d s => exact h.elim
  | ex e x p s => exact h
  | bad => exact h
theorem ts_seq {f f' : Sl → Sto → Ou} {σ : L2.St} (h : ts g E (fun e s => (f e s).next f') D σ H) : tSeq (ts g E f) (ts g E f') D σ H := by
  obtain ⟨w, e, s, hr, re, h⟩ := h
  exact ⟨w, e, s, hr, re, conO_next h⟩
theorem ps_imp {X : Cx} {st : Stmt} {t t' : TS} (h : PS X st t) (hi : ∀ D σ H, t' D σ H → t D σ H) : PS X st t' := ⟨fun pins s σ H D I q => h.run pins s σ H D I (hi _ _ _ q)⟩
theorem pss_imp {X : Cx} {st : List Stmt} {t t' : TS} (h : PSs X st t) (hi : ∀ D σ H, t' D σ H → t D σ H) : PSs X st t' := ⟨fun pins s σ H D I q => h.run pins s σ H D I (hi _ _ _ q)⟩
theorem ts_done {f : Sl → Sto → Ou} {σ : L2.St} (hf : ∀ e s, f e s = .nx e s) (h : ts g E f D σ H) : D.nx σ H := by
  obtain ⟨w, e, s, hr, re, h⟩ := h
  rw [hf] at h
  exact h w H σ (Kp.refl _ _) hr re
theorem ts_ret {fa : Sl → Sto → Rs Py.D} {DD : Ends} {σ : L2.St} (h : ts g E (fun e s => Ou.of e (fa e s) fun d s1 => .rt d s1) DD σ H) : tRet (te g E fa) DD σ H := by
  obtain ⟨w, e, s, hr, re, h⟩ := h
  exact ⟨w, e, s, hr, re, (conO_of re h).imp fun d w1 s1 H1 k hr1 q v rv => q w1 H1 v (Kp.refl _ _) hr1 rv⟩
theorem ts_drop {fa : Sl → Sto → Rs Py.D} {DD : Ends} {σ : L2.St} (h : ts g E (fun e s => Ou.of e (fa e s) fun _ s1 => .nx e s1) DD σ H) : tDrop (te g E fa) DD σ H := by
  obtain ⟨w, e, s, hr, re, h⟩ := h
  exact ⟨w, e, s, hr, re, (conO_of re h).imp fun d w1 s1 H1 k hr1 q v rv => q w1 H1 σ (Kp.refl _ _) hr1 (re.mono k)⟩
theorem ts_ite {fa : Sl → Sto → Rs Py.D} {f f' : Sl → Sto → Ou} {DD : Ends} {σ : L2.St} (h : ts g E (fun e s => Ou.of e (fa e s) fun d s1 => match d with
    | .bl k => if k then f e s1 else f' e s1
    | _ => .bad) DD σ H) : tIfS (tt g E fa) (ts g E f) (ts g E f') DD σ H := by
  obtain ⟨w, e, s, hr, re, h⟩ := h
  refine ⟨w, e, s, hr, re, (conO_of re h).imp fun d w1 s1 H1 k hr1 q => ?_⟩
  cases d with
  | bl b =>
    refine ⟨b, rfl, ?_⟩
    cases b
    · exact ⟨w1, e, s1, hr1, re.mono k, q⟩
    · exact ⟨w1, e, s1, hr1, re.mono k, q⟩
  | _ => exact q.elim
theorem ts_par {fa fb : Sl → Sto → Rs Py.D} {i j : Nat} {DD : Ends} {σ : L2.St} (h : ts g E (fun e s => Ou.of e (fa e s) fun x s1 => Ou.of e (fb e s1) fun y s2 => .nx ((e.set i (some x)).set j (some y)) s2) DD σ H) :
    tPar i j (tCons (te g E fa) (tCons (te g E fb) tNil)) DD σ H := by
  obtain ⟨w, e, s, hr, re, h⟩ := h
  refine ⟨w, e, s, hr, re, (conO_of re h).imp fun a w1 s1 H1 k1 hr1 h1 x rx => ?_⟩
  have re1 := re.mono k1
  refine ⟨w1, e, s1, hr1, re1, (conO_of re1 h1).imp fun b w2 s2 H2 k2 hr2 h2 y ry => ?_⟩
  exact ⟨x, y, rfl, h2 w2 H2 _ (Kp.refl _ _) hr2 (((re1.mono k2).set i (rx.mono k2)).set j ry)⟩
end
end Py
/-! Loops, targets. -/
namespace Py
open PySem PySem.Spec PyProof.Rows L2

section
variable {X : Cx} {g : G} {E : L2.St → XK}
theorem conO_turn {w : Wd} {H : Hp} {r : Ou} {f : Sl → Sto → Ou} {D : Ends} {N : L2.St → Hp → Prop} (h : conO g E w H (r.turn f) D)
    (hn : ∀ w1 H1 σ e s, Kp w H w1 H1 → HR g.K w1 H1 s → RE g.K w1 H1 σ e → conO g E w1 H1 (f e s) D → N σ H1) : conO g E w H r { D with nx := N, ct := N, bk := D.nx } := by
  cases r with
  | nx e s => exact fun w1 H1 σ k1 hr re => hn w1 H1 σ e s k1 hr re (conO.mono (r := f e s) h k1)
  | ct e s => exact fun w1 H1 σ k1 hr re => hn w1 H1 σ e s k1 hr re (conO.mono (r := f e s) h k1)
  | bk e s => exact h
  | rt d s => exact h
  | ex e x p s => exact h
  | bad => exact h
theorem ts_for {k : Ik} {t : Tc} {fi : Sl → Sto → Rs Py.D} {fb : Sl → Sto → Ou} {D : Ends} {σ : L2.St} {H : Hp} (hTi : Args fi)
    (h : ts g E (fun e s => Ou.of e (fi e s) fun src s1 => match itemsOf k s1 src with
      | some all => forL k src all t fb all e s1
      | none => .bad) D σ H) : tFor (ti g E k fi) (tcR g t) (ts g E fb) D σ H := by
  obtain ⟨w, e, s, hr, re, h⟩ := h
  refine ⟨w, e, s, hr, re, ?_⟩
  have hb := conO_of re h
  cases q : fi e s with
  | bad => rw [q] at hb; exact hb
  | ex n p s2 => rw [q] at hb; exact hb
  | ok src s1 =>
    rw [q] at hb
    obtain ⟨as, rfl⟩ := hTi _ _ _ _ q
    intro w1 H1 k1 hr1
    have h1 : conO g E w1 H1 (match itemsOf k s1 (.tup as) with
      | some all => forL k (.tup as) all t fb all e s1
      | none => .bad) D := hb w1 H1 k1 hr1
    cases hall : itemsOf k s1 (.tup as) with
    | none => rw [hall] at h1; exact h1.elim
    | some all =>
      rw [hall] at h1
      refine ⟨as, all, rfl, rfl, fun vs J rv wk => ?_⟩
      refine ⟨fun i m σ H => i + m = all.length ∧ ∃ w e s, HR g.K w H s ∧ RE g.K w H σ e ∧ RepL g.K w H vs as ∧ conO g E w H (forL k (.tup as) all t fb (all.drop i) e s) D, ⟨all.length, by omega, w1, e, s1, hr1, re.mono k1, rv, by rw [List.drop_zero]; exact h1⟩, ?_⟩
      rintro i m σ2 H2 ⟨him, w2, e2, s2, hr2, re2, rv2, h2⟩
      cases m with
      | zero =>
        left
        have hi : i = all.length := by omega
        subst hi
        rw [List.drop_length] at h2
        unfold forL at h2
        split at h2
        · rename_i hg
          exact ⟨wk.stop _ _ _ hr2 rv2 hg, h2 w2 H2 σ2 (Kp.refl _ _) hr2 re2⟩
        · exact h2.elim
      | succ m =>
        right
        have hi : i < all.length := by omega
        rw [List.drop_eq_getElem_cons hi] at h2
        unfold forL at h2
        split at h2
        · rename_i hg
          split at h2
          · rename_i e' he'
            refine ⟨wk.go i _ _ _ hi hr2 rv2 hg, _, fun σ' H' q => ⟨m, Nat.lt_succ_self m, q⟩, fun x H' y => ?_⟩
            obtain ⟨d, hd, ky, hry, rx, _⟩ := wk.yld i _ _ _ x H' hi hr2 rv2 hg y
            have ed : all[i] = d := by rw [List.getElem?_eq_getElem hi] at hd; exact Option.some.inj hd
            rw [ed] at he'
            refine ⟨w2, e2, s2, d, e', hry, re2.mono ky, rx, he', fun σ' re' _ => ⟨w2, e', s2, hry, re', ?_⟩⟩
            refine conO_turn (h2.mono ky) fun w3 H3 σ3 e3 s3 k3 hr3 re3 h3 => ?_
            exact ⟨by omega, w3, e3, s3, hr3, re3, (rv2.mono ky).mono k3, h3⟩
          · exact h2.elim
        · exact h2.elim
theorem whileN_succ {c : Sl → Sto → Rs Py.D} {b : Sl → Sto → Ou} (n : Nat) (e : Sl) (s : Sto) : whileN c b (n + 1) e s = wtst e (c e s) fun s1 => wturn (b e s1) (whileN c b n) := rfl
theorem wtst_imp {e : Sl} {q : Rs Py.D} {f f' : Sto → Option Ou} {r : Ou} (h : wtst e q f = some r) (hf : ∀ s1, f s1 = some r → f' s1 = some r) : wtst e q f' = some r := by
  unfold wtst at h ⊢
  split at h <;> first | exact hf _ h | exact h | skip
theorem wturn_imp {q : Ou} {f f' : Sl → Sto → Option Ou} {r : Ou} (h : wturn q f = some r) (hf : ∀ e s, f e s = some r → f' e s = some r) : wturn q f' = some r := by
  cases q with
  | nx e s => exact hf e s h
  | ct e s => exact hf e s h
  | bk e s => exact h
  | rt d s => exact h
  | ex e x p s => exact h
  | bad => exact h
theorem whileN_mono {c : Sl → Sto → Rs Py.D} {b : Sl → Sto → Ou} : ∀ (n : Nat) (e : Sl) (s : Sto) (r : Ou), whileN c b n e s = some r → whileN c b (n + 1) e s = some r
  | 0, e, s, r, h => by cases h
  | n + 1, e, s, r, h => by
    rw [whileN_succ] at h ⊢
    exact wtst_imp h fun s1 h1 => wturn_imp h1 fun e2 s2 h2 => whileN_mono n e2 s2 r h2
theorem whileN_le {c : Sl → Sto → Rs Py.D} {b : Sl → Sto → Ou} {n m : Nat} {e : Sl} {s : Sto} {r : Ou} (h : whileN c b n e s = some r) (hm : n ≤ m) : whileN c b m e s = some r := by
  induction hm with
  | refl => exact h
  | step _ ih => exact whileN_mono _ _ _ _ ih
theorem whileS_eq {c : Sl → Sto → Rs Py.D} {b : Sl → Sto → Ou} {n : Nat} {e : Sl} {s : Sto} {r : Ou} (h : whileN c b n e s = some r) : whileS c b e s = r := by
  have hx : ∃ n r, whileN c b n e s = some r := ⟨n, r, h⟩
  unfold whileS
  rw [dif_pos hx]
  have h2 := Classical.choose_spec (Classical.choose_spec hx)
  have a := whileN_le h (Nat.le_max_left n (Classical.choose hx))
  have b := whileN_le h2 (Nat.le_max_right n (Classical.choose hx))
  rw [a] at b
  exact (Option.some.inj b).symm
/-- one turn more -/
theorem whileS_step {c : Sl → Sto → Rs Py.D} {b : Sl → Sto → Ou} {e : Sl} {s : Sto} {s1 : Sto} {e2 : Sl} {s2 : Sto} (hc : c e s = .ok (.bl true) s1) (hb : b e s1 = .nx e2 s2) : whileS c b e s = whileS c b e2 s2 := by
  by_cases hx : ∃ n r, whileN c b n e2 s2 = some r
  · obtain ⟨n, r, h⟩ := hx
    rw [whileS_eq h]
    apply whileS_eq (n := n + 1)
    rw [whileN_succ, hc]
    show wturn (b e s1) _ = some r
    rw [hb]
    exact h
  · have hy : ¬ ∃ n r, whileN c b n e s = some r := by
      rintro ⟨n, r, h⟩
      cases n with
      | zero => cases h
      | succ n =>
        rw [whileN_succ, hc] at h
        have h : wturn (b e s1) _ = some r := h
        rw [hb] at h
        exact hx ⟨n, r, h⟩
    unfold whileS
    rw [dif_neg hx, dif_neg hy]
theorem whileS_end {c : Sl → Sto → Rs Py.D} {b : Sl → Sto → Ou} {e : Sl} {s : Sto} {s1 : Sto} (hc : c e s = .ok (.bl false) s1) : whileS c b e s = .nx e s1 := by
  apply whileS_eq (n := 1)
  rw [whileN_succ, hc]
  rfl
theorem ts_while {fc : Sl → Sto → Rs Py.D} {fb : Sl → Sto → Ou} {D : Ends} {σ : L2.St} {H : Hp} (h : ts g E (fun e s => whileS fc fb e s) D σ H) : tWhile (tt g E fc) (ts g E fb) D σ H := by
  obtain ⟨w, e, s, hr, re, h⟩ := h
  by_cases hx : ∃ n r, whileN fc fb n e s = some r
  · obtain ⟨n, r, hn⟩ := hx
    have h : conO g E w H (whileS fc fb e s) D := h
    rw [whileS_eq hn] at h
    refine ⟨fun m σ H => ∃ w e s r, whileN fc fb m e s = some r ∧ HR g.K w H s ∧ RE g.K w H σ e ∧ conO g E w H r D, ⟨n, w, e, s, r, hn, hr, re, h⟩, ?_⟩
    rintro m σ1 H1 ⟨w1, e1, s1, r1, hn1, hr1, re1, h1⟩
    cases m with
    | zero => cases hn1
    | succ m =>
      refine ⟨w1, e1, s1, hr1, re1, ?_⟩
      rw [whileN_succ] at hn1
      cases qc : fc e1 s1 with
      | bad =>
        rw [qc] at hn1
        cases hn1
        exact h1
      | ex x p s2 =>
        rw [qc] at hn1
        cases hn1
        exact fun w' H' dx k hr' hp => h1 w' H' σ1 dx k hr' (re1.mono k) hp
      | ok d s2 =>
        rw [qc] at hn1
        intro w2 H2 k2 hr2
        cases d with
        | bl b =>
          refine ⟨b, rfl, ?_⟩
          cases b with
          | false =>
            cases hn1
            exact h1 w2 H2 σ1 k2 hr2 (re1.mono k2)
          | true =>
            refine ⟨fun σ' H' => ∃ w e s r, whileN fc fb m e s = some r ∧ HR g.K w H' s ∧ RE g.K w H' σ' e ∧ conO g E w H' r D, fun σ' H' q => ⟨m, Nat.lt_succ_self m, q⟩, w2, e1, s2, hr2, re1.mono k2, ?_⟩
            have hn1 : wturn (fb e1 s2) (whileN fc fb m) = some r1 := hn1
            cases qb : fb e1 s2 with
            | nx e3 s3 =>
              rw [qb] at hn1
              exact fun w3 H3 σ3 k3 hr3 re3 => ⟨w3, e3, s3, r1, hn1, hr3, re3, h1.mono (k2.trans k3)⟩
            | ct e3 s3 =>
              rw [qb] at hn1
              exact fun w3 H3 σ3 k3 hr3 re3 => ⟨w3, e3, s3, r1, hn1, hr3, re3, h1.mono (k2.trans k3)⟩
            | bk e3 s3 =>
              rw [qb] at hn1
              cases hn1
              exact fun w3 H3 σ3 k3 hr3 re3 => h1 w3 H3 σ3 (k2.trans k3) hr3 re3
            | rt d3 s3 =>
              rw [qb] at hn1
              cases hn1
              exact fun w3 H3 v k3 hr3 rv => h1 w3 H3 v (k2.trans k3) hr3 rv
            | ex e3 x p s3 =>
              rw [qb] at hn1
              cases hn1
              exact fun w3 H3 σ3 dx k3 hr3 re3 hp => h1 w3 H3 σ3 dx (k2.trans k3) hr3 re3 hp
            | bad =>
              rw [qb] at hn1
              cases hn1
              exact h1
        | _ =>
          cases hn1
          exact h1.elim
  · have h : conO g E w H (whileS fc fb e s) D := h
    unfold whileS at h
    rw [dif_neg hx] at h
    exact h.elim
end
end Py
/-! Statements: the checker, and that it is right. -/
namespace Py
open PySem PySem.Spec PyProof.Rows L2

mutual
def chkG (F : Fx) (c : Cs) : Tg → Expr → Bool
  | .nm i, e => (match e with
    | .Name x _ => decide (F.N[i]? = some x) && locB c x
    | _ => false)
  | .sub a b, e => (match e with
    | .Subscript x y _ => !sliceB y && chk F a c x && chk F b c y
    | _ => false)
  | .nil, e => (match e with
    | .Tuple es _ _ => es.isEmpty
    | _ => false)
  | .cons t ts, e => (match e with
    | .Tuple es _ _ => (match es with
      | e :: es => chkG F c t e && chkGs F c ts es
      | [] => false)
    | _ => false)
def chkGs (F : Fx) (c : Cs) : Tg → List Expr → Bool
  | .nm _, _ => false
  | .sub _ _, _ => false
  | .nil, es => es.isEmpty
  | .cons t ts, es => (match es with
    | e :: es => chkG F c t e && chkGs F c ts es
    | [] => false)
end
/-- the store is a plain one -/
def asgB (c : Cs) (tg v : Expr) : Bool := match tg with
  | .Name x p => !swapB c x p v
  | .Tuple ts _ _ => (match v with
    | .Tuple vs _ _ => noSwapB c ts
    | _ => true)
  | .Subscript _ _ _ => true
  | _ => false
def compB (F : Fx) (c : Cs) (own : List (Str × Nat)) (t : Tc) (it : Em) (k : Ik) (cnd elt : Em) (e : Expr) : Bool := match e with
  | .ListComp el [⟨tg, iter, ifs, a⟩] scope _ => decide (a = 0) && !setB iter && blkC F.N c.sc scope own && t.slots.all (fun i => own.any fun p => p.2 == i) &&
      chkT F (blkCs c scope) t tg && chkI F it k c tg iter &&
      (match ifs with
        | [] => (match cnd with
          | .c (.bl true) => true
          | _ => false)
        | [x] => !ifB x && chk F cnd (blkCs c scope) x
        | _ => false) && chk F elt (blkCs c scope) el
  | _ => false
/-- name = [..], kept at once -/
def keptB (F : Fx) (c : Cs) (t : Tg) (e : Em) (tg v : Expr) : Bool := match t, e, tg with
  | .nm i, .comp _ own t it k cnd elt, .Name x p => decide (F.N[i]? = some x) && swapB c x p v && compB F c own t it k cnd elt v
  | _, _, _ => false
def parB (F : Fx) (c : Cs) (i j : Nat) (tg v : Expr) : Option (Expr × Expr) := match tg, v with
  | .Tuple [.Name x px, .Name y py] _ _, .Tuple [a, b] _ _ => if decide (F.N[i]? = some x) && decide (F.N[j]? = some y) && decide (c.sc.names.lookup x = some .local) && decide (c.sc.names.lookup y = some .local) && decide (px.line = py.line) &&
      !starB a && !starB b && !([a, b].all (foldedForSure 8)) && !([a, b].all (constantsAlone 8)) && decide (i ≠ j) then some (a, b) else none
  | _, _ => none
mutual
def chk1 (F : Fx) (c : Cs) : Sm → Stmt → Bool
  | .nil, _ => false
  | .seq _ _, _ => false
  | .pass, st => (match st with
    | .Pass _ => true
    | _ => false)
  | .asg t e, st => (match st with
    | .Assign [tg] v _ => (chkG F c t tg && chk F e c v && asgB c tg v) || keptB F c t e tg v
    | _ => false)
  | .par i j a b, st => (match st with
    | .Assign [tg] v _ => (match parB F c i j tg v with
      | some (x, y) => chk F a c x && chk F b c y
      | none => false)
    | _ => false)
  | .ex e, st => (match st with
    | .Expr v _ => chk F e c v && (scopeOf v).isNone
    | _ => false)
  | .ret e, st => (match st with
    | .Return (some v) _ => chk F e c v
    | _ => false)
  | .retN, st => (match st with
    | .Return none _ => true
    | _ => false)
  | .ite e a b, st => (match st with
    | .If t x y _ => !ifB t && chk F e c t && chkS F c a x && chkS F c b y
    | _ => false)
  | .for_ t i k b, st => (match st with
    | .For tg iter body [] _ => chkT F c t tg && chkI F i k c tg iter && chkS F c b body
    | _ => false)
  | .while_ e b, st => (match st with
    | .While t body [] _ => !ifB t && chk F e c t && chkS F c b body
    | _ => false)
def chkS (F : Fx) (c : Cs) : Sm → List Stmt → Bool
  | .nil, ss => ss.isEmpty
  | .seq a b, ss => (match ss with
    | s :: ss => chk1 F c a s && chkS F c b ss
    | [] => false)
  | _, _ => false
end

section
variable {g : G} {F : Fx} {T : Tb}
/-! ### targets of an assignment -/
def endsQ (Q : L2.St → Hp → Prop) : Ends := ⟨Q, fun _ _ => False, fun _ _ => False, fun _ _ => False⟩
theorem chkG_star {c : Cs} : ∀ (t : Tg) (e : Expr), chkG F c t e = true → starB e = false
  | .nm _, e, h => by
    unfold chkG at h
    cases e <;> first | rfl | cases h
  | .sub _ _, e, h => by
    unfold chkG at h
    cases e <;> first | rfl | cases h
  | .nil, e, h => by
    unfold chkG at h
    cases e <;> first | rfl | cases h
  | .cons _ _, e, h => by
    unfold chkG at h
    cases e <;> first | rfl | cases h
theorem eachG_ok {c : Cs} {env : Env} : ∀ (t : Tg) (es : List Expr), chkGs F c t es = true → (assignEach es env).length = es.length ∧ (assignEach es env).findIdx? (·.1) = none
  | .nm _, es, h => by unfold chkGs at h; cases h
  | .sub _ _, es, h => by unfold chkGs at h; cases h
  | .nil, es, h => by
    unfold chkGs at h
    have : es = [] := by simpa using h
    subst this
    exact ⟨rfl, rfl⟩
  | .cons t ts, es, h => by
    unfold chkGs at h
    cases es with
    | nil => cases h
    | cons e es =>
      simp only [Bool.and_eq_true] at h
      obtain ⟨a, b⟩ := eachG_ok (env := env) ts es h.2
      rw [each_cons (chkG_star t e h.1)]
      refine ⟨by simp [a], ?_⟩
      rw [List.findIdx?_cons]
      simp [b]
theorem asgT_nil {d : D} {e : Sl} {s : Sto} {g : G} {E : L2.St → XK} {w : Wd} {H : Hp} {DD : Ends} (h : conO g E w H (asgT T .nil d e s) DD) : d = .tup [] ∧ conO g E w H (.nx e s) DD := by
  cases d with
  | tup ds =>
    cases ds with
    | nil => exact ⟨rfl, h⟩
    | cons _ _ => exact h.elim
  | _ => exact h.elim
theorem asgT_cons {t ts : Tg} {d : D} {e : Sl} {s : Sto} {g : G} {E : L2.St → XK} {w : Wd} {H : Hp} {DD : Ends} (h : conO g E w H (asgT T (.cons t ts) d e s) DD) :
    ∃ x ds, d = .tup (x :: ds) ∧ conO g E w H ((asgT T t x e s).step fun e' s' => asgT T ts (.tup ds) e' s') DD := by
  cases d with
  | tup ds =>
    cases ds with
    | nil => exact h.elim
    | cons x ds => exact ⟨x, ds, rfl, h⟩
  | _ => exact h.elim
theorem fits_len {c : Cs} : ∀ (t : Tg) (ds : List D) (es : List Expr), chkGs F c t es = true → fitsT t (.tup ds) = true → ds.length = es.length
  | .nm _, ds, es, h, _ => by unfold chkGs at h; cases h
  | .sub _ _, ds, es, h, _ => by unfold chkGs at h; cases h
  | .nil, ds, es, h, hf => by
    unfold chkGs at h
    have : es = [] := by simpa using h
    subst this
    cases ds with
    | nil => rfl
    | cons _ _ => cases hf
  | .cons t ts, ds, es, h, hf => by
    unfold chkGs at h
    cases es with
    | nil => cases h
    | cons x es =>
      simp only [Bool.and_eq_true] at h
      cases ds with
      | nil => cases hf
      | cons d ds =>
        have hf : (fitsT t d && fitsT ts (.tup ds)) = true := hf
        simp only [Bool.and_eq_true] at hf
        simp [fits_len ts ds es h.2 hf.2]
theorem set_rd {X : Cx} {w : Wd} {H : Hp} {s : Sto} {o i d : D} {ov iv v : V} {s3 : Sto} {Q : Hp → Prop} (hr : HR g.K w H s) (ro : Rep g.K w H ov o) (ri : Rep g.K w H iv i) (rv : Rep g.K w H v d) (h : setR s o i d = some s3)
    (q : ∀ H', Kp w H w H' → HR g.K w H' s3 → Q H') : rSetL ov iv v H Q := by
  unfold setR at h
  split at h
  · rename_i n j
    split at h
    · rename_i ds h1
      cases ri
      cases ro with
      | @ref _ a e =>
        obtain ⟨ho, e1, e2⟩ := hr.obj _ a _ e h1
        cases ho <;> simp only [RepO] at e2
        rename_i vs
        rw [Option.map_eq_some_iff] at h
        obtain ⟨m, hm, rfl⟩ := h
        obtain ⟨k, hr'⟩ := hr.put (ho := .lst (vs.set m v)) (o := .lst (ds.set m d)) e (e2.set m rv)
        exact ⟨a, vs, j, m, rfl, rfl, e1, by rw [e2.length]; exact hm, q _ k hr'⟩
    · cases h
  · cases h
theorem sub_assign {o i : Expr} {pos : Pos} {env : Env} (h : sliceB i = false) : ∀ v, assign (.Subscript o i pos) env v = (do
      let ov ← holding [v] (eval o env)
      let iv ← holding [v, ov] (eval i env)
      standAt pos
      holding [v, ov, iv] (setItem ov iv v)
      release [v, ov, iv] []) := fun v => by
  cases i <;> first | rfl | cases h
mutual
theorem pg_tg {X : Cx} {c : Cs} {E : L2.St → XK} {k : Nat} (o : XOk g F T X c E k) : ∀ (t : Tg) (e : Expr), chkG F c t e = true → PG X e (fun v σ H Q => ∃ w e s d, HR g.K w H s ∧ RE g.K w H σ e ∧ Rep g.K w H v d ∧ fitsT t d = true ∧ conO g E w H (asgT T t d e s) (endsQ Q))
  | .nm i, e, h => by
    unfold chkG at h
    cases e <;> first | cases h | skip
    rename_i x pos
    simp only [Bool.and_eq_true, decide_eq_true_eq] at h
    have hloc := h.2
    unfold locB at hloc
    have hN : X.N[i]? = some x := by rw [o.N]; exact h.1
    have hl : L2.Loc X.env.scope x ∧ (X.fn x = true ∨ X.env.scope.names.lookup x = some .local) := by
      rw [← o.sc] at hloc
      unfold L2.Loc
      split at hloc
      · rename_i q; exact ⟨Or.inl q, Or.inr q⟩
      · rename_i q; exact ⟨Or.inr q, Or.inl (o.fn x hloc)⟩
      · cases hloc
    refine pg_imp (pg_name (by rw [o.N]; exact o.nd) hN hl.1 hl.2) fun v σ H Q ⟨w, e, s, d, hr, re, rv, _, q⟩ => ?_
    exact q w H _ (Kp.refl _ _) hr (re.set i rv)
  | .sub a b, e, h => by
    unfold chkG at h
    cases e <;> first | cases h | skip
    rename_i x y pos
    simp only [Bool.and_eq_true, Bool.not_eq_true'] at h
    refine pg_imp (pg_sub ((snd a).E o h.1.2) ((snd b).E o h.2) set_list (sub_assign h.1.1)) fun v σ H Q ⟨w, e, s, d, hr, re, rv, _, q⟩ => ?_
    have q : conO g E w H (Ou.of e (ev T a e s) fun o s1 => Ou.of e (ev T b e s1) fun i s2 => match setR s2 o i d with
      | some s3 => .nx e s3
      | none => .bad) (endsQ Q) := q
    refine ⟨w, e, s, hr, re, (conO_of re q).imp fun od w1 s1 H1 k1 hr1 h1 ov ro => ?_⟩
    have re1 := re.mono k1
    refine ⟨w1, e, s1, hr1, re1, (conO_of re1 h1).imp fun id w2 s2 H2 k2 hr2 h2 iv ri => ?_⟩
    cases q3 : setR s2 od id d with
    | none => rw [q3] at h2; exact h2.elim
    | some s3 =>
      rw [q3] at h2
      exact set_rd (X := X) hr2 (ro.mono k2) ri ((rv.mono k1).mono k2) q3 fun H' k3 hr3 => h2 w2 H' σ k3 hr3 ((re1.mono k2).mono k3)
  | .nil, e, h => by
    unfold chkG at h
    cases e <;> first | cases h | skip
    rename_i es kk pos
    have : es = [] := by simpa using h
    subst this
    refine pg_imp (pg_tup o.calm pgs_nil) fun v σ H Q ⟨w, e, s, d, hr, re, rv, _, q⟩ => ?_
    obtain ⟨rfl, q⟩ := asgT_nil q
    cases rv with
    | tup a r =>
      cases r
      exact ⟨_, _, rfl, o.K ▸ a.sq, rfl, rfl, q w H σ (Kp.refl _ _) hr re⟩
  | .cons t ts, e, h => by
    unfold chkG at h
    cases e <;> first | cases h | skip
    rename_i es kk pos
    cases es with
    | nil => cases h
    | cons x es =>
      have h2 : chkGs F c (.cons t ts) (x :: es) = true := by unfold chkGs; exact h
      simp only [Bool.and_eq_true] at h
      obtain ⟨a, b⟩ := eachG_ok (env := X.env) (.cons t ts) (x :: es) h2
      refine pg_imp (pg_tup o.calm (pgs_tg o (.cons t ts) (x :: es) h2) a b) fun v σ H Q ⟨w, e, s, d, hr, re, rv, hf, q⟩ => ?_
      obtain ⟨y, ds, rfl, _⟩ := asgT_cons q
      have hlen := fits_len (.cons t ts) (y :: ds) (x :: es) h2 hf
      cases rv with
      | tup ha rl =>
        have l1 := rl.length
        exact ⟨_, _, rfl, o.K ▸ ha.sq, by rw [l1]; exact hlen, w, e, s, y :: ds, hr, re, rl, hf, q⟩
theorem pgs_tg {X : Cx} {c : Cs} {E : L2.St → XK} {k : Nat} (o : XOk g F T X c E k) : ∀ (t : Tg) (es : List Expr), chkGs F c t es = true → PGs X es (fun us σ H Q => ∃ w e s ds, HR g.K w H s ∧ RE g.K w H σ e ∧ RepL g.K w H us ds ∧ fitsT t (.tup ds) = true ∧ conO g E w H (asgT T t (.tup ds) e s) (endsQ Q))
  | .nm i, es, h => by unfold chkGs at h; cases h
  | .sub _ _, es, h => by unfold chkGs at h; cases h
  | .nil, es, h => by
    unfold chkGs at h
    have : es = [] := by simpa using h
    subst this
    refine pgs_imp pgs_nil fun v σ H Q ⟨w, e, s, ds, hr, re, rv, _, q⟩ => ?_
    obtain ⟨e1, q⟩ := asgT_nil q
    cases e1
    cases rv
    exact ⟨rfl, q w H σ (Kp.refl _ _) hr re⟩
  | .cons t ts, es, h => by
    unfold chkGs at h
    cases es with
    | nil => cases h
    | cons x es =>
      simp only [Bool.and_eq_true] at h
      refine pgs_imp (pgs_cons (pg_tg o t x h.1) (pgs_tg o ts es h.2) (by rw [each_cons (chkG_star t x h.1)]; rfl)) fun v σ H Q ⟨w, e, s, ds', hr, re, rv, hf, q⟩ => ?_
      obtain ⟨y, ds, e1, q⟩ := asgT_cons q
      cases e1
      have hf : (fitsT t y && fitsT ts (.tup ds)) = true := hf
      simp only [Bool.and_eq_true] at hf
      cases rv with
      | cons r1 r2 =>
        refine ⟨_, _, rfl, w, e, s, y, hr, re, r1, hf.1, ?_⟩
        exact conO_step q fun w1 H1 σ1 e1 s1 _ k1 hr1 re1 q1 => ⟨w1, e1, s1, ds, hr1, re1, r2.mono k1, hf.2, q1⟩
end
end
end Py
/-! Statements: what the checker takes does what we say. -/
namespace Py
open PySem PySem.Spec PyProof.Rows L2

structure SOk (g : G) (F : Fx) (T : Tb) (X : Cx) (c : Cs) (E : L2.St → XK) (k : Nat) : Prop extends XOk g F T X c E k where
  own : PassesOwn (model X.prog X.w) X.A X.env X.xe
structure SndS (g : G) (F : Fx) (T : Tb) (a : Sm) : Prop where
  one : ∀ (X : Cx) (c : Cs) (E : L2.St → XK) (k : Nat), SOk g F T X c E k → ∀ (s : Stmt), chk1 F c a s = true → PS X s (ts g E (ex T a))
  all : ∀ (X : Cx) (c : Cs) (E : L2.St → XK) (k : Nat), SOk g F T X c E k → ∀ (ss : List Stmt), chkS F c a ss = true → PSs X ss (ts g E (ex T a))
section
variable {g : G} {F : Fx} {T : Tb}
theorem SndS.st {a : Sm} (h : ∀ (X : Cx) (c : Cs) (E : L2.St → XK) (k : Nat), SOk g F T X c E k → ∀ (s : Stmt), chk1 F c a s = true → PS X s (ts g E (ex T a))) (hn : ∀ c ss, chkS F c a ss = false) : SndS g F T a :=
  ⟨h, fun X c E k o ss q => by rw [hn] at q; cases q⟩
theorem each_one {tg : Expr} {env : Env} (h : starB tg = false) : (assignEach [tg] env).map (·.2) = [assign tg env] := by
  rw [each_cons h]
  rfl
theorem sole {tg v : Expr} {l : Nat} {env : Env} : swapsWithSole [tg] v l env = swapsWith v (some tg) l env := rfl
theorem no_swap_name {x : Str} {p : Pos} {v : Expr} {env : Env} : swappedStores [.Name x p] v env = pure none := by
  unfold swappedStores
  cases v <;> rfl
theorem no_swap_sub {a b v : Expr} {p : Pos} {env : Env} : swappedStores [.Subscript a b p] v env = pure none := by
  unfold swappedStores
  cases v <;> rfl
theorem no_swap_tup {ts : List Expr} {k : Nat} {p : Pos} {v : Expr} {env : Env} (h : ∀ vs k2 p2, v ≠ .Tuple vs k2 p2) : swappedStores [.Tuple ts k p] v env = pure none := by
  unfold swappedStores
  cases v <;> first | rfl | exact (h _ _ _ rfl).elim
theorem ts_asg {X : Cx} {t : Tg} {fa : Sl → Sto → Rs Py.D} {E : L2.St → XK} {D : Ends} {σ : L2.St} {H : Hp}
    (h : ts g E (fun e s => Ou.of e (fa e s) fun d s1 => if fitsT t d then asgT T t d e s1 else .bad) D σ H) :
    tAsg (te g E fa) (fun v σ H Q => ∃ w e s d, HR g.K w H s ∧ RE g.K w H σ e ∧ Rep g.K w H v d ∧ fitsT t d = true ∧ conO g E w H (asgT T t d e s) (endsQ Q)) D σ H := by
  obtain ⟨w, e, s, hr, re, h⟩ := h
  refine ⟨w, e, s, hr, re, (conO_of re h).imp fun d w1 s1 H1 k hr1 q v rv => ?_⟩
  split at q
  · rename_i hf
    refine ⟨w1, e, s1, d, hr1, re.mono k, rv, hf, ?_⟩
    have key : ∀ (t : Tg) (d : Py.D) (e : Sl) (s : Sto), (∃ e' s', asgT T t d e s = .nx e' s') ∨ (∃ e' x p s', asgT T t d e s = .ex e' x p s') ∨ asgT T t d e s = .bad := by
      intro t
      induction t with
      | nm i => intro d e s; exact Or.inl ⟨_, _, rfl⟩
      | sub a b =>
        intro d e s
        have z : asgT T (.sub a b) d e s = Ou.of e (ev T a e s) fun o s1 => Ou.of e (ev T b e s1) fun i s2 => match setR s2 o i d with
          | some s3 => .nx e s3
          | none => .bad := rfl
        rw [z]
        cases ev T a e s with
        | bad => exact Or.inr (Or.inr rfl)
        | ex n p s2 => exact Or.inr (Or.inl ⟨_, _, _, _, rfl⟩)
        | ok o s1 =>
          rw [of_ok]
          cases ev T b e s1 with
          | bad => exact Or.inr (Or.inr rfl)
          | ex n p s2 => exact Or.inr (Or.inl ⟨_, _, _, _, rfl⟩)
          | ok i s2 =>
            rw [of_ok]
            cases setR s2 o i d with
            | none => exact Or.inr (Or.inr rfl)
            | some s3 => exact Or.inl ⟨_, _, rfl⟩
      | nil =>
        intro d e s
        cases d with
        | tup ds => cases ds with
          | nil => exact Or.inl ⟨_, _, rfl⟩
          | cons _ _ => exact Or.inr (Or.inr rfl)
        | _ => exact Or.inr (Or.inr rfl)
      | cons t ts it its =>
        intro d e s
        cases d with
        | tup ds => cases ds with
          | nil => exact Or.inr (Or.inr rfl)
          | cons x ds =>
            have z : asgT T (.cons t ts) (.tup (x :: ds)) e s = (asgT T t x e s).step fun e' s' => asgT T ts (.tup ds) e' s' := rfl
            rw [z]
            rcases it x e s with ⟨e', s', q⟩ | ⟨e', n, p, s', q⟩ | q
            · rw [q]; exact its (.tup ds) e' s'
            · rw [q]; exact Or.inr (Or.inl ⟨_, _, _, _, rfl⟩)
            · rw [q]; exact Or.inr (Or.inr rfl)
        | _ => exact Or.inr (Or.inr rfl)
    rcases key t d e s1 with ⟨e', s', z⟩ | ⟨e', n, p, s', z⟩ | z
    · rw [z] at q ⊢; exact q
    · rw [z] at q ⊢; exact q
    · rw [z] at q ⊢; exact q
  · exact q.elim
theorem comp_parts {X : Cx} {c : Cs} {E : L2.St → XK} {k : Nat} (o : XOk g F T X c E k) {own : List (Str × Nat)} {t : Tc} {i : Em} {kk : Ik} {cnd elt : Em} {v : Expr} (h : compB F c own t i kk cnd elt v = true) :
    ∃ el tg iter ifs scope pos, v = .ListComp el [⟨tg, iter, ifs, 0⟩] scope pos ∧ (∀ j ∈ t.slots, j ∈ own.map (·.2)) ∧ chkI F i kk c tg iter = true ∧ PI X tg iter (ti g E kk (ev T i)) ∧ (∀ x, foldedSetIterable iter X.env x = pure x) ∧ BlkOk X.N X.env.scope scope own ∧
      (∀ (s : Shared) (H : Hp) (C : Addr) (cl : List (Str × Addr)) (fp : List Addr), PG (X.blk s H scope (compEnvC scope cl C X.env) fp) tg (tcR g t)) ∧
      (∀ (s : Shared) (H : Hp) (C : Addr) (cl : List (Str × Addr)) (fp : List Addr), PTs (X.blk s H scope (compEnvC scope cl C X.env) fp) ifs (tt g (fun _ _ _ _ => False) (ev T cnd))) ∧
      (∀ (s : Shared) (H : Hp) (C : Addr) (cl : List (Str × Addr)) (fp : List Addr), PE (X.blk s H scope (compEnvC scope cl C X.env) fp) el (te g (fun _ _ _ _ => False) (ev T elt))) := by
  unfold compB at h
  split at h
  · rename_i el tg iter ifs a scope pos
    simp only [Bool.and_eq_true, decide_eq_true_eq, Bool.not_eq_true'] at h
    obtain ⟨⟨⟨⟨⟨⟨⟨rfl, h2⟩, h3⟩, h4⟩, h5⟩, h6⟩, h7⟩, h8⟩ := h
    have hk : scope.kind = .function := by
      unfold blkC at h3
      simp only [Bool.and_eq_true] at h3
      have z := h3.1.1.1
      split at z
      · assumption
      · cases z
    have ok : BlkOk X.N X.env.scope scope own := by
      rw [o.N, o.sc]
      exact blkOk_by h3
    have hown : ∀ j ∈ t.slots, j ∈ own.map (·.2) := fun j hj => by
      have z := List.all_eq_true.mp h4 j hj
      obtain ⟨p, hp, e1⟩ := List.any_eq_true.mp z
      have e1 := eq_of_beq e1
      exact List.mem_map.mpr ⟨p, hp, e1⟩
    obtain ⟨hi, hset⟩ := (snd i).pi X c E k o kk tg iter h6
    have ob := fun s H C cl fp => o.blk hk s H C cl fp
    refine ⟨el, tg, iter, ifs, scope, pos, rfl, hown, h6, hi, not_set_folded h2, ok, fun s H C cl fp => pg_tc (X := X.blk s H scope (compEnvC scope cl C X.env) fp) o.K (ob s H C cl fp).tok t tg h5, ?_, fun s H C cl fp => (snd elt).E (ob s H C cl fp) h8⟩
    intro s H C cl fp
    split at h7
    · split at h7
      · refine ⟨fun pins s1 σ H1 Q I q => pts_nil.run pins s1 σ H1 Q I ?_⟩
        exact tt_done (show tt g _ (fun _ s => .ok (.bl true) s) σ H1 Q from q)
      · cases h7
    · simp only [Bool.and_eq_true, Bool.not_eq_true'] at h7
      exact pts_one ((snd cnd).Tt (ob s H C cl fp) h7.2 h7.1)
    · cases h7
  · cases h
theorem sS_asg {t : Tg} {e : Em} : SndS g F T (.asg t e) := SndS.st (fun X c E k o s h => by
  unfold chk1 at h
  split at h
  · rename_i tg v pos
    rw [Bool.or_eq_true] at h
    rcases h with h | h
    · simp only [Bool.and_eq_true] at h
      obtain ⟨⟨h1, h2⟩, h3⟩ := h
      have hst := each_one (env := X.env) (chkG_star t tg h1)
      have hw : swapsWithSole [tg] v pos.line X.env = pure false ∧ swappedStores [tg] v X.env = pure none := by
        unfold asgB at h3
        split at h3
        · rename_i x p
          refine ⟨?_, no_swap_name⟩
          rw [sole, sw_name o.sc o.kind]
          have z : swapB c x p v = false := by simpa using h3
          rw [z]
        · rename_i ts kt pt
          refine ⟨by rw [sole]; exact sw_other (fun x p z => by cases z), ?_⟩
          split at h3
          · exact swap_none o.sc h3
          · rename_i hv
            exact no_swap_tup fun vs k2 p2 z => hv vs k2 p2 z
        · exact ⟨by rw [sole]; exact sw_other (fun x p z => by cases z), no_swap_sub⟩
        · cases h3
      exact ps_imp (ps_asg ((snd e).E o.toXOk h2) (pg_tg o.toXOk t tg h1) hw.1 hw.2 hst) fun D σ H q => ts_asg (X := X) q
    · unfold keptB at h
      split at h
      · rename_i i mt own t' it kk cnd elt x p
        simp only [Bool.and_eq_true, decide_eq_true_eq] at h
        obtain ⟨⟨h1, h2⟩, h3⟩ := h
        obtain ⟨el, tg, iter, ifs, scope, pos', rfl, hown, h6, hi, hset, ok, hg, ht, he⟩ := comp_parts o.toXOk h3
        have hsw : swapsWith (.ListComp el [⟨tg, iter, ifs, 0⟩] scope pos') (some (.Name x p)) pos.line X.env = pure true := by
          rw [sw_name o.sc o.kind, h2]
        have hloc : X.env.scope.names.lookup x = some .local := by
          rw [o.sc]
          unfold swapB scopeOf at h2
          simp only [Bool.and_eq_true, beq_iff_eq] at h2
          exact h2.1.1
        refine ps_imp (ps_setLc (i := i) o.calm (by rw [o.N]; exact o.nd) (by rw [o.N]; exact h1) hloc hsw hi ok hg ht he hset) fun D σ H q => ?_
        obtain ⟨w, e, s, hr, re, q⟩ := q
        refine te_comp (mt := mt) hown ⟨w, e, s, hr, re, ?_⟩ (chkI_args h6)
        have q2 := conO_of re q
        exact q2.imp fun d w1 s1 H1 k hr1 q1 v rv => q1 w1 H1 _ (Kp.refl _ _) hr1 ((re.mono k).set i rv)
      · cases h
  · cases h) (fun _ _ => by unfold chkS; rfl)
theorem sS_par {i j : Nat} {a b : Em} : SndS g F T (.par i j a b) := SndS.st (fun X c E k o s h => by
  unfold chk1 at h
  split at h
  · rename_i tg v pos
    split at h
    · rename_i x y hp
      simp only [Bool.and_eq_true] at h
      unfold parB at hp
      split at hp
      · rename_i n1 p1 n2 p2 kt pt u1 u2 k2 pt2
        split at hp
        · rename_i hc
          simp only [Bool.and_eq_true, decide_eq_true_eq, Bool.not_eq_true'] at hc
          obtain ⟨⟨⟨⟨⟨⟨⟨⟨⟨c1, c2⟩, c3⟩, c4⟩, c5⟩, c6⟩, c7⟩, c8⟩, c9⟩, c10⟩ := hc
          cases hp
          have hb : X.env.blockKind = .function := by
            unfold Env.blockKind
            rw [o.sc, o.kind]
            rfl
          have hne : n1 ≠ n2 := fun z => c10 (by subst z; exact nd_ix o.nd c1 c2)
          have k1 : X.env.kindOf n1 = some .local := by show X.env.scope.names.lookup n1 = _; rw [o.sc]; exact c3
          have k2 : X.env.kindOf n2 = some .local := by show X.env.scope.names.lookup n2 = _; rw [o.sc]; exact c4
          refine ps_imp (ps_par (i := i) (j := j) o.calm (by rw [o.N]; exact o.nd) (by rw [o.N]; exact c1) (by rw [o.N]; exact c2) c10 (by rw [o.sc]; exact c3) (by rw [o.sc]; exact c4)
            (pa_cons ((snd a).E o.toXOk h.1) (pa_cons ((snd b).E o.toXOk h.2) pa_nil (star_cons c7)) (star_cons c6)) (swap_two hb k1 k2 c5 hne c6 c7 c8 c9) ?_) fun D σ H q => ts_par q
          rw [sole]
          exact sw_other (fun x p z => by cases z)
        · cases hp
      · cases hp
    · cases h
  · cases h) (fun _ _ => by unfold chkS; rfl)
theorem sS_ex {e : Em} : SndS g F T (.ex e) := SndS.st (fun X c E k o s h => by
  unfold chk1 at h
  split at h
  · rename_i v pos
    simp only [Bool.and_eq_true] at h
    refine ps_imp (ps_expr ((snd e).E o.toXOk h.1) (sw_plain ?_)) fun D σ H q => ts_drop q
    cases z : scopeOf v with
    | none => rfl
    | some s => rw [z] at h; cases h.2
  · cases h) (fun _ _ => by unfold chkS; rfl)
theorem sS_ret {e : Em} : SndS g F T (.ret e) := SndS.st (fun X c E k o s h => by
  unfold chk1 at h
  split at h
  · exact ps_imp (ps_ret ((snd e).E o.toXOk h)) fun D σ H q => ts_ret q
  · cases h) (fun _ _ => by unfold chkS; rfl)
theorem sS_retN : SndS g F T .retN := SndS.st (fun X c E k o s h => by
  unfold chk1 at h
  split at h
  · refine ps_imp ps_retN fun D σ H q => ?_
    obtain ⟨w, e, s, hr, re, q⟩ := q
    exact q w H _ (Kp.refl _ _) hr .non
  · cases h) (fun _ _ => by unfold chkS; rfl)
theorem sS_pass : SndS g F T .pass := SndS.st (fun X c E k o s h => by
  unfold chk1 at h
  split at h
  · exact ps_imp ps_pass fun D σ H q => ts_done (f := fun e s => .nx e s) (fun _ _ => rfl) q
  · cases h) (fun _ _ => by unfold chkS; rfl)
theorem sS_ite {e : Em} {a b : Sm} (ia : SndS g F T a) (ib : SndS g F T b) : SndS g F T (.ite e a b) := SndS.st (fun X c E k o s h => by
  unfold chk1 at h
  split at h
  · simp only [Bool.and_eq_true, Bool.not_eq_true'] at h
    exact ps_imp (ps_if ((snd e).Tt o.toXOk h.1.1.2 h.1.1.1) (ia.all X c E k o _ h.1.2) (ib.all X c E k o _ h.2)) fun D σ H q => ts_ite q
  · cases h) (fun _ _ => by unfold chkS; rfl)
theorem sS_for {t : Tc} {i : Em} {kk : Ik} {b : Sm} (ib : SndS g F T b) : SndS g F T (.for_ t i kk b) := SndS.st (fun X c E k o s h => by
  unfold chk1 at h
  split at h
  · simp only [Bool.and_eq_true] at h
    obtain ⟨hi, hset⟩ := (snd i).pi X c E k o.toXOk kk _ _ h.1.2
    exact ps_imp (ps_for o.own o.calm hi (pg_tc o.K o.tok t _ h.1.1) (ib.all X c E k o _ h.2) (not_set_folded hset)) fun D σ H q => ts_for (chkI_args h.1.2) q
  · cases h) (fun _ _ => by unfold chkS; rfl)
theorem sS_while {e : Em} {b : Sm} (ib : SndS g F T b) : SndS g F T (.while_ e b) := SndS.st (fun X c E k o s h => by
  unfold chk1 at h
  split at h
  · simp only [Bool.and_eq_true, Bool.not_eq_true'] at h
    exact ps_imp (ps_while o.own ((snd e).Tt o.toXOk h.1.2 h.1.1) (ib.all X c E k o _ h.2)) fun D σ H q => ts_while q
  · cases h) (fun _ _ => by unfold chkS; rfl)
theorem sS_nil : SndS g F T .nil where
  one := fun X c E k o s h => by unfold chk1 at h; cases h
  all := fun X c E k o ss h => by
    unfold chkS at h
    have : ss = [] := by simpa using h
    subst this
    exact pss_imp pss_nil fun D σ H q => ts_done (f := fun e s => .nx e s) (fun _ _ => rfl) q
theorem sS_seq {a b : Sm} (ia : SndS g F T a) (ib : SndS g F T b) : SndS g F T (.seq a b) where
  one := fun X c E k o s h => by unfold chk1 at h; cases h
  all := fun X c E k o ss h => by
    unfold chkS at h
    cases ss with
    | nil => cases h
    | cons s ss =>
      simp only [Bool.and_eq_true] at h
      exact pss_imp (pss_cons (ia.one X c E k o s h.1) (ib.all X c E k o ss h.2)) fun D σ H q => ts_seq q
/-- STATEMENTS -/
theorem sndS (a : Sm) : SndS g F T a := by
  induction a with
  | nil => exact sS_nil
  | seq a b ia ib => exact sS_seq ia ib
  | asg t e => exact sS_asg
  | par i j a b => exact sS_par
  | ex e => exact sS_ex
  | ret e => exact sS_ret
  | retN => exact sS_retN
  | pass => exact sS_pass
  | ite e a b ia ib => exact sS_ite ia ib
  | for_ t i k b ib => exact sS_for ib
  | while_ e b ib => exact sS_while ib
end
end Py
/-! Defs: what is handed back, what is dropped; all defs of a text at once. -/
namespace Py
open PySem PySem.Spec PyProof.Rows L2

/-! ### a value that leaves its def: what was made there stands as it is from then on -/
mutual
def frz : Nat → Sto → Nat → D → Option D
  | 0, _, _, _ => none
  | k + 1, s, n, .tup ds => (frzs k s n ds).map .tup
  | k + 1, s, n, .lst ds => (frzs k s n ds).map .lst
  | k + 1, s, n, .fro ds => (frzs k s n ds).map .fro
  | k + 1, s, n, .ref m => if m < n then some (.ref m) else match s[m]? with
    | some (.lst ds) => (frzs k s n ds).map .lst
    | _ => none
  | _ + 1, _, _, .non => some .non
  | _ + 1, _, _, .bl b => some (.bl b)
  | _ + 1, _, _, .int i => some (.int i)
  | _ + 1, _, _, .str x => some (.str x)
  | _ + 1, _, _, .ty x => some (.ty x)
def frzs : Nat → Sto → Nat → List D → Option (List D)
  | _, _, _, [] => some []
  | k, s, n, d :: ds => match frz k s n d, frzs k s n ds with
    | some p, some ps => some (p :: ps)
    | _, _ => none
end
/-- an object that was there before is as it was, or bears nothing new -/
def oldOk (s' : Sto) (n : Nat) (o o' : Ob) : Prop := o' = o ∨ match o' with
  | .lst ds => frzs deep s' n ds = some ds
  | .dK kvs => frzs deep s' n (kvs.map (·.2)) = some (kvs.map (·.2))
  | .dT kvs => frzs deep s' n (kvs.map (·.2)) = some (kvs.map (·.2))
def keepOk (s s' : Sto) : Prop := ∀ (i : Nat) (o : Ob), s[i]? = some o → ∃ o', s'[i]? = some o' ∧ oldOk s' s.length o o'
open Classical in
noncomputable def popR (s s' : Sto) (d : D) (f : D → Sto → Rs D) : Rs D := if keepOk s s' then match frz deep s' s.length d with
  | some d' => f d' (s'.take s.length)
  | none => .bad else .bad
structure Df where
  name : Str
  ps : List Str
  N : List Str
  body : Sm
  pop : Bool
def initE (N : Nat) (as : List D) : Sl := as.map some ++ List.replicate (N - as.length) none
noncomputable def runD (T : Tb) (d : Df) (as : List D) (s : Sto) : Rs D := match ex T d.body (initE d.N.length as) s with
  | .rt v s' => if d.pop then popR s s' v .ok else .ok v s'
  | .nx _ s' => if d.pop then popR s s' .non .ok else .ok .non s'
  | .ex _ x p s' => if d.pop then popR s s' p fun p s' => .ex x p s' else .ex x p s'
  | _ => .bad
/-- all defs, calls to that depth -/
noncomputable def tab (defs : List Df) (cs : Nat → Option D) : Nat → Tb
  | 0 => ⟨fun _ _ _ => .bad, cs⟩
  | n + 1 => ⟨fun i as s => match defs[i]? with
    | some d => if as.length = d.ps.length then runD (tab defs cs n) d as s else .bad
    | none => .bad, cs⟩

section
variable {K : PySem.W.Frag} {w w' : Wd} {H H' : Hp} {s s' : Sto}
theorem out_back {n : Nat} (hm : w.m = w'.m.take n) (hb : w.b = w'.b) {a : Addr} (h : w'.out a) : w.out a :=
  ⟨fun z => h.1 (List.mem_of_mem_take (hm ▸ z)), fun z => h.2 (hb ▸ z)⟩
theorem frz_rep (hr : HR K w' H' s') {n : Nat} (hm : w.m = w'.m.take n) (hb : w.b = w'.b) : ∀ (k : Nat),
    (∀ (d d' : D) (v : V), Rep K w' H' v d → frz k s' n d = some d' → Rep K w H' v d') ∧
    (∀ (ds ds' : List D) (vs : List V), RepL K w' H' vs ds → frzs k s' n ds = some ds' → RepL K w H' vs ds')
  | 0 => by
    constructor
    · intro d d' v _ h; unfold frz at h; cases h
    · intro ds ds' vs r h
      cases r with
      | nil => unfold frzs at h; cases h; exact .nil
      | cons a b =>
        unfold frzs at h
        have : ∀ d, frz 0 s' n d = none := fun d => by unfold frz; rfl
        simp only [this] at h
        cases h
  | k + 1 => by
    have ih := frz_rep hr hm hb k
    have tupc : ∀ {a vs}, TupAt K w' H' a vs → TupAt K w H' a vs := fun h => by
      rcases h with ⟨h, o⟩ | h
      · exact Or.inl ⟨h, out_back hm hb o⟩
      · exact Or.inr h
    have one : ∀ (d d' : D) (v : V), Rep K w' H' v d → frz (k + 1) s' n d = some d' → Rep K w H' v d' := by
      intro d d' v r h
      cases r with
      | non => unfold frz at h; cases h; exact .non
      | bl b => unfold frz at h; cases h; exact .bl b
      | int i => unfold frz at h; cases h; exact .int i
      | str x => unfold frz at h; cases h; exact .str x
      | ty x => unfold frz at h; cases h; exact .ty x
      | tup e r =>
        unfold frz at h
        rw [Option.map_eq_some_iff] at h
        obtain ⟨ps, h1, rfl⟩ := h
        exact .tup (tupc e) (ih.2 _ _ _ r h1)
      | lst e o r =>
        unfold frz at h
        rw [Option.map_eq_some_iff] at h
        obtain ⟨ps, h1, rfl⟩ := h
        exact .lst e (out_back hm hb o) (ih.2 _ _ _ r h1)
      | fro e r =>
        unfold frz at h
        rw [Option.map_eq_some_iff] at h
        obtain ⟨ps, h1, rfl⟩ := h
        refine .fro ?_ (ih.2 _ _ _ r h1)
        rcases e with ⟨h, o⟩ | h
        · exact Or.inl ⟨h, out_back hm hb o⟩
        · exact Or.inr h
      | @ref m a e =>
        unfold frz at h
        split at h
        · rename_i hmn
          cases h
          refine .ref ?_
          rw [hm, List.getElem?_take]
          rw [if_pos hmn]
          exact e
        · rename_i hmn
          cases q : s'[m]? with
          | none => rw [q] at h; cases h
          | some o =>
            rw [q] at h
            cases o with
            | lst es =>
              have h : (frzs k s' n es).map D.lst = some d' := h
              rw [Option.map_eq_some_iff] at h
              obtain ⟨ps, h1, rfl⟩ := h
              obtain ⟨ho, e1, e2⟩ := hr.obj m a _ e q
              cases ho <;> simp only [RepO] at e2
              refine .lst e1 ⟨fun z => ?_, fun z => hr.nb a (hb ▸ z) (List.mem_of_getElem? e)⟩ (ih.2 _ _ _ e2 h1)
              rw [hm] at z
              obtain ⟨j, hj, ej⟩ := List.mem_iff_getElem.mp z
              have hj' : j < n := by simp at hj; omega
              have ej' : w'.m[j]? = some a := by
                have z2 := List.getElem?_eq_getElem hj
                rw [ej, List.getElem?_take, if_pos hj'] at z2
                exact z2
              have := nd_ix hr.nd ej' e
              omega
            | dK _ => cases h
            | dT _ => cases h
    refine ⟨one, ?_⟩
    intro ds
    induction ds with
    | nil => intro ds' vs r h; cases r; unfold frzs at h; cases h; exact .nil
    | cons d ds ihd =>
      intro ds' vs r h
      cases r with
      | cons r1 r2 =>
        unfold frzs at h
        cases q1 : frz (k + 1) s' n d with
        | none => rw [q1] at h; cases h
        | some p =>
          rw [q1] at h
          cases q2 : frzs (k + 1) s' n ds with
          | none => rw [q2] at h; cases h
          | some qs =>
            rw [q2] at h
            cases h
            exact .cons (one _ _ _ r1 q1) (ihd _ _ r2 q2)
theorem take_pre {α : Type} {l r : List α} (h : l <+: r) : r.take l.length = l := by
  obtain ⟨t, rfl⟩ := h
  simp
theorem tup_back {n : Nat} (hm : w.m = w'.m.take n) (hb : w.b = w'.b) {a : Addr} {vs : List V} (h : TupAt K w' H' a vs) : TupAt K w H' a vs := by
  rcases h with ⟨h, o⟩ | h
  · exact Or.inl ⟨h, out_back hm hb o⟩
  · exact Or.inr h
theorem fro_back {n : Nat} (hm : w.m = w'.m.take n) (hb : w.b = w'.b) {a : Addr} {vs : List V} (h : FroAt K w' H' a vs) : FroAt K w H' a vs := by
  rcases h with ⟨h, o⟩ | h
  · exact Or.inl ⟨h, out_back hm hb o⟩
  · exact Or.inr h
mutual
/-- what was told ahead bears nothing new -/
theorem Rep.old {n : Nat} (hm : w.m = w'.m.take n) (hb : w.b = w'.b) : ∀ {v0 v : V} {d : D}, Rep K w H v0 d → Rep K w' H' v d → Rep K w H' v d
  | _, _, _, .non, .non => .non
  | _, _, _, .bl _, .bl b => .bl b
  | _, _, _, .int _, .int i => .int i
  | _, _, _, .str _, .str x => .str x
  | _, _, _, .ty _, .ty n => .ty n
  | _, _, _, .tup _ r0, .tup e r => .tup (tup_back hm hb e) (RepL.old hm hb r0 r)
  | _, _, _, .lst _ _ r0, .lst e o r => .lst e (out_back hm hb o) (RepL.old hm hb r0 r)
  | _, _, _, .fro _ r0, .fro e r => .fro (fro_back hm hb e) (RepL.old hm hb r0 r)
  | _, _, _, .ref e0, .ref e => .ref (by
    rw [hm, List.getElem?_take] at e0 ⊢
    split at e0
    · rename_i h; rw [if_pos h]; exact e
    · cases e0)
theorem RepL.old {n : Nat} (hm : w.m = w'.m.take n) (hb : w.b = w'.b) : ∀ {v0 v : List V} {d : List D}, RepL K w H v0 d → RepL K w' H' v d → RepL K w H' v d
  | _, _, _, .nil, .nil => .nil
  | _, _, _, .cons h0 r0, .cons h r => .cons (Rep.old hm hb h0 h) (RepL.old hm hb r0 r)
end
theorem RepO.old {n : Nat} (hm : w.m = w'.m.take n) (hb : w.b = w'.b) {h0 ho : HO} {o : Ob} (a : RepO K w H h0 o) (b : RepO K w' H' ho o) : RepO K w H' ho o := by
  cases o <;> cases h0 <;> cases ho <;> simp only [RepO] at a b ⊢
  · exact RepL.old hm hb a b
  · exact ⟨b.1, RepL.old hm hb a.2 b.2⟩
  · exact ⟨b.1, RepL.old hm hb a.2 b.2⟩
/-- behind the def the store is as long as ahead of it -/
theorem HR.back (hr : HR K w H s) (k : Kp w H w' H') (hr' : HR K w' H' s') (hk : keepOk s s') : HR K w H' (s'.take s.length) ∧ Kp w H w H' ∧ ∀ (d d' : D) (v : V), Rep K w' H' v d → frz deep s' s.length d = some d' → Rep K w H' v d' := by
  have hm : w.m = w'.m.take s.length := by rw [← hr.len, take_pre k.pre]
  have kk : Kp w H w H' := ⟨List.prefix_refl _, rfl, fun a o e n => k.keep a o e n, fun _ e n => (n e).elim⟩
  refine ⟨⟨?_, hr.nd, fun n a o e1 e2 => ?_, hr.nb, fun a ha => ?_⟩, kk, (frz_rep hr' hm k.b.symm deep).1⟩
  · have h1 : s.length ≤ s'.length := by
      rw [← hr.len, ← hr'.len]
      exact k.pre.length_le
    rw [List.length_take, hr.len]
    omega
  · rw [List.getElem?_take] at e2
    split at e2
    · rename_i hn
      obtain ⟨ho, q1, q2⟩ := hr'.obj n a o (k.q.at e1) e2
      refine ⟨ho, q1, ?_⟩
      obtain ⟨o', e3, e4⟩ := hk n s[n] (List.getElem?_eq_getElem hn)
      rw [e2] at e3
      cases e3
      rcases e4 with e4 | e4
      · subst e4
        obtain ⟨h0, p1, p2⟩ := hr.obj n a _ e1 (List.getElem?_eq_getElem hn)
        exact p2.old hm k.b.symm q2
      · cases o with
        | lst ds =>
          cases ho <;> simp only [RepO] at q2 ⊢
          exact (frz_rep hr' hm k.b.symm deep).2 _ _ _ q2 e4
        | dK kvs =>
          cases ho <;> simp only [RepO] at q2 ⊢
          exact ⟨q2.1, (frz_rep hr' hm k.b.symm deep).2 _ _ _ q2.2 e4⟩
        | dT kvs =>
          cases ho <;> simp only [RepO] at q2 ⊢
          exact ⟨q2.1, (frz_rep hr' hm k.b.symm deep).2 _ _ _ q2.2 e4⟩
    · cases e2
  · obtain ⟨o, e⟩ := hr.bt a ha
    exact ⟨o, k.keep a o e (hr.nb a ha)⟩
end
theorem con_pop {g : G} {E : XK} {w w' : Wd} {H H' : Hp} {s s' : Sto} {d : D} {f : D → Sto → Rs D} {P : D → Wd → Sto → Hp → Prop} (hr : HR g.K w H s) (k : Kp w H w' H') (hr' : HR g.K w' H' s') (h : con g E w H (popR s s' d f) P) :
    ∃ d', con g E w H (f d' (s'.take s.length)) P ∧ HR g.K w H' (s'.take s.length) ∧ Kp w H w H' ∧ ∀ v, Rep g.K w' H' v d → Rep g.K w H' v d' := by
  unfold popR at h
  split at h
  · rename_i hk
    obtain ⟨a, b, c⟩ := hr.back k hr' hk
    split at h
    · rename_i d' e
      exact ⟨d', h, a, b, fun v rv => c d d' v rv e⟩
    · exact h.elim
  · exact h.elim
section
variable {P : Program} {w0 : World} {K : PySem.W.Frag} {mg : Str → Option Value} {base : Heap} {g : G}
theorem init_rep {K : PySem.W.Frag} {w : Wd} {H : Hp} {vs : List V} {as : List D} {N : List Str} (r : RepL K w H vs as) : RE K w H (start N vs) (initE N.length as) := by
  have l := r.length
  refine ⟨by simp [L2.start, initE, l], fun i d q => ?_⟩
  unfold initE at q
  unfold L2.start
  by_cases hi : i < as.length
  · rw [List.getElem?_append_left (by simpa using hi)] at q
    rw [List.getElem?_append_left (by simp [l]; exact hi)]
    rw [List.getElem?_map, Option.map_eq_some_iff] at q
    obtain ⟨d', q1, q2⟩ := q
    cases q2
    obtain ⟨v, h1, h2⟩ := r.at q1
    exact ⟨v, by rw [List.getElem?_map, h1]; rfl, h2⟩
  · rw [List.getElem?_append_right (by simpa using hi)] at q
    rw [List.getElem?_replicate] at q
    split at q
    · cases q
    · cases q
/-- a def keeps the promise that we say of it -/
theorem run_ok {defs : List Df} {cs : Nat → Option D} {d : Df} {T : Tb} {F : Fx} {body : List Stmt} {X : Cx} {c : Cs} {k : Nat} (hN : F.N = d.N) (hb : chkS F c d.body body = true) {vs : List V} {H : Hp} {Q : VK} {E : XK} (o : SOk g F T X c (fun _ => E) k)
    {as : List D} {w : Wd} {s : Sto} (hr : HR g.K w H s) (rv : RepL g.K w H vs as) (h : con g E w H (runD T d as s) (VQ g Q)) : PSs X body (ts g (fun _ => E) (ex T d.body)) ∧ ts g (fun _ => E) (ex T d.body) { nx := fun _ H' => Q .non H', rt := Q } (start d.N vs) H := by
  refine ⟨(sndS d.body).all X c _ k o body hb, w, _, s, hr, init_rep rv, ?_⟩
  unfold runD at h
  cases q : ex T d.body (initE d.N.length as) s with
  | rt v s' =>
    rw [q] at h
    intro w' H' x k' hr' rx
    have h : con g E w H (if d.pop then popR s s' v .ok else .ok v s') (VQ g Q) := h
    split at h
    · obtain ⟨d', h1, h2, h3, h4⟩ := con_pop hr k' hr' h
      exact h1 w H' h3 h2 x (h4 x rx)
    · exact h w' H' k' hr' x rx
  | nx e s' =>
    rw [q] at h
    intro w' H' σ' k' hr' re'
    have h : con g E w H (if d.pop then popR s s' .non .ok else .ok .non s') (VQ g Q) := h
    split at h
    · obtain ⟨d', h1, h2, h3, h4⟩ := con_pop hr k' hr' h
      have e1 := h4 .non .non
      exact h1 w H' h3 h2 .non e1
    · exact h w' H' k' hr' .non .non
  | ex e x p s' =>
    rw [q] at h
    intro w' H' σ' dx k' hr' re' hp
    have h : con g E w H (if d.pop then popR s s' p fun p s' => .ex x p s' else .ex x p s') (VQ g Q) := h
    split at h
    · obtain ⟨d', h1, h2, h3, h4⟩ := con_pop hr k' hr' h
      refine h1 w H' dx h3 h2 ?_
      rcases hp with ⟨rfl, rfl⟩ | ⟨dd, v, e1, e2, e3, e4⟩
      · have z := h4 .non .non
        cases z
        exact Or.inl ⟨rfl, rfl⟩
      · exact Or.inr ⟨dd, v, e1, fun z => e2 (k'.sub z), e3, h4 v e4⟩
    · exact h w' H' dx k' hr' hp
  | bk e s' => rw [q] at h; exact h.elim
  | ct e s' => rw [q] at h; exact h.elim
  | bad => rw [q] at h; exact h.elim
/-- a def of the row: where it stands, what it is -/
structure AtD (K : PySem.W.Frag) (mg : Str → Option Value) (st : Stmt) (d : Df) (f : Addr) (fd : FuncData) : Prop where
  fun_ : FunD K d.name d.name (defArgs st) (defBody st) (defScope st) [] [] f fd
  glob : mg d.name = some (.ref f)
  binds : Binds K fd d.ps []
/-- what is to be looked at in a def, by computation -/
def fxOf (defs : List Df) (fr : List Str) (gs : List Str) (d : Df) : Fx := ⟨d.N, fun i => (defs[i]?).map fun d => (d.name, d.ps.length), fun x => decide (x ∈ fr), fun i => gs[i]?⟩
def csOf (st : Stmt) : Cs := ⟨defScope st, fun _ => true⟩
def scopeB (N P : List Str) (sc : Scope) : Bool := decide (sc.kind = .function) && !sc.isCoroutine && !sc.isGenerator && decide N.Nodup && decide (N.take P.length = P) &&
  P.all (fun x => decide (sc.names.lookup x = some .local) || decide (sc.names.lookup x = some .cell)) && sc.names.all (fun y => decide (y.2 ≠ .free))
theorem scopeB_ok {N P : List Str} {sc : Scope} (h : scopeB N P sc = true) : FnScope N P sc := by
  unfold scopeB at h
  simp only [Bool.and_eq_true, decide_eq_true_eq, Bool.not_eq_true', List.all_eq_true, Bool.or_eq_true] at h
  obtain ⟨⟨⟨⟨⟨⟨h1, h2⟩, h3⟩, h4⟩, h5⟩, h6⟩, h7⟩ := h
  exact ⟨h1, h2, h3, h4, h5, h6, h7⟩
def dfB (defs : List Df) (fr : List Str) (gs : List Str) (d : Df) (st : Stmt) : Bool := scopeB d.N d.ps (defScope st) && chkS (fxOf defs fr gs d) (csOf st) d.body (defBody st)
theorem noWish {P : Program} {w : World} : ∀ outer H s e s', ¬ L2.CX P w outer H s (fun _ _ _ => False) e s' := fun _ _ _ _ _ h => by
  obtain ⟨_, _, _, _, _, _, _, _, _, _, _, _, z⟩ := h
  exact z
theorem tab_ok {defs : List Df} {sts : List Stmt} {fr gs : List Str} {cs : Nat → Option D} (hK : g.K = K)
    (hat : ∀ (i : Nat) (d : Df), defs[i]? = some d → ∃ st f fd, sts[i]? = some st ∧ AtD K mg st d f fd)
    (hchk : ∀ (i : Nat) (d : Df) (st : Stmt), defs[i]? = some d → sts[i]? = some st → dfB defs fr gs d st = true)
    (hfr : ∀ x ∈ fr, mg x = none)
    (hgs : ∀ (i : Nat) (y : Str), gs[i]? = some y → ∃ d v u, cs i = some d ∧ mg y = some u ∧ RelV v u ∧ ∀ w H, Rep K w H v d) :
    ∀ (n : Nat) (i : Nat) (d : Df), defs[i]? = some d → ∀ st f fd, sts[i]? = some st → AtD K mg st d f fd → FnOk P w0 K mg base (L2.CX P w0) n f fd d.ps (spOf g d.ps.length ((tab defs cs n).f i))
  | 0, i, d, hd, st, f, fd, hst, at_ => by
    have bad : ∀ vs H Q E, ¬ spOf g d.ps.length ((tab defs cs 0).f i) vs H Q E := fun vs H Q E ⟨w, s, ds, _, _, _, h⟩ => h
    exact ⟨fun vs H Q E h => (bad _ _ _ _ h).elim, fun A outer s H args us vs Q E _ _ _ _ h => (bad _ _ _ _ h).elim⟩
  | n + 1, i, d, hd, st, f, fd, hst, at_ => by
    have ih := tab_ok hK hat hchk hfr hgs n
    have hc := hchk i d st hd hst
    unfold dfB at hc
    rw [Bool.and_eq_true] at hc
    have S := scopeB_ok hc.1
    refine at_.fun_.ok S (fun vs H Q E ⟨w, s, ds, hl, _, rv, _⟩ => by rw [rv.length, hl]) fun cdv A outer s H vs Q E hroom h => ?_
    obtain ⟨w, st', as, hl, hr, rv, h⟩ := h
    have h : con g E w H (match defs[i]? with
      | some d => if as.length = d.ps.length then runD (tab defs cs n) d as st' else .bad
      | none => .bad) (VQ g Q) := h
    rw [hd] at h
    have h : con g E w H (if as.length = d.ps.length then runD (tab defs cs n) d as st' else .bad) (VQ g Q) := h
    rw [if_pos hl] at h
    have tk : Takes (cxOf (L2.CX P w0) P w0 K mg base d.N d.name (defScope st) f cdv A outer s H E) (fun cls d _ H => E cls d H) := takes_of rfl rfl rfl rfl
    have o : SOk g (fxOf defs fr gs d) (tab defs cs n) (cxOf (L2.CX P w0) P w0 K mg base d.N d.name (defScope st) f cdv A outer s H E) (csOf st) (fun _ => E) n := {
      K := hK
      calm := rfl
      room := hroom
      N := rfl
      nd := S.nd
      sc := rfl
      kind := S.kind
      fn := fun _ _ => rfl
      fr := fun x hx => hfr x (of_decide_eq_true hx)
      fns := fun j nm m e => by
        have e : (defs[j]?).map (fun d => (d.name, d.ps.length)) = some (nm, m) := e
        rw [Option.map_eq_some_iff] at e
        obtain ⟨d2, e1, e2⟩ := e
        cases e2
        obtain ⟨st2, f2, fd2, e3, a2⟩ := hat j d2 e1
        exact ⟨f2, fd2, d2.ps, L2.CX P w0, ih j d2 e1 st2 f2 fd2 e3 a2, a2.glob, a2.fun_.kp, a2.binds, fun σ => passAt tk σ, noWish⟩
      gs := fun j y e => by
        obtain ⟨dd, v, u, e1, e2, e3, e4⟩ := hgs j y e
        refine ⟨dd, v, u, ?_, e2, e3, fun w H => hK ▸ e4 w H⟩
        cases n <;> exact e1
      own := passes_of rfl }
    exact ⟨_, run_ok (defs := defs) (cs := cs) (F := fxOf defs fr gs d) rfl hc.2 o hr rv h⟩
end
end Py
/-! The law's end: from the head's hook to all defs at once. -/
namespace Py
open PySem PySem.Spec PyProof.Rows L2

/-- a def takes its parameters by place -/
def BindQ (d : Df) (st : Stmt) : Prop := ∀ (kV doc pm : Value) (an : Option Addr) (cdv ct : Value) (us : List Value), us.length = d.ps.length →
  bindArgs (PySem.W.fnOf d.name d.name (defArgs st) (defBody st) (defScope st) .none kV doc pm an cdv ct) ⟨us, []⟩ = pure (d.ps.zip us)
def AllQ : List Df → List Stmt → Prop
  | [], [] => True
  | d :: ds, st :: sts => BindQ d st ∧ AllQ ds sts
  | _, _ => False
theorem AllQ.get : ∀ {ds : List Df} {sts : List Stmt}, AllQ ds sts → ∀ {i : Nat} {d : Df}, ds[i]? = some d → ∃ st, sts[i]? = some st ∧ BindQ d st
  | [], [], _, i, d, e => by simp at e
  | d0 :: ds, st :: sts, h, 0, d, e => by
    rw [List.getElem?_cons_zero] at e
    cases e
    exact ⟨st, rfl, h.1⟩
  | d0 :: ds, st :: sts, h, i + 1, d, e => by
    rw [List.getElem?_cons_succ] at e
    obtain ⟨st', a, b⟩ := AllQ.get h.2 e
    exact ⟨st', by rw [List.getElem?_cons_succ]; exact a, b⟩
def dfD (p : Df × Stmt) : He.DefD := ⟨(p.1.name, none), p.1.name, p.1.name, defArgs p.2, defBody p.2, defScope p.2, [], []⟩
def fnsOf (defs : List Df) (sts : List Stmt) : List He.DefD := (defs.zip sts).map dfD
def fasOf (defs : List Df) (fr : List Str) : List He.Fa := (defs.map fun d => He.Fa.glo d.name) ++ fr.map He.Fa.free
section
variable {defs : List Df} {sts : List Stmt} {fr : List Str} {K : PySem.W.Frag} {h : Heap} {mg : Str → Option Value}
theorem zip_get {α β : Type} {as : List α} {bs : List β} {i : Nat} {a : α} {b : β} (h1 : as[i]? = some a) (h2 : bs[i]? = some b) : (as.zip bs)[i]? = some (a, b) := by
  rw [List.getElem?_zip_eq_some]
  exact ⟨h1, h2⟩
theorem says_at (c : He.SaysD (fasOf defs fr) (fnsOf defs sts) K) (X : K.In h) (G : h.Ns mainGlobals mg) (A : AllQ defs sts) (i : Nat) (d : Df) (e : defs[i]? = some d) :
    ∃ st f fd, sts[i]? = some st ∧ AtD K mg st d f fd := by
  obtain ⟨st, e1, b⟩ := A.get e
  have e2 : (fnsOf defs sts)[i]? = some (dfD (d, st)) := by
    unfold fnsOf
    rw [List.getElem?_map, zip_get e e1]
    rfl
  obtain ⟨fd, F⟩ := c.def_ i e2
  have F' : FunD K d.name d.name (defArgs st) (defBody st) (defScope st) [] [] (He.fAd K (d.name, none)) fd := F
  have m : He.Fa.glo d.name ∈ fasOf defs fr := List.mem_append_left _ (List.mem_map.mpr ⟨d, List.mem_of_getElem? e, rfl⟩)
  refine ⟨st, _, fd, e1, F', ?_, F'.bindsN b⟩
  exact He.glo_ok X G (c.facts m)
theorem says_free (c : He.SaysD (fasOf defs fr) (fnsOf defs sts) K) (X : K.In h) (G : h.Ns mainGlobals mg) (x : Str) (hx : x ∈ fr) : mg x = none :=
  He.free_ok X G (c.facts (f := .free x) (List.mem_append_right _ (List.mem_map.mpr ⟨x, hx, rfl⟩)))
/-- the values of a script -/
theorem rep_ints {w : Wd} {H : Hp} : ∀ ns : List Int, RepL K w H (ns.map V.int) (ns.map D.int)
  | [] => .nil
  | n :: ns => .cons (.int n) (rep_ints ns)
def g0 (K : PySem.W.Frag) : G := ⟨K, fun _ => .none, fun x => x⟩
/-- the law's def, from the walk's end -/
theorem law_end {P : Program} {w0 : World} {cs : Nat → Option D} {li n : Nat} {dl : Df} {x : Str} {fa : Addr} (c : He.SaysD (fasOf defs fr) (fnsOf defs sts) K) (X : K.In h) (G : h.Ns mainGlobals mg) (A : AllQ defs sts)
    (hl : defs[li]? = some dl) (hx : dl.ps = [x]) (hfa : mg dl.name = some (.ref fa)) (hchk : ((defs.zip sts).all fun p => dfB defs fr [] p.1 p.2) = true)
    (hlaw : ∀ ns : List Int, ns.length ≤ 63 → ∃ s', (tab defs cs n).f li [.fro (ns.map D.int)] [] = .ok (.bl true) s') :
    ∃ (fd : FuncData) (sp : Sp), (∀ (s : Shared) (u : Value), BindsTo s fd ⟨[u], []⟩ [(x, u)]) ∧
      (∀ (H : Hp) (a : Addr) (ns : List Int), ns.length ≤ 63 → Only H → SqL K H a (ns.map V.int) → sp [.ref a] H (fun v _ => v = .bl true) fun _ _ _ => False) ∧
      ∀ base : Heap, K.In base → base.Ns mainGlobals mg → FnOk P w0 K mg base (L2.CX P w0) n fa fd [x] sp := by
  obtain ⟨st, f, fd, e1, at_⟩ := says_at c X G A li dl hl
  have ef : f = fa := by
    have := at_.glob.symm.trans hfa
    cases this
    rfl
  subst ef
  obtain ⟨st', e1', bq⟩ := A.get hl
  have est : st' = st := by rw [e1] at e1'; cases e1'; rfl
  subst est
  refine ⟨fd, spOf (g0 K) 1 ((tab defs cs n).f li), fun s u => ?_, fun H a ns hn ho hs => ?_, fun base KX BG => ?_⟩
  · have b := FunD.bindsA at_.fun_ bq s [u] (by rw [hx]; rfl)
    rw [hx] at b
    exact b
  · obtain ⟨s', hr⟩ := hlaw ns hn
    refine ⟨⟨[], []⟩, [], [.fro (ns.map D.int)], rfl, ⟨rfl, List.nodup_nil, fun n a o q => by (have q : ([] : List Addr)[n]? = some a := q); simp at q, fun a q => (List.not_mem_nil q).elim, fun a q => (List.not_mem_nil q).elim⟩, .cons (.fro ?_ (rep_ints ns)) .nil, ?_⟩
    · rcases hs with hs | hs
      · exact .inl ⟨hs, ⟨fun z => List.not_mem_nil z, fun z => List.not_mem_nil z⟩⟩
      · exact .inr hs
    · rw [hr]
      intro w' H' k hr' v rv
      cases rv
      rfl
  · have at2 := tab_ok (P := P) (w0 := w0) (K := K) (mg := mg) (base := base) (g := g0 K) (defs := defs) (sts := sts) (fr := fr) (gs := []) (cs := cs) rfl (says_at c X G A)
      (fun i d st h1 h2 => List.all_eq_true.mp hchk (d, st) (List.mem_of_getElem? (zip_get h1 h2)))
      (says_free c X G) (fun i y e => by simp at e) n li dl hl st' f fd e1 at_
    rw [hx] at at2
    exact at2
end
/-- any world's -/
def CXa (P : Program) : CXT := fun outer H s E u s' => ∃ w, L2.CX P w outer H s E u s'
theorem noWishA {P : Program} (H : Hp) (s : Shared) (e : Value) (s' : Shared) : CXa P [] H s (fun _ _ _ => False) e s' → False := fun ⟨_, h⟩ => noWish _ _ _ _ _ h
theorem fnOk_cxa {P : Program} {w : World} {K : PySem.W.Frag} {mg : Str → Option Value} {base : Heap} {k : Nat} {f : Addr} {fd : FuncData} {ps : List Str} {sp : Sp} (F : FnOk P w K mg base (L2.CX P w) k f fd ps sp) :
    FnOk P w K mg base (CXa P) k f fd ps sp :=
  ⟨F.len, fun A outer s H args us vs Q E hr he hb hv hs => codeAny_mono (F.run A outer s H args us vs Q E hr he hb hv hs) fun r s' h => by
    cases r with
    | ok x => cases x <;> exact h
    | error e => exact ⟨w, h⟩⟩
end Py
/-! Reckoning with the evaluator: facts for the plain law. -/
namespace Py
open PySem PySem.Spec PyProof.Rows L2

theorem tab_call {defs : List Df} {cs : Nat → Option D} {n i : Nat} {d : Df} {as : List D} {s : Sto} (h : defs[i]? = some d) (hl : as.length = d.ps.length) :
    (tab defs cs (n + 1)).f i as s = runD (tab defs cs n) d as s := by
  show (match defs[i]? with
    | some d => if as.length = d.ps.length then runD (tab defs cs n) d as s else .bad
    | none => .bad) = _
  rw [h]
  exact if_pos hl
theorem keepOk_refl (s : Sto) : keepOk s s := fun i o h => ⟨o, h, .inl rfl⟩
theorem popR_same {s : Sto} {d d' : D} {f : D → Sto → Rs D} (h : frz deep s s.length d = some d') : popR s s d f = f d' s := by
  unfold popR
  rw [if_pos (keepOk_refl s), h]
  simp
theorem popR_set {s : Sto} {n : Nat} {ds : List D} {tl : Sto} {d d' : D} {f : D → Sto → Rs D} (h1 : frzs deep (s.set n (.lst ds) ++ tl) s.length ds = some ds) (h2 : frz deep (s.set n (.lst ds) ++ tl) s.length d = some d') :
    popR s (s.set n (.lst ds) ++ tl) d f = f d' (s.set n (.lst ds)) := by
  unfold popR
  rw [if_pos, h2]
  · simp
  · intro i o h
    have hi : i < s.length := (List.getElem?_eq_some_iff.mp h).1
    rw [List.getElem?_append_left (by simpa using hi)]
    by_cases e : n = i
    · subst e
      exact ⟨.lst ds, by rw [List.getElem?_set_self hi], .inr h1⟩
    · exact ⟨o, by rw [List.getElem?_set_ne e]; exact h, .inl rfl⟩
theorem mulOk_of {i j : Int} {a b : Nat} (ha : i.natAbs < 2 ^ a) (hb : j.natAbs < 2 ^ b) (h : a + b ≤ 999999) : mulOk i j := by
  have key : ∀ (x c : Nat), x < 2 ^ c → x.log2 ≤ c := fun x c h => by
    by_cases hx : x = 0
    · subst hx; simp
    · have := (Nat.log2_lt hx).mpr h
      omega
  have h1 := key _ _ ha
  have h2 := key _ _ hb
  unfold mulOk
  omega
theorem divOk_of {j : Int} {a : Nat} (h0 : j ≠ 0) (ha : j.natAbs < 2 ^ a) (h : a ≤ 8999) : divOk j := by
  refine ⟨h0, ?_⟩
  have hx : j.natAbs ≠ 0 := by omega
  have := (Nat.log2_lt hx).mpr ha
  omega
/-- a fraction's tuple -/
def F (q : Rat) : D := .tup [.int q.num, .int q.den]
def Pt (p : Rat × Rat) : D := .tup [F p.1, F p.2]
theorem frz_F (s : Sto) (n : Nat) (q : Rat) : frz deep s n (F q) = some (F q) := by simp [F, frz, frzs, deep]
theorem frz_Pt (s : Sto) (n : Nat) (p : Rat × Rat) : frz deep s n (Pt p) = some (Pt p) := by simp [Pt, F, frz, frzs, deep]
/-! ### steps -/
@[simp] theorem ix0 (s : Sto) (d : D) (ds : List D) : ixR s (.tup (d :: ds)) (.int 0) = .ok d s := by
  have : (0:Int) < (ds.length : Int) + 1 := by omega
  simp [ixR, seqOf, atI, ixN, this]
@[simp] theorem ix1 (s : Sto) (d e : D) (ds : List D) : ixR s (.tup (d :: e :: ds)) (.int 1) = .ok e s := by
  have : (1:Int) < (ds.length : Int) + 1 + 1 := by omega
  simp [ixR, seqOf, atI, ixN, this]
@[simp] theorem ixl0 (s : Sto) (d : D) (ds : List D) : ixR s (.lst (d :: ds)) (.int 0) = .ok d s := by
  have : (0:Int) < (ds.length : Int) + 1 := by omega
  simp [ixR, seqOf, listOf, atI, ixN, this]
@[simp] theorem ixl1 (s : Sto) (d e : D) (ds : List D) : ixR s (.lst (d :: e :: ds)) (.int 1) = .ok e s := by
  have : (1:Int) < (ds.length : Int) + 1 + 1 := by omega
  simp [ixR, seqOf, listOf, atI, ixN, this]
@[simp] theorem ixF0 (s : Sto) (q : Rat) : ixR s (F q) (.int 0) = .ok (.int q.num) s := ix0 _ _ _
@[simp] theorem ixF1 (s : Sto) (q : Rat) : ixR s (F q) (.int 1) = .ok (.int q.den) s := ix1 _ _ _ _
@[simp] theorem ixP0 (s : Sto) (p : Rat × Rat) : ixR s (Pt p) (.int 0) = .ok (F p.1) s := ix0 _ _ _
@[simp] theorem ixP1 (s : Sto) (p : Rat × Rat) : ixR s (Pt p) (.int 1) = .ok (F p.2) s := ix1 _ _ _ _
@[simp] theorem b_add (s : Sto) (i j : Int) : binR .add s (.int i) (.int j) = .ok (.int (i + j)) s := rfl
@[simp] theorem b_sub (s : Sto) (i j : Int) : binR .sub s (.int i) (.int j) = .ok (.int (i - j)) s := rfl
theorem b_mul {s : Sto} {i j : Int} (h : mulOk i j) : binR .mul s (.int i) (.int j) = .ok (.int (i * j)) s := if_pos h
theorem b_fdiv {s : Sto} {i j : Int} (h : divOk j) : binR .fdiv s (.int i) (.int j) = .ok (.int (i.fdiv j)) s := if_pos h
theorem b_mod {s : Sto} {i j : Int} (h : j ≠ 0) : binR .mod s (.int i) (.int j) = .ok (.int (i.fmod j)) s := if_pos h
theorem b_pow {s : Sto} {i j : Int} (h : powOk i j) : binR .pow s (.int i) (.int j) = .ok (.int (i ^ j.toNat)) s := if_pos h
@[simp] theorem c_lt (s : Sto) (i j : Int) : cmpR .lt s (.int i) (.int j) = .ok (.bl (decide (i < j))) s := rfl
@[simp] theorem c_le (s : Sto) (i j : Int) : cmpR .le s (.int i) (.int j) = .ok (.bl (decide (i ≤ j))) s := rfl
@[simp] theorem c_gt (s : Sto) (i j : Int) : cmpR .gt s (.int i) (.int j) = .ok (.bl (decide (i > j))) s := rfl
@[simp] theorem c_ge (s : Sto) (i j : Int) : cmpR .ge s (.int i) (.int j) = .ok (.bl (decide (i ≥ j))) s := rfl
@[simp] theorem tupOf_tup (ds : List D) : tupOf (.tup ds) = ds := rfl
@[simp] theorem nx_next (e : Sl) (s : Sto) (f : Sl → Sto → Ou) : (Ou.nx e s).next f = f e s := rfl
@[simp] theorem rt_next (d : D) (s : Sto) (f : Sl → Sto → Ou) : (Ou.rt d s).next f = .rt d s := rfl
@[simp] theorem nx_step (e : Sl) (s : Sto) (f : Sl → Sto → Ou) : (Ou.nx e s).step f = f e s := rfl
@[simp] theorem nx_turn (e : Sl) (s : Sto) (f : Sl → Sto → Ou) : (Ou.nx e s).turn f = f e s := rfl
@[simp] theorem rt_turn (d : D) (s : Sto) (f : Sl → Sto → Ou) : (Ou.rt d s).turn f = .rt d s := rfl
@[simp] theorem tst_ok (b : Bool) (s : Sto) (f : Bool → Sto → Rs D) : Tst (.ok (.bl b) s) f = f b s := rfl
@[simp] theorem ok_noex {α : Type} (a : α) (s : Sto) : (Rs.ok a s).noex = .ok a s := rfl
@[simp] theorem int_bl (s : Sto) (b : Bool) : biR .int s [.bl b] = .ok (.int (if b then 1 else 0)) s := rfl
@[simp] theorem bi_abs (s : Sto) (i : Int) : biR .abs s [.int i] = .ok (.int (if i < 0 then -i else i)) s := rfl
@[simp] theorem bi_max (s : Sto) (i j : Int) : biR .max2 s [.int i, .int j] = .ok (.int (if j > i then j else i)) s := rfl
@[simp] theorem bi_min (s : Sto) (i j : Int) : biR .min2 s [.int i, .int j] = .ok (.int (if j < i then j else i)) s := rfl
@[simp] theorem len_tup (s : Sto) (ds : List D) : biR .len s [.tup ds] = .ok (.int ds.length) s := rfl
@[simp] theorem len_lst (s : Sto) (ds : List D) : biR .len s [.lst ds] = .ok (.int ds.length) s := rfl
@[simp] theorem len_fro (s : Sto) (ds : List D) : biR .len s [.fro ds] = .ok (.int ds.length) s := rfl

/-- the loop of the greatest divisor -/
theorem gcd_loop {c : Sl → Sto → Rs D} {b : Sl → Sto → Ou} (mk : Int → Int → Sl) {s : Sto} (hc : ∀ x y, c (mk x y) s = .ok (.bl (decide (y > 0))) s)
    (hb : ∀ x y, 0 < y → b (mk x y) s = .nx (mk y (x.fmod y)) s) : ∀ (y x : Nat), whileS c b (mk x y) s = .nx (mk (Nat.gcd x y : Nat) 0) s := by
  intro y
  induction y using Nat.strongRecOn with
  | _ y ih =>
    intro x
    by_cases hy : y = 0
    · subst hy
      rw [whileS_end (by rw [hc]; rfl)]
      simp
    · have h0 : 0 < y := Nat.pos_of_ne_zero hy
      have h1 : (0:Int) < (y : Int) := by omega
      rw [whileS_step (s1 := s) (by rw [hc]; simp [h0]) (hb _ _ h1)]
      have e : (x : Int).fmod (y : Int) = ((x % y : Nat) : Int) := by
        rw [Int.fmod_eq_emod_of_nonneg _ (by omega)]
        omega
      rw [e, ih _ (Nat.mod_lt _ h0)]
      rw [Nat.gcd_comm y, ← Nat.gcd_rec, Nat.gcd_comm]
/-- what the two cuts are -/
theorem low_num {n d : Int} (hd : d ≠ 0) : n.fdiv (if d < 0 then -(Nat.gcd n.natAbs d.natAbs : Int) else (Nat.gcd n.natAbs d.natAbs : Int)) = (Rat.divInt n d).num := by
  have hg : (Nat.gcd n.natAbs d.natAbs : Int) ≠ 0 := by
    intro h
    have h : Nat.gcd n.natAbs d.natAbs = 0 := by omega
    rw [Nat.gcd_eq_zero_iff] at h
    omega
  rw [Rat.num_divInt]
  have e : d.gcd n = Nat.gcd n.natAbs d.natAbs := by rw [Int.gcd_comm]; rfl
  rw [e]
  generalize hG : (Nat.gcd n.natAbs d.natAbs : Int) = g at *
  obtain ⟨k, hk⟩ : g ∣ n := by rw [← hG]; exact Int.ofNat_dvd_left.mpr (Nat.gcd_dvd_left _ _)
  rw [hk]
  split
  · rename_i h
    rw [Int.sign_eq_neg_one_of_neg h, Int.mul_comm g k, ← Int.neg_mul_neg, Int.mul_fdiv_cancel _ (by omega)]
    rw [show -1 * (-k * -g) = -k * g by grind, Int.mul_ediv_cancel _ hg]
  · rename_i h
    rw [Int.sign_eq_one_of_pos (by omega), Int.mul_comm g k, Int.mul_fdiv_cancel _ hg, Int.one_mul, Int.mul_ediv_cancel _ hg]
theorem low_den {n d : Int} (hd : d ≠ 0) : d.fdiv (if d < 0 then -(Nat.gcd n.natAbs d.natAbs : Int) else (Nat.gcd n.natAbs d.natAbs : Int)) = ((Rat.divInt n d).den : Int) := by
  have hg : (Nat.gcd n.natAbs d.natAbs : Int) ≠ 0 := by
    intro h
    have h : Nat.gcd n.natAbs d.natAbs = 0 := by omega
    rw [Nat.gcd_eq_zero_iff] at h
    omega
  rw [Rat.den_divInt, if_neg hd]
  have e : d.gcd n = Nat.gcd n.natAbs d.natAbs := by rw [Int.gcd_comm]; rfl
  rw [e, Int.natCast_ediv]
  generalize hG : (Nat.gcd n.natAbs d.natAbs : Int) = g at *
  obtain ⟨k, hk⟩ : g ∣ d := by rw [← hG]; exact Int.ofNat_dvd_left.mpr (Nat.gcd_dvd_right _ _)
  split
  · rename_i h
    rw [show ((d.natAbs : Nat) : Int) = -d by omega, hk, Int.mul_comm g k, ← Int.neg_mul_neg, Int.mul_fdiv_cancel _ (by omega), show -(-k * -g) = -k * g by grind, Int.mul_ediv_cancel _ hg]
  · rename_i h
    rw [show ((d.natAbs : Nat) : Int) = d by omega, hk, Int.mul_comm g k, Int.mul_fdiv_cancel _ hg, Int.mul_ediv_cancel _ hg]
/-! ### sizes -/
def Bd (k : Nat) (i : Int) : Prop := i.natAbs < 2 ^ k
instance (k : Nat) (i : Int) : Decidable (Bd k i) := inferInstanceAs (Decidable (_ < _))
theorem Bd.mono {a b : Nat} {i : Int} (h : Bd a i) (hab : a ≤ b) : Bd b i := Nat.lt_of_lt_of_le h (Nat.pow_le_pow_right (by decide) hab)
theorem Bd.mul {a b : Nat} {i j : Int} (h : Bd a i) (h' : Bd b j) : Bd (a + b) (i * j) := by
  unfold Bd at *
  rw [Int.natAbs_mul, Nat.pow_add]
  exact Nat.mul_lt_mul'' h h'
theorem bd_two {a b : Nat} {i j : Int} (h : Bd a i) (h' : Bd b j) : i.natAbs + j.natAbs < 2 ^ (a + b + 1) := by
  have h1 := h.mono (Nat.le_add_right a b)
  have h2 := h'.mono (Nat.le_add_left b a)
  unfold Bd at h1 h2
  rw [Nat.pow_succ]
  omega
theorem Bd.add {a b : Nat} {i j : Int} (h : Bd a i) (h' : Bd b j) : Bd (a + b + 1) (i + j) := by
  have := bd_two h h'
  unfold Bd
  omega
theorem Bd.sub {a b : Nat} {i j : Int} (h : Bd a i) (h' : Bd b j) : Bd (a + b + 1) (i - j) := by
  have := bd_two h h'
  unfold Bd
  omega
/-- sums of like size -/
theorem Bd.add' {a : Nat} {i j : Int} (h : Bd a i) (h' : Bd a j) : Bd (a + 1) (i + j) := by
  unfold Bd at *
  rw [Nat.pow_succ]
  omega
theorem Bd.sub' {a : Nat} {i j : Int} (h : Bd a i) (h' : Bd a j) : Bd (a + 1) (i - j) := by
  unfold Bd at *
  rw [Nat.pow_succ]
  omega
theorem Bd.neg {a : Nat} {i : Int} (h : Bd a i) : Bd a (-i) := by
  unfold Bd at *
  omega
theorem mulOk_bd {i j : Int} {a b : Nat} (ha : Bd a i) (hb : Bd b j) (h : a + b ≤ 999999) : mulOk i j := mulOk_of ha hb h
def Sz (k : Nat) (q : Rat) : Prop := Bd k q.num ∧ Bd k (q.den : Int)
theorem Sz.mono {a b : Nat} {q : Rat} (h : Sz a q) (hab : a ≤ b) : Sz b q := ⟨h.1.mono hab, h.2.mono hab⟩
theorem num_le {n d : Int} (hd : d ≠ 0) : (Rat.divInt n d).num.natAbs ≤ n.natAbs := by
  rw [Rat.num_divInt]
  have e : d.gcd n = Nat.gcd n.natAbs d.natAbs := by rw [Int.gcd_comm]; rfl
  rw [e]
  have h1 : (d.sign * n).natAbs = n.natAbs := by rw [Int.natAbs_mul, Int.natAbs_sign_of_ne_zero hd, Nat.one_mul]
  have h2 := Int.natAbs_ediv_le_natAbs (d.sign * n) (Nat.gcd n.natAbs d.natAbs : Int)
  omega
theorem den_le {n d : Int} (hd : d ≠ 0) : (Rat.divInt n d).den ≤ d.natAbs := by
  rw [Rat.den_divInt, if_neg hd]
  exact Nat.div_le_self _ _
theorem Sz.of {n d : Int} {k : Nat} (hd : d ≠ 0) (h1 : Bd k n) (h2 : Bd k d) : Sz k (Rat.divInt n d) := by
  have a := num_le (n := n) hd
  have b := den_le (n := n) hd
  unfold Bd at h1 h2
  refine ⟨?_, ?_⟩ <;> unfold Bd <;> omega
theorem popF {s : Sto} {q : Rat} {f : D → Sto → Rs D} : popR s s (F q) f = f (F q) s := popR_same (frz_F _ _ _)
theorem popP {s : Sto} {p : Rat × Rat} {f : D → Sto → Rs D} : popR s s (Pt p) f = f (Pt p) s := popR_same (frz_Pt _ _ _)
theorem popI {s : Sto} {i : Int} {f : D → Sto → Rs D} : popR s s (.int i) f = f (.int i) s := popR_same (by simp [frz, deep])
theorem popB {s : Sto} {i : Bool} {f : D → Sto → Rs D} : popR s s (.bl i) f = f (.bl i) s := popR_same (by simp [frz, deep])
theorem popN {s : Sto} {f : D → Sto → Rs D} : popR s s .non f = f .non s := popR_same (by simp [frz, deep])
theorem popS {s : Sto} {x : Str} {f : D → Sto → Rs D} : popR s s (.str x) f = f (.str x) s := popR_same (by simp [frz, deep])
theorem popT {s : Sto} {ds : List D} {f : D → Sto → Rs D} (h : frzs 8 s s.length ds = some ds) : popR s s (.tup ds) f = f (.tup ds) s := popR_same (by simp [frz, deep, h])
end Py
namespace K42
open PySem PySem.Spec PyProof.Rows L2 Py
def d0 : Df := ⟨"divisor", ["one", "other"], ["one", "other"],
    (.seq (.par 0 1 (.bi .abs (.cons (.var 0) .nil)) (.bi .abs (.cons (.var 1) .nil)))
      (.seq (.while_ (.cmp .gt (.var 1) (.c (.int 0)))
      (.seq (.par 0 1 (.var 1) (.bin .mod (.var 0) (.var 1)))
      .nil))
      (.seq (.ret (.var 0))
      .nil))), true⟩

def d1 : Df := ⟨"fraction", ["n", "d"], ["n", "d", "by"],
    (.seq (.asg (.nm 2) (.call 0 (.cons (.var 0) (.cons (.var 1) .nil))))
      (.seq (.ite (.cmp .lt (.var 1) (.c (.int 0))) (.seq (.asg (.nm 2) (.neg (.var 2)))
      .nil) .nil)
      (.seq (.ret (.tup (.cons (.bin .fdiv (.var 0) (.var 2)) (.cons (.bin .fdiv (.var 1) (.var 2)) .nil))))
      .nil))), true⟩

def d2 : Df := ⟨"plus", ["one", "other"], ["one", "other"],
    (.seq (.ret (.call 1 (.cons (.bin .add (.bin .mul (.ix (.var 0) (.c (.int 0))) (.ix (.var 1) (.c (.int 1)))) (.bin .mul (.ix (.var 1) (.c (.int 0))) (.ix (.var 0) (.c (.int 1))))) (.cons (.bin .mul (.ix (.var 0) (.c (.int 1))) (.ix (.var 1) (.c (.int 1)))) .nil))))
      .nil), true⟩

def d3 : Df := ⟨"less", ["one", "other"], ["one", "other"],
    (.seq (.ret (.call 1 (.cons (.bin .sub (.bin .mul (.ix (.var 0) (.c (.int 0))) (.ix (.var 1) (.c (.int 1)))) (.bin .mul (.ix (.var 1) (.c (.int 0))) (.ix (.var 0) (.c (.int 1))))) (.cons (.bin .mul (.ix (.var 0) (.c (.int 1))) (.ix (.var 1) (.c (.int 1)))) .nil))))
      .nil), true⟩

def d4 : Df := ⟨"times", ["one", "other"], ["one", "other"],
    (.seq (.ret (.call 1 (.cons (.bin .mul (.ix (.var 0) (.c (.int 0))) (.ix (.var 1) (.c (.int 0)))) (.cons (.bin .mul (.ix (.var 0) (.c (.int 1))) (.ix (.var 1) (.c (.int 1)))) .nil))))
      .nil), true⟩

def d5 : Df := ⟨"over", ["one", "other"], ["one", "other"],
    (.seq (.ret (.call 1 (.cons (.bin .mul (.ix (.var 0) (.c (.int 0))) (.ix (.var 1) (.c (.int 1)))) (.cons (.bin .mul (.ix (.var 0) (.c (.int 1))) (.ix (.var 1) (.c (.int 0)))) .nil))))
      .nil), true⟩

def d6 : Df := ⟨"apart", ["one", "other"], ["one", "other"],
    (.seq (.ret (.tup (.cons (.bin .sub (.bin .mul (.ix (.var 1) (.c (.int 0))) (.ix (.var 0) (.c (.int 1)))) (.bin .mul (.ix (.var 0) (.c (.int 0))) (.ix (.var 1) (.c (.int 1))))) (.cons (.bin .mul (.ix (.var 0) (.c (.int 1))) (.ix (.var 1) (.c (.int 1)))) .nil))))
      .nil), true⟩

def d7 : Df := ⟨"way", ["p", "q"], ["p", "q"],
    (.seq (.ret (.tup (.cons (.call 6 (.cons (.ix (.var 0) (.c (.int 0))) (.cons (.ix (.var 1) (.c (.int 0))) .nil))) (.cons (.call 6 (.cons (.ix (.var 0) (.c (.int 1))) (.cons (.ix (.var 1) (.c (.int 1))) .nil))) .nil))))
      .nil), true⟩

def d8 : Df := ⟨"crossed", ["one", "other"], ["one", "other"],
    (.seq (.ret (.call 3 (.cons (.call 4 (.cons (.ix (.var 0) (.c (.int 0))) (.cons (.ix (.var 1) (.c (.int 1))) .nil))) (.cons (.call 4 (.cons (.ix (.var 0) (.c (.int 1))) (.cons (.ix (.var 1) (.c (.int 0))) .nil))) .nil))))
      .nil), true⟩

def d9 : Df := ⟨"sign_of", ["number"], ["number"],
    (.seq (.ret (.bin .sub (.bi .int (.cons (.cmp .gt (.var 0) (.c (.int 0))) .nil)) (.bi .int (.cons (.cmp .lt (.var 0) (.c (.int 0))) .nil))))
      .nil), true⟩

def d10 : Df := ⟨"hand", ["p", "q", "r"], ["p", "q", "r", "a", "b", "c", "d"],
    (.seq (.asg (.cons (.nm 3) (.cons (.nm 4) .nil)) (.call 7 (.cons (.var 0) (.cons (.var 1) .nil))))
      (.seq (.asg (.cons (.nm 5) (.cons (.nm 6) .nil)) (.call 7 (.cons (.var 0) (.cons (.var 2) .nil))))
      (.seq (.ret (.call 9 (.cons (.bin .sub (.bin .mul (.bin .mul (.bin .mul (.ix (.var 3) (.c (.int 0))) (.ix (.var 6) (.c (.int 0)))) (.ix (.var 4) (.c (.int 1)))) (.ix (.var 5) (.c (.int 1)))) (.bin .mul (.bin .mul (.bin .mul (.ix (.var 4) (.c (.int 0))) (.ix (.var 5) (.c (.int 0)))) (.ix (.var 3) (.c (.int 1)))) (.ix (.var 6) (.c (.int 1))))) .nil)))
      .nil))), true⟩

def d11 : Df := ⟨"together", ["p", "q", "r"], ["p", "q", "r", "a", "b", "c", "d"],
    (.seq (.asg (.cons (.nm 3) (.cons (.nm 4) .nil)) (.call 7 (.cons (.var 0) (.cons (.var 1) .nil))))
      (.seq (.asg (.cons (.nm 5) (.cons (.nm 6) .nil)) (.call 7 (.cons (.var 0) (.cons (.var 2) .nil))))
      (.seq (.ret (.call 9 (.cons (.bin .add (.bin .mul (.bin .mul (.bin .mul (.ix (.var 3) (.c (.int 0))) (.ix (.var 5) (.c (.int 0)))) (.ix (.var 4) (.c (.int 1)))) (.ix (.var 6) (.c (.int 1)))) (.bin .mul (.bin .mul (.bin .mul (.ix (.var 4) (.c (.int 0))) (.ix (.var 6) (.c (.int 0)))) (.ix (.var 3) (.c (.int 1)))) (.ix (.var 5) (.c (.int 1))))) .nil)))
      .nil))), true⟩

def d12 : Df := ⟨"lies_within", ["p", "tie"], ["p", "tie"],
    (.seq (.ret (.and (.cmp .eq (.call 10 (.cons (.var 0) (.cons (.ix (.var 1) (.c (.int 0))) (.cons (.ix (.var 1) (.c (.int 1))) .nil)))) (.c (.int 0))) (.cmp .lt (.call 11 (.cons (.var 0) (.cons (.ix (.var 1) (.c (.int 0))) (.cons (.ix (.var 1) (.c (.int 1))) .nil)))) (.c (.int 0)))))
      .nil), true⟩

def d13 : Df := ⟨"cross_point", ["one", "other"], ["one", "other", "ahead", "along", "part", "a", "b", "c", "d"],
    (.seq (.asg (.cons (.nm 5) (.cons (.nm 6) .nil)) (.var 0))
      (.seq (.asg (.cons (.nm 7) (.cons (.nm 8) .nil)) (.var 1))
      (.seq (.asg (.nm 2) (.call 7 (.cons (.var 5) (.cons (.var 6) .nil))))
      (.seq (.asg (.nm 3) (.call 7 (.cons (.var 7) (.cons (.var 8) .nil))))
      (.seq (.asg (.nm 4) (.call 5 (.cons (.call 8 (.cons (.call 7 (.cons (.var 5) (.cons (.var 7) .nil))) (.cons (.var 3) .nil))) (.cons (.call 8 (.cons (.var 2) (.cons (.var 3) .nil))) .nil))))
      (.seq (.ret (.tup (.cons (.call 2 (.cons (.ix (.var 5) (.c (.int 0))) (.cons (.call 4 (.cons (.var 4) (.cons (.ix (.var 2) (.c (.int 0))) .nil))) .nil))) (.cons (.call 2 (.cons (.ix (.var 5) (.c (.int 1))) (.cons (.call 4 (.cons (.var 4) (.cons (.ix (.var 2) (.c (.int 1))) .nil))) .nil))) .nil))))
      .nil)))))), true⟩

def d14 : Df := ⟨"are_parted", ["one", "other"], ["one", "other"],
    (.seq (.ret (.cmp .lt (.bin .mul (.call 10 (.cons (.ix (.var 0) (.c (.int 0))) (.cons (.ix (.var 0) (.c (.int 1))) (.cons (.ix (.var 1) (.c (.int 0))) .nil)))) (.call 10 (.cons (.ix (.var 0) (.c (.int 0))) (.cons (.ix (.var 0) (.c (.int 1))) (.cons (.ix (.var 1) (.c (.int 1))) .nil))))) (.c (.int 0))))
      .nil), true⟩

def d15 : Df := ⟨"met", ["one", "other"], ["one", "other", "ends", "p"],
    (.seq (.asg (.nm 2) (.bin .add (.comp false [("p", 3)] (.nm 3) (.it .plain (.var 1)) .plain (.call 12 (.cons (.var 3) (.cons (.var 0) .nil))) (.var 3)) (.comp false [("p", 3)] (.nm 3) (.it .plain (.var 0)) .plain (.call 12 (.cons (.var 3) (.cons (.var 1) .nil))) (.var 3))))
      (.seq (.ite (.and (.cmp .eq (.call 10 (.cons (.ix (.var 0) (.c (.int 0))) (.cons (.ix (.var 0) (.c (.int 1))) (.cons (.ix (.var 1) (.c (.int 0))) .nil)))) (.c (.int 0))) (.cmp .eq (.call 10 (.cons (.ix (.var 0) (.c (.int 0))) (.cons (.ix (.var 0) (.c (.int 1))) (.cons (.ix (.var 1) (.c (.int 1))) .nil)))) (.c (.int 0)))) (.seq (.ret (.ix (.lst false (.cons (.c .non) (.cons (.tup (.cons (.c (.str "over")) (.cons (.c .non) .nil))) .nil))) (.bi .int (.cons (.cmp .ne (.var 2) (.lst false .nil)) .nil))))
      .nil) .nil)
      (.seq (.ite (.cmp .ne (.var 2) (.lst false .nil)) (.seq (.ret (.tup (.cons (.c (.str "touch")) (.cons (.ix (.var 2) (.c (.int 0))) .nil))))
      .nil) .nil)
      (.seq (.ite (.and (.call 14 (.cons (.var 0) (.cons (.var 1) .nil))) (.call 14 (.cons (.var 1) (.cons (.var 0) .nil)))) (.seq (.ret (.tup (.cons (.c (.str "cross")) (.cons (.call 13 (.cons (.var 0) (.cons (.var 1) .nil))) .nil))))
      .nil) .nil)
      (.seq (.ret (.c .non))
      .nil))))), true⟩

def d16 : Df := ⟨"_law_pot", ["_law_script", "_law_k"], ["_law_script", "_law_k", "_law_cell"],
    (.seq (.asg (.nm 2) (.ix (.bin .add (.sl (.var 0) (.var 1) (.bin .add (.var 1) (.c (.int 1)))) (.lst false (.cons (.c (.int 0)) .nil))) (.c (.int 0))))
      (.seq (.ret (.lst true (.cons (.bi .max2 (.cons (.c (.int 0)) (.cons (.bin .sub (.var 2) (.bin .pow (.c (.int 10)) (.c (.int 18)))) .nil))) (.cons (.bin .add (.bin .mod (.bin .add (.bin .add (.bi .abs (.cons (.var 2) .nil)) (.bin .mul (.c (.int 7919)) (.var 1))) (.c (.int 3))) (.c (.int 2147483629))) (.c (.int 1))) .nil))))
      .nil)), false⟩

def d17 : Df := ⟨"_law_digit", ["_law_pot_here", "_law_many"], ["_law_pot_here", "_law_many", "_law_digit_here"],
    (.seq (.ite (.cmp .gt (.ix (.var 0) (.c (.int 0))) (.c (.int 0))) (.seq (.asg (.cons (.sub (.var 0) (.c (.int 0))) (.cons (.nm 2) .nil)) (.bi .divmod (.cons (.ix (.var 0) (.c (.int 0))) (.cons (.var 1) .nil))))
      (.seq (.ret (.var 2))
      .nil)) .nil)
      (.seq (.asg (.sub (.var 0) (.c (.int 1))) (.bin .mod (.bin .add (.bin .mul (.ix (.var 0) (.c (.int 1))) (.c (.int 48271))) (.c (.int 39373))) (.c (.int 2147483647))))
      (.seq (.ret (.bin .mod (.bin .fdiv (.bin .mod (.bin .mul (.ix (.var 0) (.c (.int 1))) (.ix (.var 0) (.c (.int 1)))) (.c (.int 2147483629))) (.c (.int 3))) (.var 1)))
      .nil))), true⟩

def d18 : Df := ⟨"_law_low", ["_law_n", "_law_d"], ["_law_n", "_law_d", "_law_one", "_law_other"],
    (.seq (.par 2 3 (.bi .abs (.cons (.var 0) .nil)) (.bi .abs (.cons (.var 1) .nil)))
      (.seq (.while_ (.cmp .gt (.var 3) (.c (.int 0)))
      (.seq (.par 2 3 (.var 3) (.bin .mod (.var 2) (.var 3)))
      .nil))
      (.seq (.ite (.cmp .lt (.var 1) (.c (.int 0))) (.seq (.asg (.nm 2) (.neg (.var 2)))
      .nil) .nil)
      (.seq (.ret (.tup (.cons (.bin .fdiv (.var 0) (.var 2)) (.cons (.bin .fdiv (.var 1) (.var 2)) .nil))))
      .nil)))), true⟩

def d19 : Df := ⟨"_law_plus", ["_law_one", "_law_other"], ["_law_one", "_law_other"],
    (.seq (.ret (.call 18 (.cons (.bin .add (.bin .mul (.ix (.var 0) (.c (.int 0))) (.ix (.var 1) (.c (.int 1)))) (.bin .mul (.ix (.var 1) (.c (.int 0))) (.ix (.var 0) (.c (.int 1))))) (.cons (.bin .mul (.ix (.var 0) (.c (.int 1))) (.ix (.var 1) (.c (.int 1)))) .nil))))
      .nil), true⟩

def d20 : Df := ⟨"_law_less", ["_law_one", "_law_other"], ["_law_one", "_law_other"],
    (.seq (.ret (.call 18 (.cons (.bin .sub (.bin .mul (.ix (.var 0) (.c (.int 0))) (.ix (.var 1) (.c (.int 1)))) (.bin .mul (.ix (.var 1) (.c (.int 0))) (.ix (.var 0) (.c (.int 1))))) (.cons (.bin .mul (.ix (.var 0) (.c (.int 1))) (.ix (.var 1) (.c (.int 1)))) .nil))))
      .nil), true⟩

def d21 : Df := ⟨"_law_times", ["_law_one", "_law_other"], ["_law_one", "_law_other"],
    (.seq (.ret (.call 18 (.cons (.bin .mul (.ix (.var 0) (.c (.int 0))) (.ix (.var 1) (.c (.int 0)))) (.cons (.bin .mul (.ix (.var 0) (.c (.int 1))) (.ix (.var 1) (.c (.int 1)))) .nil))))
      .nil), true⟩

def d22 : Df := ⟨"_law_sign", ["_law_one"], ["_law_one"],
    (.seq (.ret (.bin .sub (.bi .int (.cons (.cmp .gt (.ix (.var 0) (.c (.int 0))) (.c (.int 0))) .nil)) (.bi .int (.cons (.cmp .lt (.ix (.var 0) (.c (.int 0))) (.c (.int 0))) .nil))))
      .nil), true⟩

def d23 : Df := ⟨"_law_number", ["_law_pot_here", "_law_mode"], ["_law_pot_here", "_law_mode", "_law_far"],
    (.seq (.ite (.cmp .eq (.var 1) (.c (.int 0))) (.seq (.ret (.call 18 (.cons (.bin .sub (.call 17 (.cons (.var 0) (.cons (.c (.int 9)) .nil))) (.c (.int 4))) (.cons (.bin .add (.c (.int 1)) (.call 17 (.cons (.var 0) (.cons (.c (.int 3)) .nil)))) .nil))))
      .nil) .nil)
      (.seq (.ite (.cmp .eq (.var 1) (.c (.int 1))) (.seq (.ret (.tup (.cons (.bin .sub (.call 17 (.cons (.var 0) (.cons (.c (.int 7)) .nil))) (.c (.int 3))) (.cons (.c (.int 1)) .nil))))
      .nil) .nil)
      (.seq (.asg (.nm 2) (.ix (.lst false (.cons (.bin .pow (.c (.int 10)) (.c (.int 3))) (.cons (.bin .pow (.c (.int 10)) (.c (.int 12))) (.cons (.bin .pow (.c (.int 10)) (.c (.int 57))) .nil)))) (.call 17 (.cons (.var 0) (.cons (.c (.int 3)) .nil)))))
      (.seq (.ret (.call 18 (.cons (.bin .sub (.call 17 (.cons (.var 0) (.cons (.bin .mul (.c (.int 2)) (.var 2)) .nil))) (.var 2)) (.cons (.bin .add (.c (.int 1)) (.call 17 (.cons (.var 0) (.cons (.var 2) .nil)))) .nil))))
      .nil)))), true⟩

def d24 : Df := ⟨"_law_between", ["_law_one", "_law_other", "_law_part"], ["_law_one", "_law_other", "_law_part"],
    (.seq (.ret (.call 19 (.cons (.var 0) (.cons (.call 21 (.cons (.var 2) (.cons (.call 20 (.cons (.var 1) (.cons (.var 0) .nil))) .nil))) .nil))))
      .nil), true⟩

def d25 : Df := ⟨"_law_point", ["_law_pot_here", "_law_points_here", "_law_mode"], ["_law_pot_here", "_law_points_here", "_law_mode", "_law_p", "_law_q", "_law_part"],
    (.seq (.ite (.and (.cmp .lt (.var 2) (.c (.int 2))) (.and (.cmp .gt (.bi .len (.cons (.var 1) .nil)) (.c (.int 1))) (.cmp .eq (.call 17 (.cons (.var 0) (.cons (.c (.int 4)) .nil))) (.c (.int 0))))) (.seq (.asg (.nm 3) (.ix (.var 1) (.call 17 (.cons (.var 0) (.cons (.bi .len (.cons (.var 1) .nil)) .nil)))))
      (.seq (.asg (.nm 4) (.ix (.var 1) (.call 17 (.cons (.var 0) (.cons (.bi .len (.cons (.var 1) .nil)) .nil)))))
      (.seq (.asg (.nm 5) (.ix (.lst false (.cons (.tup (.cons (.c (.int 1)) (.cons (.c (.int 2)) .nil))) (.cons (.tup (.cons (.c (.int 2)) (.cons (.c (.int 1)) .nil))) (.cons (.tup (.cons (.neg (.c (.int 1))) (.cons (.c (.int 1)) .nil))) (.cons (.tup (.cons (.c (.int 1)) (.cons (.c (.int 3)) .nil))) .nil))))) (.call 17 (.cons (.var 0) (.cons (.c (.int 4)) .nil)))))
      (.seq (.ret (.tup (.cons (.call 24 (.cons (.ix (.var 3) (.c (.int 0))) (.cons (.ix (.var 4) (.c (.int 0))) (.cons (.var 5) .nil)))) (.cons (.call 24 (.cons (.ix (.var 3) (.c (.int 1))) (.cons (.ix (.var 4) (.c (.int 1))) (.cons (.var 5) .nil)))) .nil))))
      .nil)))) .nil)
      (.seq (.ret (.tup (.cons (.call 23 (.cons (.var 0) (.cons (.var 2) .nil))) (.cons (.call 23 (.cons (.var 0) (.cons (.var 2) .nil))) .nil))))
      .nil)), true⟩

def d26 : Df := ⟨"_law_points", ["_law_pot_here", "_law_many"], ["_law_pot_here", "_law_many", "_law_mode", "_law_found", "_law_k", "_law_point_here"],
    (.seq (.asg (.nm 2) (.call 17 (.cons (.var 0) (.cons (.c (.int 3)) .nil))))
      (.seq (.asg (.nm 3) (.lst true .nil))
      (.seq (.for_ (.nm 4) (.it .rng (.cons (.var 1) .nil)) .rng
      (.seq (.asg (.nm 5) (.call 25 (.cons (.var 0) (.cons (.var 3) (.cons (.var 2) .nil)))))
      (.seq (.ite (.and (.cmp .in_ (.var 5) (.var 3)) (.cmp .gt (.call 17 (.cons (.var 0) (.cons (.c (.int 8)) .nil))) (.c (.int 0)))) (.seq (.asg (.nm 5) (.tup (.cons (.call 19 (.cons (.ix (.var 5) (.c (.int 0))) (.cons (.tup (.cons (.bin .add (.var 4) (.c (.int 1))) (.cons (.bin .add (.c (.int 7)) (.var 4)) .nil))) .nil))) (.cons (.call 19 (.cons (.ix (.var 5) (.c (.int 1))) (.cons (.tup (.cons (.c (.int 1)) (.cons (.bin .add (.c (.int 11)) (.var 4)) .nil))) .nil))) .nil))))
      .nil) .nil)
      (.seq (.ex (.me .append (.var 3) (.cons (.var 5) .nil)))
      .nil))))
      (.seq (.ret (.bi .tuple (.cons (.var 3) .nil)))
      .nil)))), true⟩

def d27 : Df := ⟨"_law_apart", ["_law_one", "_law_other"], ["_law_one", "_law_other"],
    (.seq (.ret (.tup (.cons (.bin .sub (.bin .mul (.ix (.var 1) (.c (.int 0))) (.ix (.var 0) (.c (.int 1)))) (.bin .mul (.ix (.var 0) (.c (.int 0))) (.ix (.var 1) (.c (.int 1))))) (.cons (.bin .mul (.ix (.var 0) (.c (.int 1))) (.ix (.var 1) (.c (.int 1)))) .nil))))
      .nil), true⟩

def d28 : Df := ⟨"_law_hand", ["_law_p", "_law_q", "_law_r"], ["_law_p", "_law_q", "_law_r", "_law_a", "_law_b", "_law_c", "_law_d"],
    (.seq (.par 3 4 (.call 27 (.cons (.ix (.var 0) (.c (.int 0))) (.cons (.ix (.var 1) (.c (.int 0))) .nil))) (.call 27 (.cons (.ix (.var 0) (.c (.int 1))) (.cons (.ix (.var 1) (.c (.int 1))) .nil))))
      (.seq (.par 5 6 (.call 27 (.cons (.ix (.var 0) (.c (.int 0))) (.cons (.ix (.var 2) (.c (.int 0))) .nil))) (.call 27 (.cons (.ix (.var 0) (.c (.int 1))) (.cons (.ix (.var 2) (.c (.int 1))) .nil))))
      (.seq (.ret (.call 22 (.cons (.tup (.cons (.bin .sub (.bin .mul (.bin .mul (.bin .mul (.ix (.var 3) (.c (.int 0))) (.ix (.var 6) (.c (.int 0)))) (.ix (.var 4) (.c (.int 1)))) (.ix (.var 5) (.c (.int 1)))) (.bin .mul (.bin .mul (.bin .mul (.ix (.var 4) (.c (.int 0))) (.ix (.var 5) (.c (.int 0)))) (.ix (.var 3) (.c (.int 1)))) (.ix (.var 6) (.c (.int 1))))) (.cons (.c (.int 1)) .nil))) .nil)))
      .nil))), true⟩

def d29 : Df := ⟨"_law_is_ahead", ["_law_p", "_law_q"], ["_law_p", "_law_q"],
    (.seq (.ite (.cmp .ne (.ix (.var 0) (.c (.int 0))) (.ix (.var 1) (.c (.int 0)))) (.seq (.ret (.cmp .lt (.bin .mul (.ix (.ix (.var 0) (.c (.int 0))) (.c (.int 0))) (.ix (.ix (.var 1) (.c (.int 0))) (.c (.int 1)))) (.bin .mul (.ix (.ix (.var 1) (.c (.int 0))) (.c (.int 0))) (.ix (.ix (.var 0) (.c (.int 0))) (.c (.int 1))))))
      .nil) .nil)
      (.seq (.ret (.cmp .lt (.bin .mul (.ix (.ix (.var 0) (.c (.int 1))) (.c (.int 0))) (.ix (.ix (.var 1) (.c (.int 1))) (.c (.int 1)))) (.bin .mul (.ix (.ix (.var 1) (.c (.int 1))) (.c (.int 0))) (.ix (.ix (.var 0) (.c (.int 1))) (.c (.int 1))))))
      .nil)), true⟩

def d30 : Df := ⟨"_law_first", ["_law_p", "_law_q"], ["_law_p", "_law_q"],
    (.seq (.ret (.ite (.call 29 (.cons (.var 0) (.cons (.var 1) .nil))) (.var 0) (.var 1)))
      .nil), true⟩

def d31 : Df := ⟨"_law_last", ["_law_p", "_law_q"], ["_law_p", "_law_q"],
    (.seq (.ret (.ite (.call 29 (.cons (.var 0) (.cons (.var 1) .nil))) (.var 1) (.var 0)))
      .nil), true⟩

def d32 : Df := ⟨"_law_is_within", ["_law_r", "_law_tie"], ["_law_r", "_law_tie", "_law_low_here", "_law_high"],
    (.seq (.par 2 3 (.call 30 (.cons (.ix (.var 1) (.c (.int 0))) (.cons (.ix (.var 1) (.c (.int 1))) .nil))) (.call 31 (.cons (.ix (.var 1) (.c (.int 0))) (.cons (.ix (.var 1) (.c (.int 1))) .nil))))
      (.seq (.ret (.and (.cmp .eq (.call 28 (.cons (.var 2) (.cons (.var 3) (.cons (.var 0) .nil)))) (.c (.int 0))) (.and (.call 29 (.cons (.var 2) (.cons (.var 0) .nil))) (.call 29 (.cons (.var 0) (.cons (.var 3) .nil))))))
      .nil)), true⟩

def d33 : Df := ⟨"_law_are_over", ["_law_one", "_law_other"], ["_law_one", "_law_other", "_law_low_here", "_law_r"],
    (.seq (.ite (.cmp .ne (.comp false [("_law_r", 3)] (.nm 3) (.it .plain (.var 1)) .plain (.c (.bl true)) (.call 28 (.cons (.ix (.var 0) (.c (.int 0))) (.cons (.ix (.var 0) (.c (.int 1))) (.cons (.var 3) .nil))))) (.lst false (.cons (.c (.int 0)) (.cons (.c (.int 0)) .nil)))) (.seq (.ret (.c (.bl false)))
      .nil) .nil)
      (.seq (.asg (.nm 2) (.call 31 (.cons (.call 30 (.cons (.ix (.var 0) (.c (.int 0))) (.cons (.ix (.var 0) (.c (.int 1))) .nil))) (.cons (.call 30 (.cons (.ix (.var 1) (.c (.int 0))) (.cons (.ix (.var 1) (.c (.int 1))) .nil))) .nil))))
      (.seq (.ret (.call 29 (.cons (.var 2) (.cons (.call 30 (.cons (.call 31 (.cons (.ix (.var 0) (.c (.int 0))) (.cons (.ix (.var 0) (.c (.int 1))) .nil))) (.cons (.call 31 (.cons (.ix (.var 1) (.c (.int 0))) (.cons (.ix (.var 1) (.c (.int 1))) .nil))) .nil))) .nil))))
      .nil))), true⟩

def d34 : Df := ⟨"_law_are_crossed", ["_law_one", "_law_other"], ["_law_one", "_law_other"],
    (.seq (.ite (.cmp .ge (.bin .mul (.call 28 (.cons (.ix (.var 0) (.c (.int 0))) (.cons (.ix (.var 0) (.c (.int 1))) (.cons (.ix (.var 1) (.c (.int 0))) .nil)))) (.call 28 (.cons (.ix (.var 0) (.c (.int 0))) (.cons (.ix (.var 0) (.c (.int 1))) (.cons (.ix (.var 1) (.c (.int 1))) .nil))))) (.c (.int 0))) (.seq (.ret (.c (.bl false)))
      .nil) .nil)
      (.seq (.ret (.cmp .lt (.bin .mul (.call 28 (.cons (.ix (.var 1) (.c (.int 0))) (.cons (.ix (.var 1) (.c (.int 1))) (.cons (.ix (.var 0) (.c (.int 0))) .nil)))) (.call 28 (.cons (.ix (.var 1) (.c (.int 0))) (.cons (.ix (.var 1) (.c (.int 1))) (.cons (.ix (.var 0) (.c (.int 1))) .nil))))) (.c (.int 0))))
      .nil)), true⟩

def d35 : Df := ⟨"_law_due", ["_law_one", "_law_other"], ["_law_one", "_law_other", "_law_ends", "_law_r"],
    (.seq (.ite (.call 33 (.cons (.var 0) (.cons (.var 1) .nil))) (.seq (.ret (.tup (.cons (.c (.str "over")) (.cons (.c .non) .nil))))
      .nil) .nil)
      (.seq (.asg (.nm 2) (.bin .add (.comp false [("_law_r", 3)] (.nm 3) (.it .plain (.var 1)) .plain (.call 32 (.cons (.var 3) (.cons (.var 0) .nil))) (.var 3)) (.comp false [("_law_r", 3)] (.nm 3) (.it .plain (.var 0)) .plain (.call 32 (.cons (.var 3) (.cons (.var 1) .nil))) (.var 3))))
      (.seq (.ite (.cmp .ne (.var 2) (.lst false .nil)) (.seq (.ret (.tup (.cons (.c (.str "touch")) (.cons (.ix (.var 2) (.c (.int 0))) .nil))))
      .nil) .nil)
      (.seq (.ite (.call 34 (.cons (.var 0) (.cons (.var 1) .nil))) (.seq (.ret (.c (.str "cross")))
      .nil) .nil)
      (.seq (.ret (.c .non))
      .nil))))), true⟩

def d36 : Df := ⟨"_law_is_fraction", ["_law_one"], ["_law_one", "_law_n"],
    (.seq (.ite (.or (.not (.isi "tuple" (.var 0))) (.or (.cmp .ne (.bi .len (.cons (.var 0) .nil)) (.c (.int 2))) (.cmp .ne (.comp false [("_law_n", 1)] (.nm 1) (.it .plain (.var 0)) .plain (.isi "bool" (.var 1)) (.var 1)) (.lst false .nil)))) (.seq (.ret (.c (.bl false)))
      .nil) .nil)
      (.seq (.ret (.and (.isi "int" (.ix (.var 0) (.c (.int 0)))) (.and (.isi "int" (.ix (.var 0) (.c (.int 1)))) (.and (.cmp .gt (.ix (.var 0) (.c (.int 1))) (.c (.int 0))) (.cmp .eq (.call 18 (.cons (.ix (.var 0) (.c (.int 0))) (.cons (.ix (.var 0) (.c (.int 1))) .nil))) (.var 0))))))
      .nil)), true⟩

def d37 : Df := ⟨"_law_right", ["_law_one", "_law_other", "_law_due_here", "_law_found"], ["_law_one", "_law_other", "_law_due_here", "_law_found"],
    (.seq (.ite (.cmp .ne (.var 2) (.c (.str "cross"))) (.seq (.ret (.cmp .eq (.var 3) (.var 2)))
      .nil) .nil)
      (.seq (.ite (.or (.not (.isi "tuple" (.var 3))) (.or (.cmp .ne (.bi .len (.cons (.var 3) .nil)) (.c (.int 2))) (.or (.cmp .ne (.ix (.var 3) (.c (.int 0))) (.c (.str "cross"))) (.not (.isi "tuple" (.ix (.var 3) (.c (.int 1)))))))) (.seq (.ret (.c (.bl false)))
      .nil) .nil)
      (.seq (.ite (.or (.cmp .ne (.bi .len (.cons (.ix (.var 3) (.c (.int 1))) .nil)) (.c (.int 2))) (.or (.not (.call 36 (.cons (.ix (.ix (.var 3) (.c (.int 1))) (.c (.int 0))) .nil))) (.not (.call 36 (.cons (.ix (.ix (.var 3) (.c (.int 1))) (.c (.int 1))) .nil))))) (.seq (.ret (.c (.bl false)))
      .nil) .nil)
      (.seq (.ret (.and (.call 32 (.cons (.ix (.var 3) (.c (.int 1))) (.cons (.var 0) .nil))) (.call 32 (.cons (.ix (.var 3) (.c (.int 1))) (.cons (.var 1) .nil)))))
      .nil)))), true⟩

def d38 : Df := ⟨"law", ["_law_script"], ["_law_script", "_law_k", "_law_points_here", "_law_due_here", "_law_found", "_law_again", "_law_one", "_law_other"],
    (.seq (.for_ (.nm 1) (.it .rng (.cons (.bi .max2 (.cons (.c (.int 1)) (.cons (.bi .min2 (.cons (.bi .len (.cons (.var 0) .nil)) (.cons (.c (.int 6)) .nil))) .nil))) .nil)) .rng
      (.seq (.asg (.nm 2) (.call 26 (.cons (.call 16 (.cons (.var 0) (.cons (.var 1) .nil))) (.cons (.c (.int 4)) .nil))))
      (.seq (.ite (.cmp .eq (.lset (.var 2)) (.c (.int 4))) (.seq (.par 6 7 (.sl (.var 2) (.c .non) (.c (.int 2))) (.sl (.var 2) (.c (.int 2)) (.c .non)))
      (.seq (.asg (.nm 3) (.call 35 (.cons (.var 6) (.cons (.var 7) .nil))))
      (.seq (.asg (.nm 4) (.call 15 (.cons (.var 6) (.cons (.var 7) .nil))))
      (.seq (.ite (.not (.call 37 (.cons (.var 6) (.cons (.var 7) (.cons (.var 3) (.cons (.var 4) .nil)))))) (.seq (.ret (.c (.bl false)))
      .nil) .nil)
      (.seq (.for_ (.nm 5) (.it .plain (.lst false (.cons (.call 15 (.cons (.var 7) (.cons (.var 6) .nil))) (.cons (.call 15 (.cons (.rev (.var 6)) (.cons (.var 7) .nil))) (.cons (.call 15 (.cons (.rev (.var 7)) (.cons (.rev (.var 6)) .nil))) .nil))))) .plain
      (.seq (.ite (.cmp .ne (.var 5) (.var 4)) (.seq (.ret (.c (.bl false)))
      .nil) .nil)
      .nil))
      .nil))))) .nil)
      .nil)))
      (.seq (.ret (.c (.bl true)))
      .nil)), true⟩

def defs : List Df := [d0, d1, d2, d3, d4, d5, d6, d7, d8, d9, d10, d11, d12, d13, d14, d15, d16, d17, d18, d19] ++ [d20, d21, d22, d23, d24, d25, d26, d27, d28, d29, d30, d31, d32, d33, d34, d35, d36, d37, d38]
def topAt (i : Nat) : Stmt := PySem.Challenge.pw_restdraw_k42_two_ties.main.body.getD i (.Pass ⟨0, 0, 0, 0⟩)
def places : List Nat := [1, 2, 3, 4, 5, 6, 8, 9, 10, 11, 12, 13, 14, 15, 16, 17, 19, 20, 21, 22] ++ [23, 24, 25, 26, 27, 28, 29, 30, 31, 32, 33, 34, 35, 36, 37, 38, 39, 40, 41]
def sts : List Stmt := places.map topAt
def frees : List Str := ["abs", "bool", "divmod", "int", "isinstance", "len", "max", "min", "range", "set", "tuple"]
def globs : List Str := []
def bound0 : List Str := ["divisor", "fraction", "plus", "less", "times", "over", "apart", "way", "crossed", "sign_of", "hand", "together", "lies_within", "cross_point", "are_parted", "met", "_law_pot", "_law_digit", "_law_low", "_law_plus"]
def bound1 : List Str := ["_law_less", "_law_times", "_law_sign", "_law_number", "_law_between", "_law_point", "_law_points", "_law_apart", "_law_hand", "_law_is_ahead", "_law_first", "_law_last", "_law_is_within", "_law_are_over", "_law_are_crossed", "_law_due", "_law_is_fraction", "_law_right"]
def bound : List Str := bound0 ++ bound1
def lawAt : Nat := 38
def lawPlace : Nat := 41
theorem b0 : BindQ d0 (topAt 1) := fun _ _ _ _ _ _ us hl => match us, hl with | [_, _], _ => rfl
theorem b1 : BindQ d1 (topAt 2) := fun _ _ _ _ _ _ us hl => match us, hl with | [_, _], _ => rfl
theorem b2 : BindQ d2 (topAt 3) := fun _ _ _ _ _ _ us hl => match us, hl with | [_, _], _ => rfl
theorem b3 : BindQ d3 (topAt 4) := fun _ _ _ _ _ _ us hl => match us, hl with | [_, _], _ => rfl
theorem b4 : BindQ d4 (topAt 5) := fun _ _ _ _ _ _ us hl => match us, hl with | [_, _], _ => rfl
theorem b5 : BindQ d5 (topAt 6) := fun _ _ _ _ _ _ us hl => match us, hl with | [_, _], _ => rfl
theorem b6 : BindQ d6 (topAt 8) := fun _ _ _ _ _ _ us hl => match us, hl with | [_, _], _ => rfl
theorem b7 : BindQ d7 (topAt 9) := fun _ _ _ _ _ _ us hl => match us, hl with | [_, _], _ => rfl
theorem b8 : BindQ d8 (topAt 10) := fun _ _ _ _ _ _ us hl => match us, hl with | [_, _], _ => rfl
theorem b9 : BindQ d9 (topAt 11) := fun _ _ _ _ _ _ us hl => match us, hl with | [_], _ => rfl
theorem b10 : BindQ d10 (topAt 12) := fun _ _ _ _ _ _ us hl => match us, hl with | [_, _, _], _ => rfl
theorem b11 : BindQ d11 (topAt 13) := fun _ _ _ _ _ _ us hl => match us, hl with | [_, _, _], _ => rfl
theorem b12 : BindQ d12 (topAt 14) := fun _ _ _ _ _ _ us hl => match us, hl with | [_, _], _ => rfl
theorem b13 : BindQ d13 (topAt 15) := fun _ _ _ _ _ _ us hl => match us, hl with | [_, _], _ => rfl
theorem b14 : BindQ d14 (topAt 16) := fun _ _ _ _ _ _ us hl => match us, hl with | [_, _], _ => rfl
theorem b15 : BindQ d15 (topAt 17) := fun _ _ _ _ _ _ us hl => match us, hl with | [_, _], _ => rfl
theorem b16 : BindQ d16 (topAt 19) := fun _ _ _ _ _ _ us hl => match us, hl with | [_, _], _ => rfl
theorem b17 : BindQ d17 (topAt 20) := fun _ _ _ _ _ _ us hl => match us, hl with | [_, _], _ => rfl
theorem b18 : BindQ d18 (topAt 21) := fun _ _ _ _ _ _ us hl => match us, hl with | [_, _], _ => rfl
theorem b19 : BindQ d19 (topAt 22) := fun _ _ _ _ _ _ us hl => match us, hl with | [_, _], _ => rfl
theorem b20 : BindQ d20 (topAt 23) := fun _ _ _ _ _ _ us hl => match us, hl with | [_, _], _ => rfl
theorem b21 : BindQ d21 (topAt 24) := fun _ _ _ _ _ _ us hl => match us, hl with | [_, _], _ => rfl
theorem b22 : BindQ d22 (topAt 25) := fun _ _ _ _ _ _ us hl => match us, hl with | [_], _ => rfl
theorem b23 : BindQ d23 (topAt 26) := fun _ _ _ _ _ _ us hl => match us, hl with | [_, _], _ => rfl
theorem b24 : BindQ d24 (topAt 27) := fun _ _ _ _ _ _ us hl => match us, hl with | [_, _, _], _ => rfl
theorem b25 : BindQ d25 (topAt 28) := fun _ _ _ _ _ _ us hl => match us, hl with | [_, _, _], _ => rfl
theorem b26 : BindQ d26 (topAt 29) := fun _ _ _ _ _ _ us hl => match us, hl with | [_, _], _ => rfl
theorem b27 : BindQ d27 (topAt 30) := fun _ _ _ _ _ _ us hl => match us, hl with | [_, _], _ => rfl
theorem b28 : BindQ d28 (topAt 31) := fun _ _ _ _ _ _ us hl => match us, hl with | [_, _, _], _ => rfl
theorem b29 : BindQ d29 (topAt 32) := fun _ _ _ _ _ _ us hl => match us, hl with | [_, _], _ => rfl
theorem b30 : BindQ d30 (topAt 33) := fun _ _ _ _ _ _ us hl => match us, hl with | [_, _], _ => rfl
theorem b31 : BindQ d31 (topAt 34) := fun _ _ _ _ _ _ us hl => match us, hl with | [_, _], _ => rfl
theorem b32 : BindQ d32 (topAt 35) := fun _ _ _ _ _ _ us hl => match us, hl with | [_, _], _ => rfl
theorem b33 : BindQ d33 (topAt 36) := fun _ _ _ _ _ _ us hl => match us, hl with | [_, _], _ => rfl
theorem b34 : BindQ d34 (topAt 37) := fun _ _ _ _ _ _ us hl => match us, hl with | [_, _], _ => rfl
theorem b35 : BindQ d35 (topAt 38) := fun _ _ _ _ _ _ us hl => match us, hl with | [_, _], _ => rfl
theorem b36 : BindQ d36 (topAt 39) := fun _ _ _ _ _ _ us hl => match us, hl with | [_], _ => rfl
theorem b37 : BindQ d37 (topAt 40) := fun _ _ _ _ _ _ us hl => match us, hl with | [_, _, _, _], _ => rfl
theorem b38 : BindQ d38 (topAt 41) := fun _ _ _ _ _ _ us hl => match us, hl with | [_], _ => rfl
theorem allQ : AllQ defs sts := ⟨b0, b1, b2, b3, b4, b5, b6, b7, b8, b9, b10, b11, b12, b13, b14, b15, b16, b17, b18, b19, b20, b21, b22, b23, b24, b25, b26, b27, b28, b29, b30, b31, b32, b33, b34, b35, b36, b37, b38, trivial⟩
end K42
namespace K42
open PySem PySem.Spec PyProof.Rows L2 Py
noncomputable abbrev TT (n : Nat) : Tb := tab defs (fun _ => none) n
theorem divisor_ok (m : Nat) (n d : Int) (s : Sto) : (TT (m + 1)).f 0 [.int n, .int d] s = .ok (.int (Nat.gcd n.natAbs d.natAbs : Nat)) s := by
  rw [tab_call (d := d0) rfl rfl]
  have e1 : (if n < 0 then -n else n) = (n.natAbs : Int) := by split <;> omega
  have e2 : (if d < 0 then -d else d) = (d.natAbs : Int) := by split <;> omega
  simp [runD, d0, ex, ev, initE, e1, e2]
  rw [gcd_loop (fun x y => [some (.int x), some (.int y)]) (s := s)]
  · simp [popI]
  · intro x y; simp
  · intro x y h
    have : y ≠ 0 := by omega
    simp [b_mod this]
theorem low_ok (m : Nat) {n d : Int} {k : Nat} (s : Sto) (hd : d ≠ 0) (h2 : Bd k d) (hk : k ≤ 8999) : (TT (m + 1)).f 18 [.int n, .int d] s = .ok (F (Rat.divInt n d)) s := by
  rw [tab_call (d := d18) rfl rfl]
  have e1 : (if n < 0 then -n else n) = (n.natAbs : Int) := by split <;> omega
  have e2 : (if d < 0 then -d else d) = (d.natAbs : Int) := by split <;> omega
  simp [runD, d18, ex, ev, initE, e1, e2]
  rw [gcd_loop (fun x y => [some (.int n), some (.int d), some (.int x), some (.int y)]) (s := s)]
  · have g0 : Nat.gcd n.natAbs d.natAbs ≠ 0 := by
      intro h
      rw [Nat.gcd_eq_zero_iff] at h
      omega
    have g1 : Nat.gcd n.natAbs d.natAbs ≤ d.natAbs := Nat.le_of_dvd (by omega) (Nat.gcd_dvd_right _ _)
    have key : divOk (if d < 0 then -(Nat.gcd n.natAbs d.natAbs : Int) else (Nat.gcd n.natAbs d.natAbs : Int)) := by
      refine divOk_of (a := k) ?_ ?_ hk
      · split <;> omega
      · unfold Bd at h2
        split <;> omega
    have fin : ∀ (x : Int), x = (if d < 0 then -(Nat.gcd n.natAbs d.natAbs : Int) else (Nat.gcd n.natAbs d.natAbs : Int)) → n.fdiv x = (Rat.divInt n d).num ∧ d.fdiv x = ((Rat.divInt n d).den : Int) ∧ divOk x := fun x e => by
      subst e
      exact ⟨low_num hd, low_den hd, key⟩
    have sl : (2:Nat) ≤ sizeLine := by decide
    by_cases hn : d < 0
    · obtain ⟨f1, f2, f3⟩ := fin _ (if_pos hn).symm
      have := popF (s := s) (q := Rat.divInt n d) (f := .ok)
      unfold F at this ⊢
      simp [hn, fitsT, asgT, f1, f2, b_fdiv f3, sl, this]
    · obtain ⟨f1, f2, f3⟩ := fin _ (if_neg hn).symm
      have := popF (s := s) (q := Rat.divInt n d) (f := .ok)
      unfold F at this ⊢
      simp [hn, fitsT, asgT, f1, f2, b_fdiv f3, sl, this]
  · intro x y; simp
  · intro x y h
    have : y ≠ 0 := by omega
    simp [b_mod this]
theorem fraction_ok (m : Nat) {n d : Int} {k : Nat} (s : Sto) (hd : d ≠ 0) (h2 : Bd k d) (hk : k ≤ 8999) : (TT (m + 2)).f 1 [.int n, .int d] s = .ok (F (Rat.divInt n d)) s := by
  rw [tab_call (d := d1) rfl rfl]
  have g0 : Nat.gcd n.natAbs d.natAbs ≠ 0 := by
    intro h
    rw [Nat.gcd_eq_zero_iff] at h
    omega
  have g1 : Nat.gcd n.natAbs d.natAbs ≤ d.natAbs := Nat.le_of_dvd (by omega) (Nat.gcd_dvd_right _ _)
  have key : divOk (if d < 0 then -(Nat.gcd n.natAbs d.natAbs : Int) else (Nat.gcd n.natAbs d.natAbs : Int)) := by
    refine divOk_of (a := k) ?_ ?_ hk
    · split <;> omega
    · unfold Bd at h2
      split <;> omega
  have fin : ∀ (x : Int), x = (if d < 0 then -(Nat.gcd n.natAbs d.natAbs : Int) else (Nat.gcd n.natAbs d.natAbs : Int)) → n.fdiv x = (Rat.divInt n d).num ∧ d.fdiv x = ((Rat.divInt n d).den : Int) ∧ divOk x := fun x e => by
    subst e
    exact ⟨low_num hd, low_den hd, key⟩
  have sl : (2:Nat) ≤ sizeLine := by decide
  by_cases hn : d < 0
  · obtain ⟨f1, f2, f3⟩ := fin _ (if_pos hn).symm
    have := popF (s := s) (q := Rat.divInt n d) (f := .ok)
    unfold F at this ⊢
    simp [runD, d1, ex, ev, initE, divisor_ok, fitsT, asgT, hn, f1, f2, b_fdiv f3, sl, this]
  · obtain ⟨f1, f2, f3⟩ := fin _ (if_neg hn).symm
    have := popF (s := s) (q := Rat.divInt n d) (f := .ok)
    unfold F at this ⊢
    simp [runD, d1, ex, ev, initE, divisor_ok, fitsT, asgT, hn, f1, f2, b_fdiv f3, sl, this]

theorem den_ne (a : Rat) : (a.den : Int) ≠ 0 := by have := a.den_nz; omega
theorem add_eq (a b : Rat) : Rat.divInt (a.num * b.den + b.num * a.den) (a.den * b.den) = a + b := by
  rw [Rat.add_def', ← Rat.divInt_ofNat, Int.natCast_mul]
theorem sub_eq (a b : Rat) : Rat.divInt (a.num * b.den - b.num * a.den) (a.den * b.den) = a - b := by
  rw [Rat.sub_def', ← Rat.divInt_ofNat, Int.natCast_mul]
theorem mul_eq (a b : Rat) : Rat.divInt (a.num * b.num) (a.den * b.den) = a * b := by
  rw [Rat.mul_def', ← Rat.divInt_ofNat, Int.natCast_mul]
theorem div_eq (a b : Rat) : Rat.divInt (a.num * b.den) (a.den * b.num) = a / b := by
  rw [Rat.div_def, Rat.inv_def, ← Rat.divInt_mul_divInt, Rat.num_divInt_den]
theorem mulD (a b : Rat) : (a.den : Int) * b.den ≠ 0 := Int.mul_ne_zero (den_ne a) (den_ne b)
theorem Sz.add {k : Nat} {a b : Rat} (ha : Sz k a) (hb : Sz k b) : Sz (2 * k + 1) (a + b) := by
  rw [← add_eq]
  exact Sz.of (mulD a b) (((ha.1.mul hb.2).add' (hb.1.mul ha.2)).mono (by omega)) ((ha.2.mul hb.2).mono (by omega))
theorem Sz.sub {k : Nat} {a b : Rat} (ha : Sz k a) (hb : Sz k b) : Sz (2 * k + 1) (a - b) := by
  rw [← sub_eq]
  exact Sz.of (mulD a b) (((ha.1.mul hb.2).sub' (hb.1.mul ha.2)).mono (by omega)) ((ha.2.mul hb.2).mono (by omega))
theorem Sz.mul {k : Nat} {a b : Rat} (ha : Sz k a) (hb : Sz k b) : Sz (2 * k) (a * b) := by
  rw [← mul_eq]
  exact Sz.of (mulD a b) ((ha.1.mul hb.1).mono (by omega)) ((ha.2.mul hb.2).mono (by omega))
theorem Sz.div {k : Nat} {a b : Rat} (ha : Sz k a) (hb : Sz k b) (h0 : b ≠ 0) : Sz (2 * k) (a / b) := by
  rw [← div_eq]
  have : b.num ≠ 0 := fun h => h0 (Rat.num_eq_zero.mp h)
  exact Sz.of (Int.mul_ne_zero (den_ne a) this) ((ha.1.mul hb.2).mono (by omega)) ((ha.2.mul hb.1).mono (by omega))
section
variable {m k : Nat} {a b : Rat} {s : Sto}
theorem m_nn (ha : Sz k a) (hb : Sz k b) (hk : 2 * k ≤ 999999) : mulOk a.num b.num := mulOk_bd ha.1 hb.1 (by omega)
theorem m_nd (ha : Sz k a) (hb : Sz k b) (hk : 2 * k ≤ 999999) : mulOk a.num b.den := mulOk_bd ha.1 hb.2 (by omega)
theorem m_dn (ha : Sz k a) (hb : Sz k b) (hk : 2 * k ≤ 999999) : mulOk a.den b.num := mulOk_bd ha.2 hb.1 (by omega)
theorem m_dd (ha : Sz k a) (hb : Sz k b) (hk : 2 * k ≤ 999999) : mulOk a.den b.den := mulOk_bd ha.2 hb.2 (by omega)
theorem plus_ok (ha : Sz k a) (hb : Sz k b) (hk : 2 * k ≤ 8999) : (TT (m + 3)).f 2 [F a, F b] s = .ok (F (a + b)) s := by
  rw [tab_call (d := d2) rfl rfl]
  have h := fraction_ok m (n := a.num * b.den + b.num * a.den) (k := k + k) s (mulD a b) (ha.2.mul hb.2) (by omega)
  rw [add_eq] at h
  simp [runD, d2, ex, ev, initE, b_mul (m_nd ha hb (by omega)), b_mul (m_nd hb ha (by omega)), b_mul (m_dd ha hb (by omega)), h, popF]
theorem less_ok (ha : Sz k a) (hb : Sz k b) (hk : 2 * k ≤ 8999) : (TT (m + 3)).f 3 [F a, F b] s = .ok (F (a - b)) s := by
  rw [tab_call (d := d3) rfl rfl]
  have h := fraction_ok m (n := a.num * b.den - b.num * a.den) (k := k + k) s (mulD a b) (ha.2.mul hb.2) (by omega)
  rw [sub_eq] at h
  simp [runD, d3, ex, ev, initE, b_mul (m_nd ha hb (by omega)), b_mul (m_nd hb ha (by omega)), b_mul (m_dd ha hb (by omega)), h, popF]
theorem times_ok (ha : Sz k a) (hb : Sz k b) (hk : 2 * k ≤ 8999) : (TT (m + 3)).f 4 [F a, F b] s = .ok (F (a * b)) s := by
  rw [tab_call (d := d4) rfl rfl]
  have h := fraction_ok m (n := a.num * b.num) (k := k + k) s (mulD a b) (ha.2.mul hb.2) (by omega)
  rw [mul_eq] at h
  simp [runD, d4, ex, ev, initE, b_mul (m_nn ha hb (by omega)), b_mul (m_dd ha hb (by omega)), h, popF]
theorem over_ok (ha : Sz k a) (hb : Sz k b) (h0 : b ≠ 0) (hk : 2 * k ≤ 8999) : (TT (m + 3)).f 5 [F a, F b] s = .ok (F (a / b)) s := by
  rw [tab_call (d := d5) rfl rfl]
  have h1 : b.num ≠ 0 := fun h => h0 (Rat.num_eq_zero.mp h)
  have h := fraction_ok m (n := a.num * b.den) (k := k + k) s (Int.mul_ne_zero (den_ne a) h1) (ha.2.mul hb.1) (by omega)
  rw [div_eq] at h
  simp [runD, d5, ex, ev, initE, b_mul (m_nd ha hb (by omega)), b_mul (m_dn ha hb (by omega)), h, popF]
theorem lplus_ok (ha : Sz k a) (hb : Sz k b) (hk : 2 * k ≤ 8999) : (TT (m + 2)).f 19 [F a, F b] s = .ok (F (a + b)) s := by
  rw [tab_call (d := d19) rfl rfl]
  have h := low_ok m (n := a.num * b.den + b.num * a.den) (k := k + k) s (mulD a b) (ha.2.mul hb.2) (by omega)
  rw [add_eq] at h
  simp [runD, d19, ex, ev, initE, b_mul (m_nd ha hb (by omega)), b_mul (m_nd hb ha (by omega)), b_mul (m_dd ha hb (by omega)), h, popF]
theorem lless_ok (ha : Sz k a) (hb : Sz k b) (hk : 2 * k ≤ 8999) : (TT (m + 2)).f 20 [F a, F b] s = .ok (F (a - b)) s := by
  rw [tab_call (d := d20) rfl rfl]
  have h := low_ok m (n := a.num * b.den - b.num * a.den) (k := k + k) s (mulD a b) (ha.2.mul hb.2) (by omega)
  rw [sub_eq] at h
  simp [runD, d20, ex, ev, initE, b_mul (m_nd ha hb (by omega)), b_mul (m_nd hb ha (by omega)), b_mul (m_dd ha hb (by omega)), h, popF]
theorem ltimes_ok (ha : Sz k a) (hb : Sz k b) (hk : 2 * k ≤ 8999) : (TT (m + 2)).f 21 [F a, F b] s = .ok (F (a * b)) s := by
  rw [tab_call (d := d21) rfl rfl]
  have h := low_ok m (n := a.num * b.num) (k := k + k) s (mulD a b) (ha.2.mul hb.2) (by omega)
  rw [mul_eq] at h
  simp [runD, d21, ex, ev, initE, b_mul (m_nn ha hb (by omega)), b_mul (m_dd ha hb (by omega)), h, popF]
end
end K42
namespace Py
open PySem PySem.Spec PyProof.Rows L2
theorem num_eq (a : Rat) : (a.num : Rat) = a * (a.den : Rat) := by
  have h := Rat.num_divInt_den a
  rw [Rat.divInt_eq_div] at h
  have h2 : ((a.den : Int) : Rat) ≠ 0 := by
    rw [Ne, Rat.intCast_eq_zero_iff]
    have := a.den_nz
    omega
  have h3 := Rat.div_mul_cancel (a := (a.num : Rat)) h2
  rw [h, Rat.intCast_natCast] at h3
  exact h3.symm
theorem den_pos (a : Rat) : (0 : Rat) < (a.den : Rat) := by
  rw [Rat.natCast_pos]
  exact a.den_pos
def an (a b : Rat) : Int := b.num * a.den - a.num * b.den
def ad (a b : Rat) : Int := a.den * b.den
theorem an_eq (a b : Rat) : ((an a b : Int) : Rat) = (b - a) * (ad a b : Int) := by
  unfold an ad
  simp only [Rat.intCast_sub, Rat.intCast_mul, Rat.intCast_natCast, num_eq]
  grind
theorem ad_pos (a b : Rat) : (0 : Rat) < ((ad a b : Int) : Rat) := by
  unfold ad
  simp only [Rat.intCast_mul, Rat.intCast_natCast]
  exact Rat.mul_pos (den_pos a) (den_pos b)
def sg (x : Rat) : Int := if 0 < x then 1 else if x < 0 then -1 else 0
theorem sg_eq {N : Int} {x K : Rat} (h : (N : Rat) = x * K) (hK : 0 < K) : ((if N > 0 then 1 else 0) - (if N < 0 then 1 else 0) : Int) = sg x := by
  have h1 : N > 0 ↔ 0 < x := by
    rw [gt_iff_lt, ← Rat.intCast_pos, h, Rat.mul_pos_iff_of_pos_right hK]
  have h2 : N < 0 ↔ x < 0 := by
    rw [← Rat.intCast_neg_iff, h, Rat.mul_neg_iff_of_pos_right hK]
  unfold sg
  simp only [h1, h2]
  split
  · rename_i h
    have : ¬ x < 0 := by grind
    simp [this]
  · split <;> simp
def cr (p q r : Rat × Rat) : Rat := (q.1 - p.1) * (r.2 - p.2) - (q.2 - p.2) * (r.1 - p.1)
def dt (p q r : Rat × Rat) : Rat := (q.1 - p.1) * (r.1 - p.1) + (q.2 - p.2) * (r.2 - p.2)
section
variable {A0 A1 B0 B1 C0 C1 D0 D1 : Int} {a b c d : Rat} (hA : (A0 : Rat) = a * A1) (hB : (B0 : Rat) = b * B1) (hC : (C0 : Rat) = c * C1) (hD : (D0 : Rat) = d * D1)
  (pA : 0 < (A1 : Rat)) (pB : 0 < (B1 : Rat)) (pC : 0 < (C1 : Rat)) (pD : 0 < (D1 : Rat))
include hA hB hC hD pA pB pC pD
theorem hand_abs : ((if A0 * D0 * B1 * C1 - B0 * C0 * A1 * D1 > 0 then 1 else 0) - (if A0 * D0 * B1 * C1 - B0 * C0 * A1 * D1 < 0 then 1 else 0) : Int) = sg (a * d - b * c) := by
  refine sg_eq (K := (A1 : Rat) * D1 * B1 * C1) ?_ (Rat.mul_pos (Rat.mul_pos (Rat.mul_pos pA pD) pB) pC)
  simp only [Rat.intCast_sub, Rat.intCast_mul, hA, hB, hC, hD]
  grind
theorem tog_abs : ((if A0 * C0 * B1 * D1 + B0 * D0 * A1 * C1 > 0 then 1 else 0) - (if A0 * C0 * B1 * D1 + B0 * D0 * A1 * C1 < 0 then 1 else 0) : Int) = sg (a * c + b * d) := by
  refine sg_eq (K := (A1 : Rat) * D1 * B1 * C1) ?_ (Rat.mul_pos (Rat.mul_pos (Rat.mul_pos pA pD) pB) pC)
  simp only [Rat.intCast_add, Rat.intCast_mul, hA, hB, hC, hD]
  grind
end
theorem hand_sg (p q r : Rat × Rat) : ((if an p.1 q.1 * an p.2 r.2 * ad p.2 q.2 * ad p.1 r.1 - an p.2 q.2 * an p.1 r.1 * ad p.1 q.1 * ad p.2 r.2 > 0 then 1 else 0) -
    (if an p.1 q.1 * an p.2 r.2 * ad p.2 q.2 * ad p.1 r.1 - an p.2 q.2 * an p.1 r.1 * ad p.1 q.1 * ad p.2 r.2 < 0 then 1 else 0) : Int) = sg (cr p q r) :=
  hand_abs (an_eq _ _) (an_eq _ _) (an_eq _ _) (an_eq _ _) (ad_pos _ _) (ad_pos _ _) (ad_pos _ _) (ad_pos _ _)
theorem tog_sg (p q r : Rat × Rat) : ((if an p.1 q.1 * an p.1 r.1 * ad p.2 q.2 * ad p.2 r.2 + an p.2 q.2 * an p.2 r.2 * ad p.1 q.1 * ad p.1 r.1 > 0 then 1 else 0) -
    (if an p.1 q.1 * an p.1 r.1 * ad p.2 q.2 * ad p.2 r.2 + an p.2 q.2 * an p.2 r.2 * ad p.1 q.1 * ad p.1 r.1 < 0 then 1 else 0) : Int) = sg (dt p q r) :=
  tog_abs (an_eq _ _) (an_eq _ _) (an_eq _ _) (an_eq _ _) (ad_pos _ _) (ad_pos _ _) (ad_pos _ _) (ad_pos _ _)
/-! ### comparisons -/
theorem eqvI (i j : Int) : PyData.eqv (.int i) (.int j) = decide (i = j) := by
  unfold PyData.eqv
  rw [Bool.eq_iff_iff]
  simp
@[simp] theorem pdI (s : Sto) (i : Int) : pd deep s (.int i) = some (.int i) := by simp [pd, deep]
def pF (a : Rat) : PyData := .tuple [.int a.num, .int a.den]
def pP (p : Rat × Rat) : PyData := .tuple [pF p.1, pF p.2]
@[simp] theorem pdF (s : Sto) (a : Rat) : pd deep s (F a) = some (pF a) := by simp [F, pF, pd, pds, deep]
@[simp] theorem pdP (s : Sto) (p : Rat × Rat) : pd deep s (Pt p) = some (pP p) := by simp [Pt, pP, F, pF, pd, pds, deep]
theorem rat_eq {a b : Rat} : a = b ↔ a.num = b.num ∧ (a.den : Int) = b.den := by
  constructor
  · rintro rfl; exact ⟨rfl, rfl⟩
  · rintro ⟨h1, h2⟩
    exact Rat.ext h1 (by omega)
theorem eqvF (a b : Rat) : PyData.eqv (pF a) (pF b) = decide (a = b) := by
  rw [Bool.eq_iff_iff, decide_eq_true_eq, rat_eq]
  simp [pF, PyData.eqv, PyData.eqvAll]
theorem eqvP (p q : Rat × Rat) : PyData.eqv (pP p) (pP q) = decide (p = q) := by
  rw [Bool.eq_iff_iff, decide_eq_true_eq, Prod.ext_iff]
  simp [pP, PyData.eqv, PyData.eqvAll, eqvF]
@[simp] theorem c_eqI (s : Sto) (i j : Int) : cmpR .eq s (.int i) (.int j) = .ok (.bl (decide (i = j))) s := by simp [cmpR, eqB, okB, eqvI]
@[simp] theorem c_neI (s : Sto) (i j : Int) : cmpR .ne s (.int i) (.int j) = .ok (.bl (!decide (i = j))) s := by simp [cmpR, eqB, okB, eqvI]
@[simp] theorem c_neF (s : Sto) (a b : Rat) : cmpR .ne s (F a) (F b) = .ok (.bl (!decide (a = b))) s := by simp [cmpR, eqB, okB, eqvF]
@[simp] theorem c_eqF (s : Sto) (a b : Rat) : cmpR .eq s (F a) (F b) = .ok (.bl (decide (a = b))) s := by simp [cmpR, eqB, okB, eqvF]
end Py
namespace K42
open PySem PySem.Spec PyProof.Rows L2 Py
theorem sl2 : (2 : Nat) ≤ sizeLine := by decide
theorem sl1 : (1 : Nat) ≤ sizeLine := by decide
theorem sl3 : (3 : Nat) ≤ sizeLine := by decide
theorem sl4 : (4 : Nat) ≤ sizeLine := by decide
theorem sl0 : (0 : Nat) ≤ sizeLine := by decide
def Ap (a b : Rat) : D := .tup [.int (an a b), .int (ad a b)]
def Wy (p q : Rat × Rat) : D := .tup [Ap p.1 q.1, Ap p.2 q.2]
@[simp] theorem ixA0 (s : Sto) (a b : Rat) : ixR s (Ap a b) (.int 0) = .ok (.int (an a b)) s := ix0 _ _ _
@[simp] theorem ixA1 (s : Sto) (a b : Rat) : ixR s (Ap a b) (.int 1) = .ok (.int (ad a b)) s := ix1 _ _ _ _
@[simp] theorem ixW0 (s : Sto) (a b : Rat × Rat) : ixR s (Wy a b) (.int 0) = .ok (Ap a.1 b.1) s := ix0 _ _ _
@[simp] theorem ixW1 (s : Sto) (a b : Rat × Rat) : ixR s (Wy a b) (.int 1) = .ok (Ap a.2 b.2) s := ix1 _ _ _ _
theorem popA {s : Sto} {a b : Rat} {f : D → Sto → Rs D} : popR s s (Ap a b) f = f (Ap a b) s := popR_same (by simp [Ap, frz, frzs, deep])
theorem popW {s : Sto} {a b : Rat × Rat} {f : D → Sto → Rs D} : popR s s (Wy a b) f = f (Wy a b) s := popR_same (by simp [Wy, Ap, frz, frzs, deep])
def SzP (k : Nat) (p : Rat × Rat) : Prop := Sz k p.1 ∧ Sz k p.2
variable {m k : Nat} {a b : Rat} {s : Sto} {p q r : Rat × Rat}
theorem bd_an (ha : Sz k a) (hb : Sz k b) : Bd (2 * k + 1) (an a b) := ((hb.1.mul ha.2).sub' (ha.1.mul hb.2)).mono (by omega)
theorem bd_ad (ha : Sz k a) (hb : Sz k b) : Bd (2 * k) (ad a b) := (ha.2.mul hb.2).mono (by omega)
theorem apart_ok (ha : Sz k a) (hb : Sz k b) (hk : 2 * k ≤ 999999) : (TT (m + 1)).f 6 [F a, F b] s = .ok (Ap a b) s := by
  rw [tab_call (d := d6) rfl rfl]
  have e : Ap a b = .tup [.int (b.num * a.den - a.num * b.den), .int (a.den * b.den)] := rfl
  have := popA (s := s) (a := a) (b := b) (f := .ok)
  rw [e] at this
  simp [runD, d6, ex, ev, initE, b_mul (m_nd ha hb hk), b_mul (m_nd hb ha hk), b_mul (m_dd ha hb hk), sl2, this, e]
theorem lapart_ok (ha : Sz k a) (hb : Sz k b) (hk : 2 * k ≤ 999999) : (TT (m + 1)).f 27 [F a, F b] s = .ok (Ap a b) s := by
  rw [tab_call (d := d27) rfl rfl]
  have e : Ap a b = .tup [.int (b.num * a.den - a.num * b.den), .int (a.den * b.den)] := rfl
  have := popA (s := s) (a := a) (b := b) (f := .ok)
  rw [e] at this
  simp [runD, d27, ex, ev, initE, b_mul (m_nd ha hb hk), b_mul (m_nd hb ha hk), b_mul (m_dd ha hb hk), sl2, this, e]
theorem way_ok (hp : SzP k p) (hq : SzP k q) (hk : 2 * k ≤ 999999) : (TT (m + 2)).f 7 [Pt p, Pt q] s = .ok (Wy p q) s := by
  rw [tab_call (d := d7) rfl rfl]
  have := popW (s := s) (a := p) (b := q) (f := .ok)
  unfold Wy at this ⊢
  simp [runD, d7, ex, ev, initE, apart_ok hp.1 hq.1 hk, apart_ok hp.2 hq.2 hk, sl2, this]
theorem sign_ok (n : Int) : (TT (m + 1)).f 9 [.int n] s = .ok (.int ((if n > 0 then 1 else 0) - (if n < 0 then 1 else 0))) s := by
  rw [tab_call (d := d9) rfl rfl]
  simp [runD, d9, ex, ev, initE, popI]
theorem lsign_ok (n : Int) : (TT (m + 1)).f 22 [.tup [.int n, .int 1]] s = .ok (.int ((if n > 0 then 1 else 0) - (if n < 0 then 1 else 0))) s := by
  rw [tab_call (d := d22) rfl rfl]
  simp [runD, d22, ex, ev, initE, popI]
section
variable {A0 A1 B0 B1 : Int}
theorem m4 {x y z w : Int} {k : Nat} (hx : Bd k x) (hy : Bd k y) (hz : Bd k z) (hw : Bd k w) (hk : 4 * k ≤ 999999) : mulOk x y ∧ mulOk (x * y) z ∧ mulOk (x * y * z) w :=
  ⟨mulOk_bd hx hy (by omega), mulOk_bd (hx.mul hy) hz (by omega), mulOk_bd ((hx.mul hy).mul hz) hw (by omega)⟩
end
theorem hand_ok (hp : SzP k p) (hq : SzP k q) (hr : SzP k r) (hk : k ≤ 100000) : (TT (m + 3)).f 10 [Pt p, Pt q, Pt r] s = .ok (.int (sg (cr p q r))) s := by
  rw [tab_call (d := d10) rfl rfl]
  have b1 := bd_an hp.1 hq.1
  have b2 := bd_an hp.2 hq.2
  have b3 := bd_an hp.1 hr.1
  have b4 := bd_an hp.2 hr.2
  have c1 := (bd_ad hp.1 hq.1).mono (b := 2 * k + 1) (by omega)
  have c2 := (bd_ad hp.2 hq.2).mono (b := 2 * k + 1) (by omega)
  have c3 := (bd_ad hp.1 hr.1).mono (b := 2 * k + 1) (by omega)
  have c4 := (bd_ad hp.2 hr.2).mono (b := 2 * k + 1) (by omega)
  obtain ⟨x1, x2, x3⟩ := m4 b1 b4 c2 c3 (by omega)
  obtain ⟨y1, y2, y3⟩ := m4 b2 b3 c1 c4 (by omega)
  have h := sign_ok (m := m + 1) (s := s) (an p.1 q.1 * an p.2 r.2 * ad p.2 q.2 * ad p.1 r.1 - an p.2 q.2 * an p.1 r.1 * ad p.1 q.1 * ad p.2 r.2)
  rw [hand_sg] at h
  have w1 := way_ok (m := m) (s := s) hp hq (by omega)
  have w2 := way_ok (m := m) (s := s) hp hr (by omega)
  have e : ∀ p q, Wy p q = .tup [Ap p.1 q.1, Ap p.2 q.2] := fun _ _ => rfl
  rw [e] at w1 w2
  simp [runD, d10, ex, ev, initE, w1, w2, fitsT, asgT, b_mul x1, b_mul x2, b_mul x3, b_mul y1, b_mul y2, b_mul y3, h, popI]
theorem together_ok (hp : SzP k p) (hq : SzP k q) (hr : SzP k r) (hk : k ≤ 100000) : (TT (m + 3)).f 11 [Pt p, Pt q, Pt r] s = .ok (.int (sg (dt p q r))) s := by
  rw [tab_call (d := d11) rfl rfl]
  have b1 := bd_an hp.1 hq.1
  have b2 := bd_an hp.2 hq.2
  have b3 := bd_an hp.1 hr.1
  have b4 := bd_an hp.2 hr.2
  have c1 := (bd_ad hp.1 hq.1).mono (b := 2 * k + 1) (by omega)
  have c2 := (bd_ad hp.2 hq.2).mono (b := 2 * k + 1) (by omega)
  have c3 := (bd_ad hp.1 hr.1).mono (b := 2 * k + 1) (by omega)
  have c4 := (bd_ad hp.2 hr.2).mono (b := 2 * k + 1) (by omega)
  obtain ⟨x1, x2, x3⟩ := m4 b1 b3 c2 c4 (by omega)
  obtain ⟨y1, y2, y3⟩ := m4 b2 b4 c1 c3 (by omega)
  have h := sign_ok (m := m + 1) (s := s) (an p.1 q.1 * an p.1 r.1 * ad p.2 q.2 * ad p.2 r.2 + an p.2 q.2 * an p.2 r.2 * ad p.1 q.1 * ad p.1 r.1)
  rw [tog_sg] at h
  have w1 := way_ok (m := m) (s := s) hp hq (by omega)
  have w2 := way_ok (m := m) (s := s) hp hr (by omega)
  have e : ∀ p q, Wy p q = .tup [Ap p.1 q.1, Ap p.2 q.2] := fun _ _ => rfl
  rw [e] at w1 w2
  simp [runD, d11, ex, ev, initE, w1, w2, fitsT, asgT, b_mul x1, b_mul x2, b_mul x3, b_mul y1, b_mul y2, b_mul y3, h, popI]
theorem lhand_ok (hp : SzP k p) (hq : SzP k q) (hr : SzP k r) (hk : k ≤ 100000) : (TT (m + 2)).f 28 [Pt p, Pt q, Pt r] s = .ok (.int (sg (cr p q r))) s := by
  rw [tab_call (d := d28) rfl rfl]
  have b1 := bd_an hp.1 hq.1
  have b2 := bd_an hp.2 hq.2
  have b3 := bd_an hp.1 hr.1
  have b4 := bd_an hp.2 hr.2
  have c1 := (bd_ad hp.1 hq.1).mono (b := 2 * k + 1) (by omega)
  have c2 := (bd_ad hp.2 hq.2).mono (b := 2 * k + 1) (by omega)
  have c3 := (bd_ad hp.1 hr.1).mono (b := 2 * k + 1) (by omega)
  have c4 := (bd_ad hp.2 hr.2).mono (b := 2 * k + 1) (by omega)
  obtain ⟨x1, x2, x3⟩ := m4 b1 b4 c2 c3 (by omega)
  obtain ⟨y1, y2, y3⟩ := m4 b2 b3 c1 c4 (by omega)
  have h := lsign_ok (m := m) (s := s) (an p.1 q.1 * an p.2 r.2 * ad p.2 q.2 * ad p.1 r.1 - an p.2 q.2 * an p.1 r.1 * ad p.1 q.1 * ad p.2 r.2)
  rw [hand_sg] at h
  simp [runD, d28, ex, ev, initE, lapart_ok hp.1 hq.1 (by omega : 2 * k ≤ 999999), lapart_ok hp.2 hq.2 (by omega : 2 * k ≤ 999999), lapart_ok hp.1 hr.1 (by omega : 2 * k ≤ 999999), lapart_ok hp.2 hr.2 (by omega : 2 * k ≤ 999999), fitsT, asgT, b_mul x1, b_mul x2, b_mul x3, b_mul y1, b_mul y2, b_mul y3, sl2, h, popI]
end K42
namespace Py
open PySem PySem.Spec PyProof.Rows L2
@[simp] theorem sg_zero {x : Rat} : sg x = 0 ↔ x = 0 := by
  unfold sg
  constructor
  · intro h
    split at h
    · cases h
    · split at h
      · cases h
      · grind
  · rintro rfl
    simp
@[simp] theorem sg_neg {x : Rat} : sg x < 0 ↔ x < 0 := by
  unfold sg
  constructor
  · intro h
    split at h
    · omega
    · split at h
      · assumption
      · omega
  · intro h
    have h1 : ¬ 0 < x := by grind
    simp [h, h1]
theorem sg_mul (x y : Rat) : sg x * sg y = sg (x * y) := by
  unfold sg
  by_cases h1 : 0 < x
  · have e1 : ¬ x < 0 := by grind
    have a : 0 < x * y ↔ 0 < y := Rat.mul_pos_iff_of_pos_left h1
    have b : x * y < 0 ↔ y < 0 := Rat.mul_neg_iff_of_pos_left h1
    simp [h1, a, b]
  · by_cases h2 : x < 0
    · have h3 : 0 < -x := by grind
      have a : 0 < -x * y ↔ 0 < y := Rat.mul_pos_iff_of_pos_left h3
      have b : -x * y < 0 ↔ y < 0 := Rat.mul_neg_iff_of_pos_left h3
      have a' : x * y < 0 ↔ 0 < y := by rw [← a]; grind
      have b' : 0 < x * y ↔ y < 0 := by rw [← b]; grind
      simp only [h1, h2, a', b', if_true, if_false]
      by_cases h4 : 0 < y
      · have : ¬ y < 0 := by grind
        simp [h4, this]
      · by_cases h5 : y < 0 <;> simp [h4, h5]
    · have : x = 0 := by grind
      subst this
      simp
/-- a comprehension that sieves -/
theorem compL_filter {α : Type} (g : α → D) (f : α → Bool) {k : Ik} {src : D} {all : List D} {i : Nat} {e : Sl} {c elt : Sl → Sto → Rs D} {s : Sto} (hi : itemsOf k s src = some all) : ∀ (xs : List α) (acc : List D),
    (∀ x ∈ xs, c (e.set i (some (g x))) s = .ok (.bl (f x)) s ∧ elt (e.set i (some (g x))) s = .ok (g x) s) → acc.length + xs.length ≤ sizeLine →
    compL k src all (.nm i) e c elt (xs.map g) acc s = .ok (acc ++ (xs.filter f).map g) s
  | [], acc, _, _ => by simp [compL, hi]
  | x :: xs, acc, h, hl => by
    obtain ⟨h1, h2⟩ := h x List.mem_cons_self
    simp only [List.length_cons] at hl
    have hs : acc.length < sizeLine := by omega
    cases q : f x with
    | true =>
      have ih := compL_filter g f hi xs (acc ++ [g x]) (fun y hy => h y (List.mem_cons_of_mem _ hy)) (by simp; omega)
      simp [compL, hi, asgC, h1, h2, q, hs, ih]
    | false =>
      have ih := compL_filter g f hi xs acc (fun y hy => h y (List.mem_cons_of_mem _ hy)) (by omega)
      simp [compL, hi, asgC, h1, h2, q, ih]
theorem compL_map {α : Type} (g : α → D) (f : α → D) {k : Ik} {src : D} {all : List D} {i : Nat} {e : Sl} {c elt : Sl → Sto → Rs D} {s : Sto} (hi : itemsOf k s src = some all) : ∀ (xs : List α) (acc : List D),
    (∀ x ∈ xs, c (e.set i (some (g x))) s = .ok (.bl true) s ∧ elt (e.set i (some (g x))) s = .ok (f x) s) → acc.length + xs.length ≤ sizeLine →
    compL k src all (.nm i) e c elt (xs.map g) acc s = .ok (acc ++ xs.map f) s
  | [], acc, _, _ => by simp [compL, hi]
  | x :: xs, acc, h, hl => by
    obtain ⟨h1, h2⟩ := h x List.mem_cons_self
    simp only [List.length_cons] at hl
    have hs : acc.length < sizeLine := by omega
    have ih := compL_map g f hi xs (acc ++ [f x]) (fun y hy => h y (List.mem_cons_of_mem _ hy)) (by simp; omega)
    simp [compL, hi, asgC, h1, h2, hs, ih]
theorem pds_Pt {n : Nat} (s : Sto) : ∀ xs : List (Rat × Rat), pds (n + 3) s (xs.map Pt) = some (xs.map pP)
  | [] => by simp [pds]
  | x :: xs => by
    rw [List.map_cons, List.map_cons, pds, pds_Pt s xs]
    simp [Pt, pP, F, pF, pd, pds]
theorem c_nePts (s : Sto) (xs : List (Rat × Rat)) : cmpR .ne s (.lst (xs.map Pt)) (.lst []) = .ok (.bl (!xs.isEmpty)) s := by
  have h := pds_Pt (n := 5) s xs
  have h1 : pd deep s (.lst (xs.map Pt)) = some (.list (xs.map pP)) := by
    rw [show deep = 8 + 1 from rfl, pd, h]
    rfl
  have h2 : pd deep s (.lst []) = some (.list []) := by simp [pd, pds, deep]
  cases xs with
  | nil => simp [cmpR, eqB, okB, h2, PyData.eqv, PyData.eqvAll]
  | cons x xs => simp only [cmpR, eqB, okB, h1, h2]; simp [PyData.eqv, PyData.eqvAll]
theorem frzs_Pt {n : Nat} (s : Sto) (l : Nat) : ∀ xs : List (Rat × Rat), frzs (n + 3) s l (xs.map Pt) = some (xs.map Pt)
  | [] => by simp [frzs]
  | x :: xs => by
    rw [List.map_cons, frzs, frzs_Pt s l xs]
    simp [Pt, F, frz, frzs]
end Py
namespace K42
open PySem PySem.Spec PyProof.Rows L2 Py
abbrev Pnt := Rat × Rat
def Ti (t : Pnt × Pnt) : D := .tup [Pt t.1, Pt t.2]
@[simp] theorem ixT0 (s : Sto) (t : Pnt × Pnt) : ixR s (Ti t) (.int 0) = .ok (Pt t.1) s := ix0 _ _ _
@[simp] theorem ixT1 (s : Sto) (t : Pnt × Pnt) : ixR s (Ti t) (.int 1) = .ok (Pt t.2) s := ix1 _ _ _ _
def SzT (k : Nat) (t : Pnt × Pnt) : Prop := SzP k t.1 ∧ SzP k t.2
/-- a point lies within a tie -/
def wi (p : Pnt) (t : Pnt × Pnt) : Bool := decide (cr p t.1 t.2 = 0) && decide (dt p t.1 t.2 < 0)
variable {m k : Nat} {a b : Rat} {s : Sto} {p q r : Pnt} {t u : Pnt × Pnt}
theorem within_ok (hp : SzP k p) (ht : SzT k t) (hk : k ≤ 100000) : (TT (m + 4)).f 12 [Pt p, Ti t] s = .ok (.bl (wi p t)) s := by
  rw [tab_call (d := d12) rfl rfl]
  have h1 := hand_ok (m := m) (s := s) hp ht.1 ht.2 hk
  have h2 := together_ok (m := m) (s := s) hp ht.1 ht.2 hk
  by_cases h : cr p t.1 t.2 = 0
  · simp [runD, d12, ex, ev, initE, h1, h2, popB, wi, h]
  · simp [runD, d12, ex, ev, initE, h1, h2, popB, wi, h]
def parted (t u : Pnt × Pnt) : Bool := decide (cr t.1 t.2 u.1 * cr t.1 t.2 u.2 < 0)
theorem sg_bd (x : Rat) : Bd 1 (sg x) := by
  unfold sg Bd
  split
  · decide
  · split <;> decide
theorem m_sg (x y : Rat) : mulOk (sg x) (sg y) := mulOk_bd (sg_bd x) (sg_bd y) (by decide)
theorem parted_ok (ht : SzT k t) (hu : SzT k u) (hk : k ≤ 100000) : (TT (m + 4)).f 14 [Ti t, Ti u] s = .ok (.bl (parted t u)) s := by
  rw [tab_call (d := d14) rfl rfl]
  have h1 := hand_ok (m := m) (s := s) ht.1 ht.2 hu.1 hk
  have h2 := hand_ok (m := m) (s := s) ht.1 ht.2 hu.2 hk
  simp [runD, d14, ex, ev, initE, h1, h2, popB, parted, b_mul (m_sg _ _), sg_mul]
end K42
namespace K42
open PySem PySem.Spec PyProof.Rows L2 Py
variable {m k : Nat} {a b : Rat} {s : Sto} {p q r : Pnt} {t u : Pnt × Pnt}
theorem an_div (a b : Rat) : Rat.divInt (an a b) (Py.ad a b) = b - a := by
  rw [← sub_eq]
  unfold an Py.ad
  rw [Int.mul_comm (b.den : Int)]
theorem ad_ne (a b : Rat) : Py.ad a b ≠ 0 := mulD a b
theorem times_raw {A B C Z : Int} {x y : Rat} (hx : Rat.divInt A B = x) (hy : Rat.divInt C Z = y) (hB : B ≠ 0) (hZ : Z ≠ 0) {k l : Nat} (bA : Bd k A) (bB : Bd k B) (bC : Bd l C) (bZ : Bd l Z) (hk : k + l ≤ 8999) :
    (TT (m + 3)).f 4 [.tup [.int A, .int B], .tup [.int C, .int Z]] s = .ok (F (x * y)) s := by
  rw [tab_call (d := d4) rfl rfl]
  have h := fraction_ok m (n := A * C) (k := k + l) s (Int.mul_ne_zero hB hZ) (bB.mul bZ) (by omega)
  rw [← Rat.divInt_mul_divInt, hx, hy] at h
  simp [runD, d4, ex, ev, initE, b_mul (mulOk_bd bA bC (by omega)), b_mul (mulOk_bd bB bZ (by omega)), h, popF]
theorem Sz.raw {A B C Z : Int} {x y : Rat} (hx : Rat.divInt A B = x) (hy : Rat.divInt C Z = y) (hB : B ≠ 0) (hZ : Z ≠ 0) {k l : Nat} (bA : Bd k A) (bB : Bd k B) (bC : Bd l C) (bZ : Bd l Z) : Sz (k + l) (x * y) := by
  rw [← hx, ← hy, Rat.divInt_mul_divInt]
  exact Sz.of (Int.mul_ne_zero hB hZ) (bA.mul bC) (bB.mul bZ)
/-- the area between two ways -/
def cw (p q r t : Pnt) : Rat := (q.1 - p.1) * (t.2 - r.2) - (q.2 - p.2) * (t.1 - r.1)
theorem crossed_ok {p q r t : Pnt} (hp : SzP k p) (hq : SzP k q) (hr : SzP k r) (ht : SzP k t) (hk : 16 * k + 10 ≤ 8999) : (TT (m + 4)).f 8 [Wy p q, Wy r t] s = .ok (F (cw p q r t)) s ∧ Sz (8 * k + 5) (cw p q r t) := by
  have b1 := bd_an hp.1 hq.1
  have b2 := bd_an hp.2 hq.2
  have b3 := bd_an hr.1 ht.1
  have b4 := bd_an hr.2 ht.2
  have c1 := (bd_ad hp.1 hq.1).mono (b := 2 * k + 1) (by omega)
  have c2 := (bd_ad hp.2 hq.2).mono (b := 2 * k + 1) (by omega)
  have c3 := (bd_ad hr.1 ht.1).mono (b := 2 * k + 1) (by omega)
  have c4 := (bd_ad hr.2 ht.2).mono (b := 2 * k + 1) (by omega)
  have e1 := times_raw (m := m) (s := s) (an_div p.1 q.1) (an_div r.2 t.2) (ad_ne _ _) (ad_ne _ _) b1 c1 b4 c4 (by omega)
  have e2 := times_raw (m := m) (s := s) (an_div p.2 q.2) (an_div r.1 t.1) (ad_ne _ _) (ad_ne _ _) b2 c2 b3 c3 (by omega)
  have z1 := (Sz.raw (an_div p.1 q.1) (an_div r.2 t.2) (ad_ne _ _) (ad_ne _ _) b1 c1 b4 c4).mono (b := 4 * k + 2) (by omega)
  have z2 := (Sz.raw (an_div p.2 q.2) (an_div r.1 t.1) (ad_ne _ _) (ad_ne _ _) b2 c2 b3 c3).mono (b := 4 * k + 2) (by omega)
  have e3 := less_ok (m := m) (s := s) z1 z2 (by omega)
  refine ⟨?_, (Sz.sub z1 z2).mono (by omega)⟩
  rw [tab_call (d := d8) rfl rfl]
  have eA : ∀ a b, (.tup [.int (an a b), .int (Py.ad a b)] : D) = Ap a b := fun _ _ => rfl
  rw [eA, eA] at e1 e2
  simp [runD, d8, ex, ev, initE, e1, e2, e3, popF, cw]
/-- where two lines cross -/
def part (t u : Pnt × Pnt) : Rat := cw t.1 u.1 u.1 u.2 / cw t.1 t.2 u.1 u.2
def xp (t u : Pnt × Pnt) : Pnt := (t.1.1 + part t u * (t.2.1 - t.1.1), t.1.2 + part t u * (t.2.2 - t.1.2))
theorem cross_ok (ht : SzT k t) (hu : SzT k u) (h0 : cw t.1 t.2 u.1 u.2 ≠ 0) (hk : k ≤ 230) : (TT (m + 5)).f 13 [Ti t, Ti u] s = .ok (Pt (xp t u)) s ∧ SzP (36 * k + 23) (xp t u) := by
  obtain ⟨e1, z1⟩ := crossed_ok (m := m) (s := s) ht.1 hu.1 hu.1 hu.2 (by omega)
  obtain ⟨e2, z2⟩ := crossed_ok (m := m) (s := s) ht.1 ht.2 hu.1 hu.2 (by omega)
  have e3 := over_ok (m := m + 1) (s := s) z1 z2 h0 (by omega)
  have z3 := (Sz.div z1 z2 h0).mono (b := 16 * k + 10) (by omega)
  have w1 := way_ok (m := m + 2) (s := s) ht.1 ht.2 (by omega)
  have w2 := way_ok (m := m + 2) (s := s) hu.1 hu.2 (by omega)
  have w3 := way_ok (m := m + 2) (s := s) ht.1 hu.1 (by omega)
  have b1 := bd_an ht.1.1 ht.2.1
  have b2 := bd_an ht.1.2 ht.2.2
  have c1 := (bd_ad ht.1.1 ht.2.1).mono (b := 2 * k + 1) (by omega)
  have c2 := (bd_ad ht.1.2 ht.2.2).mono (b := 2 * k + 1) (by omega)
  have pe : Rat.divInt (part t u).num (part t u).den = part t u := Rat.num_divInt_den _
  have f1 := times_raw (m := m + 1) (s := s) pe (an_div t.1.1 t.2.1) (den_ne _) (ad_ne _ _) z3.1 z3.2 b1 c1 (by omega)
  have f2 := times_raw (m := m + 1) (s := s) pe (an_div t.1.2 t.2.2) (den_ne _) (ad_ne _ _) z3.1 z3.2 b2 c2 (by omega)
  have y1 := (Sz.raw pe (an_div t.1.1 t.2.1) (den_ne _) (ad_ne _ _) z3.1 z3.2 b1 c1).mono (b := 18 * k + 11) (by omega)
  have y2 := (Sz.raw pe (an_div t.1.2 t.2.2) (den_ne _) (ad_ne _ _) z3.1 z3.2 b2 c2).mono (b := 18 * k + 11) (by omega)
  have g1 := plus_ok (m := m + 1) (s := s) (ht.1.1.mono (b := 18 * k + 11) (by omega)) y1 (by omega)
  have g2 := plus_ok (m := m + 1) (s := s) (ht.1.2.mono (b := 18 * k + 11) (by omega)) y2 (by omega)
  refine ⟨?_, (Sz.add (ht.1.1.mono (b := 18 * k + 11) (by omega)) y1).mono (by omega), (Sz.add (ht.1.2.mono (b := 18 * k + 11) (by omega)) y2).mono (by omega)⟩
  rw [tab_call (d := d13) rfl rfl]
  have eA : ∀ a b, (.tup [.int (an a b), .int (Py.ad a b)] : D) = Ap a b := fun _ _ => rfl
  have eF : ∀ q : Rat, (.tup [.int q.num, .int q.den] : D) = F q := fun _ => rfl
  rw [eA, eF] at f1 f2
  have eP : Rs.ok (Pt (xp t u)) s = Rs.ok (D.tup [F (t.1.1 + part t u * (t.2.1 - t.1.1)), F (t.1.2 + part t u * (t.2.2 - t.1.2))]) s := rfl
  have pp : popR s s (D.tup [F (t.1.1 + part t u * (t.2.1 - t.1.1)), F (t.1.2 + part t u * (t.2.2 - t.1.2))]) .ok = _ := popP (s := s) (p := xp t u) (f := .ok)
  rw [eP] at pp ⊢
  have e3' : (tab defs (fun x => none) (m + 4)).f 5 [F (cw t.1 u.1 u.1 u.2), F (cw t.1 t.2 u.1 u.2)] s = Rs.ok (F (part t u)) s := e3
  have w1' : (tab defs (fun x => none) (m + 4)).f 7 [Pt t.1, Pt t.2] s = .ok (Wy t.1 t.2) s := w1
  unfold Ti
  simp [runD, d13, ex, ev, initE, fitsT, asgT, w1, w2, w3, e1, e2, e3', f1, f2, g1, g2, sl2, pp]
end K42
namespace K42
open PySem PySem.Spec PyProof.Rows L2 Py
variable {m k : Nat} {a b : Rat} {s : Sto} {p q r : Pnt} {t u : Pnt × Pnt}
theorem sq_nn (x : Rat) : 0 ≤ x * x := by
  by_cases h : 0 ≤ x
  · exact Rat.mul_nonneg h h
  · have h1 : 0 ≤ -x := by grind
    have := Rat.mul_nonneg h1 h1
    grind
theorem cw_cr (t u : Pnt × Pnt) : cw t.1 t.2 u.1 u.2 = cr t.1 t.2 u.2 - cr t.1 t.2 u.1 := by
  unfold cw cr
  grind
theorem cw_ne (h : parted t u = true) : cw t.1 t.2 u.1 u.2 ≠ 0 := by
  intro e
  rw [cw_cr] at e
  have e1 : cr t.1 t.2 u.2 = cr t.1 t.2 u.1 := by grind
  have h2 : cr t.1 t.2 u.1 * cr t.1 t.2 u.2 < 0 := of_decide_eq_true h
  rw [e1] at h2
  have := sq_nn (cr t.1 t.2 u.1)
  grind
def ends (t u : Pnt × Pnt) : List Pnt := [u.1, u.2].filter (fun p => wi p t) ++ [t.1, t.2].filter (fun p => wi p u)
def overD : D := .tup [.str "over", .non]
def flat (t u : Pnt × Pnt) : Bool := decide (cr t.1 t.2 u.1 = 0) && decide (cr t.1 t.2 u.2 = 0)
def metD (t u : Pnt × Pnt) : D := if flat t u then (if (ends t u).isEmpty then .non else overD) else match ends t u with
  | e :: _ => .tup [.str "touch", Pt e]
  | [] => if parted t u && parted u t then .tup [.str "cross", Pt (xp t u)] else .non
theorem b_addL {s : Sto} {xs ys : List D} (h : xs.length + ys.length ≤ sizeLine) : binR .add s (.lst xs) (.lst ys) = .ok (.lst (xs ++ ys)) s := by
  simp [binR, addR, Py.listOf, h]
theorem popOver {s : Sto} {f : D → Sto → Rs D} : popR s s overD f = f overD s := popR_same (by simp [overD, frz, frzs, deep])
theorem popTag {s : Sto} {x : Str} {p : Pnt} {f : D → Sto → Rs D} : popR s s (.tup [.str x, Pt p]) f = f (.tup [.str x, Pt p]) s := popR_same (by simp [Pt, F, frz, frzs, deep])
theorem filter_le {α : Type} (f g : α → Bool) (a b c d : α) : ([a, b].filter f).length + ([c, d].filter g).length ≤ 4 := by
  have h1 := List.length_filter_le f [a, b]
  have h2 := List.length_filter_le g [c, d]
  simp only [List.length_cons, List.length_nil] at h1 h2
  omega
theorem met_ok (ht : SzT k t) (hu : SzT k u) (hk : k ≤ 230) : (TT (m + 6)).f 15 [Ti t, Ti u] s = .ok (metD t u) s := by
  rw [tab_call (d := d15) rfl rfl]
  have w1 := within_ok (m := m + 1) (s := s) hu.1 ht (by omega)
  have w2 := within_ok (m := m + 1) (s := s) hu.2 ht (by omega)
  have w3 := within_ok (m := m + 1) (s := s) ht.1 hu (by omega)
  have w4 := within_ok (m := m + 1) (s := s) ht.2 hu (by omega)
  have h1 := hand_ok (m := m + 2) (s := s) ht.1 ht.2 hu.1 (by omega)
  have h2 := hand_ok (m := m + 2) (s := s) ht.1 ht.2 hu.2 (by omega)
  have p1 := parted_ok (m := m + 1) (s := s) ht hu (by omega)
  have p2 := parted_ok (m := m + 1) (s := s) hu ht (by omega)
  have iu : itemsOf .plain s (.tup [Ti u]) = some [Pt u.1, Pt u.2] := rfl
  have it : itemsOf .plain s (.tup [Ti t]) = some [Pt t.1, Pt t.2] := rfl
  have s2 : ([] : List D).length + [u.1, u.2].length ≤ sizeLine := sl2
  have cA := fun (c elt : Sl → Sto → Rs D) (h : ∀ x ∈ [u.1, u.2], c ([some (Ti t), some (Ti u), none, none].set 3 (some (Pt x))) s = .ok (.bl (wi x t)) s ∧ elt ([some (Ti t), some (Ti u), none, none].set 3 (some (Pt x))) s = .ok (Pt x) s) =>
    compL_filter (k := .plain) (src := .tup [Ti u]) (i := 3) (e := [some (Ti t), some (Ti u), none, none]) (c := c) (elt := elt) (s := s) Pt (fun p => wi p t) iu [u.1, u.2] [] h sl2
  have cB := fun (c elt : Sl → Sto → Rs D) (h : ∀ x ∈ [t.1, t.2], c ([some (Ti t), some (Ti u), none, none].set 3 (some (Pt x))) s = .ok (.bl (wi x u)) s ∧ elt ([some (Ti t), some (Ti u), none, none].set 3 (some (Pt x))) s = .ok (Pt x) s) =>
    compL_filter (k := .plain) (src := .tup [Ti t]) (i := 3) (e := [some (Ti t), some (Ti u), none, none]) (c := c) (elt := elt) (s := s) Pt (fun p => wi p u) it [t.1, t.2] [] h sl2
  simp only [List.map_cons, List.map_nil] at cA cB
  have ld : ([u.1, u.2].filter (fun p => wi p t)).length + ([t.1, t.2].filter (fun p => wi p u)).length ≤ sizeLine := Nat.le_trans (filter_le _ _ _ _ _ _) sl4
  have ne := c_nePts s (ends t u)
  have ads : binR .add s (.lst (([u.1, u.2].filter (fun p => wi p t)).map Pt)) (.lst (([t.1, t.2].filter (fun p => wi p u)).map Pt)) = .ok (.lst ((ends t u).map Pt)) s := by
    rw [b_addL (by simpa using ld)]
    simp [ends]
  simp only [runD, d15, ex, ev, initE, List.length_cons, List.length_nil, List.map_cons, List.map_nil, Nat.reduceAdd, Nat.reduceSub, List.replicate, List.cons_append, List.nil_append, bind_ok, tupOf_tup, iu, it, wipeD, List.getElem?_cons_zero, List.getElem?_cons_succ, List.set_cons_zero, List.set_cons_succ]
  rw [cA _ _ (by intro x hx; simp only [List.mem_cons, List.not_mem_nil, or_false] at hx; rcases hx with rfl | rfl <;> simp [w1, w2]), bind_ok]
  simp only [newL, bind_ok, Bool.false_eq_true, if_false, it]
  rw [cB _ _ (by intro x hx; simp only [List.mem_cons, List.not_mem_nil, or_false] at hx; rcases hx with rfl | rfl <;> simp [w3, w4]), bind_ok]
  simp only [newL, bind_ok, Bool.false_eq_true, if_false, List.nil_append, ads]
  have eov : ∀ r : Rs D, Rs.bind (Rs.ok (D.tup [.str "over", .non]) s) (fun _ _ => r) = r := fun _ => rfl
  have po := popOver (s := s) (f := .ok)
  unfold overD at po
  unfold metD
  have mp : ∀ (e : Pnt) (es : List Pnt), ixR s (.lst (Pt e :: es.map Pt)) (.int 0) = .ok (Pt e) s := fun e es => ixl0 _ _ _
  have T1 := fun e : Pnt => popTag (s := s) (x := "touch") (p := e) (f := .ok)
  have T2 := popTag (s := s) (x := "cross") (p := xp t u) (f := .ok)
  have hx : parted t u = true → (TT (m + 5)).f 13 [Ti t, Ti u] s = .ok (Pt (xp t u)) s := fun h => (cross_ok ht hu (cw_ne h) hk).1
  have h1' : (tab defs (fun x => none) (m + 5)).f 10 [Pt t.1, Pt t.2, Pt u.1] s = .ok (.int (sg (cr t.1 t.2 u.1))) s := h1
  have h2' : (tab defs (fun x => none) (m + 5)).f 10 [Pt t.1, Pt t.2, Pt u.2] s = .ok (.int (sg (cr t.1 t.2 u.2))) s := h2
  cases hf : flat t u with
  | true =>
    have hf' := hf
    unfold flat at hf'
    simp only [Bool.and_eq_true, decide_eq_true_eq] at hf'
    cases he : ends t u with
    | nil =>
      rw [he] at ne
      simp at ne
      simp [fitsT, asgT, h1', h2', hf', sl2, newL, ne, popN]
    | cons e es =>
      rw [he] at ne
      simp at ne
      simp [fitsT, asgT, h1', h2', hf', sl2, newL, ne, po, overD]
  | false =>
    have hf' : ¬ (cr t.1 t.2 u.1 = 0 ∧ cr t.1 t.2 u.2 = 0) := by
      intro ⟨a, b⟩
      simp [flat, a, b] at hf
    have key : ∀ f : Bool → Sto → Rs D, Tst (Tst (Rs.ok (D.bl (decide (cr t.1 t.2 u.1 = 0))) s) fun k s1 => if k = true then Rs.ok (D.bl (decide (cr t.1 t.2 u.2 = 0))) s1 else Rs.ok (D.bl false) s1) f = f false s := fun f => by
      by_cases a : cr t.1 t.2 u.1 = 0
      · have b : ¬ cr t.1 t.2 u.2 = 0 := fun b => hf' ⟨a, b⟩
        simp [a, b]
      · simp [a]
    have key2 : (if decide (cr t.1 t.2 u.1 = 0) = true then Rs.ok (D.bl (decide (cr t.1 t.2 u.2 = 0))) s else Rs.ok (D.bl false) s) = Rs.ok (D.bl false) s := by
      by_cases a : cr t.1 t.2 u.1 = 0
      · have b : ¬ cr t.1 t.2 u.2 = 0 := fun b => hf' ⟨a, b⟩
        simp [a, b]
      · simp [a]
    simp only [decide_eq_true_eq] at key2
    cases he : ends t u with
    | cons e es =>
      rw [he] at ne
      simp at ne
      simp [fitsT, asgT, h1', h2', key2, sl2, sl0, newL, ne, T1]
    | nil =>
      rw [he] at ne
      simp at ne
      cases hp : parted t u with
      | false =>
        simp [fitsT, asgT, h1', h2', key2, sl2, sl0, newL, ne, p1, hp, popN]
      | true =>
        have hx := hx hp
        cases hq : parted u t with
        | false => simp [fitsT, asgT, h1', h2', key2, sl2, sl0, newL, ne, p1, p2, hp, hq, popN]
        | true => simp [fitsT, asgT, h1', h2', key2, sl2, sl0, newL, ne, p1, p2, hp, hq, hx, T2]
end K42
namespace K42
open PySem PySem.Spec PyProof.Rows L2 Py
variable {m k : Nat} {a b : Rat} {s : Sto} {p q r : Pnt} {t u : Pnt × Pnt}
def ahead (p q : Pnt) : Bool := if p.1 = q.1 then decide (p.2 < q.2) else decide (p.1 < q.1)
theorem ahead_ok (hp : SzP k p) (hq : SzP k q) (hk : k ≤ 100000) : (TT (m + 1)).f 29 [Pt p, Pt q] s = .ok (.bl (ahead p q)) s := by
  rw [tab_call (d := d29) rfl rfl]
  by_cases h : p.1 = q.1
  · simp [runD, d29, ex, ev, initE, h, ahead, b_mul (m_nd hp.2 hq.2 (by omega)), b_mul (m_nd hq.2 hp.2 (by omega)), popB, Rat.lt_iff]
  · simp [runD, d29, ex, ev, initE, h, ahead, b_mul (m_nd hp.1 hq.1 (by omega)), b_mul (m_nd hq.1 hp.1 (by omega)), popB, Rat.lt_iff]
def fi (p q : Pnt) : Pnt := if ahead p q then p else q
def la (p q : Pnt) : Pnt := if ahead p q then q else p
theorem fi_sz (hp : SzP k p) (hq : SzP k q) : SzP k (fi p q) := by
  unfold fi; split <;> assumption
theorem la_sz (hp : SzP k p) (hq : SzP k q) : SzP k (la p q) := by
  unfold la; split <;> assumption
theorem first_ok (hp : SzP k p) (hq : SzP k q) (hk : k ≤ 100000) : (TT (m + 2)).f 30 [Pt p, Pt q] s = .ok (Pt (fi p q)) s := by
  rw [tab_call (d := d30) rfl rfl]
  have h := ahead_ok (m := m) (s := s) hp hq hk
  cases e : ahead p q with
  | true => simp [runD, d30, ex, ev, initE, h, e, fi, popP]
  | false => simp [runD, d30, ex, ev, initE, h, e, fi, popP]
theorem last_ok (hp : SzP k p) (hq : SzP k q) (hk : k ≤ 100000) : (TT (m + 2)).f 31 [Pt p, Pt q] s = .ok (Pt (la p q)) s := by
  rw [tab_call (d := d31) rfl rfl]
  have h := ahead_ok (m := m) (s := s) hp hq hk
  cases e : ahead p q with
  | true => simp [runD, d31, ex, ev, initE, h, e, la, popP]
  | false => simp [runD, d31, ex, ev, initE, h, e, la, popP]
def lw (r : Pnt) (t : Pnt × Pnt) : Bool := decide (cr (fi t.1 t.2) (la t.1 t.2) r = 0) && (ahead (fi t.1 t.2) r && ahead r (la t.1 t.2))
theorem lwithin_ok (hp : SzP k r) (ht : SzT k t) (hk : k ≤ 100000) : (TT (m + 3)).f 32 [Pt r, Ti t] s = .ok (.bl (lw r t)) s := by
  rw [tab_call (d := d32) rfl rfl]
  have h1 := first_ok (m := m) (s := s) ht.1 ht.2 hk
  have h2 := last_ok (m := m) (s := s) ht.1 ht.2 hk
  have h3 := lhand_ok (m := m) (s := s) (fi_sz ht.1 ht.2) (la_sz ht.1 ht.2) hp hk
  have h4 := ahead_ok (m := m + 1) (s := s) (fi_sz ht.1 ht.2) hp hk
  have h5 := ahead_ok (m := m + 1) (s := s) hp (la_sz ht.1 ht.2) hk
  by_cases e1 : cr (fi t.1 t.2) (la t.1 t.2) r = 0
  · cases e2 : ahead (fi t.1 t.2) r with
    | true => simp [runD, d32, ex, ev, initE, h1, h2, h3, h4, h5, e1, e2, lw, popB]
    | false => simp [runD, d32, ex, ev, initE, h1, h2, h3, h4, h5, e1, e2, lw, popB]
  · simp [runD, d32, ex, ev, initE, h1, h2, h3, h4, h5, e1, lw, popB]
def lov (t u : Pnt × Pnt) : Bool := flat t u && ahead (la (fi t.1 t.2) (fi u.1 u.2)) (fi (la t.1 t.2) (la u.1 u.2))
theorem c_ne00 (s : Sto) (i j : Int) : cmpR .ne s (.lst [.int i, .int j]) (.lst [.int 0, .int 0]) = .ok (.bl (!(decide (i = 0) && decide (j = 0)))) s := by
  have h1 : ∀ i j : Int, pd deep s (.lst [.int i, .int j]) = some (.list [.int i, .int j]) := fun i j => by simp [pd, pds, deep]
  simp [cmpR, eqB, okB, h1, PyData.eqv, PyData.eqvAll]
  rw [Bool.eq_iff_iff]
  simp
theorem lover_ok (ht : SzT k t) (hu : SzT k u) (hk : k ≤ 100000) : (TT (m + 3)).f 33 [Ti t, Ti u] s = .ok (.bl (lov t u)) s := by
  rw [tab_call (d := d33) rfl rfl]
  have h1 := lhand_ok (m := m) (s := s) ht.1 ht.2 hu.1 hk
  have h2 := lhand_ok (m := m) (s := s) ht.1 ht.2 hu.2 hk
  have f1 := first_ok (m := m) (s := s) ht.1 ht.2 hk
  have f2 := first_ok (m := m) (s := s) hu.1 hu.2 hk
  have l1 := last_ok (m := m) (s := s) ht.1 ht.2 hk
  have l2 := last_ok (m := m) (s := s) hu.1 hu.2 hk
  have g1 := last_ok (m := m) (s := s) (fi_sz ht.1 ht.2) (fi_sz hu.1 hu.2) hk
  have g2 := first_ok (m := m) (s := s) (la_sz ht.1 ht.2) (la_sz hu.1 hu.2) hk
  have g3 := ahead_ok (m := m + 1) (s := s) (la_sz (fi_sz ht.1 ht.2) (fi_sz hu.1 hu.2)) (fi_sz (la_sz ht.1 ht.2) (la_sz hu.1 hu.2)) hk
  have iu : itemsOf .plain s (.tup [Ti u]) = some [Pt u.1, Pt u.2] := rfl
  have cA := fun (c elt : Sl → Sto → Rs D) (h : ∀ x ∈ [u.1, u.2], c ([some (Ti t), some (Ti u), none, none].set 3 (some (Pt x))) s = .ok (.bl true) s ∧ elt ([some (Ti t), some (Ti u), none, none].set 3 (some (Pt x))) s = .ok (.int (sg (cr t.1 t.2 x))) s) =>
    compL_map (k := .plain) (src := .tup [Ti u]) (i := 3) (e := [some (Ti t), some (Ti u), none, none]) (c := c) (elt := elt) (s := s) Pt (fun x => .int (sg (cr t.1 t.2 x))) iu [u.1, u.2] [] h sl2
  simp only [List.map_cons, List.map_nil] at cA
  simp only [runD, d33, ex, ev, initE, List.length_cons, List.length_nil, List.map_cons, List.map_nil, Nat.reduceAdd, Nat.reduceSub, List.replicate, List.cons_append, List.nil_append, bind_ok, tupOf_tup, iu, wipeD, List.getElem?_cons_zero, List.getElem?_cons_succ, List.set_cons_zero, List.set_cons_succ]
  rw [cA _ _ (by intro x hx; simp only [List.mem_cons, List.not_mem_nil, or_false] at hx; rcases hx with rfl | rfl <;> simp [h1, h2]), bind_ok]
  have nn := c_ne00 s (sg (cr t.1 t.2 u.1)) (sg (cr t.1 t.2 u.2))
  cases hf : flat t u with
  | true =>
    have hf' := hf
    unfold flat at hf'
    simp only [Bool.and_eq_true, decide_eq_true_eq] at hf'
    simp [hf'] at nn
    simp [newL, sl2, nn, hf', f1, f2, l1, l2, g1, g2, g3, fitsT, asgT, lov, hf, popB]
  | false =>
    have hf' : (decide (cr t.1 t.2 u.1 = 0) && decide (cr t.1 t.2 u.2 = 0)) = false := hf
    simp only [sg_zero, hf'] at nn
    simp [newL, sl2, nn, lov, hf, popB]
theorem lcrossed_ok (ht : SzT k t) (hu : SzT k u) (hk : k ≤ 100000) : (TT (m + 3)).f 34 [Ti t, Ti u] s = .ok (.bl (parted t u && parted u t)) s := by
  rw [tab_call (d := d34) rfl rfl]
  have h1 := lhand_ok (m := m) (s := s) ht.1 ht.2 hu.1 hk
  have h2 := lhand_ok (m := m) (s := s) ht.1 ht.2 hu.2 hk
  have h3 := lhand_ok (m := m) (s := s) hu.1 hu.2 ht.1 hk
  have h4 := lhand_ok (m := m) (s := s) hu.1 hu.2 ht.2 hk
  have sge : ∀ x : Rat, (sg x ≥ 0) ↔ ¬ x < 0 := fun x => by rw [← sg_neg]; omega
  by_cases e1 : cr t.1 t.2 u.1 * cr t.1 t.2 u.2 < 0
  · simp [runD, d34, ex, ev, initE, h1, h2, h3, h4, popB, parted, b_mul (m_sg _ _), sg_mul, sge, e1]
  · simp [runD, d34, ex, ev, initE, h1, h2, h3, h4, popB, parted, b_mul (m_sg _ _), sg_mul, sge, e1]
end K42
namespace K42
open PySem PySem.Spec PyProof.Rows L2 Py
variable {m k : Nat} {a b : Rat} {s : Sto} {p q r : Pnt} {t u : Pnt × Pnt}
def lends (t u : Pnt × Pnt) : List Pnt := [u.1, u.2].filter (fun p => lw p t) ++ [t.1, t.2].filter (fun p => lw p u)
def due (t u : Pnt × Pnt) : D := if lov t u then overD else match lends t u with
  | e :: _ => .tup [.str "touch", Pt e]
  | [] => if parted t u && parted u t then .str "cross" else .non
theorem due_ok (ht : SzT k t) (hu : SzT k u) (hk : k ≤ 100000) : (TT (m + 4)).f 35 [Ti t, Ti u] s = .ok (due t u) s := by
  rw [tab_call (d := d35) rfl rfl]
  have w1 := lwithin_ok (m := m) (s := s) hu.1 ht (by omega)
  have w2 := lwithin_ok (m := m) (s := s) hu.2 ht (by omega)
  have w3 := lwithin_ok (m := m) (s := s) ht.1 hu (by omega)
  have w4 := lwithin_ok (m := m) (s := s) ht.2 hu (by omega)
  have h1 := lover_ok (m := m) (s := s) ht hu (by omega)
  have h2 := lcrossed_ok (m := m) (s := s) ht hu (by omega)
  have iu : itemsOf .plain s (.tup [Ti u]) = some [Pt u.1, Pt u.2] := rfl
  have it : itemsOf .plain s (.tup [Ti t]) = some [Pt t.1, Pt t.2] := rfl
  have po := popOver (s := s) (f := .ok)
  unfold due
  cases hov : lov t u with
  | true => unfold overD at po ⊢; simp [runD, d35, ex, ev, initE, h1, hov, sl2, po]
  | false =>
    have cA := fun (c elt : Sl → Sto → Rs D) (h : ∀ x ∈ [u.1, u.2], c ([some (Ti t), some (Ti u), none, none].set 3 (some (Pt x))) s = .ok (.bl (lw x t)) s ∧ elt ([some (Ti t), some (Ti u), none, none].set 3 (some (Pt x))) s = .ok (Pt x) s) =>
      compL_filter (k := .plain) (src := .tup [Ti u]) (i := 3) (e := [some (Ti t), some (Ti u), none, none]) (c := c) (elt := elt) (s := s) Pt (fun p => lw p t) iu [u.1, u.2] [] h sl2
    have cB := fun (c elt : Sl → Sto → Rs D) (h : ∀ x ∈ [t.1, t.2], c ([some (Ti t), some (Ti u), none, none].set 3 (some (Pt x))) s = .ok (.bl (lw x u)) s ∧ elt ([some (Ti t), some (Ti u), none, none].set 3 (some (Pt x))) s = .ok (Pt x) s) =>
      compL_filter (k := .plain) (src := .tup [Ti t]) (i := 3) (e := [some (Ti t), some (Ti u), none, none]) (c := c) (elt := elt) (s := s) Pt (fun p => lw p u) it [t.1, t.2] [] h sl2
    simp only [List.map_cons, List.map_nil] at cA cB
    have ld : ([u.1, u.2].filter (fun p => lw p t)).length + ([t.1, t.2].filter (fun p => lw p u)).length ≤ sizeLine := Nat.le_trans (filter_le _ _ _ _ _ _) sl4
    have ne := c_nePts s (lends t u)
    have ads : binR .add s (.lst (([u.1, u.2].filter (fun p => lw p t)).map Pt)) (.lst (([t.1, t.2].filter (fun p => lw p u)).map Pt)) = .ok (.lst ((lends t u).map Pt)) s := by
      rw [b_addL (by simpa using ld)]
      simp [lends]
    have h1' : (tab defs (fun x => none) (m + 3)).f 33 [Ti t, Ti u] s = .ok (.bl false) s := hov ▸ h1
    simp only [runD, d35, ex, ev, initE, List.length_cons, List.length_nil, List.map_cons, List.map_nil, Nat.reduceAdd, Nat.reduceSub, List.replicate, List.cons_append, List.nil_append, bind_ok, tupOf_tup, iu, it, wipeD, List.getElem?_cons_zero, List.getElem?_cons_succ, List.set_cons_zero, List.set_cons_succ, h1', of_ok, nx_next, Bool.false_eq_true, if_false]
    rw [cA _ _ (by intro x hx; simp only [List.mem_cons, List.not_mem_nil, or_false] at hx; rcases hx with rfl | rfl <;> simp [w1, w2]), bind_ok]
    simp only [newL, bind_ok, Bool.false_eq_true, if_false, it]
    rw [cB _ _ (by intro x hx; simp only [List.mem_cons, List.not_mem_nil, or_false] at hx; rcases hx with rfl | rfl <;> simp [w3, w4]), bind_ok]
    simp only [newL, bind_ok, Bool.false_eq_true, if_false, List.nil_append, ads]
    have T1 := fun e : Pnt => popTag (s := s) (x := "touch") (p := e) (f := .ok)
    cases he : lends t u with
    | cons e es =>
      rw [he] at ne
      simp at ne
      simp [fitsT, asgT, sl2, sl0, newL, ne, T1]
    | nil =>
      rw [he] at ne
      simp at ne
      have h2' : (tab defs (fun x => none) (m + 3)).f 34 [Ti t, Ti u] s = .ok (.bl (parted t u && parted u t)) s := h2
      cases hp : (parted t u && parted u t) with
      | false =>
        rw [hp] at h2'
        simp [fitsT, asgT, sl2, sl0, newL, ne, h2', popN]
      | true =>
        rw [hp] at h2'
        simp [fitsT, asgT, sl2, sl0, newL, ne, h2', popS]
theorem isiT_F (s : Sto) (q : Rat) : isiR "tuple" s (F q) = .ok (.bl true) s := by rfl
theorem isiI (s : Sto) (i : Int) : isiR "int" s (.int i) = .ok (.bl true) s := by rfl
theorem isiB (s : Sto) (i : Int) : isiR "bool" s (.int i) = .ok (.bl false) s := by rfl
theorem c_neNil (s : Sto) : cmpR .ne s (.lst []) (.lst []) = .ok (.bl false) s := by simp [cmpR, eqB, okB, pd, pds, deep, PyData.eqv, PyData.eqvAll]
theorem isfrac_ok (hq : Sz k a) (hk : k ≤ 8999) : (TT (m + 2)).f 36 [F a] s = .ok (.bl true) s := by
  rw [tab_call (d := d36) rfl rfl]
  have h1 := low_ok m (n := a.num) (k := k) s (den_ne a) hq.2 hk
  rw [Rat.num_divInt_den] at h1
  have ii : itemsOf .plain s (.tup [F a]) = some [.int a.num, .int a.den] := rfl
  have cA := fun (c elt : Sl → Sto → Rs D) (h : ∀ x ∈ [a.num, (a.den : Int)], c ([some (F a), none].set 1 (some (.int x))) s = .ok (.bl false) s ∧ elt ([some (F a), none].set 1 (some (.int x))) s = .ok (.int x) s) =>
    compL_filter (k := .plain) (src := .tup [F a]) (i := 1) (e := [some (F a), none]) (c := c) (elt := elt) (s := s) D.int (fun _ => false) ii [a.num, (a.den : Int)] [] h sl2
  simp only [List.map_cons, List.map_nil] at cA
  have hl : biR .len s [F a] = .ok (.int 2) s := rfl
  have dp : (0 : Int) < a.den := by have := a.den_pos; omega
  simp only [runD, d36, ex, ev, initE, List.length_cons, List.length_nil, List.map_cons, List.map_nil, Nat.reduceAdd, Nat.reduceSub, List.replicate, List.cons_append, List.nil_append, bind_ok, tupOf_tup, ii, wipeD, List.getElem?_cons_zero, List.getElem?_cons_succ, List.set_cons_zero, List.set_cons_succ, isiT_F, tst_ok, Bool.not_true, Bool.false_eq_true, if_false, hl, c_neI, decide_true]
  rw [cA _ _ (by intro x hx; simp [isiB])]
  have dp2 := a.den_pos
  simp [newL, sl0, c_neNil, isiI, dp2, h1, popB]
theorem c_neD {s : Sto} {a b : D} {x y : PyData} (hx : pd deep s a = some x) (hy : pd deep s b = some y) : cmpR .ne s a b = .ok (.bl (!PyData.eqv x y)) s := by simp [cmpR, eqB, okB, hx, hy]
theorem c_eqD {s : Sto} {a b : D} {x y : PyData} (hx : pd deep s a = some x) (hy : pd deep s b = some y) : cmpR .eq s a b = .ok (.bl (PyData.eqv x y)) s := by simp [cmpR, eqB, okB, hx, hy]
theorem pdStr {s : Sto} {x : Str} (h : strOk x = true) : pd deep s (.str x) = some (.str x) := by simp [pd, deep, h]
theorem pdNon {s : Sto} : pd deep s .non = some .none := by simp [pd, deep]
theorem pdOver {s : Sto} : pd deep s overD = some (.tuple [.str "over", .none]) := by
  have h : strOk "over" = true := by decide +kernel
  simp [overD, pd, pds, deep, h]
theorem pdTag {s : Sto} {x : Str} (h : strOk x = true) : pd deep s (.tup [.str x, Pt p]) = some (.tuple [.str x, pP p]) := by
  simp [pd, pds, deep, h, Pt, pP, F, pF]
/-- what is due is told, and no cross -/
theorem right_same {d : D} {x : PyData} (hd : pd deep s d = some x) (hx : PyData.eqv x (.str "cross") = false) (hr : PyData.eqv x x = true) (ht : D) (hu : D) : (TT (m + 1)).f 37 [ht, hu, d, d] s = .ok (.bl true) s := by
  rw [tab_call (d := d37) rfl rfl]
  have h : strOk "cross" = true := by decide +kernel
  have e1 := c_neD hd (pdStr (s := s) h)
  have e2 := c_eqD hd hd
  rw [hx] at e1
  rw [hr] at e2
  simp [runD, d37, ex, ev, initE, e1, e2, popB]
theorem right_cross (ht : SzT k t) (hu : SzT k u) (hp : SzP k p) (hk : k ≤ 8999) (h1 : lw p t = true) (h2 : lw p u = true) : (TT (m + 4)).f 37 [Ti t, Ti u, .str "cross", .tup [.str "cross", Pt p]] s = .ok (.bl true) s := by
  rw [tab_call (d := d37) rfl rfl]
  have h : strOk "cross" = true := by decide +kernel
  have e1 := c_neD (pdStr (s := s) h) (pdStr (s := s) h)
  have ee : PyData.eqv (.str "cross") (.str "cross") = true := by simp [PyData.eqv]
  rw [ee] at e1
  have w1 := lwithin_ok (m := m) (s := s) hp ht (by omega)
  have w2 := lwithin_ok (m := m) (s := s) hp hu (by omega)
  have f1 := isfrac_ok (m := m + 1) (s := s) hp.1 hk
  have f2 := isfrac_ok (m := m + 1) (s := s) hp.2 hk
  rw [h1] at w1
  rw [h2] at w2
  have i1 : isiR "tuple" s (.tup [.str "cross", Pt p]) = .ok (.bl true) s := rfl
  have i2 : isiR "tuple" s (Pt p) = .ok (.bl true) s := rfl
  have l2 : biR .len s [Pt p] = .ok (.int 2) s := rfl
  simp [runD, d37, ex, ev, initE, e1, i1, i2, l2, f1, f2, w1, w2, popB]
end K42
/-! the plain law -/
namespace K42
open PySem PySem.Spec PyProof.Rows L2 Py
theorem mulneg {x y : Rat} (h : 0 < x) (h2 : x * y < 0) : y < 0 := (Rat.mul_neg_iff_of_pos_left h).mp h2
theorem sq_pos {x : Rat} (h : x ≠ 0) : 0 < x * x := by
  have := sq_nn x
  have h1 : x * x ≠ 0 := fun e => by
    rcases Rat.mul_eq_zero.mp e with e | e <;> exact h e
  grind
theorem prod_pos_iff {x d : Rat} (hd : 0 < d) : 0 < x * (d - x) ↔ 0 < x ∧ x < d := by
  constructor
  · intro h
    by_cases h0 : 0 < x
    · have := (Rat.mul_pos_iff_of_pos_left h0).mp h
      exact ⟨h0, by grind⟩
    · exfalso
      have h1 : 0 ≤ -x := by grind
      have h2 : 0 ≤ d - x := by grind
      have := Rat.mul_nonneg h1 h2
      grind
  · rintro ⟨h1, h2⟩
    exact Rat.mul_pos h1 (by grind)
/-- on a line, between by way of the inner product, or along one axis -/
theorem dt_axis {dx dy x y : Rat} (hd : 0 < dx) (h : dx * y = dy * x) : -(x * (dx - x)) - y * (dy - y) < 0 ↔ 0 < x ∧ x < dx := by
  rw [← prod_pos_iff hd]
  have h1 : (-(x * (dx - x)) - y * (dy - y)) * (dx * dx) = -(x * (dx - x)) * (dx * dx + dy * dy) := by grind
  have h2 : 0 < dx * dx := Rat.mul_pos hd hd
  have h3 : 0 < dx * dx + dy * dy := by have := sq_nn dy; grind
  have a : -(x * (dx - x)) - y * (dy - y) < 0 ↔ (-(x * (dx - x)) - y * (dy - y)) * (dx * dx) < 0 := (Rat.mul_neg_iff_of_pos_right h2).symm
  have b : -(x * (dx - x)) < 0 ↔ -(x * (dx - x)) * (dx * dx + dy * dy) < 0 := (Rat.mul_neg_iff_of_pos_right h3).symm
  rw [a, h1, ← b]
  constructor <;> intro h <;> grind
theorem ahead_iff {p q : Pnt} : ahead p q = true ↔ p.1 < q.1 ∨ (p.1 = q.1 ∧ p.2 < q.2) := by
  unfold ahead
  split
  · rename_i h
    simp only [decide_eq_true_eq]
    constructor
    · intro h2; exact .inr ⟨h, h2⟩
    · rintro (h2 | h2)
      · exfalso; rw [h] at h2; exact Rat.lt_irrefl h2
      · exact h2.2
  · rename_i h
    simp only [decide_eq_true_eq]
    constructor
    · exact .inl
    · rintro (h2 | h2)
      · exact h2
      · exact absurd h2.1 h
theorem ahead_irrefl (p : Pnt) : ahead p p = false := by
  rw [← Bool.not_eq_true, ahead_iff]
  rintro (h | h)
  · exact Rat.lt_irrefl h
  · exact Rat.lt_irrefl h.2
theorem ahead_not {p q : Pnt} (h : p ≠ q) : ahead q p = !ahead p q := by
  rw [Bool.eq_iff_iff, Bool.not_eq_true', ← Bool.not_eq_true, ahead_iff, ahead_iff]
  have hh : ¬ (p.1 = q.1 ∧ p.2 = q.2) := fun e => h (Prod.ext e.1 e.2)
  constructor
  · rintro (h1 | h1) (h2 | h2) <;> grind
  · intro h1
    have h3 : ¬ p.1 < q.1 := fun z => h1 (.inl z)
    by_cases e : p.1 = q.1
    · have h4 : ¬ p.2 < q.2 := fun z => h1 (.inr ⟨e, z⟩)
      refine .inr ⟨e.symm, ?_⟩
      have : p.2 ≠ q.2 := fun z => hh ⟨e, z⟩
      grind
    · exact .inl (by grind)
theorem ahead_trans {p q r : Pnt} (h : ahead p q = true) (h2 : ahead q r = true) : ahead p r = true := by
  rw [ahead_iff] at *
  rcases h with h | h <;> rcases h2 with h2 | h2
  · exact .inl (by grind)
  · exact .inl (by grind)
  · exact .inl (by grind)
  · exact .inr (by grind)
/-- from the lesser to the greater end -/
theorem wi_ahead {r a b : Pnt} (h : ahead a b = true) (hc : cr a b r = 0) : dt r a b < 0 ↔ ahead a r = true ∧ ahead r b = true := by
  rw [ahead_iff] at h
  unfold cr at hc
  have e1 : dt r a b = -((r.1 - a.1) * ((b.1 - a.1) - (r.1 - a.1))) - (r.2 - a.2) * ((b.2 - a.2) - (r.2 - a.2)) := by unfold dt; grind
  have e2 : dt r a b = -((r.2 - a.2) * ((b.2 - a.2) - (r.2 - a.2))) - (r.1 - a.1) * ((b.1 - a.1) - (r.1 - a.1)) := by unfold dt; grind
  rw [ahead_iff, ahead_iff]
  rcases h with h | ⟨h, h'⟩
  · have hd : 0 < b.1 - a.1 := by grind
    rw [e1, dt_axis hd (by grind)]
    constructor
    · rintro ⟨h1, h2⟩
      exact ⟨.inl (by grind), .inl (by grind)⟩
    · have key : ∀ x : Rat, (b.1 - a.1) * x = 0 → x = 0 := fun x hx => by
        rcases Rat.mul_eq_zero.mp hx with z | z
        · grind
        · exact z
      rintro ⟨h1, h2⟩
      constructor
      · rcases h1 with h1 | ⟨h1, h1'⟩
        · grind
        · have := key (r.2 - a.2) (by grind)
          grind
      · rcases h2 with h2 | ⟨h2, h2'⟩
        · grind
        · have := key (r.2 - b.2) (by grind)
          grind
  · have hd : 0 < b.2 - a.2 := by grind
    have hx : r.1 - a.1 = 0 := by
      have : (b.2 - a.2) * (r.1 - a.1) = 0 := by grind
      rcases Rat.mul_eq_zero.mp this with z | z
      · grind
      · exact z
    rw [e2, dt_axis hd (by grind)]
    constructor
    · rintro ⟨h1, h2⟩
      exact ⟨.inr (by grind), .inr (by grind)⟩
    · rintro ⟨h1, h2⟩
      constructor <;> grind
/-- both ways to say that a point lies within a tie -/
theorem wi_lw {r : Pnt} {t : Pnt × Pnt} (h : t.1 ≠ t.2) : wi r t = lw r t := by
  unfold wi lw fi la
  have c1 : cr r t.1 t.2 = cr t.1 t.2 r := by unfold cr; grind
  have c2 : cr t.2 t.1 r = - cr t.1 t.2 r := by unfold cr; grind
  have d2 : dt r t.2 t.1 = dt r t.1 t.2 := by unfold dt; grind
  have nz : ∀ x : Rat, (-x = 0) ↔ x = 0 := fun x => by constructor <;> intro h <;> grind
  cases e : ahead t.1 t.2 with
  | true =>
    simp only [if_true]
    by_cases hc : cr t.1 t.2 r = 0
    · rw [c1]
      have := wi_ahead e hc
      rw [Bool.eq_iff_iff]
      simp [hc, this]
    · simp [c1, hc]
  | false =>
    have e' : ahead t.2 t.1 = true := by rw [ahead_not h, e]; rfl
    simp only [Bool.false_eq_true, if_false]
    by_cases hc : cr t.1 t.2 r = 0
    · have hc' : cr t.2 t.1 r = 0 := by rw [c2, hc]; grind
      have := wi_ahead e' hc'
      rw [d2] at this
      rw [Bool.eq_iff_iff]
      simp [c1, hc, hc', this]
    · have hc' : ¬ cr t.2 t.1 r = 0 := by rw [c2]; grind
      simp [c1, hc, hc']
end K42
namespace K42
open PySem PySem.Spec PyProof.Rows L2 Py
abbrev sw (t : Pnt × Pnt) : Pnt × Pnt := (t.2, t.1)
theorem wi_sw (p : Pnt) (t : Pnt × Pnt) : wi p (sw t) = wi p t := by
  unfold wi sw
  have c : cr p t.2 t.1 = - cr p t.1 t.2 := by unfold cr; grind
  have d : dt p t.2 t.1 = dt p t.1 t.2 := by unfold dt; grind
  have nz : ∀ x : Rat, (-x = 0) ↔ x = 0 := fun x => by constructor <;> intro h <;> grind
  simp [c, d, nz]
theorem nz (x : Rat) : (-x = 0) ↔ x = 0 := by constructor <;> intro h <;> grind
theorem cr_sw (a b r : Pnt) : cr b a r = - cr a b r := by unfold cr; grind
theorem flat_sw1 (t u : Pnt × Pnt) : flat (sw t) u = flat t u := by
  unfold flat sw
  simp only [cr_sw t.1 t.2, nz]
theorem flat_sw2 (t u : Pnt × Pnt) : flat t (sw u) = flat t u := by
  unfold flat sw
  simp only [Bool.and_comm]
theorem flat_iff {t u : Pnt × Pnt} : flat t u = true ↔ cr t.1 t.2 u.1 = 0 ∧ cr t.1 t.2 u.2 = 0 := by simp [flat]
/-- three points with one on the line of a way that is none -/
theorem line3 {A B C : Pnt} (hB : B.1 ≠ 0 ∨ B.2 ≠ 0) (h1 : A.1 * B.2 - A.2 * B.1 = 0) (h2 : B.1 * C.2 - B.2 * C.1 = 0) : A.1 * C.2 - A.2 * C.1 = 0 := by
  rcases hB with h | h
  · have : B.1 * (A.1 * C.2 - A.2 * C.1) = 0 := by grind
    rcases Rat.mul_eq_zero.mp this with z | z
    · exact absurd z h
    · exact z
  · have : B.2 * (A.1 * C.2 - A.2 * C.1) = 0 := by grind
    rcases Rat.mul_eq_zero.mp this with z | z
    · exact absurd z h
    · exact z
theorem ne_axis {p q : Pnt} (h : p ≠ q) : q.1 - p.1 ≠ 0 ∨ q.2 - p.2 ≠ 0 := by
  by_cases h1 : q.1 - p.1 = 0
  · refine .inr fun h2 => h (Prod.ext (by grind) (by grind))
  · exact .inl h1
theorem flat_comm1 {t u : Pnt × Pnt} (ht : t.1 ≠ t.2) (h : flat t u = true) : flat u t = true := by
  rw [flat_iff] at *
  obtain ⟨h1, h2⟩ := h
  unfold cr at h1 h2
  have key := line3 (A := (u.1.1 - t.1.1, u.1.2 - t.1.2)) (B := (t.2.1 - t.1.1, t.2.2 - t.1.2)) (C := (u.2.1 - t.1.1, u.2.2 - t.1.2)) (ne_axis ht) (by simp only; grind) (by simp only; grind)
  simp only at key
  constructor <;> unfold cr <;> grind
theorem flat_comm {t u : Pnt × Pnt} (ht : t.1 ≠ t.2) (hu : u.1 ≠ u.2) : flat u t = flat t u := by
  rw [Bool.eq_iff_iff]
  exact ⟨flat_comm1 hu, flat_comm1 ht⟩
theorem wi_line {p : Pnt} {t : Pnt × Pnt} (h : wi p t = true) : cr p t.1 t.2 = 0 := by
  unfold wi at h
  rw [Bool.and_eq_true] at h
  exact of_decide_eq_true h.1
/-- an end of each within the other: all on one line -/
theorem both_flat {t u : Pnt × Pnt} (hne : t.1 ≠ u.1) (h1 : wi u.1 t = true) (h2 : wi t.1 u = true) : flat t u = true := by
  have a := wi_line h1
  have b := wi_line h2
  unfold cr at a b
  have key := line3 (A := (t.2.1 - t.1.1, t.2.2 - t.1.2)) (B := (u.1.1 - t.1.1, u.1.2 - t.1.2)) (C := (u.2.1 - t.1.1, u.2.2 - t.1.2)) (ne_axis hne) (by simp only; grind) (by simp only; grind)
  simp only at key
  rw [flat_iff]
  constructor <;> unfold cr <;> grind
/-- four unlike points -/
structure Un (t u : Pnt × Pnt) : Prop where
  a : t.1 ≠ t.2
  b : u.1 ≠ u.2
  c : t.1 ≠ u.1
  d : t.1 ≠ u.2
  e : t.2 ≠ u.1
  f : t.2 ≠ u.2
theorem Un.comm {t u : Pnt × Pnt} (h : Un t u) : Un u t := ⟨h.b, h.a, h.c.symm, h.e.symm, h.d.symm, h.f.symm⟩
theorem Un.sw1 {t u : Pnt × Pnt} (h : Un t u) : Un (sw t) u := ⟨h.a.symm, h.b, h.e, h.f, h.c, h.d⟩
theorem Un.sw2 {t u : Pnt × Pnt} (h : Un t u) : Un t (sw u) := ⟨h.a, h.b.symm, h.d, h.c, h.f, h.e⟩
theorem two_flat {t u : Pnt × Pnt} (h1 : wi u.1 t = true) (h2 : wi u.2 t = true) : flat t u = true := by
  have a := wi_line h1
  have b := wi_line h2
  rw [flat_iff]
  unfold cr at *
  constructor <;> grind
theorem ends_le {t u : Pnt × Pnt} (h : Un t u) (hf : flat t u = false) : (ends t u).length ≤ 1 := by
  have n12 : ¬ (wi u.1 t = true ∧ wi u.2 t = true) := fun z => by rw [two_flat z.1 z.2] at hf; cases hf
  have n34 : ¬ (wi t.1 u = true ∧ wi t.2 u = true) := fun z => by
    have := two_flat z.1 z.2
    rw [flat_comm h.a h.b, hf] at this
    cases this
  have n13 : ¬ (wi u.1 t = true ∧ wi t.1 u = true) := fun z => by rw [both_flat h.c z.1 z.2] at hf; cases hf
  have n14 : ¬ (wi u.1 t = true ∧ wi t.2 u = true) := fun z => by
    have := both_flat (t := sw t) (u := u) h.e (by rw [wi_sw]; exact z.1) z.2
    rw [flat_sw1, hf] at this; cases this
  have n23 : ¬ (wi u.2 t = true ∧ wi t.1 u = true) := fun z => by
    have := both_flat (t := t) (u := sw u) h.d z.1 (by rw [wi_sw]; exact z.2)
    rw [flat_sw2, hf] at this; cases this
  have n24 : ¬ (wi u.2 t = true ∧ wi t.2 u = true) := fun z => by
    have := both_flat (t := sw t) (u := sw u) h.f (by rw [wi_sw]; exact z.1) (by rw [wi_sw]; exact z.2)
    rw [flat_sw1, flat_sw2, hf] at this; cases this
  unfold ends
  cases a : wi u.1 t <;> cases b : wi u.2 t <;> cases c : wi t.1 u <;> cases d : wi t.2 u <;> simp_all
theorem ends_comm (t u : Pnt × Pnt) : (ends u t).Perm (ends t u) := by
  unfold ends
  exact List.perm_append_comm
theorem ends_sw1 (t u : Pnt × Pnt) : (ends (sw t) u).Perm (ends t u) := by
  unfold ends
  have e : (fun p => wi p (sw t)) = fun p => wi p t := funext fun p => wi_sw p t
  rw [e]
  exact List.Perm.append_left _ ((List.Perm.swap _ _ _).filter _)
theorem ends_sw2 (t u : Pnt × Pnt) : (ends t (sw u)).Perm (ends t u) := by
  unfold ends
  have e : (fun p => wi p (sw u)) = fun p => wi p u := funext fun p => wi_sw p u
  rw [e]
  exact List.Perm.append_right _ ((List.Perm.swap _ _ _).filter _)
theorem perm_eq {α : Type} {l r : List α} (h : l.Perm r) (hr : r.length ≤ 1) : l = r := by
  cases r with
  | nil => exact h.eq_nil
  | cons x xs =>
    cases xs with
    | nil => exact List.perm_singleton.mp h
    | cons _ _ => simp at hr
theorem isEmpty_perm {α : Type} {l r : List α} (h : l.Perm r) : l.isEmpty = r.isEmpty := by
  have := h.length_eq
  cases l <;> cases r <;> simp_all
theorem parted_sw1 (t u : Pnt × Pnt) : parted (sw t) u = parted t u := by
  unfold parted sw
  simp only [cr_sw t.1 t.2]
  have : -cr t.1 t.2 u.1 * -cr t.1 t.2 u.2 = cr t.1 t.2 u.1 * cr t.1 t.2 u.2 := by grind
  rw [this]
theorem parted_sw2 (t u : Pnt × Pnt) : parted t (sw u) = parted t u := by
  unfold parted sw
  simp only [Rat.mul_comm]
/-! ### the crossing point -/
theorem cancel {d x y : Rat} (hd : d ≠ 0) (h : d * (x - y) = 0) : x = y := by
  rcases Rat.mul_eq_zero.mp h with z | z
  · exact absurd z hd
  · grind
theorem part_eq {t u : Pnt × Pnt} (h : cw t.1 t.2 u.1 u.2 ≠ 0) : part t u * cw t.1 t.2 u.1 u.2 = cw t.1 u.1 u.1 u.2 := Rat.div_mul_cancel h
theorem xp_comm {t u : Pnt × Pnt} (h : cw t.1 t.2 u.1 u.2 ≠ 0) : xp u t = xp t u := by
  have h' : cw u.1 u.2 t.1 t.2 ≠ 0 := by
    intro z
    apply h
    unfold cw at *
    grind
  have e1 := part_eq h
  have e2 := part_eq h'
  unfold xp
  generalize part t u = l at *
  generalize part u t = n at *
  apply Prod.ext <;> simp only <;> apply cancel h <;> unfold cw at * <;> grind
theorem xp_sw1 {t u : Pnt × Pnt} (h : cw t.1 t.2 u.1 u.2 ≠ 0) : xp (sw t) u = xp t u := by
  have h' : cw (sw t).1 (sw t).2 u.1 u.2 ≠ 0 := by
    intro z
    apply h
    unfold cw at *
    grind
  have e1 := part_eq h
  have e2 := part_eq h'
  unfold xp
  generalize part t u = l at *
  generalize part (sw t) u = n at *
  apply Prod.ext <;> simp only <;> apply cancel h <;> unfold cw at * <;> simp only at * <;> grind
theorem metD_comm {t u : Pnt × Pnt} (h : Un t u) : metD u t = metD t u := by
  unfold metD
  rw [flat_comm h.a h.b, isEmpty_perm (ends_comm t u)]
  cases hf : flat t u with
  | true => simp
  | false =>
    rw [perm_eq (ends_comm t u) (ends_le h hf)]
    cases he : ends t u with
    | cons e es => simp
    | nil =>
      simp only [Bool.false_eq_true, if_false, Bool.and_comm (parted u t)]
      cases hp : (parted t u && parted u t) with
      | false => simp
      | true =>
        rw [Bool.and_eq_true] at hp
        rw [xp_comm (cw_ne hp.1)]
theorem metD_sw1 {t u : Pnt × Pnt} (h : Un t u) : metD (sw t) u = metD t u := by
  unfold metD
  rw [flat_sw1, isEmpty_perm (ends_sw1 t u)]
  cases hf : flat t u with
  | true => simp
  | false =>
    rw [perm_eq (ends_sw1 t u) (ends_le h hf)]
    cases he : ends t u with
    | cons e es => simp
    | nil =>
      simp only [Bool.false_eq_true, if_false, parted_sw1, parted_sw2]
      cases hp : (parted t u && parted u t) with
      | false => simp
      | true =>
        rw [Bool.and_eq_true] at hp
        rw [xp_sw1 (cw_ne hp.1)]
theorem metD_sw2 {t u : Pnt × Pnt} (h : Un t u) : metD t (sw u) = metD t u := by
  rw [← metD_comm h.sw2, metD_sw1 h.comm, metD_comm h]
end K42
namespace K42
open PySem PySem.Spec PyProof.Rows L2 Py
theorem lw_flat {r : Pnt} {t : Pnt × Pnt} (hc : cr t.1 t.2 r = 0) : lw r t = (ahead (fi t.1 t.2) r && ahead r (la t.1 t.2)) := by
  unfold lw fi la
  split
  · simp [hc]
  · simp [cr_sw t.1 t.2, hc]
/-- four unlike places in order: the greater of the lesser ends is ahead of the lesser of the greater ends, where one of the four lies between two -/
theorem over_order {t u : Pnt × Pnt} (h : Un t u) :
    ahead (la (fi t.1 t.2) (fi u.1 u.2)) (fi (la t.1 t.2) (la u.1 u.2)) =
    ((ahead (fi t.1 t.2) u.1 && ahead u.1 (la t.1 t.2)) || (ahead (fi t.1 t.2) u.2 && ahead u.2 (la t.1 t.2)) || (ahead (fi u.1 u.2) t.1 && ahead t.1 (la u.1 u.2)) || (ahead (fi u.1 u.2) t.2 && ahead t.2 (la u.1 u.2))) := by
  obtain ⟨a, b⟩ := t
  obtain ⟨c, d⟩ := u
  have n1 := ahead_not h.a
  have n2 := ahead_not h.b
  have n3 := ahead_not h.c
  have n4 := ahead_not h.d
  have n5 := ahead_not h.e
  have n6 := ahead_not h.f
  have tr : ∀ p q r : Pnt, ahead p q = true → ahead q r = true → ahead p r = true := fun p q r => ahead_trans
  have ir := ahead_irrefl
  simp only at *
  unfold la fi
  cases e1 : ahead a b <;> cases e2 : ahead c d <;> cases e3 : ahead a c <;> cases e4 : ahead a d <;> cases e5 : ahead b c <;> cases e6 : ahead b d <;> simp [e1, e2, e3, e4, e5, e6, n1, n2, n3, n4, n5, n6, ir] <;> grind
theorem lov_eq {t u : Pnt × Pnt} (h : Un t u) : lov t u = (flat t u && !(ends t u).isEmpty) := by
  unfold lov
  cases hf : flat t u with
  | false => simp
  | true =>
    have f1 := flat_iff.mp hf
    have f2 := flat_iff.mp (flat_comm1 h.a hf)
    simp only [Bool.true_and]
    rw [over_order h, ← lw_flat f1.1, ← lw_flat f1.2, ← lw_flat f2.1, ← lw_flat f2.2]
    unfold ends
    rw [← wi_lw h.a, ← wi_lw h.a, ← wi_lw h.b, ← wi_lw h.b]
    cases a : wi u.1 t <;> cases b : wi u.2 t <;> cases c : wi t.1 u <;> cases d : wi t.2 u <;> simp [a, b, c, d]
theorem lends_eq {t u : Pnt × Pnt} (h : Un t u) : lends t u = ends t u := by
  unfold lends ends
  have e1 : (fun p => lw p t) = fun p => wi p t := funext fun p => (wi_lw h.a).symm
  have e2 : (fun p => lw p u) = fun p => wi p u := funext fun p => (wi_lw h.b).symm
  rw [e1, e2]
/-- the crossing point lies within the first tie -/
theorem xp_wi {t u : Pnt × Pnt} (h : Un t u) (h2 : parted u t = true) : wi (xp t u) t = true := by
  have hn : cw t.1 t.2 u.1 u.2 ≠ 0 := by
    have := cw_ne h2
    intro z
    apply this
    unfold cw at *
    grind
  have e1 := part_eq hn
  have hp : cr u.1 u.2 t.1 * cr u.1 u.2 t.2 < 0 := of_decide_eq_true h2
  have n1 : cw t.1 u.1 u.1 u.2 = cr u.1 u.2 t.1 := by unfold cw cr; grind
  have n2 : cw t.1 t.2 u.1 u.2 = cr u.1 u.2 t.1 - cr u.1 u.2 t.2 := by unfold cw cr; grind
  rw [n1, n2] at e1
  rw [n2] at hn
  generalize hE : cr u.1 u.2 t.1 = E at *
  generalize hG : cr u.1 u.2 t.2 = G at *
  -- the part is between 0 and 1
  have sq : 0 < (E - G) * (E - G) := sq_pos hn
  have l1 : 0 < part t u * (1 - part t u) := by
    have : part t u * (1 - part t u) * ((E - G) * (E - G)) = - (E * G) := by
      generalize part t u = l at *
      grind
    have pos : 0 < part t u * (1 - part t u) * ((E - G) * (E - G)) := by rw [this]; grind
    exact (Rat.mul_pos_iff_of_pos_right sq).mp pos
  have A : 0 < (t.2.1 - t.1.1) * (t.2.1 - t.1.1) + (t.2.2 - t.1.2) * (t.2.2 - t.1.2) := by
    have s1 := sq_nn (t.2.1 - t.1.1)
    have s2 := sq_nn (t.2.2 - t.1.2)
    rcases ne_axis h.a with z | z
    · have := sq_pos z
      grind
    · have := sq_pos z
      grind
  unfold wi
  rw [Bool.and_eq_true]
  constructor
  · rw [decide_eq_true_eq]
    unfold xp cr
    simp only
    grind
  · rw [decide_eq_true_eq]
    have e : dt (xp t u) t.1 t.2 = -((part t u * (1 - part t u)) * ((t.2.1 - t.1.1) * (t.2.1 - t.1.1) + (t.2.2 - t.1.2) * (t.2.2 - t.1.2))) := by
      unfold dt xp
      simp only
      grind
    have := Rat.mul_pos l1 A
    rw [e]
    grind
theorem xp_wi2 {t u : Pnt × Pnt} (h : Un t u) (h1 : parted t u = true) (h2 : parted u t = true) : wi (xp t u) u = true := by
  rw [← xp_comm (cw_ne h1)]
  exact xp_wi h.comm h1
theorem eqv_tag (x : Str) (p : Pnt) : PyData.eqv (.tuple [.str x, pP p]) (.tuple [.str x, pP p]) = true := by
  simp [PyData.eqv, PyData.eqvAll, eqvP]
variable {m k : Nat} {s : Sto} {t u : Pnt × Pnt}
/-- what is told is right -/
theorem right_ok (h : Un t u) (ht : SzT k t) (hu : SzT k u) (hk : k ≤ 230) : (TT (m + 4)).f 37 [Ti t, Ti u, due t u, metD t u] s = .ok (.bl true) s := by
  have oT : strOk "touch" = true := by decide +kernel
  unfold due metD
  rw [lov_eq h, lends_eq h]
  cases hf : flat t u with
  | true =>
    cases he : ends t u with
    | cons e es =>
      simp only [List.isEmpty_cons, Bool.not_false, Bool.and_true, if_true, Bool.false_eq_true, if_false]
      exact right_same pdOver (by simp [PyData.eqv]) (by simp [PyData.eqv, PyData.eqvAll]) _ _
    | nil =>
      have f1 := flat_iff.mp hf
      have : parted t u = false := by
        unfold parted
        rw [f1.1]
        simp
      simp only [List.isEmpty_nil, Bool.not_true, Bool.and_false, if_true, Bool.false_eq_true, if_false, this, Bool.false_and]
      exact right_same pdNon (by simp [PyData.eqv]) (by simp [PyData.eqv]) _ _
  | false =>
    simp only [Bool.false_and, Bool.false_eq_true, if_false]
    cases he : ends t u with
    | cons e es =>
      simp only
      exact right_same (pdTag oT) (by simp [PyData.eqv]) (eqv_tag _ _) _ _
    | nil =>
      simp only
      cases hp : (parted t u && parted u t) with
      | false =>
        simp only [Bool.false_eq_true, if_false]
        exact right_same pdNon (by simp [PyData.eqv]) (by simp [PyData.eqv]) _ _
      | true =>
        simp only [if_true]
        rw [Bool.and_eq_true] at hp
        have a := xp_wi h hp.2
        have b := xp_wi2 h hp.1 hp.2
        rw [wi_lw h.a] at a
        rw [wi_lw h.b] at b
        have z := (cross_ok (m := 0) (s := s) ht hu (cw_ne hp.1) hk).2
        exact right_cross (k := 36 * k + 23) ⟨ht.1.1.mono (by omega) |> (⟨·, ht.1.2.mono (by omega)⟩), ⟨ht.2.1.mono (by omega), ht.2.2.mono (by omega)⟩⟩ ⟨⟨hu.1.1.mono (by omega), hu.1.2.mono (by omega)⟩, ⟨hu.2.1.mono (by omega), hu.2.2.mono (by omega)⟩⟩ z (by omega) a b
/-- what is told is data -/
theorem metD_pd (t u : Pnt × Pnt) : ∃ x, pd deep s (metD t u) = some x ∧ PyData.eqv x x = true := by
  have oT : strOk "touch" = true := by decide +kernel
  have oC : strOk "cross" = true := by decide +kernel
  unfold metD
  split
  · split
    · exact ⟨_, pdNon, by simp [PyData.eqv]⟩
    · exact ⟨_, pdOver, by simp [PyData.eqv, PyData.eqvAll]⟩
  · split
    · exact ⟨_, pdTag oT, eqv_tag _ _⟩
    · split
      · exact ⟨_, pdTag oC, eqv_tag _ _⟩
      · exact ⟨_, pdNon, by simp [PyData.eqv]⟩
theorem metD_same (t u : Pnt × Pnt) : cmpR .ne s (metD t u) (metD t u) = .ok (.bl false) s := by
  obtain ⟨x, h1, h2⟩ := metD_pd (s := s) t u
  rw [c_neD h1 h1, h2]
  rfl
end K42
namespace Py
open PySem PySem.Spec PyProof.Rows L2
@[simp] theorem ixr0 {s : Sto} {n : Nat} {d : D} {ds : List D} (h : s[n]? = some (.lst (d :: ds))) : ixR s (.ref n) (.int 0) = .ok d s := by
  have : (0:Int) < (ds.length : Int) + 1 := by omega
  simp [ixR, seqOf, Py.listOf, h, atI, ixN, this]
@[simp] theorem ixr1 {s : Sto} {n : Nat} {d e : D} {ds : List D} (h : s[n]? = some (.lst (d :: e :: ds))) : ixR s (.ref n) (.int 1) = .ok e s := by
  have : (1:Int) < (ds.length : Int) + 1 + 1 := by omega
  simp [ixR, seqOf, Py.listOf, h, atI, ixN, this]
theorem set0 {s : Sto} {n : Nat} {d x : D} {ds : List D} (h : s[n]? = some (.lst (d :: ds))) : setR s (.ref n) (.int 0) x = some (s.set n (.lst (x :: ds))) := by
  have : (0:Int) < (ds.length : Int) + 1 := by omega
  simp [setR, h, ixN, this, putAt]
theorem set1 {s : Sto} {n : Nat} {d e x : D} {ds : List D} (h : s[n]? = some (.lst (d :: e :: ds))) : setR s (.ref n) (.int 1) x = some (s.set n (.lst (d :: x :: ds))) := by
  have : (1:Int) < (ds.length : Int) + 1 + 1 := by omega
  simp [setR, h, ixN, this, putAt]
theorem b_dm {s : Sto} {i j : Int} (h : 0 < j) (h2 : divOk j) : biR .divmod s [.int i, .int j] = .ok (.tup [.int (i / j), .int (i % j)]) s := by
  simp [biR, dmR, h, h2]
/-- a pot stands at n -/
def Pot (s : Sto) (n : Nat) : Prop := ∃ a b : Int, s[n]? = some (.lst [.int a, .int b]) ∧ 0 ≤ b ∧ b < 2 ^ 32
/-- what a def that draws leaves: the pot alone may be another -/
def Dr (s s' : Sto) (n : Nat) : Prop := ∃ a b : Int, s' = s.set n (.lst [.int a, .int b]) ∧ 0 ≤ b ∧ b < 2 ^ 32
theorem Dr.pot {s s' : Sto} {n : Nat} (h : Dr s s' n) (hp : Pot s n) : Pot s' n := by
  obtain ⟨a, b, rfl, h1, h2⟩ := h
  obtain ⟨a', b', h3, _⟩ := hp
  have hn : n < s.length := (List.getElem?_eq_some_iff.mp h3).1
  exact ⟨a, b, List.getElem?_set_self hn, h1, h2⟩
theorem Dr.trans {s s' s'' : Sto} {n : Nat} (h : Dr s s' n) (h' : Dr s' s'' n) : Dr s s'' n := by
  obtain ⟨a, b, rfl, h1, h2⟩ := h
  obtain ⟨a', b', rfl, h3, h4⟩ := h'
  exact ⟨a', b', by rw [List.set_set], h3, h4⟩
theorem Dr.refl {s : Sto} {n : Nat} (h : Pot s n) : Dr s s n := by
  obtain ⟨a, b, h1, h2, h3⟩ := h
  refine ⟨a, b, ?_, h2, h3⟩
  have hn : n < s.length := (List.getElem?_eq_some_iff.mp h1).1
  apply List.ext_getElem?
  intro i
  by_cases e : n = i
  · subst e; rw [h1, List.getElem?_set_self hn]
  · rw [List.getElem?_set_ne e]
theorem Dr.len {s s' : Sto} {n : Nat} (h : Dr s s' n) : s'.length = s.length := by
  obtain ⟨a, b, rfl, _⟩ := h
  simp
theorem Dr.other {s s' : Sto} {n i : Nat} (h : Dr s s' n) (hi : n ≠ i) : s'[i]? = s[i]? := by
  obtain ⟨a, b, rfl, _⟩ := h
  exact List.getElem?_set_ne hi
theorem pop_Dr {s s' : Sto} {n : Nat} {d d' : D} {f : D → Sto → Rs D} (h : Dr s s' n) (h2 : frz deep s' s.length d = some d') : popR s s' d f = f d' s' := by
  obtain ⟨a, b, rfl, _⟩ := h
  have := popR_set (s := s) (n := n) (ds := [.int a, .int b]) (tl := []) (d := d) (d' := d') (f := f) (by simp [frzs, frz, deep]) (by simpa using h2)
  simpa using this
/-- the same, a list made behind -/
theorem pop_Dr' {s s' : Sto} {n : Nat} {d d' : D} {f : D → Sto → Rs D} {o : Ob} (h : Dr s s' n) (h2 : frz deep (s' ++ [o]) s.length d = some d') : popR s (s' ++ [o]) d f = f d' s' := by
  obtain ⟨a, b, rfl, _⟩ := h
  exact popR_set (by simp [frzs, frz, deep]) h2
end Py
namespace K42
open PySem PySem.Spec PyProof.Rows L2 Py
/-- a digit of a pot -/
theorem digit_ok (m : Nat) {s : Sto} {n : Nat} {j : Int} (hp : Pot s n) (h0 : 0 < j) (hj : Bd 300 j) : ∃ v s', (TT (m + 1)).f 17 [.ref n, .int j] s = .ok (.int v) s' ∧ 0 ≤ v ∧ v < j ∧ Dr s s' n := by
  obtain ⟨a, b, h, hb, hb2⟩ := hp
  have hn : n < s.length := (List.getElem?_eq_some_iff.mp h).1
  rw [tab_call (d := d17) rfl rfl]
  by_cases ha : 0 < a
  · have hd : divOk j := divOk_of (a := 300) (by omega) hj (by omega)
    have e1 := b_dm (s := s) (i := a) h0 hd
    have dr : Dr s (s.set n (.lst [.int (a / j), .int b])) n := ⟨_, _, rfl, hb, hb2⟩
    refine ⟨a % j, s.set n (.lst [.int (a / j), .int b]), ?_, Int.emod_nonneg _ (by omega), Int.emod_lt_of_pos _ h0, dr⟩
    have pd := pop_Dr (d := .int (a % j)) (d' := .int (a % j)) (f := .ok) dr (by simp [frz, deep])
    simp [runD, d17, ex, ev, initE, ixr0 h, ha, e1, fitsT, asgT, set0 h, pd]
  · have m1 : mulOk b 48271 := mulOk_of (a := 32) (b := 17) (by omega) (by decide) (by omega)
    let c := (b * 48271 + 39373).fmod 2147483647
    have hc0 : 0 ≤ c := Int.fmod_nonneg_of_pos _ (by omega)
    have hc1 : c < 2147483647 := Int.fmod_lt_of_pos _ (by omega)
    have m2 : mulOk c c := mulOk_of (a := 32) (b := 32) (by omega) (by omega) (by omega)
    have d3 : divOk 3 := divOk_of (a := 2) (by omega) (by decide) (by omega)
    have dr : Dr s (s.set n (.lst [.int a, .int c])) n := ⟨_, _, rfl, hc0, by omega⟩
    have hs : (s.set n (.lst [.int a, .int c]))[n]? = some (.lst [.int a, .int c]) := List.getElem?_set_self hn
    refine ⟨_, s.set n (.lst [.int a, .int c]), ?_, Int.fmod_nonneg_of_pos (((c * c).fmod 2147483629).fdiv 3) h0, Int.fmod_lt_of_pos _ h0, dr⟩
    have pd := pop_Dr (d := .int ((((c * c).fmod 2147483629).fdiv 3).fmod j)) (d' := .int ((((c * c).fmod 2147483629).fdiv 3).fmod j)) (f := .ok) dr (by simp [frz, deep])
    have nm : ∀ x : Int, binR .mod (s.set n (.lst [.int a, .int c])) (.int x) (.int j) = .ok (.int (x.fmod j)) _ := fun x => b_mod (by omega)
    have nc : binR .mod s (.int (b * 48271 + 39373)) (.int 2147483647) = .ok (.int c) s := b_mod (by omega)
    have nd : binR .mod (s.set n (.lst [.int a, .int c])) (.int (c * c)) (.int 2147483629) = .ok (.int ((c * c).fmod 2147483629)) _ := b_mod (by omega)
    simp [runD, d17, ex, ev, initE, ixr0 h, ixr1 h, ha, fitsT, asgT, b_mul m1, nc, nd, set1 h, ixr0 hs, ixr1 hs, b_mul m2, b_fdiv d3, nm, pd]
end K42
namespace K42
open PySem PySem.Spec PyProof.Rows L2 Py
def Sn (n d : Nat) (q : Rat) : Prop := Bd n q.num ∧ Bd d (q.den : Int)
theorem Sn.sz {n d k : Nat} {q : Rat} (h : Sn n d q) (h1 : n ≤ k) (h2 : d ≤ k) : Sz k q := ⟨h.1.mono h1, h.2.mono h2⟩
theorem Sn.mono {n d n' d' : Nat} {q : Rat} (h : Sn n d q) (h1 : n ≤ n') (h2 : d ≤ d') : Sn n' d' q := ⟨h.1.mono h1, h.2.mono h2⟩
theorem Sn.of {A B : Int} {n d : Nat} (hd : B ≠ 0) (h1 : Bd n A) (h2 : Bd d B) : Sn n d (Rat.divInt A B) := by
  have a := num_le (n := A) hd
  have b := den_le (n := A) hd
  unfold Bd at h1 h2
  refine ⟨?_, ?_⟩ <;> unfold Bd <;> omega
def SnP (n d : Nat) (p : Pnt) : Prop := Sn n d p.1 ∧ Sn n d p.2
theorem SnP.mono {n d n' d' : Nat} {q : Pnt} (h : SnP n d q) (h1 : n ≤ n') (h2 : d ≤ d') : SnP n' d' q := ⟨h.1.mono h1 h2, h.2.mono h1 h2⟩
theorem SnP.sz {n d k : Nat} {q : Pnt} (h : SnP n d q) (h1 : n ≤ k) (h2 : d ≤ k) : SzP k q := ⟨h.1.sz h1 h2, h.2.sz h1 h2⟩
theorem F_int (i : Int) : D.tup [.int i, .int 1] = F (i : Rat) := rfl
theorem Sn_int {i : Int} {n : Nat} (h : Bd n i) : Sn n 2 (i : Rat) := ⟨h, by show Bd 2 1; decide⟩
theorem bd_of {i : Int} {n : Nat} (h1 : -(2 ^ n : Nat) < i) (h2 : i < (2 ^ n : Nat)) : Bd n i := by
  unfold Bd
  omega
/-- a number -/
theorem number_ok (m : Nat) {s : Sto} {n : Nat} {mode : Int} (hp : Pot s n) (h0 : 0 ≤ mode) (h3 : mode < 3) : ∃ q s', (TT (m + 2)).f 23 [.ref n, .int mode] s = .ok (F q) s' ∧ Dr s s' n ∧ Sz 192 q ∧ (mode < 2 → Sn 3 2 q) := by
  rw [tab_call (d := d23) rfl rfl]
  by_cases hm0 : mode = 0
  · obtain ⟨v, s1, e1, a1, b1, r1⟩ := digit_ok m hp (j := 9) (by omega) (by decide)
    obtain ⟨x, s2, e2, a2, b2, r2⟩ := digit_ok m (r1.pot hp) (j := 3) (by omega) (by decide)
    have hz := low_ok m (n := v - 4) (d := 1 + x) (k := 8) s2 (by omega) (bd_of (by omega) (by omega)) (by omega)
    have sn : Sn 3 2 (Rat.divInt (v - 4) (1 + x)) := Sn.of (by omega) (bd_of (by omega) (by omega)) (bd_of (by omega) (by omega))
    have pd := pop_Dr (d := F (Rat.divInt (v - 4) (1 + x))) (f := .ok) (r1.trans r2) (frz_F _ _ _)
    refine ⟨_, s2, ?_, r1.trans r2, sn.sz (by omega) (by omega), fun _ => sn⟩
    subst hm0
    simp [runD, d23, ex, ev, initE, e1, e2, hz, pd]
  · by_cases hm1 : mode = 1
    · obtain ⟨v, s1, e1, a1, b1, r1⟩ := digit_ok m hp (j := 7) (by omega) (by decide)
      have sn : Sn 3 2 ((v - 3 : Int) : Rat) := Sn_int (bd_of (by omega) (by omega))
      have pd := pop_Dr (d := F ((v - 3 : Int) : Rat)) (f := .ok) r1 (frz_F _ _ _)
      refine ⟨_, s1, ?_, r1, sn.sz (by omega) (by omega), fun _ => sn⟩
      rw [← F_int] at pd ⊢
      subst hm1
      simp [runD, d23, ex, ev, initE, e1, sl2, pd]
    · obtain ⟨v, s1, e1, a1, b1, r1⟩ := digit_ok m hp (j := 3) (by omega) (by decide)
      have p3 : powOk 10 3 := by unfold powOk; decide
      have p12 : powOk 10 12 := by unfold powOk; decide
      have p57 : powOk 10 57 := by unfold powOk; decide
      have far : ∃ far : Int, 0 < far ∧ Bd 190 far ∧ ixR s1 (.lst [.int (10 ^ 3), .int (10 ^ 12), .int (10 ^ 57)]) (.int v) = .ok (.int far) s1 := by
        have : v = 0 ∨ v = 1 ∨ v = 2 := by omega
        rcases this with rfl | rfl | rfl
        · exact ⟨10 ^ 3, by decide, by decide, ixl0 _ _ _⟩
        · exact ⟨10 ^ 12, by decide, by decide, ixl1 _ _ _ _⟩
        · exact ⟨10 ^ 57, by decide, by decide, rfl⟩
      obtain ⟨far, f0, fb, fe⟩ := far
      have f2 : Bd 191 (2 * far) := by
        unfold Bd at *
        rw [Nat.pow_succ]
        omega
      obtain ⟨x, s2, e2, a2, b2, r2⟩ := digit_ok m (r1.pot hp) (j := 2 * far) (by omega) (f2.mono (by omega))
      obtain ⟨y, s3, e3, a3, b3, r3⟩ := digit_ok m (r2.pot (r1.pot hp)) (j := far) (by omega) (fb.mono (by omega))
      have bx : Bd 190 (x - far) ∨ x - far = -far := by
        by_cases hx : x = 0
        · right; omega
        · left
          unfold Bd at *
          omega
      have bx : Bd 190 (x - far) := by
        rcases bx with h | h
        · exact h
        · rw [h]; exact fb.neg
      have by' : Bd 190 (1 + y) := by
        unfold Bd at *
        omega
      have m1 : mulOk 2 far := mulOk_bd (a := 2) (b := 190) (by decide) fb (by omega)
      have hz := low_ok m (n := x - far) (d := 1 + y) (k := 190) s3 (by omega) by' (by omega)
      have sz : Sz 192 (Rat.divInt (x - far) (1 + y)) := (Sz.of (by omega) bx by').mono (by omega)
      have dr := (r1.trans r2).trans r3
      have pd := pop_Dr (d := F (Rat.divInt (x - far) (1 + y))) (f := .ok) dr (frz_F _ _ _)
      refine ⟨_, s3, ?_, dr, sz, fun h => by omega⟩
      have q3 : binR .pow s (.int 10) (.int 3) = .ok (.int (10 ^ 3)) s := b_pow p3
      have q12 : binR .pow s (.int 10) (.int 12) = .ok (.int (10 ^ 12)) s := b_pow p12
      have q57 : binR .pow s (.int 10) (.int 57) = .ok (.int (10 ^ 57)) s := b_pow p57
      simp only [runD, d23, ex, ev, initE, List.length_cons, List.length_nil, List.map_cons, List.map_nil, Nat.reduceAdd, Nat.reduceSub, List.replicate, List.cons_append, List.nil_append, bind_ok, tupOf_tup, List.getElem?_cons_zero, List.getElem?_cons_succ, List.set_cons_zero, List.set_cons_succ, c_eqI, hm0, hm1, decide_false, of_ok, Bool.false_eq_true, if_false, nx_next, q3, q12, q57, sl3, if_true, newL, e1, fe, fitsT, asgT, b_mul m1, e2, b_sub, b_add, e3, hz, rt_next, pd]
/-- a sum told by two numbers each -/
theorem lplus_raw (m : Nat) {s : Sto} {A B C Z : Int} {n d N : Nat} (hB : B ≠ 0) (hZ : Z ≠ 0) (bA : Bd n A) (bB : Bd d B) (bC : Bd 4 C) (bZ : Bd 4 Z) (hn : n ≤ N) (hd : d ≤ N) (hN : N ≤ 1000) :
    ∃ q, (TT (m + 2)).f 19 [.tup [.int A, .int B], .tup [.int C, .int Z]] s = .ok (F q) s ∧ Sn (N + 5) (d + 4) q := by
  have hbz := Int.mul_ne_zero hB hZ
  have h := low_ok m (n := A * Z + C * B) (k := d + 4) s hbz (bB.mul bZ) (by omega)
  refine ⟨_, ?_, Sn.of hbz (((bA.mul bZ).mono (b := N + 4) (by omega)).add' ((bC.mul bB).mono (by omega))) (bB.mul bZ)⟩
  rw [tab_call (d := d19) rfl rfl]
  simp [runD, d19, ex, ev, initE, b_mul (mulOk_bd bA bZ (by omega)), b_mul (mulOk_bd bC bB (by omega)), b_mul (mulOk_bd bB bZ (by omega)), h, popF]
/-- between two, at a part -/
theorem between_ok (m : Nat) {s : Sto} {a b c : Rat} {n d : Nat} (ha : Sn n d a) (hb : Sn n d b) (hc : Sn 2 2 c) (hn : n ≤ 200) (hd : d ≤ 200) :
    ∃ q, (TT (m + 3)).f 24 [F a, F b, F c] s = .ok (F q) s ∧ Sn (n + 2 * d + 4) (3 * d + 2) q := by
  have za := ha.sz (k := 200) (by omega) (by omega)
  have zb := hb.sz (k := 200) (by omega) (by omega)
  have zc := hc.sz (k := 200) (by omega) (by omega)
  have h1 := lless_ok (m := m) (s := s) zb za (by omega)
  have z1 : Sn (n + d + 1) (2 * d) (b - a) := by
    rw [← sub_eq]
    exact Sn.of (mulD b a) ((hb.1.mul ha.2).sub' (ha.1.mul hb.2)) ((hb.2.mul ha.2).mono (by omega))
  have y1 := z1.sz (k := 500) (by omega) (by omega)
  have h2 := ltimes_ok (m := m) (s := s) (zc.mono (b := 500) (by omega)) y1 (by omega)
  have z2 : Sn (n + d + 3) (2 * d + 2) (c * (b - a)) := by
    rw [← mul_eq]
    exact Sn.of (mulD c _) ((hc.1.mul z1.1).mono (by omega)) ((hc.2.mul z1.2).mono (by omega))
  have y2 := z2.sz (k := 1000) (by omega) (by omega)
  have h3 := lplus_ok (m := m) (s := s) (za.mono (b := 1000) (by omega)) y2 (by omega)
  refine ⟨a + c * (b - a), ?_, ?_⟩
  · rw [tab_call (d := d24) rfl rfl]
    simp [runD, d24, ex, ev, initE, h1, h2, h3, popF]
  · rw [← add_eq]
    exact Sn.of (mulD a _) (((ha.1.mul z2.2).mono (b := n + 2 * d + 3) (by omega)).add' ((z2.1.mul ha.2).mono (by omega))) ((ha.2.mul z2.2).mono (by omega))
end K42
namespace K42
open PySem PySem.Spec PyProof.Rows L2 Py
theorem len_ref {s : Sto} {l : Nat} {ds : List D} (h : s[l]? = some (.lst ds)) : biR .len s [.ref l] = .ok (.int ds.length) s := by
  simp [biR, lenR, seqOf, Py.listOf, h]
theorem ix_nth {s : Sto} {l : Nat} {xs : List Pnt} (h : s[l]? = some (.lst (xs.map Pt))) {v : Int} (h0 : 0 ≤ v) (h1 : v < xs.length) : ∃ p, p ∈ xs ∧ ixR s (.ref l) (.int v) = .ok (Pt p) s := by
  obtain ⟨n, rfl⟩ := Int.eq_ofNat_of_zero_le h0
  have hn : n < xs.length := by omega
  refine ⟨xs[n], List.getElem_mem hn, ?_⟩
  have h1' : (Int.ofNat n) < (xs.length : Int) := h1
  have e : (n : Int) < (xs.length : Int) := h1
  simp [ixR, seqOf, Py.listOf, h, atI, ixN, e, List.getElem?_eq_getElem hn]
/-- a point -/
theorem point_ok (m : Nat) {s : Sto} {n l : Nat} {mode : Int} {xs : List Pnt} {kn kd : Nat} (hp : Pot s n) (hl : s[l]? = some (.lst (xs.map Pt))) (hln : n ≠ l) (hx : xs.length ≤ 4) (h0 : 0 ≤ mode) (h3 : mode < 3)
    (sz : mode < 2 → ∀ x ∈ xs, SnP kn kd x) (hkn : 3 ≤ kn) (hkd : 2 ≤ kd) (hkn' : kn ≤ 200) (hkd' : kd ≤ 200) :
    ∃ p s', (TT (m + 4)).f 25 [.ref n, .ref l, .int mode] s = .ok (Pt p) s' ∧ Dr s s' n ∧ (mode < 2 → SnP (kn + 2 * kd + 4) (3 * kd + 2) p) ∧ (¬ mode < 2 → SzP 192 p) ∧ (mode < 2 → xs.length ≤ 1 → SnP 3 2 p) := by
  -- two drawn numbers
  have plain : ∀ s1, Dr s s1 n → ∃ p s2, ((TT (m + 3)).f 23 [.ref n, .int mode] s1).bind (fun d s => ((TT (m + 3)).f 23 [.ref n, .int mode] s).bind fun d2 s2 => .ok (.tup [d, d2]) s2) = .ok (Pt p) s2 ∧ Dr s s2 n ∧ (mode < 2 → SnP (kn + 2 * kd + 4) (3 * kd + 2) p) ∧ (¬ mode < 2 → SzP 192 p) ∧ (mode < 2 → xs.length ≤ 1 → SnP 3 2 p) := fun s1 r1 => by
    obtain ⟨a, s2, e1, r2, z1, y1⟩ := number_ok (m + 1) (r1.pot hp) h0 h3
    obtain ⟨b, s3, e2, r3, z2, y2⟩ := number_ok (m + 1) (r2.pot (r1.pot hp)) h0 h3
    refine ⟨(a, b), s3, ?_, (r1.trans r2).trans r3, fun h => ⟨(y1 h).mono (by omega) (by omega), (y2 h).mono (by omega) (by omega)⟩, fun _ => ⟨z1, z2⟩, fun h _ => ⟨y1 h, y2 h⟩⟩
    rw [e1, bind_ok, e2]
    rfl
  have fin : ∀ s1, Dr s s1 n → ∃ p s2, ((TT (m + 3)).f 23 [.ref n, .int mode] s1).bind (fun d s => ((TT (m + 3)).f 23 [.ref n, .int mode] s).bind fun d2 s2 => .ok (.tup [d, d2]) s2) = .ok (Pt p) s2 ∧ popR s s2 (Pt p) .ok = .ok (Pt p) s2 ∧ Dr s s2 n ∧ (mode < 2 → SnP (kn + 2 * kd + 4) (3 * kd + 2) p) ∧ (¬ mode < 2 → SzP 192 p) ∧ (mode < 2 → xs.length ≤ 1 → SnP 3 2 p) := fun s1 r1 => by
    obtain ⟨p, s2, e, r, z⟩ := plain s1 r1
    exact ⟨p, s2, e, pop_Dr (f := .ok) r (frz_Pt _ _ _), r, z⟩
  have two : ∀ (s1 : Sto) (p : Pnt) (s2 : Sto), ((TT (m + 3)).f 23 [.ref n, .int mode] s1).bind (fun d s => ((TT (m + 3)).f 23 [.ref n, .int mode] s).bind fun d2 s2 => .ok (.tup [d, d2]) s2) = .ok (Pt p) s2 →
      ∃ s', (TT (m + 3)).f 23 [.ref n, .int mode] s1 = .ok (F p.1) s' ∧ (TT (m + 3)).f 23 [.ref n, .int mode] s' = .ok (F p.2) s2 := fun s1 p s2 h => by
    cases q : (TT (m + 3)).f 23 [.ref n, .int mode] s1 with
    | ok a s' =>
      rw [q, bind_ok] at h
      cases q2 : (TT (m + 3)).f 23 [.ref n, .int mode] s' with
      | ok b s'' =>
        rw [q2, bind_ok] at h
        simp only [Pt, Rs.ok.injEq, D.tup.injEq, List.cons.injEq, and_true] at h
        obtain ⟨⟨h1, h2⟩, h3⟩ := h
        subst h1 h2 h3
        exact ⟨s', rfl, q2⟩
      | ex x p s => rw [q2] at h; cases h
      | bad => rw [q2] at h; cases h
    | ex x p s => rw [q] at h; cases h
    | bad => rw [q] at h; cases h
  have hlen := len_ref hl
  rw [List.length_map] at hlen
  have no : ∀ s1, Dr s s1 n → (∀ Z : D, True) → ∃ p s2 s', (TT (m + 3)).f 23 [.ref n, .int mode] s1 = .ok (F p.1) s' ∧ (TT (m + 3)).f 23 [.ref n, .int mode] s' = .ok (F p.2) s2 ∧ popR s s2 (.tup [F p.1, F p.2]) .ok = .ok (Pt p) s2 ∧ Dr s s2 n ∧ (mode < 2 → SnP (kn + 2 * kd + 4) (3 * kd + 2) p) ∧ (¬ mode < 2 → SzP 192 p) ∧ (mode < 2 → xs.length ≤ 1 → SnP 3 2 p) := fun s1 r1 _ => by
    obtain ⟨p, s2, e, po, r, z⟩ := fin s1 r1
    obtain ⟨s', a, b⟩ := two s1 p s2 e
    exact ⟨p, s2, s', a, b, po, r, z⟩
  rw [tab_call (d := d25) rfl rfl]
  by_cases hm : mode < 2
  · by_cases h1 : (1 : Int) < xs.length
    · obtain ⟨v, s1, e1, a1, b1, r1⟩ := digit_ok (m + 2) hp (j := 4) (by omega) (by decide)
      by_cases hv : v = 0
      · subst hv
        have hl1 : s1[l]? = some (.lst (xs.map Pt)) := by rw [r1.other hln]; exact hl
        have hlen1 := len_ref hl1
        rw [List.length_map] at hlen1
        have lb : Bd 300 (xs.length : Int) := Bd.mono (a := 3) (by unfold Bd; omega) (by omega)
        obtain ⟨x, s2, e2, a2, b2, r2⟩ := digit_ok (m + 2) (r1.pot hp) (j := (xs.length : Int)) (by omega) lb
        have hl2 : s2[l]? = some (.lst (xs.map Pt)) := by rw [r2.other hln]; exact hl1
        obtain ⟨P, hP, eP⟩ := ix_nth hl2 a2 b2
        have hlen2 := len_ref hl2
        rw [List.length_map] at hlen2
        obtain ⟨y, s3, e3, a3, b3, r3⟩ := digit_ok (m + 2) (r2.pot (r1.pot hp)) (j := (xs.length : Int)) (by omega) lb
        have hl3 : s3[l]? = some (.lst (xs.map Pt)) := by rw [r3.other hln]; exact hl2
        obtain ⟨Q, hQ, eQ⟩ := ix_nth hl3 a3 b3
        obtain ⟨z, s4, e4, a4, b4, r4⟩ := digit_ok (m + 2) (r3.pot (r2.pot (r1.pot hp))) (j := 4) (by omega) (by decide)
        have dr := ((r1.trans r2).trans r3).trans r4
        have pr : ∃ c : Rat, Sn 2 2 c ∧ ixR s4 (.lst [.tup [.int 1, .int 2], .tup [.int 2, .int 1], .tup [.int (-1), .int 1], .tup [.int 1, .int 3]]) (.int z) = .ok (F c) s4 := by
          have : z = 0 ∨ z = 1 ∨ z = 2 ∨ z = 3 := by omega
          rcases this with rfl | rfl | rfl | rfl
          · exact ⟨mkRat 1 2, ⟨by decide +kernel, by decide +kernel⟩, by rw [ixl0]; exact congrArg (fun d => Rs.ok d s4) (by unfold F; congr)⟩
          · exact ⟨(2 : Int), Sn_int (by decide), rfl⟩
          · exact ⟨(-1 : Int), Sn_int (by decide), rfl⟩
          · refine ⟨mkRat 1 3, ⟨by decide +kernel, by decide +kernel⟩, ?_⟩
            show Rs.ok (D.tup [.int 1, .int 3]) s4 = _
            exact congrArg (fun d => Rs.ok d s4) (by unfold F; congr)
        obtain ⟨c, hc, ec⟩ := pr
        obtain ⟨u, f1, g1⟩ := between_ok m (s := s4) (sz hm P hP).1 (sz hm Q hQ).1 hc (by omega) (by omega)
        obtain ⟨w, f2, g2⟩ := between_ok m (s := s4) (sz hm P hP).2 (sz hm Q hQ).2 hc (by omega) (by omega)
        refine ⟨(u, w), s4, ?_, dr, fun _ => ⟨g1, g2⟩, fun h => absurd hm h, fun _ h => by omega⟩
        have po := pop_Dr (d := Pt (u, w)) (f := .ok) dr (frz_Pt _ _ _)
        unfold Pt at po ⊢
        simp only at po ⊢
        simp [runD, d25, ex, ev, initE, hm, h1, hlen, hlen1, hlen2, e1, e2, e3, e4, eP, eQ, ec, fitsT, asgT, newL, sl2, sl4, f1, f2, po]
      · obtain ⟨p, s2, s', f1, f2, po, r⟩ := no s1 r1 (fun _ => trivial)
        refine ⟨p, s2, ?_, r⟩
        simp [runD, d25, ex, ev, initE, hm, h1, hlen, e1, hv, sl2, f1, f2, po]
    · obtain ⟨p, s2, s', f1, f2, po, r⟩ := no s (Dr.refl hp) (fun _ => trivial)
      refine ⟨p, s2, ?_, r⟩
      simp [runD, d25, ex, ev, initE, hm, h1, hlen, sl2, f1, f2, po]
  · obtain ⟨p, s2, s', f1, f2, po, r⟩ := no s (Dr.refl hp) (fun _ => trivial)
    refine ⟨p, s2, ?_, r⟩
    simp [runD, d25, ex, ev, initE, hm, sl2, f1, f2, po]
end K42
namespace K42
open PySem PySem.Spec PyProof.Rows L2 Py
def bodyP : Sm := (.seq (.asg (.nm 5) (.call 25 (.cons (.var 0) (.cons (.var 3) (.cons (.var 2) .nil)))))
      (.seq (.ite (.and (.cmp .in_ (.var 5) (.var 3)) (.cmp .gt (.call 17 (.cons (.var 0) (.cons (.c (.int 8)) .nil))) (.c (.int 0)))) (.seq (.asg (.nm 5) (.tup (.cons (.call 19 (.cons (.ix (.var 5) (.c (.int 0))) (.cons (.tup (.cons (.bin .add (.var 4) (.c (.int 1))) (.cons (.bin .add (.c (.int 7)) (.var 4)) .nil))) .nil))) (.cons (.call 19 (.cons (.ix (.var 5) (.c (.int 1))) (.cons (.tup (.cons (.c (.int 1)) (.cons (.bin .add (.c (.int 11)) (.var 4)) .nil))) .nil))) .nil))))
      .nil) .nil)
      (.seq (.ex (.me .append (.var 3) (.cons (.var 5) .nil)))
      .nil)))
theorem d26_body : d26.body = (.seq (.asg (.nm 2) (.call 17 (.cons (.var 0) (.cons (.c (.int 3)) .nil))))
      (.seq (.asg (.nm 3) (.lst true .nil))
      (.seq (.for_ (.nm 4) (.it .rng (.cons (.var 1) .nil)) .rng bodyP)
      (.seq (.ret (.bi .tuple (.cons (.var 3) .nil)))
      .nil)))) := rfl
theorem tupPt (u w : Rat) : tupOf (Pt (u, w)) = [F u, F w] := rfl
theorem in_ref {s : Sto} {l : Nat} {xs : List Pnt} {p : Pnt} (h : s[l]? = some (.lst (xs.map Pt))) : ∃ b, cmpR .in_ s (Pt p) (.ref l) = .ok (.bl b) s := by
  have h1 := pds_Pt (n := 6) s xs
  have h2 : pd deep s (Pt p) = some (pP p) := pdP s p
  refine ⟨(xs.map pP).any fun z => PyData.eqv z (pP p), ?_⟩
  · simp only [cmpR, inB, h2, seqOf, Py.listOf, h, Option.bind_some]
    rw [show deep = 6 + 3 from rfl, h1]
    rfl
theorem app_ref {s : Sto} {l : Nat} {ds : List D} {d : D} (h : s[l]? = some (.lst ds)) (hl : ds.length < sizeLine) : meR .append s (.ref l) [d] = .ok .non (s.set l (.lst (ds ++ [d]))) := by
  simp [meR, appR, h, hl, Py.putAt]
theorem recv_ref {s : Sto} {l : Nat} {ds : List D} (h : s[l]? = some (.lst ds)) : recvR .append s (.ref l) = true := by
  simp [recvR, Py.listOf, h]
/-- a turn: one more point -/
theorem turn_ok (m : Nat) {s : Sto} {n l : Nat} {mode : Int} {xs : List Pnt} {kn kd : Nat} (hp : Pot s n) (hl : s[l]? = some (.lst (xs.map Pt))) (hln : n ≠ l) (hx : xs.length ≤ 3) (h0 : 0 ≤ mode) (h3 : mode < 3)
    (sz : mode < 2 → ∀ x ∈ xs, SnP kn kd x) (hkn : 3 ≤ kn) (hkd : 2 ≤ kd) (hkn' : kn ≤ 50) (hkd' : kd ≤ 50) {pn pd N : Nat} (hpb : (xs.length ≤ 1 ∧ pn = 3 ∧ pd = 2) ∨ (pn = kn + 2 * kd + 4 ∧ pd = 3 * kd + 2)) (hN1 : pn ≤ N) (hN2 : pd ≤ N) (hN : N ≤ 500) (o5 : Option D) {i : Nat} (hi : i < 4) (zz : D) :
    ∃ p s1, ex (TT (m + 4)) bodyP [some (.ref n), some zz, some (.int mode), some (.ref l), some (.int i), o5] s = .nx [some (.ref n), some zz, some (.int mode), some (.ref l), some (.int i), some (Pt p)] (s1.set l (.lst ((xs ++ [p]).map Pt))) ∧ Dr s s1 n ∧
      (mode < 2 → SnP (N + 5) (pd + 4) p) ∧ (¬ mode < 2 → SzP 197 p) := by
  have i1 : Bd 4 ((i : Int) + 1) := by unfold Bd; omega
  have i2 : Bd 4 (7 + (i : Int)) := by unfold Bd; omega
  have i3 : Bd 4 (11 + (i : Int)) := by unfold Bd; omega
  have i0 : Bd 4 1 := by unfold Bd; omega
  obtain ⟨p, s1, e1, r1, z0, y1, z0'⟩ := point_ok m hp hl hln (by omega) h0 h3 sz hkn hkd (by omega) (by omega)
  have z1 : mode < 2 → SnP pn pd p := fun h => by
    rcases hpb with ⟨a, rfl, rfl⟩ | ⟨rfl, rfl⟩
    · exact z0' h a
    · exact z0 h
  have hl1 : s1[l]? = some (.lst (xs.map Pt)) := by rw [r1.other hln]; exact hl
  obtain ⟨b, hb⟩ := in_ref (p := p) hl1
  have sl : (xs.map Pt).length < sizeLine := by
    rw [List.length_map]
    exact Nat.lt_of_le_of_lt hx (by decide)
  have ap : ∀ (s2 : Sto) (q : Pnt), s2[l]? = some (.lst (xs.map Pt)) → meR .append s2 (.ref l) [Pt q] = .ok .non (s2.set l (.lst (xs.map Pt ++ [Pt q]))) := fun s2 q h => app_ref h sl
  cases b with
  | false =>
    refine ⟨p, s1, ?_, r1, fun h => (z1 h).mono (by omega) (by omega), fun h => ⟨(y1 h).1.mono (by omega), (y1 h).2.mono (by omega)⟩⟩
    simp [bodyP, ex, ev, e1, hb, fitsT, asgT, recv_ref hl1, ap s1 p hl1]
  | true =>
    obtain ⟨v, s2, e2, a2, b2, r2⟩ := digit_ok (m + 3) (r1.pot hp) (j := 8) (by omega) (by decide)
    have hl2 : s2[l]? = some (.lst (xs.map Pt)) := by rw [r2.other hln]; exact hl1
    by_cases hv : 0 < v
    · have dn : ∀ q : Rat, (q.den : Int) ≠ 0 := den_ne
      by_cases hm : mode < 2
      · obtain ⟨u, f1, g1⟩ := lplus_raw (m + 2) (s := s2) (dn p.1) (Z := 7 + (i : Int)) (N := N) (by omega) (z1 hm).1.1 (z1 hm).1.2 i1 i2 (by omega) (by omega) (by omega)
        obtain ⟨w, f2, g2⟩ := lplus_raw (m + 2) (s := s2) (dn p.2) (Z := 11 + (i : Int)) (N := N) (by omega) (z1 hm).2.1 (z1 hm).2.2 i0 i3 (by omega) (by omega) (by omega)
        refine ⟨(u, w), s2, ?_, r1.trans r2, fun _ => ⟨g1.mono (by omega) (by omega), g2.mono (by omega) (by omega)⟩, fun h => absurd hm h⟩
        have eF : ∀ q : Rat, (.tup [.int q.num, .int q.den] : D) = F q := fun _ => rfl
        rw [eF] at f1 f2
        have ap2 := ap s2 (u, w) hl2
        have eP : (.tup [F u, F w] : D) = Pt (u, w) := rfl
        simp [bodyP, ex, ev, e1, hb, fitsT, asgT, e2, hv, f1, f2, sl2, eP, tupPt, recv_ref hl2, ap2]
      · obtain ⟨u, f1, g1⟩ := lplus_raw (m + 2) (s := s2) (dn p.1) (Z := 7 + (i : Int)) (N := 192) (by omega) (y1 hm).1.1 (y1 hm).1.2 i1 i2 (by omega) (by omega) (by omega)
        obtain ⟨w, f2, g2⟩ := lplus_raw (m + 2) (s := s2) (dn p.2) (Z := 11 + (i : Int)) (N := 192) (by omega) (y1 hm).2.1 (y1 hm).2.2 i0 i3 (by omega) (by omega) (by omega)
        refine ⟨(u, w), s2, ?_, r1.trans r2, fun h => absurd h hm, fun _ => ⟨g1.sz (by omega) (by omega), g2.sz (by omega) (by omega)⟩⟩
        have eF : ∀ q : Rat, (.tup [.int q.num, .int q.den] : D) = F q := fun _ => rfl
        rw [eF] at f1 f2
        have ap2 := ap s2 (u, w) hl2
        have eP : (.tup [F u, F w] : D) = Pt (u, w) := rfl
        simp [bodyP, ex, ev, e1, hb, fitsT, asgT, e2, hv, f1, f2, sl2, eP, tupPt, recv_ref hl2, ap2]
    · refine ⟨p, s2, ?_, r1.trans r2, fun h => (z1 h).mono (by omega) (by omega), fun h => ⟨(y1 h).1.mono (by omega), (y1 h).2.mono (by omega)⟩⟩
      simp [bodyP, ex, ev, e1, hb, fitsT, asgT, e2, hv, recv_ref hl2, ap s2 p hl2]
end K42
namespace Py
open PySem PySem.Spec PyProof.Rows L2
theorem forL_cons {k : Ik} {src : D} {all : List D} {i : Nat} {b : Sl → Sto → Ou} {d : D} {ds : List D} {e : Sl} {s : Sto} (hi : itemsOf k s src = some all) :
    forL k src all (.nm i) b (d :: ds) e s = (b (e.set i (some d)) s).turn fun e2 s2 => forL k src all (.nm i) b ds e2 s2 := by
  simp [forL, hi, asgC]
theorem forL_nil {k : Ik} {src : D} {all : List D} {i : Nat} {b : Sl → Sto → Ou} {e : Sl} {s : Sto} (hi : itemsOf k s src = some all) :
    forL k src all (.nm i) b [] e s = .nx e s := by
  simp [forL, hi]
theorem forL4 {k : Ik} {src : D} {all : List D} {i : Nat} {b : Sl → Sto → Ou} {d0 d1 d2 d3 : D} {e0 e1 e2 e3 e4 : Sl} {s0 s1 s2 s3 s4 : Sto} (hi : ∀ s, itemsOf k s src = some all)
    (h0 : b (e0.set i (some d0)) s0 = .nx e1 s1) (h1 : b (e1.set i (some d1)) s1 = .nx e2 s2) (h2 : b (e2.set i (some d2)) s2 = .nx e3 s3) (h3 : b (e3.set i (some d3)) s3 = .nx e4 s4) :
    forL k src all (.nm i) b [d0, d1, d2, d3] e0 s0 = .nx e4 s4 := by
  rw [forL_cons (hi _), h0, nx_turn, forL_cons (hi _), h1, nx_turn, forL_cons (hi _), h2, nx_turn, forL_cons (hi _), h3, nx_turn, forL_nil (hi _)]
theorem Dr.split {s s1 : Sto} {o : Ob} {n : Nat} (hn : n < s.length) (h : Dr (s ++ [o]) s1 n) : ∃ s', s1 = s' ++ [o] ∧ Dr s s' n := by
  obtain ⟨a, b, rfl, h1, h2⟩ := h
  refine ⟨s.set n (.lst [.int a, .int b]), ?_, a, b, rfl, h1, h2⟩
  rw [List.set_append_left _ _ hn]
theorem Pot.lt {s : Sto} {n : Nat} (h : Pot s n) : n < s.length := by
  obtain ⟨a, b, h, _⟩ := h
  exact (List.getElem?_eq_some_iff.mp h).1
theorem Pot.app {s : Sto} {n : Nat} (h : Pot s n) (o : Ob) : Pot (s ++ [o]) n := by
  have := h.lt
  obtain ⟨a, b, h, r⟩ := h
  exact ⟨a, b, by rw [List.getElem?_append_left this]; exact h, r⟩
theorem set_end (s : Sto) (o o' : Ob) : (s ++ [o]).set s.length o' = s ++ [o'] := by simp
end Py
namespace K42
open PySem PySem.Spec PyProof.Rows L2 Py
theorem points_ok (m : Nat) {s : Sto} {n : Nat} (hp : Pot s n) :
    ∃ p q r t s', (TT (m + 5)).f 26 [.ref n, .int 4] s = .ok (.tup [Pt p, Pt q, Pt r, Pt t]) s' ∧ Dr s s' n ∧ SzP 200 p ∧ SzP 200 q ∧ SzP 200 r ∧ SzP 200 t := by
  obtain ⟨mode, s0, e0, a0, b0, r0⟩ := digit_ok (m + 3) hp (j := 3) (by omega) (by decide)
  have hp0 := r0.pot hp
  have l0 : s0.length = s0.length := rfl
  -- a turn upon what is made so far
  have turn : ∀ (s' : Sto) (xs : List Pnt) (i : Nat) (o5 : Option D) (kn kd pn pd N : Nat), Dr s0 s' n → xs.length ≤ 3 → i < 4 → (mode < 2 → ∀ x ∈ xs, SnP kn kd x) → 3 ≤ kn → 2 ≤ kd → kn ≤ 50 → kd ≤ 50 →
      ((xs.length ≤ 1 ∧ pn = 3 ∧ pd = 2) ∨ (pn = kn + 2 * kd + 4 ∧ pd = 3 * kd + 2)) → pn ≤ N → pd ≤ N → N ≤ 500 →
      ∃ p s'', ex (TT (m + 4)) bodyP [some (.ref n), some (.int 4), some (.int mode), some (.ref s0.length), some (.int i), o5] (s' ++ [.lst (xs.map Pt)]) =
        .nx [some (.ref n), some (.int 4), some (.int mode), some (.ref s0.length), some (.int i), some (Pt p)] (s'' ++ [.lst ((xs ++ [p]).map Pt)]) ∧ Dr s0 s'' n ∧ (mode < 2 → SnP (N + 5) (pd + 4) p) ∧ (¬ mode < 2 → SzP 197 p) := by
    intro s' xs i o5 kn kd pn pd N hd hx hi sz h1 h2 h3 h4 h5 h6 h7 h8
    have hp' := hd.pot hp0
    have hlen : s'.length = s0.length := hd.len
    have hl : (s' ++ [Ob.lst (xs.map Pt)])[s0.length]? = some (.lst (xs.map Pt)) := by rw [← hlen]; simp
    have hln : n ≠ s0.length := by have := hp0.lt; omega
    obtain ⟨p, s1, e1, r1, z1, y1⟩ := turn_ok m (hp'.app _) hl hln hx a0 b0 sz h1 h2 h3 h4 h5 h6 h7 h8 o5 hi (.int 4)
    obtain ⟨s'', rfl, r2⟩ := r1.split hp'.lt
    refine ⟨p, s'', ?_, hd.trans r2, z1, y1⟩
    rw [e1, ← hlen, ← r2.len, set_end]
  have it : ∀ s, itemsOf .rng s (.tup [.int 4]) = some [.int (0 : Nat), .int (1 : Nat), .int (2 : Nat), .int (3 : Nat)] := fun s => by
    show rngI [.int 4] = _
    simp [rngI, List.range, List.range.loop]
  obtain ⟨p1, s1, f1, q1, z1, y1⟩ := turn s0 [] 0 none 3 2 3 2 3 (Dr.refl hp0) (by simp) (by omega) (fun _ x hx => by cases hx) (by omega) (by omega) (by omega) (by omega) (.inl ⟨by simp, rfl, rfl⟩) (by omega) (by omega) (by omega)
  obtain ⟨p2, s2, f2, q2, z2, y2⟩ := turn s1 [p1] 1 (some (Pt p1)) 8 6 3 2 3 q1 (by simp) (by omega) (fun h x hx => by rw [List.mem_singleton] at hx; subst hx; exact z1 h) (by omega) (by omega) (by omega) (by omega) (.inl ⟨by simp, rfl, rfl⟩) (by omega) (by omega) (by omega)
  obtain ⟨p3, s3, f3, q3, z3, y3⟩ := turn s2 [p1, p2] 2 (some (Pt p2)) 8 6 24 20 24 q2 (by simp) (by omega) (fun h x hx => by
    simp only [List.mem_cons, List.not_mem_nil, or_false] at hx
    rcases hx with rfl | rfl
    · exact z1 h
    · exact z2 h) (by omega) (by omega) (by omega) (by omega) (.inr ⟨rfl, rfl⟩) (by omega) (by omega) (by omega)
  obtain ⟨p4, s4, f4, q4, z4, y4⟩ := turn s3 [p1, p2, p3] 3 (some (Pt p3)) 29 24 81 74 81 q3 (by simp) (by omega) (fun h x hx => by
    simp only [List.mem_cons, List.not_mem_nil, or_false] at hx
    rcases hx with rfl | rfl | rfl
    · exact (z1 h).mono (by omega) (by omega)
    · exact (z2 h).mono (by omega) (by omega)
    · exact z3 h) (by omega) (by omega) (by omega) (by omega) (.inr ⟨rfl, rfl⟩) (by omega) (by omega) (by omega)
  have big : ∀ (p : Pnt) (a b : Nat), (mode < 2 → SnP a b p) → (¬ mode < 2 → SzP 197 p) → a ≤ 200 → b ≤ 200 → SzP 200 p := fun p a b h1 h2 ha hb => by
    by_cases h : mode < 2
    · exact (h1 h).sz ha hb
    · exact ⟨(h2 h).1.mono (by omega), (h2 h).2.mono (by omega)⟩
  have dr := r0.trans q4
  refine ⟨p1, p2, p3, p4, s4, ?_, dr, big _ _ _ z1 y1 (by omega) (by omega), big _ _ _ z2 y2 (by omega) (by omega), big _ _ _ z3 y3 (by omega) (by omega), big _ _ _ z4 y4 (by omega) (by omega)⟩
  rw [tab_call (d := d26) rfl rfl]
  have fz : frz deep (s4 ++ [Ob.lst ([p1, p2, p3, p4].map Pt)]) s.length (.tup [Pt p1, Pt p2, Pt p3, Pt p4]) = some (.tup [Pt p1, Pt p2, Pt p3, Pt p4]) := by
    have := frzs_Pt (n := 5) (s4 ++ [Ob.lst ([p1, p2, p3, p4].map Pt)]) s.length [p1, p2, p3, p4]
    rw [show deep = 8 + 1 from rfl, frz, show (8 : Nat) = 5 + 3 from rfl]
    simp only [List.map_cons, List.map_nil] at this ⊢
    rw [this]
    rfl
  have po := pop_Dr' (d := .tup [Pt p1, Pt p2, Pt p3, Pt p4]) (f := .ok) dr fz
  have e0' : (tab defs (fun x => none) (m + 4)).f 17 [.ref n, .int 3] s = .ok (.int mode) s0 := e0
  have nl : newL true [] s0 = .ok (.ref s0.length) (s0 ++ [.lst []]) := rfl
  have tup : biR .tuple (s4 ++ [Ob.lst ([p1, p2, p3, p4].map Pt)]) [.ref s0.length] = .ok (.tup ([p1, p2, p3, p4].map Pt)) (s4 ++ [Ob.lst ([p1, p2, p3, p4].map Pt)]) := by
    have : (s4 ++ [Ob.lst ([p1, p2, p3, p4].map Pt)])[s0.length]? = some (.lst ([p1, p2, p3, p4].map Pt)) := by rw [← q4.len]; simp
    simp only [List.map_cons, List.map_nil] at this ⊢
    simp [biR, tupleR, Py.listOf, this]
  simp only [List.nil_append, List.cons_append, List.map_cons, List.map_nil] at f1 f2 f3 f4
  have loop : forL .rng (.tup [.int 4]) [.int (0 : Nat), .int (1 : Nat), .int (2 : Nat), .int (3 : Nat)] (.nm 4) (fun e' s' => ex (TT (m + 4)) bodyP e' s') [.int (0 : Nat), .int (1 : Nat), .int (2 : Nat), .int (3 : Nat)]
      [some (.ref n), some (.int 4), some (.int mode), some (.ref s0.length), none, none] (s0 ++ [.lst []]) =
      .nx [some (.ref n), some (.int 4), some (.int mode), some (.ref s0.length), some (.int (3 : Nat)), some (Pt p4)] (s4 ++ [Ob.lst [Pt p1, Pt p2, Pt p3, Pt p4]]) := by
    exact forL4 it f1 f2 f3 f4
  have lp : ∀ x : Sl, True := fun _ => trivial
  simp only [runD, d26_body, ex, ev, initE, List.length_cons, List.length_nil, List.map_cons, List.map_nil, bind_ok, tupOf_tup, of_ok, nx_next]
  simp only [List.map_cons, List.map_nil] at tup po
  have hN : d26.N.length = 6 := rfl
  have hpop : d26.pop = true := rfl
  simp only [hN, hpop, Nat.reduceAdd, Nat.reduceSub, List.replicate, List.cons_append, List.nil_append, List.getElem?_cons_zero, List.getElem?_cons_succ, bind_ok, tupOf_tup, e0', of_ok, fitsT, asgT, if_true, nx_next, List.set_cons_succ, List.set_cons_zero, List.length_nil, sl0, nl, it]
  rw [loop]
  simp only [nx_next, List.getElem?_cons_zero, List.getElem?_cons_succ, bind_ok, tupOf_tup, tup, of_ok, rt_next, po]
end K42
namespace K42
open PySem PySem.Spec PyProof.Rows L2 Py
abbrev Scr (ns : List Int) : D := .fro (ns.map D.int)
theorem cut_ints (ns : List Int) (l h : Option Int) : ∃ xs : List Int, Py.cutD (ns.map D.int) l h = xs.map D.int := by
  refine ⟨(ns.drop (HT.sIx ns.length 0 l)).take (HT.sIx ns.length ns.length h - HT.sIx ns.length 0 l), ?_⟩
  unfold Py.cutD
  rw [List.length_map, List.map_take, List.map_drop]
theorem pot_ok (m : Nat) (ns : List Int) {k : Int} (hk : Bd 10 k) (h0 : 0 ≤ k) (s : Sto) (hl : ns.length ≤ 63) :
    ∃ a b : Int, (TT (m + 1)).f 16 [Scr ns, .int k] s = .ok (.ref s.length) (s ++ [.lst [.int a, .int b]]) ∧ 0 ≤ b ∧ b < 2 ^ 32 := by
  rw [tab_call (d := d16) rfl rfl]
  obtain ⟨xs, hx⟩ := cut_ints ns (some k) (some (k + 1))
  have sl : slR s (Scr ns) (some k) (some (k + 1)) = .ok (.lst (xs.map D.int)) s := by
    simp [slR, hx]
  have xl : (xs.map D.int).length ≤ 63 := by
    rw [← hx]
    unfold Py.cutD
    rw [List.length_take, List.length_drop, List.length_map]
    omega
  have cell : ∃ c : Int, ∃ r, xs.map D.int ++ [D.int 0] = D.int c :: r := by
    cases xs with
    | nil => exact ⟨0, [], rfl⟩
    | cons x xs => exact ⟨x, _, rfl⟩
  obtain ⟨c, r, hc⟩ := cell
  have ad : binR .add s (.lst (xs.map D.int)) (.lst [.int 0]) = .ok (.lst (D.int c :: r)) s := by
    rw [b_addL, hc]
    have : (63 : Nat) + 1 ≤ sizeLine := by decide
    simp only [List.length_cons, List.length_nil]
    omega
  have p18 : powOk 10 18 := by unfold powOk; decide
  have m1 : mulOk 7919 k := mulOk_bd (a := 13) (b := 10) (by decide) hk (by omega)
  let b := ((if c < 0 then -c else c) + 7919 * k + 3).fmod 2147483629
  have b0 : 0 ≤ b := Int.fmod_nonneg_of_pos _ (by omega)
  have b1 : b < 2147483629 := Int.fmod_lt_of_pos _ (by omega)
  have bm : ∀ x : Int, binR .mod s (.int x) (.int 2147483629) = .ok (.int (x.fmod 2147483629)) s := fun x => b_mod (by omega)
  refine ⟨if c - 10 ^ 18 > 0 then c - 10 ^ 18 else 0, b + 1, ?_, by omega, by omega⟩
  have q18 : binR .pow s (.int 10) (.int 18) = .ok (.int (10 ^ 18)) s := b_pow p18
  simp only [runD, d16, ex, ev, initE, List.length_cons, List.length_nil, List.map_cons, List.map_nil, Nat.reduceAdd, Nat.reduceSub, List.replicate, List.cons_append, List.nil_append, List.getElem?_cons_zero, List.getElem?_cons_succ, bind_ok, tupOf_tup, nonM, Py.part, partF, Bool.false_eq_true, if_false, b_add, sl, sl1, if_true, newL, ad, ixl0, of_ok, fitsT, asgT, nx_next, List.set_cons_succ, List.set_cons_zero, bi_abs, b_mul m1, bm, q18, b_sub, bi_max, sl2, rt_next]
  rfl
/-- how many unlike ones -/
def kF (q : Rat) : NestedKey := .tup [.num q.num, .num q.den]
def kP (p : Pnt) : NestedKey := .tup [kF p.1, kF p.2]
theorem keyPt (p : Pnt) : Py.keyOf (Pt p) = some (kP p) := by simp [Pt, F, Py.keyOf, keysOf, kP, kF]
theorem kP_inj {p q : Pnt} : kP p = kP q ↔ p = q := by
  constructor
  · intro h
    simp only [kP, kF, NestedKey.tup.injEq, List.cons.injEq, NestedKey.num.injEq, and_true] at h
    exact Prod.ext (rat_eq.mpr h.1) (rat_eq.mpr h.2)
  · rintro rfl; rfl
theorem depP (p : Pnt) : (kP p).depth = 2 := by simp [kP, kF, NestedKey.depth, NestedKey.depthAll]
theorem lset4 (s : Sto) (p q r t : Pnt) : ∃ N : Int, lsetR s (.tup [Pt p, Pt q, Pt r, Pt t]) = .ok (.int N) s ∧ (N = 4 → Un (p, q) (r, t)) := by
  have e : keysOf [Pt p, Pt q, Pt r, Pt t] = some [kP p, kP q, kP r, kP t] := by simp [keysOf, keyPt]
  refine ⟨(dist [kP p, kP q, kP r, kP t]).length, ?_, fun hN => ?_⟩
  · have h1 : [Pt p, Pt q, Pt r, Pt t].all isTup = true := rfl
    simp only [lsetR, e]
    exact if_pos ⟨by simp, h1, by simp [NestedKey.depthAll, depP]⟩
  · unfold dist at hN
    by_cases h1 : p = q
    · exfalso; subst h1; simp only [List.foldl] at hN; revert hN; simp; repeat' split <;> simp_all
    · by_cases h2 : p = r
      · exfalso; subst h2; simp only [List.foldl] at hN; revert hN; simp; repeat' split <;> simp_all
      · by_cases h3 : p = t
        · exfalso; subst h3; simp only [List.foldl] at hN; revert hN; simp; repeat' split <;> simp_all
        · by_cases h4 : q = r
          · exfalso; subst h4; simp only [List.foldl] at hN; revert hN; simp; repeat' split <;> simp_all
          · by_cases h5 : q = t
            · exfalso; subst h5; simp only [List.foldl] at hN; revert hN; simp; repeat' split <;> simp_all
            · by_cases h6 : r = t
              · exfalso; subst h6; simp only [List.foldl] at hN; revert hN; simp; repeat' split <;> simp_all
              · exact ⟨h1, h6, h2, h3, h4, h5⟩
end K42
namespace K42
open PySem PySem.Spec PyProof.Rows L2 Py
def bodyA : Sm := (.seq (.ite (.cmp .ne (.var 5) (.var 4)) (.seq (.ret (.c (.bl false)))
      .nil) .nil)
      .nil)
def bodyL : Sm := (.seq (.asg (.nm 2) (.call 26 (.cons (.call 16 (.cons (.var 0) (.cons (.var 1) .nil))) (.cons (.c (.int 4)) .nil))))
      (.seq (.ite (.cmp .eq (.lset (.var 2)) (.c (.int 4))) (.seq (.par 6 7 (.sl (.var 2) (.c .non) (.c (.int 2))) (.sl (.var 2) (.c (.int 2)) (.c .non)))
      (.seq (.asg (.nm 3) (.call 35 (.cons (.var 6) (.cons (.var 7) .nil))))
      (.seq (.asg (.nm 4) (.call 15 (.cons (.var 6) (.cons (.var 7) .nil))))
      (.seq (.ite (.not (.call 37 (.cons (.var 6) (.cons (.var 7) (.cons (.var 3) (.cons (.var 4) .nil)))))) (.seq (.ret (.c (.bl false)))
      .nil) .nil)
      (.seq (.for_ (.nm 5) (.it .plain (.lst false (.cons (.call 15 (.cons (.var 7) (.cons (.var 6) .nil))) (.cons (.call 15 (.cons (.rev (.var 6)) (.cons (.var 7) .nil))) (.cons (.call 15 (.cons (.rev (.var 7)) (.cons (.rev (.var 6)) .nil))) .nil))))) .plain
      bodyA)
      .nil))))) .nil)
      .nil))
theorem d38_body : d38.body = (.seq (.for_ (.nm 1) (.it .rng (.cons (.bi .max2 (.cons (.c (.int 1)) (.cons (.bi .min2 (.cons (.bi .len (.cons (.var 0) .nil)) (.cons (.c (.int 6)) .nil))) .nil))) .nil)) .rng bodyL)
      (.seq (.ret (.c (.bl true)))
      .nil)) := rfl
theorem forL3 {k : Ik} {src : D} {all : List D} {i : Nat} {b : Sl → Sto → Ou} {d0 d1 d2 : D} {e0 e1 e2 e3 : Sl} {s0 : Sto} (hi : itemsOf k s0 src = some all)
    (h0 : b (e0.set i (some d0)) s0 = .nx e1 s0) (h1 : b (e1.set i (some d1)) s0 = .nx e2 s0) (h2 : b (e2.set i (some d2)) s0 = .nx e3 s0) :
    forL k src all (.nm i) b [d0, d1, d2] e0 s0 = .nx e3 s0 := by
  rw [forL_cons hi, h0, nx_turn, forL_cons hi, h1, nx_turn, forL_cons hi, h2, nx_turn, forL_nil hi]
/-- a cell -/
theorem cell_ok (m : Nat) (ns : List Int) (hl : ns.length ≤ 63) {i : Int} (hi : Bd 10 i) (hi0 : 0 ≤ i) (s : Sto) (o2 o3 o4 o5 o6 o7 : Option D) :
    ∃ o2' o3' o4' o5' o6' o7' s', ex (TT (m + 6)) bodyL [some (Scr ns), some (.int i), o2, o3, o4, o5, o6, o7] s = .nx [some (Scr ns), some (.int i), o2', o3', o4', o5', o6', o7'] s' := by
  obtain ⟨a, b, e1, b0, b1⟩ := pot_ok (m + 5) ns hi hi0 s hl
  have hp : Pot (s ++ [.lst [.int a, .int b]]) s.length := ⟨a, b, by simp, b0, b1⟩
  obtain ⟨p, q, r, t, s1, e2, dr, zp, zq, zr, zt⟩ := points_ok (m + 1) hp
  obtain ⟨N, e3, hN⟩ := lset4 s1 p q r t
  by_cases h4 : N = 4
  · have un := hN h4
    subst h4
    have sT : SzT 200 (p, q) := ⟨zp, zq⟩
    have sU : SzT 200 (r, t) := ⟨zr, zt⟩
    have f1 := due_ok (m := m + 2) (s := s1) sT sU (by omega)
    have f2 := met_ok (m := m) (s := s1) sT sU (by omega)
    have f3 := right_ok (m := m + 2) (s := s1) un sT sU (by omega)
    have f4 := met_ok (m := m) (s := s1) sU sT (by omega)
    have f5 := met_ok (m := m) (s := s1) (t := sw (p, q)) ⟨zq, zp⟩ sU (by omega)
    have f6 := met_ok (m := m) (s := s1) (t := sw (r, t)) (u := sw (p, q)) ⟨zt, zr⟩ ⟨zq, zp⟩ (by omega)
    rw [metD_comm un] at f4
    rw [metD_sw1 un] at f5
    rw [metD_sw1 un.comm.sw2, metD_sw2 un.comm, metD_comm un] at f6
    have c1 : slR s1 (.tup [Pt p, Pt q, Pt r, Pt t]) none (some 2) = .ok (Ti (p, q)) s1 := rfl
    have c2 : slR s1 (.tup [Pt p, Pt q, Pt r, Pt t]) (some 2) none = .ok (Ti (r, t)) s1 := rfl
    have r1 : revR s1 (Ti (p, q)) = .ok (Ti (sw (p, q))) s1 := rfl
    have r2 : revR s1 (Ti (r, t)) = .ok (Ti (sw (r, t))) s1 := rfl
    have sq : seqOf s1 (.tup [Pt p, Pt q, Pt r, Pt t]) = some [Pt p, Pt q, Pt r, Pt t] := rfl
    let M := metD (p, q) (r, t)
    have it : itemsOf .plain s1 (.tup [.lst [M, M, M]]) = some [M, M, M] := rfl
    have same : cmpR .ne s1 M M = .ok (.bl false) s1 := metD_same _ _
    have again : ∀ o2 o3 o6 o7 : Option D, forL .plain (.tup [.lst [M, M, M]]) [M, M, M] (.nm 5) (fun e' s' => ex (TT (m + 6)) bodyA e' s') [M, M, M] [some (Scr ns), some (.int i), o2, o3, some M, o5, o6, o7] s1 =
        .nx [some (Scr ns), some (.int i), o2, o3, some M, some M, o6, o7] s1 := fun o2 o3 o6 o7 => by
      refine forL3 it (e1 := [some (Scr ns), some (.int i), o2, o3, some M, some M, o6, o7]) (e2 := [some (Scr ns), some (.int i), o2, o3, some M, some M, o6, o7]) ?_ ?_ ?_ <;> simp [bodyA, ex, ev, same]
    refine ⟨some (.tup [Pt p, Pt q, Pt r, Pt t]), some (due (p, q) (r, t)), some M, some M, some (Ti (p, q)), some (Ti (r, t)), s1, ?_⟩
    simp only [bodyL, ex, ev, List.getElem?_cons_zero, List.getElem?_cons_succ, bind_ok, tupOf_tup, e1, e2, of_ok, fitsT, asgT, if_true, nx_next, List.set_cons_succ, List.set_cons_zero, e3, c_eqI, decide_true, nonM, Py.part, partF, Bool.false_eq_true, if_false, c1, c2, f1, f2, f3, tst_ok, Bool.not_true, r1, r2, f4, f5, f6, List.length_cons, List.length_nil, Nat.reduceAdd, sl3, newL, it]
    rw [show (metD (p, q) (r, t)) = M from rfl]
    simp only [it]
    rw [again]
    rfl
  · refine ⟨some (.tup [Pt p, Pt q, Pt r, Pt t]), o3, o4, o5, o6, o7, s1, ?_⟩
    have sq : seqOf s1 (.tup [Pt p, Pt q, Pt r, Pt t]) = some [Pt p, Pt q, Pt r, Pt t] := rfl
    simp only [bodyL, ex, ev, List.getElem?_cons_zero, List.getElem?_cons_succ, bind_ok, tupOf_tup, e1, e2, of_ok, fitsT, asgT, if_true, nx_next, List.set_cons_succ, List.set_cons_zero, e3, c_eqI, h4, decide_false, Bool.false_eq_true, if_false]
/-- the law -/
theorem law_ok (m : Nat) (ns : List Int) (hl : ns.length ≤ 63) : ∃ s', (TT (m + 7)).f 38 [Scr ns] [] = .ok (.bl true) s' := by
  have loop : ∀ (all ds : List D) (src : D), (∀ s, itemsOf .rng s src = some all) → (∀ d ∈ ds, ∃ i : Int, d = .int i ∧ Bd 10 i ∧ 0 ≤ i) → ∀ (o1 o2 o3 o4 o5 o6 o7 : Option D) (s : Sto),
      ∃ o1' o2' o3' o4' o5' o6' o7' s', forL .rng src all (.nm 1) (fun e' s' => ex (TT (m + 6)) bodyL e' s') ds [some (Scr ns), o1, o2, o3, o4, o5, o6, o7] s = .nx [some (Scr ns), o1', o2', o3', o4', o5', o6', o7'] s' := by
    intro all ds src hi
    induction ds with
    | nil => intro _ o1 o2 o3 o4 o5 o6 o7 s; exact ⟨_, _, _, _, _, _, _, _, forL_nil (hi s)⟩
    | cons d ds ih =>
      intro hd o1 o2 o3 o4 o5 o6 o7 s
      obtain ⟨i, rfl, h1, h2⟩ := hd d List.mem_cons_self
      obtain ⟨p2, p3, p4, p5, p6, p7, s1, e1⟩ := cell_ok m ns hl h1 h2 s o2 o3 o4 o5 o6 o7
      obtain ⟨q1, q2, q3, q4, q5, q6, q7, s2, e2⟩ := ih (fun x hx => hd x (List.mem_cons_of_mem _ hx)) (some (.int i)) p2 p3 p4 p5 p6 p7 s1
      refine ⟨q1, q2, q3, q4, q5, q6, q7, s2, ?_⟩
      rw [forL_cons (hi s)]
      simp only [List.set_cons_succ, List.set_cons_zero]
      rw [e1, nx_turn, e2]
  let n : Int := if (if (6 : Int) < (ns.length : Int) then 6 else (ns.length : Int)) > 1 then (if (6 : Int) < (ns.length : Int) then 6 else (ns.length : Int)) else 1
  have hn : 1 ≤ n ∧ n ≤ 6 := by
    show 1 ≤ (if (if (6 : Int) < (ns.length : Int) then 6 else (ns.length : Int)) > 1 then (if (6 : Int) < (ns.length : Int) then 6 else (ns.length : Int)) else 1) ∧ (if (if (6 : Int) < (ns.length : Int) then 6 else (ns.length : Int)) > 1 then (if (6 : Int) < (ns.length : Int) then 6 else (ns.length : Int)) else 1) ≤ 6
    split <;> split <;> omega
  have it : ∀ s, itemsOf .rng s (.tup [.int n]) = some ((List.range n.toNat).map fun i => D.int (0 + (i : Nat))) := fun s => by
    show rngI [.int n] = _
    unfold rngI
    exact if_pos (by omega)
  obtain ⟨q1, q2, q3, q4, q5, q6, q7, s2, e2⟩ := loop _ ((List.range n.toNat).map fun i => D.int (0 + (i : Nat))) (.tup [.int n]) it (fun d hd => by
    rw [List.mem_map] at hd
    obtain ⟨i, hi, rfl⟩ := hd
    rw [List.mem_range] at hi
    exact ⟨_, rfl, by unfold Bd; omega, by omega⟩) none none none none none none none []
  refine ⟨[], ?_⟩
  rw [tab_call (d := d38) rfl rfl]
  have hN : d38.N.length = 8 := rfl
  have hpop : d38.pop = true := rfl
  have ln : biR .len [] [Scr ns] = .ok (.int (ns.length : Nat)) [] := by
    show Rs.ok (D.int ((ns.map D.int).length : Nat)) [] = _
    rw [List.length_map]
  have po : popR [] s2 (.bl true) .ok = .ok (.bl true) [] := by
    unfold popR
    have hk : keepOk [] s2 := fun i o h => by cases h
    rw [if_pos hk]
    simp [frz, deep]
  simp only [runD, d38_body, ex, ev, initE, hN, hpop, List.length_cons, List.length_nil, List.map_cons, List.map_nil, Nat.reduceAdd, Nat.reduceSub, List.replicate, List.cons_append, List.nil_append, List.getElem?_cons_zero, List.getElem?_cons_succ, bind_ok, tupOf_tup, ln, bi_min, bi_max, of_ok]
  have it' := it []
  simp only [n] at it' e2
  simp only [it']
  rw [e2]
  simp only [nx_next, of_ok, rt_next, if_true, po]
end K42
set_option maxHeartbeats 0
namespace K42
open PySem PySem.Spec PyProof.Rows L2 Py
abbrev csX : Nat → Option D := fun _ => none
theorem chkX : ((defs.zip sts).all fun p => dfB defs frees [] p.1 p.2) = true := by decide +kernel
theorem lawX : ∀ ns : List Int, ns.length ≤ 63 → ∃ s, (tab defs csX 16).f lawAt [.fro (ns.map D.int)] [] = .ok (.bl true) s := fun ns hl => law_ok 9 ns hl
end K42
/-! the law's end -/
namespace K42
open PySem PySem.Spec PyProof.Rows L2 Py
abbrev RX : PySem.W.OpenRow := PySem.W.OpenLaw.row PySem.Challenge.rw_restdraw_k42_two_ties
abbrev hkX : PySem.W.Hook := He.hookD 4 (fasOf defs frees) (fnsOf defs sts)
def obX (s : PySem.W.SharedT) : He.AlD := He.obsDG 4 (fasOf defs frees) (fnsOf defs sts) (HandSHeadRun.getT s)
theorem obX_eq (s : PySem.W.SharedT) : obX s = hkX.obs s.abs := He.obsDG_eq (HandSHeadRun.getT_eq s)
theorem runX (w : World) : HandSHeadRun.RunEq RX (PySem.W.view RX.prog [41]) hkX obX 6000 bound w := by
  intro os
  kernel_rfl
end K42
open PySem PySem.W PySem.Calls PyProof.Rows
theorem PySem.Challenge.cw_restdraw_k42_two_ties_holds : PySem.Challenge.rw_restdraw_k42_two_ties.Holds := by
  w_on; o_law
  refine HandSHeadRun.head_any (r := K42.RX) (q := view K42.RX.prog [41]) (H := K42.hkX) (ob := K42.obX) (M := 6000) (loose := K42.bound) (d := HandSHeadRun.topDef K42.RX.prog 41) (kwd := []) K42.obX_eq
    (by kernel_rfl) (fun s => by kernel_rfl) K42.runX (by kernel_rfl) (by kernel_rfl) (by kernel_rfl) (by rfl) (by first | assumption | decide +kernel) (by decide +kernel) ⟨rfl, rfl, rfl, rfl, rfl, by decide +kernel⟩ ?hw ?hc
  case hw => w_witness2
  case hc =>
    refine L2.walk_ofE (l := PySem.Challenge.rw_restdraw_k42_two_ties) (n := 63) (k := 16) (x := "_law_script") (CX := Py.CXa (PySem.Challenge.rw_restdraw_k42_two_ties).prog) rfl (by decide) (by kernel_rfl) ⟨rfl, by decide, by decide⟩ ?F Py.noWishA
    intro w mg fa h Y G hmg0
    obtain ⟨K, KX, c⟩ := Y
    have hmg : mg ("law" : PySem.Str) = some (.ref fa) := by
      have e : (HandSHeadRun.topDef K42.RX.prog 41).name = ("law" : PySem.Str) := by kernel_rfl
      rw [← e]
      exact hmg0
    obtain ⟨fd, sp, h1, h2, h3⟩ := Py.law_end (P := (PySem.Challenge.rw_restdraw_k42_two_ties).prog) (w0 := w) (cs := K42.csX) (li := K42.lawAt) (dl := K42.d38) (n := 16) c KX G K42.allQ rfl rfl hmg K42.chkX K42.lawX
    exact ⟨K, fd, sp, KX, h1, h2, fun base b1 b2 => Py.fnOk_cxa (h3 base b1 b2)⟩
