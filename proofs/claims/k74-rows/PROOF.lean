import PyProof.Rows.All
import Wide.All
import OpenK.AllK
import Wide.FinOn
import HandS.ForMost
import HandS.ForExc
import HandS.TupAny
import HandS.TupMul
import HandS.Style
import HandS.IsInst
import HandS.Strs
import HandS.SortInts
import HandS.More
import HandS.SetFor
import HandS.Zip
import PySem.Challenge.RW_hearsaybook_k74_rows_written
set_option Elab.async false
set_option linter.all false
set_option maxRecDepth 100000
section
/-! Mp: a small Python over pure data: codes and what they come to. -/
namespace Mp
open PySem

inductive D where
  | non | bl (b : Bool) | int (i : Int) | str (x : Str)
  | tup (xs : List D) | frl (xs : List D) | ref (i : Nat) | fn (k : Nat)
  deriving Inhabited

mutual
def D.lt (n : Nat) : D → Prop
  | .tup xs => ltAll n xs
  | .frl xs => ltAll n xs
  | .ref i => i < n
  | _ => True
def ltAll (n : Nat) : List D → Prop
  | [] => True
  | x :: xs => x.lt n ∧ ltAll n xs
end

inductive Ob where
  | lst (xs : List D)
  | dct (kvs : List (D × D))
  | ins (c : Nat) (fs : List (Nat × D))
  deriving Inhabited
abbrev Hm := List Ob

/-- a value, or a list that nobody else has -/
inductive A where
  | d (x : D) | fl (xs : List D)
  deriving Inhabited

structure Ex where
  cls : Nat
  fs : List (Nat × D)

inductive R (α : Type) where
  | ok (a : α) (m : Hm) | exc (e : Ex) (m : Hm) | bad
def R.bind {α β : Type} (r : R α) (f : α → Hm → R β) : R β := match r with
  | .ok a m => f a m
  | .exc e m => .exc e m
  | .bad => .bad
open Classical in
noncomputable def grd {α : Type} (p : Prop) (r : R α) : R α := if p then r else .bad

inductive BI where
  | len | tuple | list | str | int | abs | max2 | min2 | all | any | sorted | repr
  deriving DecidableEq
inductive Ty where
  | int | bool | str | tuple | list | own (k : Nat)
  deriving DecidableEq
inductive IK where
  | seq | rng1 | rng2 | zip | enum
  deriving DecidableEq
inductive Tg where
  | nm (i : Nat) | tp (ts : List Tg)

inductive C where
  | var (i : Nat)
  | non | bl (b : Bool) | int (i : Int) | str (x : Str)
  | glb (k : Nat)
  | tup (es : List C) | lst (es : List C)
  | bin (op : Operator) (a b : C)
  | neg (a : C)
  | cmp (op : CmpOp) (a b : C)
  | cmp2 (op op' : CmpOp) (a b c : C)
  | and (es : List C) | or (es : List C) | not (a : C)
  | ife (t a b : C)
  | ix (a i : C)
  | slc (a : C) (lo hi : Option C)
  | call (k : Nat) (es : List C)
  | bi (b : BI) (es : List C)
  | join (o e : C) | split (o e : C) | app (o e : C)
  | isi (e : C) (t : Ty)
  | comp (own : List Nat) (elt : C) (tg : Tg) (ik : IK) (is : List C) (ifs : List C)
  | dnew
  | lenset (e : C)

inductive S where
  | expr (c : C)
  | asg (t : Tg) (c : C)
  | store (o i e : C)
  | ife (t : C) (a b : List S)
  | ret (c : C) | retN
  | for_ (tg : Tg) (ik : IK) (is : List C) (body : List S)
  | raise (k : Nat)
  | pass

/-! ### data as the library's -/
mutual
def toPy : D → Option PyData
  | .non => some .none
  | .bl b => some (.bool b)
  | .int i => some (.int i)
  | .str x => some (.str x)
  | .tup xs => (toPys xs).map .tuple
  | _ => none
def toPys : List D → Option (List PyData)
  | [] => some []
  | x :: xs => (toPy x).bind fun p => (toPys xs).map (p :: ·)
end
def lstAt (m : Hm) (i : Nat) : Option (List D) := match m[i]? with
  | some (.lst xs) => some xs
  | _ => none
def toPyA (m : Hm) : A → Option PyData
  | .d (.ref i) => (lstAt m i).bind fun xs => (toPys xs).map .list
  | .d x => toPy x
  | .fl xs => (toPys xs).map .list
/-- a list that may be read -/
def lstOf (m : Hm) : A → Option (List D)
  | .fl xs => some xs
  | .d (.ref i) => lstAt m i
  | .d (.frl xs) => some xs
  | _ => none
/-- a list of ours -/
def lstOwn (m : Hm) : A → Option (List D)
  | .fl xs => some xs
  | .d (.ref i) => lstAt m i
  | _ => none
def seqOf (m : Hm) : A → Option (List D)
  | .d (.tup xs) => some xs
  | a => lstOf m a
def A.int? : A → Option Int
  | .d (.int i) => some i
  | _ => none
def A.str? : A → Option Str
  | .d (.str x) => some x
  | _ => none
def D.int? : D → Option Int
  | .int i => some i
  | _ => none
def D.str? : D → Option Str
  | .str x => some x
  | _ => none
def D.flat : D → Bool
  | .non => true | .bl _ => true | .int _ => true | .str _ => true
  | _ => false
def A.flat? : A → Option D
  | .d x => if x.flat then some x else none
  | _ => none
/-- every one, if all have one -/
def alls {α β : Type} (f : α → Option β) : List α → Option (List β)
  | [] => some []
  | x :: xs => match f x, alls f xs with
    | some y, some ys => some (y :: ys)
    | _, _ => none
/-- == of flat data -/
def eqF : D → D → Bool
  | .non, .non => true
  | .bl a, .bl b => a == b
  | .bl a, .int j => (if a then 1 else 0) == j
  | .int i, .bl b => i == (if b then 1 else 0)
  | .int i, .int j => i == j
  | .str x, .str y => x == y
  | _, _ => false
def sgn (c : Nat) : Str := ⟨#[c]⟩

def okI {α : Type} (i : Int) (m : Hm) (f : A → α) : R α := .ok (f (.d (.int i))) m

noncomputable def addA (a b : A) (m : Hm) : R A := match a, b with
  | .d (.int i), .d (.int j) => .ok (.d (.int (i + j))) m
  | .d (.str x), .d (.str y) => grd (x.length + y.length ≤ sizeLine) (.ok (.d (.str (x ++ y))) m)
  | .d (.tup xs), .d (.tup ys) => grd (xs.length + ys.length ≤ sizeLine) (.ok (.d (.tup (xs ++ ys))) m)
  | a, b => match lstOwn m a, lstOwn m b with
    | some xs, some ys => grd (xs.length + ys.length ≤ sizeLine) (.ok (.fl (xs ++ ys)) m)
    | _, _ => .bad
/-- of two ints, where p -/
noncomputable def intA (p : Int → Int → Prop) (f : Int → Int → Int) (a b : A) (m : Hm) : R A := match a, b with
  | .d (.int i), .d (.int j) => grd (p i j) (.ok (.d (.int (f i j))) m)
  | _, _ => .bad
noncomputable def mulA (a b : A) (m : Hm) : R A := match a, b with
  | .d (.tup []), .d (.int k) => grd (-(2 ^ 63) ≤ k ∧ k < 2 ^ 63) (.ok (.d (.tup [])) m)
  | .d (.tup xs), .d (.int k) => grd (2 ≤ k ∧ k ≤ 1000 ∧ xs.length ≤ 1000) (.ok (.d (.tup (List.replicate k.toNat xs).flatten)) m)
  | a, b => intA L2.CMul (fun i j => i * j) a b m
noncomputable def binA (op : Operator) (a b : A) (m : Hm) : R A := match op with
  | .Add => addA a b m
  | .Sub => intA (fun _ _ => True) (fun i j => i - j) a b m
  | .Mult => mulA a b m
  | .FloorDiv => intA L2.CDiv (fun i j => i / j) a b m
  | .Mod => intA (fun _ j => 0 < j) (fun i j => i % j) a b m
  | .Pow => intA L2.CPow (fun i j => i ^ j.toNat) a b m
  | _ => .bad

/-- what == of scalars tells apart as data does -/
def scalD : D → D → Bool
  | .non, .non => true | .non, .int _ => true | .int _, .non => true | .non, .bl _ => true | .bl _, .non => true | .non, .str _ => true | .str _, .non => true
  | .int _, .int _ => true | .bl _, .bl _ => true | .str _, .str _ => true
  | .int _, .str _ => true | .str _, .int _ => true | .bl _, .str _ => true | .str _, .bl _ => true
  | _, _ => false
noncomputable def eqDeep (a b : A) (m : Hm) : R Bool := match toPyA m a, toPyA m b with
  | some p, some q => grd (SeqAt.shaped p = true ∧ SeqAt.shaped q = true) (.ok (PyData.eqv p q) m)
  | _, _ => .bad
noncomputable def eqA (a b : A) (m : Hm) : R Bool := match a, b with
  | .d x, .d y => if scalD x y then .ok (eqF x y) m else eqDeep a b m
  | _, _ => eqDeep a b m
noncomputable def inDeep (a : A) (ys : List D) (m : Hm) : R Bool := match toPyA m a, toPys ys with
  | some d, some es => grd (SeqAt.shaped d = true ∧ SeqAt.shaped (.list es) = true) (.ok (es.any fun z => PyData.eqv z d) m)
  | _, _ => .bad
noncomputable def inA (a b : A) (m : Hm) : R Bool := match b.str? with
  | some z => match a.str? with
    | some x => .ok (!(Builtin.Str.occurrences z x 0 z.length 1).isEmpty) m
    | none => .bad
  | none => match seqOf m b with
    | some ys => match a.flat? with
      | some x => if ys.all D.flat then .ok (ys.any fun y => eqF y x) m else inDeep a ys m
      | none => inDeep a ys m
    | none => .bad
def R.not (r : R Bool) : R Bool := r.bind fun b m => .ok (!b) m
noncomputable def icmp (p : Int → Int → Bool) (a b : A) (m : Hm) : R Bool := match a, b with
  | .d (.int i), .d (.int j) => .ok (p i j) m
  | _, _ => .bad
noncomputable def ltA (a b : A) (m : Hm) : R Bool := match a, b with
  | .d (.str i), .d (.str j) => .ok (decide (i.cps.toList < j.cps.toList)) m
  | a, b => icmp (fun i j => decide (i < j)) a b m
def A.isNon : A → Bool
  | .d .non => true
  | _ => false
def isA (a b : A) (m : Hm) : R Bool := if b.isNon then .ok a.isNon m else .bad
noncomputable def cmpA (op : CmpOp) (a b : A) (m : Hm) : R Bool := match op with
  | .Eq => eqA a b m
  | .NotEq => (eqA a b m).not
  | .Lt => ltA a b m
  | .LtE => icmp (fun i j => decide (i ≤ j)) a b m
  | .Gt => icmp (fun i j => decide (j < i)) a b m
  | .GtE => icmp (fun i j => decide (j ≤ i)) a b m
  | .In => inA a b m
  | .NotIn => (inA a b m).not
  | .Is => isA a b m
  | .IsNot => (isA a b m).not

noncomputable def ixA (a b : A) (m : Hm) : R A := match b with
  | .d (.int i) => match a with
    | .d (.str z) => match L2.atI z.cps.toList i with
      | some c => .ok (.d (.str (sgn c))) m
      | none => .bad
    | a => match seqOf m a with
      | some xs => match L2.atI xs i with
        | some x => .ok (.d x) m
        | none => .bad
      | none => .bad
  | _ => .bad
def cutL (xs : List D) (lo hi : Option Int) : List D := (xs.drop (HT.sIx xs.length 0 lo)).take (HT.sIx xs.length xs.length hi - HT.sIx xs.length 0 lo)
noncomputable def slcA (a : A) (lo hi : Option Int) (m : Hm) : R A := match a with
  | .d (.tup xs) => .ok (.d (.tup (cutL xs lo hi))) m
  | a => match lstOf m a with
    | some xs => .ok (.fl (cutL xs lo hi)) m
    | none => .bad

def isBool : D → Option Bool
  | .bl b => some b
  | _ => none
def insI (x : Int) : List Int → List Int
  | [] => [x]
  | y :: ys => if x ≤ y then x :: y :: ys else y :: insI x ys
def srtI : List Int → List Int
  | [] => []
  | x :: xs => insI x (srtI xs)
def dctAt (m : Hm) (i : Nat) : Option (List (D × D)) := match m[i]? with
  | some (.dct xs) => some xs
  | _ => none
def reprOk (p : PyData) : Bool := p.showable && !p.hasDict && decide (p.depth ≤ 64) && decide (p.shown.length ≤ sizeLine)
noncomputable def biA : BI → List A → Hm → R A
  | .len, [a], m => match a with
    | .d (.str x) => .ok (.d (.int x.length)) m
    | a => match seqOf m a with
      | some xs => .ok (.d (.int xs.length)) m
      | none => .bad
  | .tuple, [a], m => match seqOf m a with
    | some xs => .ok (.d (.tup xs)) m
    | none => .bad
  | .list, [a], m => match seqOf m a with
    | some xs => .ok (.fl xs) m
    | none => .bad
  | .str, [.d (.int i)], m => grd (i.natAbs < 2 ^ 64) (.ok (.d (.str (toString i))) m)
  | .int, [.d (.int i)], m => .ok (.d (.int i)) m
  | .int, [.d (.bl b)], m => .ok (.d (.int (if b then 1 else 0))) m
  | .int, [.d (.str x)], m => match PySem.intText? x with
    | some n => grd (x.length ≤ 640) (.ok (.d (.int n)) m)
    | none => .bad
  | .abs, [.d (.int i)], m => .ok (.d (.int (if i < 0 then -i else i))) m
  | .max2, [.d (.int i), .d (.int j)], m => .ok (.d (.int (if j > i then j else i))) m
  | .min2, [.d (.int i), .d (.int j)], m => .ok (.d (.int (if j < i then j else i))) m
  | .all, [.fl xs], m => match alls isBool xs with
    | some bs => .ok (.d (.bl (bs.all id))) m
    | none => .bad
  | .any, [.fl xs], m => match alls isBool xs with
    | some bs => .ok (.d (.bl (bs.any id))) m
    | none => .bad
  | .sorted, [.d (.ref i)], m => match dctAt m i with
    | some kvs => match alls D.int? (kvs.map (·.1)) with
      | some ks => grd (ks.length < 64) (.ok (.fl ((srtI ks).map .int)) m)
      | none => .bad
    | none => .bad
  | .repr, [.d (.tup xs)], m => match toPys xs with
    | some ps => grd (reprOk (.tuple ps) = true) (.ok (.d (.str (PyData.shown (.tuple ps)))) m)
    | none => .bad
  | _, _, _ => .bad

/-- each sign once -/
noncomputable def joinA (x : Str) (b : A) (m : Hm) : R A := match seqOf m b with
  | some xs => match alls D.str? xs with
    | some ys => grd ((ys.map (·.length)).sum + ys.length * x.length ≤ 16777216) (.ok (.d (.str (Txt.join x ys))) m)
    | none => .bad
  | none => .bad
noncomputable def splitA (x : Str) (b : A) (m : Hm) : R A := match b.str? with
  | some y => grd ((y.length == 0) = false ∧ x.length + 2 ≤ sizeLine) (.ok (.fl ((Txt.split x y).map .str)) m)
  | none => .bad
/-- the receiver is a text -/
def onStr {α : Type} (a : A) (f : Str → R α) : R α := match a.str? with
  | some x => f x
  | none => .bad
/-- the receiver is a list -/
def onLst {α : Type} (a : A) (m : Hm) (f : Nat → R α) : R α := match a with
  | .d (.ref i) => match lstAt m i with
    | some _ => f i
    | none => .bad
  | _ => .bad
noncomputable def appA (i : Nat) (d : D) (m : Hm) : R A := match lstAt m i with
  | some xs => grd (xs.length < sizeLine) (.ok (.d .non) (m.set i (.lst (xs ++ [d]))))
  | none => .bad
inductive TyN where
  | non | bool | int | str | tuple | list | dict
  deriving DecidableEq
def tyOf (m : Hm) : A → Option TyN
  | .fl _ => some .list
  | .d .non => some .non
  | .d (.bl _) => some .bool
  | .d (.int _) => some .int
  | .d (.str _) => some .str
  | .d (.tup _) => some .tuple
  | .d (.ref i) => match m[i]? with
    | some (.lst _) => some .list
    | some (.dct _) => some .dict
    | _ => none
  | _ => none
def isSub : TyN → Ty → Option Bool
  | _, .own _ => none
  | .bool, .bool => some true | .bool, .int => some true
  | .int, .int => some true
  | .str, .str => some true
  | .tuple, .tuple => some true
  | .list, .list => some true
  | _, _ => some false
def isiA (a : A) (t : Ty) (m : Hm) : Option Bool := (tyOf m a).bind fun n => isSub n t
/-- how many unlike -/
def distinct : List Int → Nat
  | [] => 0
  | x :: xs => if x ∈ xs then distinct xs else distinct xs + 1
noncomputable def lensetA (a : A) (m : Hm) : R A := match a with
  | .d (.tup xs) => match alls D.int? xs with
    | some ns => grd (ns.length ≤ 1000) (.ok (.d (.int (distinct ns))) m)
    | none => .bad
  | _ => .bad
noncomputable def storeA (o i : A) (d : D) (m : Hm) : R Unit := match o with
  | .d (.ref r) => match i with
    | .d (.int k) => match m[r]? with
      | some (.lst xs) => match L2.ixN xs.length k with
        | some j => .ok () (m.set r (.lst (xs.set j d)))
        | none => .bad
      | some (.dct kvs) => grd (kvs.length < sizeLine ∧ ∀ p ∈ kvs, ∃ j, p.1 = .int j) (.ok () (m.set r (.dct (putI kvs k d))))
      | _ => .bad
    | _ => .bad
  | _ => .bad
where
  putI (kvs : List (D × D)) (k : Int) (d : D) : List (D × D) :=
    if (kvs.any fun p => p.1.int? == some k) then kvs.map (fun p => if p.1.int? == some k then (p.1, d) else p) else kvs ++ [(.int k, d)]

/-! ### walks -/
abbrev Chk := List (Nat × List D)
def Chk.ok (c : Chk) (m : Hm) : Prop := ∀ p ∈ c, m[p.1]? = some (.lst p.2)
def walkOf (m : Hm) : A → Option (List D × Chk)
  | .fl xs => some (xs, [])
  | .d (.tup xs) => some (xs, [])
  | .d (.frl xs) => some (xs, [])
  | .d (.str x) => some (x.cps.toList.map fun c => .str (sgn c), [])
  | .d (.ref i) => (lstAt m i).map fun xs => (xs, [(i, xs)])
  | _ => none
def itv (lo : Int) (n : Nat) : List D := (List.range n).map fun i => .int (lo + (i : Nat))
def zipD : List D → List D → List D
  | x :: xs, y :: ys => .tup [x, y] :: zipD xs ys
  | _, _ => []
def itSeq (as : List A) (m : Hm) : R (List D × Chk) := match as with
  | [a] => match walkOf m a with
    | some w => .ok w m
    | none => .bad
  | _ => .bad
noncomputable def itRng1 (as : List A) (m : Hm) : R (List D × Chk) := match as with
  | [.d (.int j)] => grd (-(2 ^ 62) ≤ j ∧ j ≤ sizeLine) (.ok (itv 0 j.toNat, []) m)
  | _ => .bad
noncomputable def itRng2 (as : List A) (m : Hm) : R (List D × Chk) := match as with
  | [.d (.int i), .d (.int j)] => grd ((-(2 ^ 62) ≤ i ∧ i < 2 ^ 62 ∧ -(2 ^ 62) ≤ j ∧ j < 2 ^ 62) ∧ (j - i).toNat ≤ sizeLine) (.ok (itv i (j - i).toNat, []) m)
  | _ => .bad
def itZip (as : List A) (m : Hm) : R (List D × Chk) := match as with
  | [.d (.tup xs), .d (.tup ys)] => .ok (zipD xs ys, []) m
  | _ => .bad
noncomputable def itA (ik : IK) (as : List A) (m : Hm) : R (List D × Chk) := match ik with
  | .seq => itSeq as m
  | .rng1 => itRng1 as m
  | .rng2 => itRng2 as m
  | .zip => itZip as m
  | .enum => .bad

mutual
def asg : Tg → D → List (Option D) → Option (List (Option D))
  | .nm i, d, ρ => some (ρ.set i (some d))
  | .tp ts, .tup ds, ρ => asgs ts ds ρ
  | _, _, _ => none
def asgs : List Tg → List D → List (Option D) → Option (List (Option D))
  | [], [], ρ => some ρ
  | t :: ts, d :: ds, ρ => (asg t d ρ).bind fun ρ => asgs ts ds ρ
  | _, _, _ => none
end
abbrev Rho := List (Option D)
def wipeD (ρ : Rho) : List Nat → Rho
  | [] => ρ
  | v :: vs => (wipeD ρ vs).set v none
def consO : Option D → List D → List D
  | some d, r => d :: r
  | none, r => r
noncomputable def compD (chk : Chk) (f : D → Hm → R (Option D)) : List D → Hm → R (List D)
  | [], m => grd (chk.ok m) (.ok [] m)
  | x :: xs, m => grd (chk.ok m) ((f x m).bind fun o m => (compD chk f xs m).bind fun r m => .ok (consO o r) m)

/-- nothing is raised here -/
def R.calm {α : Type} : R α → R α
  | .exc _ _ => .bad
  | r => r
abbrev Calls := Nat → Nat → List D → Hm → R D
def boolOf {α : Type} (a : A) (m : Hm) (f : Bool → Hm → R α) : R α := match a with
  | .d (.bl b) => f b m
  | _ => .bad
/-- laid on the heap, if it isn't yet -/
def lay (a : A) (m : Hm) : R D := match a with
  | .d x => .ok x m
  | .fl xs => .ok (.ref m.length) (m ++ [.lst xs])

section
variable (call : Calls) (con : Nat → Option D)
mutual
noncomputable def evA : C → Rho → Hm → R A
  | .var i, ρ, m => match ρ[i]? with
    | some (some d) => .ok (.d d) m
    | _ => .bad
  | .non, _, m => .ok (.d .non) m
  | .bl b, _, m => .ok (.d (.bl b)) m
  | .int i, _, m => .ok (.d (.int i)) m
  | .str x, _, m => .ok (.d (.str x)) m
  | .glb k, _, m => match con k with
    | some d => .ok (.d d) m
    | none => .bad
  | .tup es, ρ, m => (evs es ρ m).bind fun ds m => grd (ds.length ≤ sizeLine) (.ok (.d (.tup ds)) m)
  | .lst es, ρ, m => (evs es ρ m).bind fun ds m => grd (ds.length ≤ sizeLine) (.ok (.fl ds) m)
  | .bin op a b, ρ, m => (evA a ρ m).bind fun x m => (evA b ρ m).bind fun y m => binA op x y m
  | .neg a, ρ, m => (evA a ρ m).bind fun x m => match x with
    | .d (.int i) => .ok (.d (.int (-i))) m
    | _ => .bad
  | .cmp op a b, ρ, m => (evA a ρ m).bind fun x m => (evA b ρ m).bind fun y m => (cmpA op x y m).bind fun b m => .ok (.d (.bl b)) m
  | .cmp2 op op' a b c, ρ, m => (evA a ρ m).bind fun x m => (evA b ρ m).bind fun y m => (cmpA op x y m).bind fun k m =>
      if k then (evA c ρ m).bind fun z m => (cmpA op' y z m).bind fun b m => .ok (.d (.bl b)) m else .ok (.d (.bl false)) m
  | .and es, ρ, m => (evAnd es ρ m).bind fun b m => .ok (.d (.bl b)) m
  | .or es, ρ, m => (evOr es ρ m).bind fun b m => .ok (.d (.bl b)) m
  | .not a, ρ, m => (evA a ρ m).bind fun x m => boolOf x m fun b m => .ok (.d (.bl (!b))) m
  | .ife t a b, ρ, m => (evA t ρ m).bind fun x m => boolOf x m fun k m => if k then evA a ρ m else evA b ρ m
  | .ix a i, ρ, m => (evA a ρ m).bind fun x m => (evA i ρ m).bind fun y m => ixA x y m
  | .slc a lo hi, ρ, m => (evA a ρ m).bind fun x m => (evO lo ρ m).bind fun l m => (evO hi ρ m).bind fun h m => slcA x l h m
  | .call k es, ρ, m => (evs es ρ m).bind fun ds m => (call 0 k ds m).bind fun d m => .ok (.d d) m
  | .bi b es, ρ, m => (evAs es ρ m).bind fun as m => biA b as m
  | .join o e, ρ, m => (evA o ρ m).bind fun x m => onStr x fun z => (evA e ρ m).bind fun y m => joinA z y m
  | .split o e, ρ, m => (evA o ρ m).bind fun x m => onStr x fun z => (evA e ρ m).bind fun y m => splitA z y m
  | .app o e, ρ, m => (evA o ρ m).bind fun x m => onLst x m fun i => ((evA e ρ m).bind lay).bind fun d m => appA i d m
  | .isi e t, ρ, m => (evA e ρ m).bind fun x m => match isiA x t m with
    | some b => .ok (.d (.bl b)) m
    | none => .bad
  | .comp own elt tg ik is ifs, ρ, m => (evAs is ρ m).bind fun as m => (itA ik as m).bind fun w m =>
      (compD w.2 (fun d m => match asg tg d (wipeD ρ own) with
        | none => .bad
        | some ρ' => (evAnd ifs ρ' m).bind fun k m => if k then ((evA elt ρ' m).bind lay).bind fun d m => .ok (some d) m else .ok none m) w.1 m).calm.bind fun ds m => .ok (.fl ds) m
  | .dnew, _, m => .ok (.d (.ref m.length)) (m ++ [.dct []])
  | .lenset e, ρ, m => (evA e ρ m).bind fun x m => lensetA x m
noncomputable def evs : List C → Rho → Hm → R (List D)
  | [], _, m => .ok [] m
  | c :: cs, ρ, m => (evA c ρ m).bind fun a m => (lay a m).bind fun d m => (evs cs ρ m).bind fun ds m => .ok (d :: ds) m
noncomputable def evAs : List C → Rho → Hm → R (List A)
  | [], _, m => .ok [] m
  | c :: cs, ρ, m => (evA c ρ m).bind fun a m => (evAs cs ρ m).bind fun as m => .ok (a :: as) m
noncomputable def evAnd : List C → Rho → Hm → R Bool
  | [], _, m => .ok true m
  | c :: cs, ρ, m => (evA c ρ m).bind fun a m => boolOf a m fun b m => if b then evAnd cs ρ m else .ok false m
noncomputable def evOr : List C → Rho → Hm → R Bool
  | [], _, m => .ok false m
  | c :: cs, ρ, m => (evA c ρ m).bind fun a m => boolOf a m fun b m => if b then .ok true m else evOr cs ρ m
noncomputable def evO : Option C → Rho → Hm → R (Option Int)
  | none, _, m => .ok none m
  | some c, ρ, m => (evA c ρ m).bind fun a m => match a with
    | .d (.int i) => .ok (some i) m
    | _ => .bad
end
noncomputable def evB (c : C) (ρ : Rho) (m : Hm) : R Bool := (evA call con c ρ m).bind fun a m => boolOf a m .ok
/-- a value -/
noncomputable def ev (c : C) (ρ : Rho) (m : Hm) : R D := (evA call con c ρ m).bind lay

/-! ### statements -/
end
inductive O where
  | nx (ρ : Rho) (m : Hm) | rt (d : D) (m : Hm) | bk (ρ : Rho) (m : Hm) | ct (ρ : Rho) (m : Hm) | exc (e : Ex) (ρ : Rho) (m : Hm) | bad
def R.toO {α : Type} (r : R α) (ρ : Rho) (f : α → Hm → O) : O := match r with
  | .ok a m => f a m
  | .exc e m => .exc e ρ m
  | .bad => .bad
open Classical in
noncomputable def grdO (p : Prop) (r : O) : O := if p then r else .bad
/-- and further, where the end is reached -/
def O.andThen (o : O) (k : Rho → Hm → O) : O := match o with
  | .nx ρ m => k ρ m
  | .rt d m => .rt d m
  | .bk ρ m => .bk ρ m
  | .ct ρ m => .ct ρ m
  | .exc e ρ m => .exc e ρ m
  | .bad => .bad
/-- a loop's turn is over -/
def O.turned (o : O) (k : Rho → Hm → O) : O := match o with
  | .nx ρ m => k ρ m
  | .rt d m => .rt d m
  | .bk ρ m => .nx ρ m
  | .ct ρ m => k ρ m
  | .exc e ρ m => .exc e ρ m
  | .bad => .bad
noncomputable def forD (chk : Chk) (f : D → Rho → Hm → O) : List D → Rho → Hm → O
  | [], ρ, m => grdO (chk.ok m) (.nx ρ m)
  | x :: xs, ρ, m => grdO (chk.ok m) ((f x ρ m).turned (forD chk f xs))
def asgO (t : Tg) (d : D) (ρ : Rho) (k : Rho → O) : O := match asg t d ρ with
  | none => .bad
  | some ρ => k ρ
section
variable (call : Calls) (con : Nat → Option D)
mutual
noncomputable def exS : S → Rho → Hm → O
  | .expr c, ρ, m => (evA call con c ρ m).toO ρ fun _ m => .nx ρ m
  | .asg t c, ρ, m => (ev call con c ρ m).toO ρ fun d m => asgO t d ρ fun ρ => .nx ρ m
  | .store o i e, ρ, m => (ev call con e ρ m).toO ρ fun d m => (evA call con o ρ m).toO ρ fun x m => (evA call con i ρ m).toO ρ fun y m => (storeA x y d m).toO ρ fun _ m => .nx ρ m
  | .ife t a b, ρ, m => (evB call con t ρ m).toO ρ fun k m => if k then exSs a ρ m else exSs b ρ m
  | .ret c, ρ, m => (ev call con c ρ m).toO ρ fun d m => .rt d m
  | .retN, _, m => .rt .non m
  | .for_ tg ik is body, ρ, m => (evAs call con is ρ m).toO ρ fun as m => (itA ik as m).toO ρ fun w m => forD w.2 (fun d ρ m => asgO tg d ρ fun ρ => exSs body ρ m) w.1 ρ m
  | .raise k, ρ, m => .exc ⟨k, []⟩ ρ m
  | .pass, ρ, m => .nx ρ m
noncomputable def exSs : List S → Rho → Hm → O
  | [], ρ, m => .nx ρ m
  | s :: ss, ρ, m => (exS s ρ m).andThen (exSs ss)
end
end

/-! ### defs -/
structure Def where
  np : Nat
  ns : Nat
  body : List S
open Classical in
/-- what a call leaves of the heap: the new things that nobody knows are forgotten -/
noncomputable def gc (m m' : Hm) (d : D) : Hm := if m'.take m.length = m ∧ d.lt m.length then m else m'
noncomputable def finish (m : Hm) : O → R D
  | .nx _ m' => .ok .non (gc m m' .non)
  | .rt d m' => .ok d (gc m m' d)
  | .exc e _ m' => .exc e (gc m m' .non)
  | _ => .bad
def startD (ns : Nat) (ds : List D) : Rho := ds.map some ++ List.replicate (ns - ds.length) none
structure Tab where
  con : Nat → Option D
  def_ : Nat → Nat → Option Def
noncomputable def callF (T : Tab) : Nat → Calls
  | 0, _, _, _, _ => .bad
  | n + 1, c, k, ds, m => match T.def_ c k with
    | none => .bad
    | some f => grd (ds.length = f.np) (finish m (exSs (callF T n) T.con f.body (startD f.ns ds) m))
end Mp
end
section
/-! Mp: how data lies in the tracked heap. -/
namespace Mp
open PySem L2

/-- what stands fast: the written part, the module's names, the names by number -/
structure Wd where
  K : PySem.W.Frag
  mg : Str → Option Value
  nm : Nat → Str

/-- a list that stands fast -/
def SqF (K : PySem.W.Frag) (H : Hp) (a : Addr) (xs : List V) : Prop :=
  (∃ o, H a = some (.frz o (.lst xs))) ∨
    ∃ (o : Obj) (its : Array Value) (n : Nat), K.lookup a = some o ∧ o.cls = .type "list" ∧ o.dict = none ∧ o.data = .seq its n ∧ its.size ≤ sizeLine ∧ Vals xs its.toList
theorem SqF.sq {K : PySem.W.Frag} {H : Hp} {a : Addr} {xs : List V} (h : SqF K H a xs) : SqL K H a xs := by
  rcases h with h | h
  · exact .inl (.inr h)
  · exact .inr h

mutual
def Rep (w : Wd) (α : Nat → Addr) (H : Hp) : D → V → Prop
  | .non, v => v = .non
  | .bl b, v => v = .bl b
  | .int i, v => v = .int i
  | .str x, v => v = .str x ∧ x.length ≤ sizeLine
  | .tup ds, v => ∃ a vs, v = .ref a ∧ SqT w.K H a vs ∧ ds.length ≤ sizeLine ∧ RepL w α H ds vs
  | .frl ds, v => ∃ a vs, v = .ref a ∧ SqF w.K H a vs ∧ ds.length ≤ sizeLine ∧ RepL w α H ds vs
  | .ref i, v => v = .ref (α i)
  | .fn k, v => ∃ f, v = .ref f ∧ w.mg (w.nm k) = some (.ref f)
def RepL (w : Wd) (α : Nat → Addr) (H : Hp) : List D → List V → Prop
  | [], vs => vs = []
  | d :: ds, vs => ∃ v us, vs = v :: us ∧ Rep w α H d v ∧ RepL w α H ds us
end

/-- from one state to a later one: the known objects stay known, what is tracked and not known stays -/
structure Ext (α : Nat → Addr) (n : Nat) (H : Hp) (α' : Nat → Addr) (n' : Nat) (H' : Hp) : Prop where
  le : n ≤ n'
  agree : ∀ i, i < n → α' i = α i
  keep : ∀ b o, H b = some o → (∀ i, i < n → α i ≠ b) → H' b = some o ∧ ∀ i, i < n' → α' i ≠ b
  mapped : ∀ i, i < n → ∃ o, H (α i) = some o
  mapped' : ∀ i, i < n' → ∃ o, H' (α' i) = some o
theorem Ext.refl {α : Nat → Addr} {n : Nat} {H : Hp} (h : ∀ i, i < n → ∃ o, H (α i) = some o) : Ext α n H α n H :=
  ⟨Nat.le_refl _, fun _ _ => rfl, fun _ _ e h => ⟨e, h⟩, h, h⟩
theorem Ext.trans {α α1 α2 : Nat → Addr} {n n1 n2 : Nat} {H H1 H2 : Hp} (a : Ext α n H α1 n1 H1) (b : Ext α1 n1 H1 α2 n2 H2) : Ext α n H α2 n2 H2 where
  le := Nat.le_trans a.le b.le
  agree := fun i hi => (b.agree i (Nat.lt_of_lt_of_le hi a.le)).trans (a.agree i hi)
  keep := fun c o e h => by
    obtain ⟨e1, h1⟩ := a.keep c o e h
    exact b.keep c o e1 h1
  mapped := a.mapped
  mapped' := b.mapped'
/-- what was not tracked later was not tracked ahead -/
theorem Ext.free {α α1 : Nat → Addr} {n n1 : Nat} {H H1 : Hp} (a : Ext α n H α1 n1 H1) {p : Addr} (h : H1 p = none) : H p = none := by
  cases e : H p with
  | none => rfl
  | some o =>
    by_cases hm : ∀ i, i < n → α i ≠ p
    · rw [(a.keep p o e hm).1] at h; cases h
    · have : ∃ i, i < n ∧ α i = p := by
        refine Classical.byContradiction fun z => hm fun i hi e => z ⟨i, hi, e⟩
      obtain ⟨i, hi, ei⟩ := this
      obtain ⟨o1, e1⟩ := a.mapped' i (Nat.lt_of_lt_of_le hi a.le)
      rw [a.agree i hi, ei, h] at e1; cases e1

def kvD : Key → D
  | .inl i => .int i
  | .inr x => .str x
inductive KvR (w : Wd) (α : Nat → Addr) (H : Hp) (n : Nat) : List (D × D) → List (Key × V) → Prop
  | nil : KvR w α H n [] []
  | cons {k : Key} {d : D} {v : V} {r s} : Rep w α H d v → d.lt n → KvR w α H n r s → KvR w α H n ((kvD k, d) :: r) ((k, v) :: s)
def ObR (w : Wd) (α : Nat → Addr) (n : Nat) (H : Hp) (a : Addr) : Ob → Prop
  | .lst ds => ∃ vs, H a = some (.lst vs) ∧ RepL w α H ds vs ∧ ds.length ≤ sizeLine ∧ ltAll n ds
  | .dct kvs => ∃ ks, H a = some (.dK ks) ∧ KvR w α H n kvs ks ∧ kvs.length ≤ sizeLine
  | .ins _ _ => False
structure Rl (w : Wd) (α : Nat → Addr) (m : Hm) (H : Hp) : Prop where
  inj : ∀ i j, i < m.length → j < m.length → α i = α j → i = j
  objs : ∀ i o, m[i]? = some o → ObR w α m.length H (α i) o

section
variable {w : Wd} {α α' : Nat → Addr} {m m' : Hm} {H H' : Hp} {n n' : Nat}
theorem ObR.there {a : Addr} {o : Ob} (h : ObR w α n H a o) : ∃ u, H a = some u ∧ (∀ xs, u ≠ .tup xs) ∧ ∀ o v, u ≠ .frz o v := by
  cases o with
  | lst ds => obtain ⟨vs, e, _⟩ := h; exact ⟨_, e, fun _ z => (by cases z), fun _ _ z => (by cases z)⟩
  | dct kvs => obtain ⟨vs, e, _⟩ := h; exact ⟨_, e, fun _ z => (by cases z), fun _ _ z => (by cases z)⟩
  | ins c fs => exact h.elim
theorem Rl.at_ (r : Rl w α m H) {i : Nat} (hi : i < m.length) : ObR w α m.length H (α i) m[i] := r.objs i _ (List.getElem?_eq_getElem hi)
theorem Rl.mapped (r : Rl w α m H) : ∀ i, i < m.length → ∃ o, H (α i) = some o := fun i hi => let ⟨u, e, _⟩ := (r.at_ hi).there; ⟨u, e⟩
theorem Rl.notTup (r : Rl w α m H) {b : Addr} {xs : List V} (e : H b = some (.tup xs)) : ∀ i, i < m.length → α i ≠ b := fun i hi z => by
  obtain ⟨u, e1, h, _⟩ := (r.at_ hi).there
  rw [z, e] at e1
  cases e1
  exact h _ rfl
theorem Rl.notFrz (r : Rl w α m H) {b : Addr} {o : Obj} {v : HO} (e : H b = some (.frz o v)) : ∀ i, i < m.length → α i ≠ b := fun i hi z => by
  obtain ⟨u, e1, _, h⟩ := (r.at_ hi).there
  rw [z, e] at e1
  cases e1
  exact h _ _ rfl
theorem Rl.sqT (r : Rl w α m H) (x : Ext α m.length H α' n' H') {a : Addr} {vs : List V} (h : SqT w.K H a vs) : SqT w.K H' a vs := by
  rcases h with (h | ⟨o, h⟩) | h
  · exact .inl (.inl (x.keep _ _ h (r.notTup h)).1)
  · exact .inl (.inr ⟨o, (x.keep _ _ h (r.notFrz h)).1⟩)
  · exact .inr h
theorem Rl.sqF (r : Rl w α m H) (x : Ext α m.length H α' n' H') {a : Addr} {vs : List V} (h : SqF w.K H a vs) : SqF w.K H' a vs := by
  rcases h with ⟨o, h⟩ | h
  · exact .inl ⟨o, (x.keep _ _ h (r.notFrz h)).1⟩
  · exact .inr h
mutual
theorem D.lt_mono (h : n ≤ n') : ∀ d : D, d.lt n → d.lt n'
  | .tup xs, z => by unfold D.lt at z ⊢; exact D.ltAll_mono h xs z
  | .frl xs, z => by unfold D.lt at z ⊢; exact D.ltAll_mono h xs z
  | .ref i, z => by unfold D.lt at z ⊢; omega
  | .non, _ => by unfold D.lt; trivial
  | .bl _, _ => by unfold D.lt; trivial
  | .int _, _ => by unfold D.lt; trivial
  | .str _, _ => by unfold D.lt; trivial
  | .fn _, _ => by unfold D.lt; trivial
theorem D.ltAll_mono (h : n ≤ n') : ∀ ds : List D, ltAll n ds → ltAll n' ds
  | [], _ => by unfold ltAll; trivial
  | x :: xs, z => by unfold ltAll at z ⊢; exact ⟨D.lt_mono h x z.1, D.ltAll_mono h xs z.2⟩
end
/-- tracked things alone -/
structure Keeps (w : Wd) (α : Nat → Addr) (n : Nat) (H : Hp) (α' : Nat → Addr) (H' : Hp) : Prop where
  agree : ∀ i, i < n → α' i = α i
  sqT : ∀ a vs, SqT w.K H a vs → SqT w.K H' a vs
  sqF : ∀ a vs, SqF w.K H a vs → SqF w.K H' a vs
theorem Ext.keeps (x : Ext α m.length H α' n' H') (r : Rl w α m H) : Keeps w α m.length H α' H' := ⟨x.agree, fun _ _ h => r.sqT x h, fun _ _ h => r.sqF x h⟩
mutual
theorem Rep.ext (x : Keeps w α n H α' H') : ∀ (d : D) (v : V), d.lt n → Rep w α H d v → Rep w α' H' d v
  | .tup ds, v, l, h => by
    unfold Rep at h ⊢
    unfold D.lt at l
    obtain ⟨a, vs, e, s, z, q⟩ := h
    exact ⟨a, vs, e, x.sqT a vs s, z, RepL.ext x ds vs l q⟩
  | .frl ds, v, l, h => by
    unfold Rep at h ⊢
    unfold D.lt at l
    obtain ⟨a, vs, e, s, z, q⟩ := h
    exact ⟨a, vs, e, x.sqF a vs s, z, RepL.ext x ds vs l q⟩
  | .ref i, v, l, h => by
    unfold Rep at h ⊢
    unfold D.lt at l
    rw [x.agree i l]; exact h
  | .non, v, _, h => by unfold Rep at h ⊢; exact h
  | .bl _, v, _, h => by unfold Rep at h ⊢; exact h
  | .int _, v, _, h => by unfold Rep at h ⊢; exact h
  | .str _, v, _, h => by unfold Rep at h ⊢; exact h
  | .fn _, v, _, h => by unfold Rep at h ⊢; exact h
theorem RepL.ext (x : Keeps w α n H α' H') : ∀ (ds : List D) (vs : List V), ltAll n ds → RepL w α H ds vs → RepL w α' H' ds vs
  | [], vs, _, h => by unfold RepL at h ⊢; exact h
  | d :: ds, vs, l, h => by
    unfold RepL at h ⊢
    unfold ltAll at l
    obtain ⟨v, us, e, h1, h2⟩ := h
    exact ⟨v, us, e, Rep.ext x d v l.1 h1, RepL.ext x ds us l.2 h2⟩
end
theorem RepL.length : ∀ (ds : List D) (vs : List V), RepL w α H ds vs → ds.length = vs.length
  | [], vs, h => by unfold RepL at h; subst h; rfl
  | d :: ds, vs, h => by
    unfold RepL at h
    obtain ⟨v, us, rfl, _, h2⟩ := h
    rw [List.length_cons, List.length_cons, RepL.length ds us h2]
theorem RepL.get : ∀ {ds : List D} {vs : List V} {i : Nat} {d : D}, RepL w α H ds vs → ds[i]? = some d → ∃ v, vs[i]? = some v ∧ Rep w α H d v
  | [], _, _, _, _, e => by simp at e
  | d :: ds, vs, i, x, h, e => by
    unfold RepL at h
    obtain ⟨v, us, rfl, h1, h2⟩ := h
    cases i with
    | zero => simp at e; subst e; exact ⟨v, by simp, h1⟩
    | succ i =>
      obtain ⟨u, e1, e2⟩ := RepL.get (i := i) h2 (by simpa using e)
      exact ⟨u, by simpa using e1, e2⟩
theorem RepL.append : ∀ {ds es : List D} {vs us : List V}, RepL w α H ds vs → RepL w α H es us → RepL w α H (ds ++ es) (vs ++ us)
  | [], es, vs, us, h, q => by unfold RepL at h; subst h; exact q
  | d :: ds, es, vs, us, h, q => by
    unfold RepL at h
    obtain ⟨v, vs', rfl, h1, h2⟩ := h
    show RepL w α H (d :: (ds ++ es)) (v :: (vs' ++ us))
    unfold RepL
    exact ⟨v, _, rfl, h1, RepL.append h2 q⟩
theorem RepL.take : ∀ {ds : List D} {vs : List V} (k : Nat), RepL w α H ds vs → RepL w α H (ds.take k) (vs.take k)
  | [], vs, k, h => by unfold RepL at h; subst h; simp [RepL]
  | d :: ds, vs, 0, h => by simp [RepL]
  | d :: ds, vs, k + 1, h => by
    unfold RepL at h
    obtain ⟨v, vs', rfl, h1, h2⟩ := h
    show RepL w α H (d :: ds.take k) (v :: vs'.take k)
    unfold RepL
    exact ⟨v, _, rfl, h1, RepL.take k h2⟩
theorem RepL.drop : ∀ {ds : List D} {vs : List V} (k : Nat), RepL w α H ds vs → RepL w α H (ds.drop k) (vs.drop k)
  | [], vs, k, h => by unfold RepL at h; subst h; simp [RepL]
  | d :: ds, vs, 0, h => by simpa using h
  | d :: ds, vs, k + 1, h => by
    unfold RepL at h
    obtain ⟨v, vs', rfl, h1, h2⟩ := h
    simpa using RepL.drop k h2
theorem RepL.set : ∀ {ds : List D} {vs : List V} {d : D} {v : V} (k : Nat), Rep w α H d v → RepL w α H ds vs → RepL w α H (ds.set k d) (vs.set k v)
  | [], vs, _, _, k, _, h => by unfold RepL at h; subst h; simp [RepL]
  | e :: ds, vs, d, v, 0, r, h => by
    unfold RepL at h
    obtain ⟨u, vs', rfl, h1, h2⟩ := h
    show RepL w α H (d :: ds) (v :: vs')
    unfold RepL
    exact ⟨v, _, rfl, r, h2⟩
  | e :: ds, vs, d, v, k + 1, r, h => by
    unfold RepL at h
    obtain ⟨u, vs', rfl, h1, h2⟩ := h
    show RepL w α H (e :: ds.set k d) (u :: vs'.set k v)
    unfold RepL
    exact ⟨u, _, rfl, h1, RepL.set k r h2⟩
theorem ltAll_get : ∀ {ds : List D} {i : Nat} {d : D}, ltAll n ds → ds[i]? = some d → d.lt n
  | [], _, _, _, e => by simp at e
  | d :: ds, i, x, h, e => by
    unfold ltAll at h
    cases i with
    | zero => simp at e; subst e; exact h.1
    | succ i => exact ltAll_get (i := i) h.2 (by simpa using e)
theorem ltAll_iff : ∀ {ds : List D}, ltAll n ds ↔ ∀ d ∈ ds, d.lt n
  | [] => by simp [ltAll]
  | d :: ds => by unfold ltAll; rw [ltAll_iff (ds := ds)]; simp
theorem ltAll_append {ds es : List D} (h : ltAll n ds) (q : ltAll n es) : ltAll n (ds ++ es) := ltAll_iff.mpr fun d hd => (List.mem_append.mp hd).elim (ltAll_iff.mp h d) (ltAll_iff.mp q d)
theorem KvR.ext (x : Keeps w α n H α' H') (hn : n ≤ n') {kvs : List (D × D)} {ks : List (Key × V)} (h : KvR w α H n kvs ks) : KvR w α' H' n' kvs ks := by
  induction h with
  | nil => exact .nil
  | cons r l _ ih => exact .cons (Rep.ext x _ _ l r) (D.lt_mono hn _ l) ih
theorem ObR.ext (x : Keeps w α n H α' H') (hn : n ≤ n') {a : Addr} (ha : H' a = H a) {o : Ob} (h : ObR w α n H a o) : ObR w α' n' H' a o := by
  cases o with
  | lst ds =>
    obtain ⟨vs, e, q, z, l⟩ := h
    exact ⟨vs, ha.trans e, RepL.ext x ds vs l q, z, D.ltAll_mono hn ds l⟩
  | dct kvs =>
    obtain ⟨ks, e, q, z⟩ := h
    exact ⟨ks, ha.trans e, q.ext x hn, z⟩
  | ins c fs => exact h.elim

/-- a new tracked object that nobody knows -/
theorem Rl.new (r : Rl w α m H) {p : Addr} {o : HO} (hp : H p = none) : Ext α m.length H α m.length (upd H p o) ∧ Rl w α m (upd H p o) ∧ ∀ i, i < m.length → α i ≠ p := by
  have hne : ∀ i, i < m.length → α i ≠ p := fun i hi z => by
    obtain ⟨u, e⟩ := r.mapped i hi
    rw [z, hp] at e; cases e
  have x : Ext α m.length H α m.length (upd H p o) := ⟨Nat.le_refl _, fun _ _ => rfl, fun b u e h => ⟨by rw [upd_ne (ne_of_none e hp)]; exact e, h⟩, r.mapped, fun i hi => by
    rw [upd_ne (hne i hi)]; exact r.mapped i hi⟩
  refine ⟨x, ⟨r.inj, fun i ob e => ?_⟩, hne⟩
  exact (r.objs i ob e).ext (x.keeps r) (Nat.le_refl _) (upd_ne (hne i (List.getElem?_eq_some_iff.mp e).1))
/-- a known object is written -/
theorem Rl.put (r : Rl w α m H) {i : Nat} (hi : i < m.length) {o : HO} {ob : Ob} (nt : ∀ xs, o ≠ .tup xs) (new : Ext α m.length H α m.length (upd H (α i) o) → Keeps w α m.length H α (upd H (α i) o) → ObR w α m.length (upd H (α i) o) (α i) ob) :
    Ext α m.length H α (m.set i ob).length (upd H (α i) o) ∧ Rl w α (m.set i ob) (upd H (α i) o) := by
  have x : Ext α m.length H α m.length (upd H (α i) o) := ⟨Nat.le_refl _, fun _ _ => rfl, fun b u e h => ⟨by rw [upd_ne (fun z => h i hi z.symm)]; exact e, h⟩, r.mapped, fun j hj => by
    by_cases e : α j = α i
    · rw [e, upd_same]; exact ⟨_, rfl⟩
    · rw [upd_ne e]; exact r.mapped j hj⟩
  have kp := x.keeps r
  rw [List.length_set]
  refine ⟨x, ⟨fun a b ha hb => r.inj a b (by simpa using ha) (by simpa using hb), fun j u e => ?_⟩⟩
  rw [List.length_set]
  by_cases hj : i = j
  · subst hj
    rw [List.getElem?_set_self hi] at e
    cases e
    exact new x kp
  · rw [List.getElem?_set_ne hj] at e
    have hl := (List.getElem?_eq_some_iff.mp e).1
    exact (r.objs j u e).ext kp (Nat.le_refl _) (upd_ne fun z => hj (r.inj j i hl hi z).symm)
/-- a tracked object becomes known -/
theorem Rl.lay (r : Rl w α m H) {p : Addr} {ob : Ob} {H0 : Hp} {α0 : Nat → Addr} {n0 : Nat} (x0 : Ext α0 n0 H0 α m.length H) (hp : H0 p = none) (hne : ∀ i, i < m.length → α i ≠ p) (new : ∀ α', (∀ i, i < m.length → α' i = α i) → ObR w α' (m.length + 1) H p ob) :
    ∃ α', Ext α0 n0 H0 α' (m ++ [ob]).length H ∧ Rl w α' (m ++ [ob]) H ∧ α' m.length = p ∧ ∀ i, i < m.length → α' i = α i := by
  have ag : ∀ i, i < m.length → (fun i => if i = m.length then p else α i) i = α i := fun i hi => if_neg (Nat.ne_of_lt hi)
  have hm : (fun i => if i = m.length then p else α i) m.length = p := if_pos rfl
  generalize (fun i => if i = m.length then p else α i) = α' at ag hm
  have there : ∃ u, H p = some u := let ⟨u, e, _⟩ := (new α' ag).there; ⟨u, e⟩
  have len : (m ++ [ob]).length = m.length + 1 := by simp
  refine ⟨α', ?_, ?_, hm, ag⟩
  · rw [len]
    refine ⟨Nat.le_succ_of_le x0.le, fun i hi => (ag i (Nat.lt_of_lt_of_le hi x0.le)).trans (x0.agree i hi), fun b o e h => ?_, x0.mapped, fun i hi => ?_⟩
    · obtain ⟨e1, h1⟩ := x0.keep b o e h
      refine ⟨e1, fun i hi => ?_⟩
      by_cases hl : i < m.length
      · rw [ag i hl]; exact h1 i hl
      · have : i = m.length := by omega
        subst this
        rw [hm]
        exact (ne_of_none e hp).symm
    · by_cases hl : i < m.length
      · rw [ag i hl]; exact r.mapped i hl
      · have : i = m.length := by omega
        subst this
        rw [hm]
        exact there
  · refine ⟨fun i j hi hj e => ?_, fun i o e => ?_⟩
    · rw [len] at hi hj
      by_cases hi' : i < m.length
      · by_cases hj' : j < m.length
        · rw [ag i hi', ag j hj'] at e; exact r.inj i j hi' hj' e
        · have : j = m.length := by omega
          subst this
          rw [hm, ag i hi'] at e
          exact absurd e (hne i hi')
      · have : i = m.length := by omega
        subst this
        by_cases hj' : j < m.length
        · rw [hm, ag j hj'] at e
          exact absurd e.symm (hne j hj')
        · omega
    · rw [len]
      by_cases hl : i < m.length
      · rw [List.getElem?_append_left hl] at e
        rw [ag i hl]
        exact (r.objs i o e).ext ⟨ag, fun _ _ h => h, fun _ _ h => h⟩ (Nat.le_succ _) rfl
      · have hi : i < m.length + 1 := by have := (List.getElem?_eq_some_iff.mp e).1; rw [len] at this; exact this
        have : i = m.length := by omega
        subst this
        simp at e
        subst e
        rw [hm]
        exact new α' ag
end
end Mp
end
section
/-! Mp: what a code comes to, as a reading. -/
namespace Mp
open PySem L2

def ExR (w : Wd) (e : Ex) (cls : Value) (d : Option Addr) (H : Hp) : Prop := ∃ C, w.mg (w.nm e.cls) = some (.ref C) ∧ cls = .ref C ∧ (e.fs = [] → d = none)
abbrev RepT (β γ : Type) := Hp → (Nat → Addr) → Nat → Hp → β → γ → Prop
def Back {β γ : Type} (rep : RepT β γ) : Prop := ∀ {α n H α1 n1 H1 α' n' H' b g}, Ext α n H α1 n1 H1 → rep H1 α' n' H' b g → rep H α' n' H' b g
def Out {β γ : Type} (w : Wd) (rep : RepT β γ) (α : Nat → Addr) (n : Nat) (H : Hp) (Q : γ → Hp → Prop) (E : XK) : R β → Prop
  | .ok b m' => ∀ α' H' g, Ext α n H α' m'.length H' → Rl w α' m' H' → rep H α' m'.length H' b g → Q g H'
  | .exc e m' => ∀ α' H' cls d, Ext α n H α' m'.length H' → Rl w α' m' H' → ExR w e cls d H' → E cls d H'
  | .bad => False

section
variable {w : Wd} {α α1 α' : Nat → Addr} {m m1 m' : Hm} {H H1 H' : Hp} {n n1 n' : Nat} {β γ β' γ' : Type} {rep : RepT β γ} {rep' : RepT β' γ'} {E : XK}
theorem Out.imp {Q Q' : γ → Hp → Prop} {r : R β} (h : Out w rep α n H Q E r) (i : ∀ g H', Q g H' → Q' g H') : Out w rep α n H Q' E r := by
  cases r with
  | ok b m' => exact fun α' H' g x l p => i _ _ (h α' H' g x l p)
  | exc e m' => exact h
  | bad => exact h
theorem Out.mono {Q : γ → Hp → Prop} {r : R β} (h : Out w rep α n H Q E r) (bk : Back rep) (x : Ext α n H α1 n1 H1) : Out w rep α1 n1 H1 Q E r := by
  cases r with
  | ok b m' => exact fun α' H' g y l p => h α' H' g (x.trans y) l (bk x p)
  | exc e m' => exact fun α' H' c d y l p => h α' H' c d (x.trans y) l p
  | bad => exact h
theorem Out.bind {Q : γ' → Hp → Prop} {r : R β} {g : β → Hm → R β'} (h : Out w rep' α n H Q E (r.bind g)) (bk : Back rep') :
    Out w rep α n H (fun x H1 => ∃ α1 m1 b, Ext α n H α1 m1.length H1 ∧ Rl w α1 m1 H1 ∧ rep H α1 m1.length H1 b x ∧ Out w rep' α1 m1.length H1 Q E (g b m1)) E r := by
  cases r with
  | ok b m' => exact fun α' H' x y l p => ⟨α', m', b, y, l, p, Out.mono (r := g b m') h bk y⟩
  | exc e m' => exact h
  | bad => exact h
theorem Out.grd_ {Q : γ → Hp → Prop} {p : Prop} {r : R β} (h : Out w rep α n H Q E (grd p r)) : p ∧ Out w rep α n H Q E r := by
  unfold grd at h
  by_cases hp : p
  · rw [if_pos hp] at h; exact ⟨hp, h⟩
  · rw [if_neg hp] at h; exact h.elim
theorem Out.now {Q : γ → Hp → Prop} {b : β} {g : γ} (h : Out w rep α m.length H Q E (.ok b m)) (r : Rl w α m H) (p : rep H α m.length H b g) : Q g H := h α H g (Ext.refl r.mapped) r p

/-! ### what stands for what -/
def RepA (w : Wd) (α : Nat → Addr) (n : Nat) (H : Hp) : A → V → Prop
  | .d x, v => Rep w α H x v ∧ x.lt n
  | .fl ds, v => ∃ a vs, v = .ref a ∧ H a = some (.lst vs) ∧ (∀ i, i < n → α i ≠ a) ∧ RepL w α H ds vs ∧ ltAll n ds ∧ ds.length ≤ sizeLine
def Fr (H : Hp) : A → V → Prop
  | .fl _, v => ∃ a, v = .ref a ∧ H a = none
  | _, _ => True
theorem Fr.back {a : A} {v : V} (x : Ext α n H α1 n1 H1) (f : Fr H1 a v) : Fr H a v := by
  cases a with
  | d _ => trivial
  | fl ds => obtain ⟨p, e, z⟩ := f; exact ⟨p, e, x.free z⟩
def RepAs (w : Wd) (α : Nat → Addr) (n : Nat) (H : Hp) : List A → List V → Prop
  | [], vs => vs = []
  | a :: as, vs => ∃ v us, vs = v :: us ∧ RepA w α n H a v ∧ RepAs w α n H as us
def pA (w : Wd) : RepT A V := fun H0 α n H a v => RepA w α n H a v ∧ Fr H0 a v
def pD (w : Wd) : RepT D V := fun _ α n H d v => Rep w α H d v ∧ d.lt n
def pDs (w : Wd) : RepT (List D) (List V) := fun _ α n H ds vs => RepL w α H ds vs ∧ ltAll n ds
def pAs (w : Wd) : RepT (List A) (List V) := fun _ α n H as vs => RepAs w α n H as vs
def pB : RepT Bool Bool := fun _ _ _ _ b c => c = b
def pBv : RepT Bool V := fun _ _ _ _ b v => v = .bl b
def pO : RepT (Option Int) (Option Int) := fun _ _ _ _ b c => c = b
def pU : RepT Unit Unit := fun _ _ _ _ _ _ => True
theorem pA.back : Back (pA w) := fun x ⟨p, f⟩ => ⟨p, f.back x⟩
theorem pD.back : Back (pD w) := fun _ p => p
theorem pDs.back : Back (pDs w) := fun _ p => p
theorem pAs.back : Back (pAs w) := fun _ p => p
theorem pB.back : Back pB := fun _ p => p
theorem pBv.back : Back pBv := fun _ p => p
theorem pO.back : Back pO := fun _ p => p
theorem pU.back : Back pU := fun _ p => p
theorem RepA.ext (x : Ext α m.length H α1 n1 H1) (r : Rl w α m H) {a : A} {v : V} (p : RepA w α m.length H a v) : RepA w α1 n1 H1 a v := by
  cases a with
  | d d => exact ⟨Rep.ext (x.keeps r) d v p.2 p.1, D.lt_mono x.le d p.2⟩
  | fl ds =>
    obtain ⟨a, vs, e, h, ne, q, l, z⟩ := p
    obtain ⟨h1, ne1⟩ := x.keep a _ h ne
    exact ⟨a, vs, e, h1, ne1, RepL.ext (x.keeps r) ds vs l q, D.ltAll_mono x.le ds l, z⟩
theorem RepAs.ext (x : Ext α m.length H α1 n1 H1) (r : Rl w α m H) : ∀ {as : List A} {vs : List V}, RepAs w α m.length H as vs → RepAs w α1 n1 H1 as vs
  | [], _, p => p
  | a :: as, _, ⟨v, us, e, p, q⟩ => ⟨v, us, e, p.ext x r, RepAs.ext x r q⟩

/-! ### readings -/
def EnvR (w : Wd) (α : Nat → Addr) (n : Nat) (H : Hp) (ρ : Rho) (σ : St) : Prop := ρ.length = σ.length ∧ ∀ (i : Nat) (d : D), ρ[i]? = some (some d) → ∃ v, σ[i]? = some (some v) ∧ Rep w α H d v ∧ d.lt n
theorem EnvR.ext {ρ : Rho} {σ : St} (x : Ext α m.length H α1 n1 H1) (r : Rl w α m H) (e : EnvR w α m.length H ρ σ) : EnvR w α1 n1 H1 ρ σ := ⟨e.1, fun i d h => by
  obtain ⟨v, h1, h2, h3⟩ := e.2 i d h
  exact ⟨v, h1, Rep.ext (x.keeps r) d v h3 h2, D.lt_mono x.le d h3⟩⟩
/-- the reading of a code -/
def tE (w : Wd) (rep : RepT β γ) (W : WX) (f : Rho → Hm → R β) : St → Hp → (γ → Hp → Prop) → Prop := fun σ H Q =>
  ∃ α ρ m, Rl w α m H ∧ EnvR w α m.length H ρ σ ∧ Out w rep α m.length H Q (fun cls d H' => W cls d σ H') (f ρ m)
end
theorem PE.imp {X : Cx} {e : Expr} {t t' : TE} (h : PE X e t) (i : ∀ σ H Q, t' σ H Q → t σ H Q) : PE X e t' := ⟨fun pins s σ H Q I q => h.run pins s σ H Q I (i σ H Q q)⟩
theorem PT.imp {X : Cx} {e : Expr} {t t' : TT} (h : PT X e t) (i : ∀ σ H Q, t' σ H Q → t σ H Q) : PT X e t' := ⟨fun pins s σ H Q I q => h.run pins s σ H Q I (i σ H Q q)⟩
theorem PW.imp {X : Cx} {e : Expr} {t t' : TT} (h : PW X e t) (i : ∀ σ H Q, t' σ H Q → t σ H Q) : PW X e t' := ⟨fun wh pins s σ H Q I q => h.run wh pins s σ H Q I (i σ H Q q)⟩
theorem PA.imp {X : Cx} {e : List Expr} {t t' : TA} (h : PA X e t) (i : ∀ σ H Q, t' σ H Q → t σ H Q) : PA X e t' := ⟨fun pos pins s σ H Q I q => h.run pos pins s σ H Q I (i σ H Q q)⟩

section
variable {X : Cx} {w : Wd} {W : WX} {e a b : Expr} {pos : Pos} {fa fb : Rho → Hm → R A}
theorem laid_imp {σ : St} {H : Hp} {Q : VK} (h : tE w (pD w) W (fun ρ m => (fa ρ m).bind lay) σ H Q) : tE w (pA w) W fa σ H Q := by
  obtain ⟨α, ρ, m, r, en, o⟩ := h
  refine ⟨α, ρ, m, r, en, ?_⟩
  replace o : Out w (pD w) α m.length H Q (fun cls d H' => W cls d σ H') ((fa ρ m).bind lay) := o
  cases e : fa ρ m with
  | ok x m1 =>
    rw [e] at o
    intro α1 H1 v x1 r1 p
    cases x with
    | d d => exact o α1 H1 v x1 r1 p.1
    | fl ds =>
      obtain ⟨⟨a, vs, ea, h, ne, q, l, z⟩, ⟨a', ea', fr⟩⟩ := p
      subst ea
      cases ea'
      obtain ⟨α2, x2, r2, e2, ag⟩ := r1.lay (ob := .lst ds) x1 fr ne fun α' ag => ⟨vs, h, RepL.ext ⟨ag, fun _ _ h => h, fun _ _ h => h⟩ ds vs l q, z, D.ltAll_mono (Nat.le_succ _) ds l⟩
      refine o α2 H1 _ x2 r2 ⟨?_, ?_⟩
      · unfold Rep; rw [e2]
      · unfold D.lt; simp
  | exc ex m1 => rw [e] at o; exact o
  | bad => rw [e] at o; exact o
/-- a code's value, laid -/
theorem PE.laid (h : PE X e (tE w (pA w) W fa)) : PE X e (tE w (pD w) W (fun ρ m => (fa ρ m).bind lay)) := PE.imp h fun σ H Q h => laid_imp h
/-- any A-rule at values -/
def rA (w : Wd) (g : A → A → Hm → R A) : R2 := fun x y H Q => ∃ α m a b E, Rl w α m H ∧ RepA w α m.length H a x ∧ RepA w α m.length H b y ∧ Out w (pA w) α m.length H Q E (g a b m)
/-- two codes, one behind the other -/
theorem two {r : R2} {g : A → A → Hm → R A} (hr : ∀ x y H Q, rA w g x y H Q → r x y H Q) {σ : St} {H : Hp} {Q : VK}
    (h : tE w (pA w) W (fun ρ m => (fa ρ m).bind fun x m => (fb ρ m).bind fun y m => g x y m) σ H Q) : tE w (pA w) W fa σ H fun x H1 => tE w (pA w) W fb σ H1 fun y H2 => r x y H2 Q := by
  obtain ⟨α, ρ, m, l, en, o⟩ := h
  refine ⟨α, ρ, m, l, en, (o.bind (rep := pA w) pA.back).imp fun x H1 ⟨α1, m1, a, x1, l1, p1, o1⟩ => ?_⟩
  refine ⟨α1, ρ, m1, l1, en.ext x1 l, (o1.bind (rep := pA w) pA.back).imp fun y H2 ⟨α2, m2, b, x2, l2, p2, o2⟩ => ?_⟩
  exact hr x y H2 Q ⟨α2, m2, a, b, _, l2, p1.1.ext x2 l1, p2.1, o2⟩
theorem q_bin {op : Operator} {g : A → A → Hm → R A} (ho : OpR X (binaryOp op) (rA w g)) (ha : PE X a (tE w (pA w) W fa)) (hb : PE X b (tE w (pA w) W fb)) :
    PE X (.BinOp a op b pos) (tE w (pA w) W (fun ρ m => (fa ρ m).bind fun x m => (fb ρ m).bind fun y m => g x y m)) := PE.imp (pe_op ho ha hb) fun σ H Q h => two (fun _ _ _ _ q => q) h

/-! ### ends of operations -/
section
variable {α : Nat → Addr} {m : Hm} {H : Hp} {Q : VK} {E : XK} {xs : List D} {vs : List V}
theorem rep_int {i : Int} : pA w H α m.length H (.d (.int i)) (.int i) := ⟨⟨by unfold Rep; rfl, by unfold D.lt; trivial⟩, trivial⟩
theorem rep_bl {i : Bool} : pA w H α m.length H (.d (.bl i)) (.bl i) := ⟨⟨by unfold Rep; rfl, by unfold D.lt; trivial⟩, trivial⟩
theorem rep_non : pA w H α m.length H (.d .non) .non := ⟨⟨by unfold Rep; rfl, by unfold D.lt; trivial⟩, trivial⟩
theorem rep_str {x : Str} (h : x.length ≤ sizeLine) : pA w H α m.length H (.d (.str x)) (.str x) := ⟨⟨by unfold Rep; exact ⟨rfl, h⟩, by unfold D.lt; trivial⟩, trivial⟩
/-- a new list -/
theorem Out.list (o : Out w (pA w) α m.length H Q E (.ok (.fl xs) m)) (r : Rl w α m H) (q : RepL w α H xs vs) (l : ltAll m.length xs) (z : xs.length ≤ sizeLine) {p : Addr} (hp : H p = none) : Q (.ref p) (upd H p (.lst vs)) := by
  obtain ⟨x1, r1, ne⟩ := r.new (o := .lst vs) hp
  exact o α _ _ x1 r1 ⟨⟨p, vs, rfl, upd_same, ne, RepL.ext (x1.keeps r) xs vs l q, l, z⟩, p, rfl, hp⟩
/-- a new tuple -/
theorem Out.tuple (o : Out w (pA w) α m.length H Q E (.ok (.d (.tup xs)) m)) (r : Rl w α m H) (q : RepL w α H xs vs) (l : ltAll m.length xs) (z : xs.length ≤ sizeLine) {p : Addr} (hp : H p = none) : Q (.ref p) (upd H p (.tup vs)) := by
  obtain ⟨x1, r1, ne⟩ := r.new (o := .tup vs) hp
  refine o α _ _ x1 r1 ⟨⟨?_, by unfold D.lt; exact l⟩, trivial⟩
  unfold Rep
  exact ⟨p, vs, rfl, SqT.of upd_same, z, RepL.ext (x1.keeps r) xs vs l q⟩
/-- the tuple that is there -/
theorem Out.same {p : Addr} (o : Out w (pA w) α m.length H Q E (.ok (.d (.tup xs)) m)) (r : Rl w α m H) (s : SqT w.K H p vs) (q : RepL w α H xs vs) (l : ltAll m.length xs) (z : xs.length ≤ sizeLine) : Q (.ref p) H := by
  refine o.now r ⟨⟨?_, by unfold D.lt; exact l⟩, trivial⟩
  unfold Rep
  exact ⟨p, vs, rfl, s, z, q⟩
theorem RepA.int {i : Int} {v : V} (h : RepA w α m.length H (.d (.int i)) v) : v = .int i := by have := h.1; unfold Rep at this; exact this
theorem RepA.bl {i : Bool} {v : V} (h : RepA w α m.length H (.d (.bl i)) v) : v = .bl i := by have := h.1; unfold Rep at this; exact this
theorem RepA.non {v : V} (h : RepA w α m.length H (.d .non) v) : v = .non := by have := h.1; unfold Rep at this; exact this
theorem RepA.str {x : Str} {v : V} (h : RepA w α m.length H (.d (.str x)) v) : v = .str x ∧ x.length ≤ sizeLine := by have := h.1; unfold Rep at this; exact this
theorem RepA.tup {v : V} (h : RepA w α m.length H (.d (.tup xs)) v) : ∃ a vs, v = .ref a ∧ SqT w.K H a vs ∧ xs.length ≤ sizeLine ∧ RepL w α H xs vs ∧ ltAll m.length xs := by
  obtain ⟨h, l⟩ := h
  unfold Rep at h
  unfold D.lt at l
  obtain ⟨a, vs, e, s, z, q⟩ := h
  exact ⟨a, vs, e, s, z, q, l⟩
/-- an own list that is read and joined -/
theorem RepA.own (r : Rl w α m H) {a : A} {v : V} (h : RepA w α m.length H a v) (e : lstOwn m a = some xs) : ∃ p vs, v = .ref p ∧ H p = some (.lst vs) ∧ xs.length ≤ sizeLine ∧ RepL w α H xs vs ∧ ltAll m.length xs := by
  cases a with
  | fl ds =>
    cases (show ds = xs from Option.some.inj e)
    obtain ⟨a, vs, e, h, ne, q, l, z⟩ := h
    exact ⟨a, vs, e, h, z, q, l⟩
  | d d =>
    cases d with
    | ref i =>
      have e : lstAt m i = some xs := e
      unfold lstAt at e
      split at e
      · rename_i ys hy
        cases e
        obtain ⟨vs, h1, h2, h3, h4⟩ := r.objs i _ hy
        have hv := h.1
        unfold Rep at hv
        exact ⟨α i, vs, hv, h1, h3, h2, h4⟩
      · cases e
    | _ => cases e
theorem RepA.lst (r : Rl w α m H) {a : A} {v : V} (h : RepA w α m.length H a v) (e : lstOf m a = some xs) : ∃ p vs, v = .ref p ∧ SqL w.K H p vs ∧ xs.length ≤ sizeLine ∧ RepL w α H xs vs ∧ ltAll m.length xs := by
  by_cases c : ∃ ys, a = .d (.frl ys)
  · obtain ⟨ys, rfl⟩ := c
    cases (show ys = xs from Option.some.inj e)
    obtain ⟨h, l⟩ := h
    unfold Rep at h
    unfold D.lt at l
    obtain ⟨a, vs, e, s, z, q⟩ := h
    exact ⟨a, vs, e, s.sq, z, q, l⟩
  · have e' : lstOwn m a = some xs := by
      cases a with
      | fl ds => exact e
      | d d => cases d <;> first | exact e | exact (c ⟨_, rfl⟩).elim | cases e
    obtain ⟨p, vs, e1, h1, z, q, l⟩ := h.own r e'
    exact ⟨p, vs, e1, SqL.of h1, z, q, l⟩
theorem RepA.seq (r : Rl w α m H) {a : A} {v : V} (h : RepA w α m.length H a v) (e : seqOf m a = some xs) : ∃ p vs, v = .ref p ∧ (SqL w.K H p vs ∨ SqT w.K H p vs) ∧ xs.length ≤ sizeLine ∧ RepL w α H xs vs ∧ ltAll m.length xs := by
  by_cases c : ∃ ys, a = .d (.tup ys)
  · obtain ⟨ys, rfl⟩ := c
    cases (show ys = xs from Option.some.inj e)
    obtain ⟨p, vs, e1, s, z, q, l⟩ := h.tup
    exact ⟨p, vs, e1, .inr s, z, q, l⟩
  · have e' : lstOf m a = some xs := by
      cases a with
      | fl ds => exact e
      | d d => cases d <;> first | exact e | exact (c ⟨_, rfl⟩).elim | cases e
    obtain ⟨p, vs, e1, h1, z, q, l⟩ := h.lst r e'
    exact ⟨p, vs, e1, .inl h1, z, q, l⟩
end

/-! ### operators -/
variable (hK : X.K = w.K)
include hK
theorem o_add : OpR X (binaryOp .Add) (rA w (binA .Add)) := by
  rintro pins s σ H x y v u Q I rx ry ⟨α, m, a, b, E, r, pa, pb, o⟩
  have lists : ∀ {xs ys : List D}, lstOwn m a = some xs → lstOwn m b = some ys → Out w (pA w) α m.length H Q E (grd (xs.length + ys.length ≤ sizeLine) (.ok (.fl (xs ++ ys)) m)) → wpAny (model X.prog X.w) X.A (binaryOp .Add v u) (EP X pins σ Q) X.xe s := by
    intro xs ys ea eb o
    obtain ⟨hz, o⟩ := o.grd_
    obtain ⟨p, vs, rfl, hp, zp, qp, lp⟩ := pa.own r ea
    obtain ⟨q, us, rfl, hq, zq, qq, lq⟩ := pb.own r eb
    exact op_cat pins s σ H _ _ v u Q I rx ry ⟨p, q, vs, us, rfl, rfl, hp, hq, by rw [← RepL.length _ _ qp, ← RepL.length _ _ qq]; exact hz, fun t ht => o.list r (qp.append qq) (ltAll_append lp lq) (by rw [List.length_append]; exact hz) ht⟩
  have other : ∀ (o : Out w (pA w) α m.length H Q E (match lstOwn m a, lstOwn m b with | some xs, some ys => grd (xs.length + ys.length ≤ sizeLine) (.ok (.fl (xs ++ ys)) m) | _, _ => .bad)), wpAny (model X.prog X.w) X.A (binaryOp .Add v u) (EP X pins σ Q) X.xe s := by
    intro o
    cases ea : lstOwn m a with
    | none => rw [ea] at o; exact o.elim
    | some xs =>
      cases eb : lstOwn m b with
      | none => rw [ea, eb] at o; exact o.elim
      | some ys => rw [ea, eb] at o; exact lists ea eb o
  replace o : Out w (pA w) α m.length H Q E (addA a b m) := o
  unfold addA at o
  split at o
  · cases pa.int; cases pb.int
    exact op_add pins s σ H _ _ v u Q I rx ry ⟨_, _, rfl, rfl, o.now r rep_int⟩
  · obtain ⟨rfl, z1⟩ := pa.str
    obtain ⟨rfl, z2⟩ := pb.str
    obtain ⟨hz, o⟩ := o.grd_
    exact op_add_str pins s σ H _ _ v u Q I rx ry ⟨_, _, rfl, rfl, hz, o.now r (rep_str (by rw [Str.length_append]; exact hz))⟩
  · rename_i xs ys
    obtain ⟨hz, o⟩ := o.grd_
    obtain ⟨p, vs, rfl, hp, zp, qp, lp⟩ := pa.tup
    obtain ⟨q, us, rfl, hq, zq, qq, lq⟩ := pb.tup
    have e1 := RepL.length _ _ qp
    have e2 := RepL.length _ _ qq
    refine op_catA pins s σ H _ _ v u Q I rx ry ⟨p, q, vs, us, rfl, rfl, by rw [hK]; exact hp, by rw [hK]; exact hq, by rw [← e1, ← e2]; exact hz, fun h => ?_, fun h1 h2 => ?_, fun h1 h2 t ht => ?_⟩
    · subst h
      have : xs = [] := List.length_eq_zero_iff.mp (by simpa using e1)
      subst this
      exact o.same r hq qq lq zq
    · subst h2
      have : ys = [] := List.length_eq_zero_iff.mp (by simpa using e2)
      subst this
      rw [List.append_nil] at o
      exact o.same r hp qp lp zp
    · exact o.tuple r (qp.append qq) (ltAll_append lp lq) (by rw [List.length_append]; exact hz) ht
  · exact other o
end
end Mp
end
section
/-! Mp: comparisons, subscripts. -/
namespace Mp
open L2 PySem PySem.Spec PyProof.Rows
section
variable {X : Cx} {w : Wd} {W : WX} {e a b c : Expr} {pos : Pos} {fa fb fc : Rho → Hm → R A}

theorem o_int {op : Operator} {p : Int → Int → Prop} {f : Int → Int → Int} (ho : OpR X (binaryOp op) (rI p fun i j => .int (f i j))) : OpR X (binaryOp op) (rA w (intA p f)) := by
  rintro pins s σ H x y v u Q I rx ry ⟨α, m, a, b, E, r, pa, pb, o⟩
  unfold intA at o
  split at o
  · cases pa.int; cases pb.int
    obtain ⟨hp, o⟩ := o.grd_
    exact ho pins s σ H _ _ v u Q I rx ry ⟨_, _, rfl, rfl, hp, o.now r rep_int⟩
  · exact o.elim
theorem o_sub : OpR X (binaryOp .Sub) (rA w (binA .Sub)) := o_int (X := X) fun pins s σ H x y v u Q I rx ry ⟨i, j, e1, e2, _, q⟩ => op_sub pins s σ H x y v u Q I rx ry ⟨i, j, e1, e2, q⟩
theorem o_fdiv : OpR X (binaryOp .FloorDiv) (rA w (binA .FloorDiv)) := o_int (X := X) op_fdiv
theorem o_mod : OpR X (binaryOp .Mod) (rA w (binA .Mod)) := o_int (X := X) op_mod
theorem o_pow : OpR X (binaryOp .Pow) (rA w (binA .Pow)) := o_int (X := X) op_pow
theorem RepL.rep {α : Nat → Addr} {H : Hp} {xs : List D} {vs : List V} (q : RepL w α H xs vs) : ∀ k : Nat, RepL w α H (List.replicate k xs).flatten (List.replicate k vs).flatten
  | 0 => by simp [RepL]
  | k + 1 => by
    rw [List.replicate_succ, List.replicate_succ, List.flatten_cons, List.flatten_cons]
    exact q.append (RepL.rep q k)
theorem ltAll_rep {n : Nat} {xs : List D} (l : ltAll n xs) : ∀ k : Nat, ltAll n (List.replicate k xs).flatten
  | 0 => by simp [ltAll]
  | k + 1 => by
    rw [List.replicate_succ, List.flatten_cons]
    exact ltAll_append l (ltAll_rep l k)
theorem tuple_mul_none (l : Addr) (n : Nat) (dd : Option Addr) (sl : Array (Option Value)) (x : Int) (u : Tok) (c0 : (decide (x < -(2 ^ 63)) || decide (x ≥ 2 ^ 63)) = false) :
    Meets (Builtin.«tuple.__mul__» ⟨[.ref l, .int x u], []⟩) (fun _ R s => s.heap.get? l = some { cls := .type "tuple", dict := dd, data := .seq #[] n, slots := sl } ∧ R (.ok (.ret (Value.ref l))) s) :=
  .of_wp fun prog w A R s h => by
    obtain ⟨hp, g, d, tk, os⟩ := s
    obtain ⟨hl, h⟩ := h
    have f1 := AutoSeq1.idx_int
    wp_walk using wpAny_loadPart' hl
    repeat (first
      | (refine wpAny_ite_false (decide_eq_false (by rw [c0]; exact Bool.false_ne_true)) ?_; wp_walk using wpAny_loadPart' hl)
      | (refine wpAny_ite_true (by simp) ?_; wp_walk using wpAny_loadPart' hl))
    exact ⟨_, rfl, h⟩
theorem op_repNone {pins : List (Addr × Obj)} {s : Shared} {σ : L2.St} {H : Hp} {Q : VK} {p : Addr} {k : Int} {t : Tok} (I : Inv X pins σ H s) (hp : SqT X.K H p []) (h1 : -(2 ^ 63) ≤ k) (h2 : k < 2 ^ 63) (q : Q (.ref p) H) :
    wpAny (model X.prog X.w) X.A (binaryOp .Mult (.ref p) (.int k t)) (EP X pins σ Q) X.xe s := by
  obtain ⟨its, r, ⟨⟨cls, dd, data, sl⟩, ho, hc, n, hd⟩, hs⟩ := I.tuple hp
  simp only at hc hd
  subst hc hd
  cases r
  have c0 : (decide (k < -(2 ^ 63)) || decide (k ≥ 2 ^ 63)) = false := by
    simp; omega
  refine wpAny_binaryOp_repeat_ref (T := "tuple") (U := "int") (by decide) ⟨_, ho, rfl⟩ (fun s' => typeIs_int s' k t) noFill_tuple_mul F.fills_int_mul F.slot_int_rmul repeat_tuple F.slot_int_index.lookup
    (call_meets F.slot_int_rmul (typeIs_int s k t) F.entry_int_rmul (F.args_int_rmul_2 _ _) (int_rmul_tuple k t p #[] n dd sl)
      ⟨ho, rfl, ⟨_, ho, rfl⟩, call_meets F.slot_tuple_mul ⟨_, ho, rfl⟩ F.entry_tuple_mul (F.args_tuple_mul_2 _ _) (tuple_mul_none p n dd sl k t c0) ⟨ho, ?_⟩⟩)
  exact ⟨.ref p, H, I, rfl, q⟩
theorem o_mul (hK : X.K = w.K) : OpR X (binaryOp .Mult) (rA w (binA .Mult)) := by
  rintro pins s σ H x y v u Q I rx ry ⟨α, m, a, b, E, r, pa, pb, o⟩
  replace o : Out w (pA w) α m.length H Q E (mulA a b m) := o
  unfold mulA at o
  split at o
  · rename_i k
    obtain ⟨⟨h1, h2⟩, o⟩ := o.grd_
    obtain ⟨p, vs, rfl, hp, zp, qp, lp⟩ := pa.tup
    cases pb.int
    have ev : vs = [] := List.length_eq_zero_iff.mp (by rw [← RepL.length _ _ qp]; rfl)
    subst ev
    cases rx
    obtain ⟨t, rfl⟩ := ry
    exact op_repNone I (by rw [hK]; exact hp) h1 h2 (o.same r hp qp lp zp)
  · rename_i xs k hne
    obtain ⟨⟨h2, h3, h4⟩, o⟩ := o.grd_
    obtain ⟨p, vs, rfl, hp, zp, qp, lp⟩ := pa.tup
    cases pb.int
    have e1 := RepL.length _ _ qp
    refine op_repT pins s σ H _ _ v u Q I rx ry ⟨p, k, vs, rfl, rfl, by rw [hK]; exact hp, fun z => hne ?_, h2, h3, by rw [← e1]; exact h4, fun t ht => o.tuple r (qp.rep _) (ltAll_rep lp _) ?_ ht⟩
    · subst z; exact List.length_eq_zero_iff.mp (by simpa using e1)
    · rw [List.length_flatten, List.map_replicate, List.sum_replicate_nat]
      have : k.toNat ≤ 1000 := by omega
      have h5 : k.toNat * xs.length ≤ 1000 * 1000 := Nat.mul_le_mul this h4
      rw [sizeLine_eq]
      omega
  · exact o_int (X := X) op_mul pins s σ H x y v u Q I rx ry ⟨α, m, _, _, E, r, pa, pb, o⟩
theorem o_bin (hK : X.K = w.K) (op : Operator) : OpR X (binaryOp op) (rA w (binA op)) := by
  cases op
  case Add => exact o_add hK
  case Sub => exact o_sub
  case Mult => exact o_mul hK
  case FloorDiv => exact o_fdiv
  case Mod => exact o_mod
  case Pow => exact o_pow
  all_goals
    rintro pins s σ H x y v u Q I rx ry ⟨α, m, a, b, E, r, pa, pb, o⟩
    exact o.elim

/-! ### comparisons -/
def rB (w : Wd) (g : A → A → Hm → R Bool) : R2 := fun x y H Q => ∃ α m a b E, Rl w α m H ∧ RepA w α m.length H a x ∧ RepA w α m.length H b y ∧ Out w pBv α m.length H Q E (g a b m)
theorem o_icmp {op : CmpOp} {p : Int → Int → Bool} (ho : OpR X (compareOp op) (rI0 fun i j => .bl (p i j))) : OpR X (compareOp op) (rB w (icmp p)) := by
  rintro pins s σ H x y v u Q I rx ry ⟨α, m, a, b, E, r, pa, pb, o⟩
  unfold icmp at o
  split at o
  · cases pa.int; cases pb.int
    exact ho pins s σ H _ _ v u Q I rx ry ⟨_, _, rfl, rfl, o.now r rfl⟩
  · exact o.elim
theorem o_lt : OpR X (compareOp .Lt) (rB w ltA) := by
  rintro pins s σ H x y v u Q I rx ry ⟨α, m, a, b, E, r, pa, pb, o⟩
  unfold ltA at o
  split at o
  · obtain ⟨rfl, _⟩ := pa.str
    obtain ⟨rfl, _⟩ := pb.str
    exact op_lt_str pins s σ H _ _ v u Q I rx ry ⟨_, _, rfl, rfl, o.now r rfl⟩
  · exact o_icmp op_lt pins s σ H x y v u Q I rx ry ⟨α, m, _, _, E, r, pa, pb, o⟩
theorem rep_vals {α : Nat → Addr} {H : Hp} {n : Nat} : ∀ {x : D} {v : V}, x.flat = true → Rep w α H x v → flatV v = true
  | .non, _, _, h => by unfold Rep at h; subst h; rfl
  | .bl _, _, _, h => by unfold Rep at h; subst h; rfl
  | .int _, _, _, h => by unfold Rep at h; subst h; rfl
  | .str _, _, _, h => by unfold Rep at h; rw [h.1]; rfl
  | .tup _, _, z, _ => by cases z
  | .frl _, _, z, _ => by cases z
  | .ref _, _, z, _ => by cases z
  | .fn _, _, z, _ => by cases z
def fv : D → V
  | .bl b => .bl b | .int i => .int i | .str x => .str x
  | _ => .non
theorem rep_fv {α : Nat → Addr} {H : Hp} : ∀ {x : D} {v : V}, x.flat = true → Rep w α H x v → v = fv x
  | .non, _, _, h => by unfold Rep at h; exact h
  | .bl _, _, _, h => by unfold Rep at h; exact h
  | .int _, _, _, h => by unfold Rep at h; exact h
  | .str _, _, _, h => by unfold Rep at h; exact h.1
  | .tup _, _, z, _ => by cases z
  | .frl _, _, z, _ => by cases z
  | .ref _, _, z, _ => by cases z
  | .fn _, _, z, _ => by cases z
theorem eqF_fv : ∀ x y : D, x.flat = true → y.flat = true → eqV (fv x) (fv y) = eqF x y := by
  intro x y fx fy
  cases x <;> cases y <;> first
    | rfl
    | (simp [D.flat] at fx; done)
    | (simp [D.flat] at fy; done)
theorem eqF_V {α : Nat → Addr} {H : Hp} {x y : D} {v u : V} (fx : x.flat = true) (fy : y.flat = true) (h1 : Rep w α H x v) (h2 : Rep w α H y u) : eqV v u = eqF x y := by
  rw [rep_fv fx h1, rep_fv fy h2]
  exact eqF_fv x y fx fy
theorem scal_fv : ∀ x y : D, scalD x y = true → x.flat = true ∧ y.flat = true ∧ scal (fv x) (fv y) = true ∧ decide (fv x = fv y) = eqF x y := by
  intro x y f
  cases x <;> cases y <;> first
    | (simp [scalD] at f; done)
    | exact ⟨rfl, rfl, rfl, dec_int⟩
    | exact ⟨rfl, rfl, rfl, dec_bl⟩
    | exact ⟨rfl, rfl, rfl, dec_str⟩
    | exact ⟨rfl, rfl, rfl, rfl⟩
    | exact ⟨rfl, rfl, rfl, decide_eq_false (by intro z; cases z)⟩
theorem eqF_scal {α : Nat → Addr} {H : Hp} {x y : D} {v u : V} (f : scalD x y = true) (h1 : Rep w α H x v) (h2 : Rep w α H y u) : scal v u = true ∧ decide (v = u) = eqF x y := by
  obtain ⟨fx, fy, q1, q2⟩ := scal_fv x y f
  rw [rep_fv fx h1, rep_fv fy h2]
  exact ⟨q1, q2⟩
/-- data as the library's -/
theorem toPy_dp {α : Nat → Addr} {H : Hp} : (∀ (d : D) (p : PyData) (v : V), toPy d = some p → Rep w α H d v → Dp w.K H v p) ∧ ∀ (ds : List D) (ps : List PyData) (vs : List V), toPys ds = some ps → RepL w α H ds vs → DpAll w.K H vs ps := by
  have key : ∀ n : Nat, (∀ (d : D) (p : PyData) (v : V), sizeOf d ≤ n → toPy d = some p → Rep w α H d v → Dp w.K H v p) ∧ ∀ (ds : List D) (ps : List PyData) (vs : List V), sizeOf ds ≤ n → toPys ds = some ps → RepL w α H ds vs → DpAll w.K H vs ps := by
    intro n
    induction n with
    | zero =>
      refine ⟨fun d p v hz => ?_, fun ds p v hz => ?_⟩
      · cases d <;> simp at hz
      · cases ds <;> simp at hz
    | succ n ih =>
      refine ⟨fun d p v hz e h => ?_, fun ds ps vs hz e h => ?_⟩
      · cases d with
        | non => simp only [toPy] at e; cases e; simp only [Rep] at h; subst h; exact .non
        | bl b => simp only [toPy] at e; cases e; simp only [Rep] at h; subst h; exact .bl b
        | int i => simp only [toPy] at e; cases e; simp only [Rep] at h; subst h; exact .int i
        | str x => simp only [toPy] at e; cases e; simp only [Rep] at h; rw [h.1]; exact .str x
        | tup xs =>
          simp only [toPy] at e
          cases q : toPys xs with
          | none => rw [q] at e; cases e
          | some ps =>
            rw [q] at e
            cases e
            simp only [Rep] at h
            obtain ⟨a, vs, rfl, s, z, r⟩ := h
            exact .tup s (ih.2 xs ps vs (by simp at hz; omega) q r)
        | frl xs => simp only [toPy] at e; cases e
        | ref i => simp only [toPy] at e; cases e
        | fn k => simp only [toPy] at e; cases e
      · cases ds with
        | nil => simp only [toPys] at e; cases e; simp only [RepL] at h; subst h; exact .nil
        | cons d ds =>
          simp only [toPys] at e
          cases q : toPy d with
          | none => rw [q] at e; cases e
          | some p =>
            cases q2 : toPys ds with
            | none => rw [q, q2] at e; cases e
            | some ps =>
              rw [q, q2] at e
              cases e
              simp only [RepL] at h
              obtain ⟨v, us, rfl, h1, h2⟩ := h
              exact .cons (ih.1 d p v (by simp at hz; omega) q h1) (ih.2 ds ps us (by simp at hz; omega) q2 h2)
  exact ⟨fun d p v => (key (sizeOf d)).1 d p v (Nat.le_refl _), fun ds ps vs => (key (sizeOf ds)).2 ds ps vs (Nat.le_refl _)⟩
theorem toPyA_dp {α : Nat → Addr} {m : Hm} {H : Hp} (r : Rl w α m H) {a : A} {p : PyData} {v : V} (h : RepA w α m.length H a v) (e : toPyA m a = some p) : Dp w.K H v p := by
  have lists : ∀ {xs : List D}, lstOwn m a = some xs → (toPys xs).map .list = some p → Dp w.K H v p := fun {xs} e1 e2 => by
    obtain ⟨q, vs, rfl, hq, z, rq, l⟩ := h.own r e1
    cases t : toPys xs with
    | none => rw [t] at e2; cases e2
    | some ps =>
      rw [t] at e2
      cases e2
      exact .lst (SqL.of hq) (toPy_dp.2 xs ps vs t rq)
  cases a with
  | fl xs => exact lists rfl e
  | d d =>
    cases d with
    | ref i =>
      have e : ((lstAt m i).bind fun xs => (toPys xs).map .list) = some p := e
      cases q : lstAt m i with
      | none => rw [q] at e; cases e
      | some xs => rw [q] at e; exact lists q e
    | _ => exact toPy_dp.1 _ _ _ e h.1
theorem o_eqDeep (hK : X.K = w.K) (hu : X.A.units + 64 < cLine) {α : Nat → Addr} {m : Hm} {a b : A} {pins : List (Addr × Obj)} {s : Shared} {σ : L2.St} {H : Hp} {x y : V} {v u : Value} {Q : VK} {E : XK} {neg : Bool}
    (I : Inv X pins σ H s) (rx : RelV x v) (ry : RelV y u) (r : Rl w α m H) (pa : RepA w α m.length H a x) (pb : RepA w α m.length H b y) (o : Out w pBv α m.length H Q E (if neg then (eqDeep a b m).not else eqDeep a b m)) :
    wpAny (model X.prog X.w) X.A (compareOp (if neg then .NotEq else .Eq) v u) (EP X pins σ Q) X.xe s := by
  unfold eqDeep at o
  cases e1 : toPyA m a with
  | none => rw [e1] at o; cases neg <;> exact o.elim
  | some p =>
    cases e2 : toPyA m b with
    | none => rw [e1, e2] at o; cases neg <;> exact o.elim
    | some q =>
      rw [e1, e2] at o
      have d1 := toPyA_dp r pa e1
      have d2 := toPyA_dp r pb e2
      rw [← hK] at d1 d2
      by_cases g : SeqAt.shaped p = true ∧ SeqAt.shaped q = true
      · simp only [grd, if_pos g] at o
        cases neg with
        | true => exact op_neD hu pins s σ H x y v u Q I rx ry ⟨p, q, d1, d2, g.1, g.2, o.now r rfl⟩
        | false => exact op_eqD hu pins s σ H x y v u Q I rx ry ⟨p, q, d1, d2, g.1, g.2, o.now r rfl⟩
      · simp only [grd, if_neg g] at o
        cases neg <;> exact o.elim
theorem o_eq2 (hK : X.K = w.K) (hu : X.A.units + 64 < cLine) (neg : Bool) : OpR X (compareOp (if neg then .NotEq else .Eq)) (rB w fun a b m => if neg then (eqA a b m).not else eqA a b m) := by
  rintro pins s σ H x y v u Q I rx ry ⟨α, m, a, b, E, r, pa, pb, o⟩
  replace o : Out w pBv α m.length H Q E (if neg then (eqA a b m).not else eqA a b m) := o
  by_cases c : ∃ dx dy, a = .d dx ∧ b = .d dy
  · obtain ⟨dx, dy, rfl, rfl⟩ := c
    replace o : Out w pBv α m.length H Q E (if neg then (if scalD dx dy then R.ok (eqF dx dy) m else eqDeep (.d dx) (.d dy) m).not else (if scalD dx dy then R.ok (eqF dx dy) m else eqDeep (.d dx) (.d dy) m)) := o
    by_cases f : scalD dx dy = true
    · rw [if_pos f] at o
      obtain ⟨h1, h2⟩ := eqF_scal f pa.1 pb.1
      cases neg with
      | true => exact op_ne pins s σ H x y v u Q I rx ry ⟨h1, o.now r (by show V.bl _ = V.bl _; rw [h2])⟩
      | false => exact op_eq pins s σ H x y v u Q I rx ry ⟨h1, o.now r (by show V.bl _ = V.bl _; rw [h2])⟩
    · rw [if_neg f] at o
      exact o_eqDeep hK hu I rx ry r pa pb o
  · have e : eqA a b m = eqDeep a b m := by
      cases a <;> cases b <;> first | rfl | exact (c ⟨_, _, rfl, rfl⟩).elim
    rw [e] at o
    exact o_eqDeep hK hu I rx ry r pa pb o
theorem flats {α : Nat → Addr} {H : Hp} : ∀ {xs : List D} {vs : List V}, xs.all D.flat = true → RepL w α H xs vs → vs.all flatV = true ∧ ∀ {x : D} {v : V}, x.flat = true → Rep w α H x v → (vs.any fun y => eqV y v) = xs.any fun y => eqF y x
  | [], vs, _, h => by unfold RepL at h; subst h; exact ⟨rfl, fun _ _ => rfl⟩
  | y :: xs, vs, f, h => by
    unfold RepL at h
    obtain ⟨v, us, rfl, h1, h2⟩ := h
    simp only [List.all_cons, Bool.and_eq_true] at f
    obtain ⟨q1, q2⟩ := flats f.2 h2
    refine ⟨by simp only [List.all_cons, Bool.and_eq_true]; exact ⟨rep_vals (n := 0) f.1 h1, q1⟩, fun {x u} fx hx => ?_⟩
    simp only [List.any_cons]
    rw [q2 fx hx, eqF_V f.1 fx h1 hx]
theorem str_of {a : A} {x : Str} (e : a.str? = some x) : a = .d (.str x) := by
  cases a with
  | fl _ => cases e
  | d d => cases d <;> first | (cases e; rfl) | cases e
theorem o_inDeep (hK : X.K = w.K) (hu : X.A.units + 66 < cLine) {α : Nat → Addr} {m : Hm} {a b : Mp.A} {ys : List D} {pins : List (Addr × Obj)} {s : Shared} {σ : L2.St} {H : Hp} {x y : V} {v u : Value} {Q : VK} {E : XK} {neg : Bool}
    (I : Inv X pins σ H s) (rx : RelV x v) (ry : RelV y u) (r : Rl w α m H) (pa : RepA w α m.length H a x) (pb : RepA w α m.length H b y) (e2 : seqOf m b = some ys) (o : Out w pBv α m.length H Q E (if neg then (inDeep a ys m).not else inDeep a ys m)) :
    wpAny (model X.prog X.w) X.A (compareOp (if neg then .NotIn else .In) v u) (EP X pins σ Q) X.xe s := by
  unfold inDeep at o
  cases e1 : toPyA m a with
  | none => rw [e1] at o; cases neg <;> exact o.elim
  | some d =>
    cases e3 : toPys ys with
    | none => rw [e1, e3] at o; cases neg <;> exact o.elim
    | some es =>
      rw [e1, e3] at o
      by_cases g : SeqAt.shaped d = true ∧ SeqAt.shaped (.list es) = true
      · simp only [grd, if_pos g] at o
        obtain ⟨p, vs, rfl, hp, z, q, l⟩ := pb.seq r e2
        have d1 := toPyA_dp r pa e1
        have d2 := toPy_dp.2 ys es vs e3 q
        rw [← hK] at d1 d2 hp
        obtain ⟨as, r1⟩ := Dp.reads I d x v d1 rx
        have hu2 : X.A.units + 1 + min (PyData.depthAll es) d.depth < cLine := by
          have := SeqAt.depth_of_shaped g.1
          omega
        rcases hp with hp | hp
        · obtain ⟨bs, r2⟩ := Dp.reads I (.list es) _ u (.lst hp d2) ry
          cases neg with
          | true => exact SeqAt.notIn_list_reads r2 r1 (SeqAt.canLay_of_shaped g.2) (SeqAt.canLay_of_shaped g.1) hu2 ⟨.bl _, H, I, rfl, o.now r rfl⟩
          | false => exact SeqAt.in_list_reads r2 r1 (SeqAt.canLay_of_shaped g.2) (SeqAt.canLay_of_shaped g.1) hu2 ⟨.bl _, H, I, rfl, o.now r rfl⟩
        · obtain ⟨bs, r2⟩ := Dp.reads I (.tuple es) _ u (.tup hp d2) ry
          cases neg with
          | true => exact SeqAt.notIn_tuple_reads r2 r1 (SeqAt.canLay_of_shaped g.2) (SeqAt.canLay_of_shaped g.1) hu2 ⟨.bl _, H, I, rfl, o.now r rfl⟩
          | false => exact SeqAt.in_tuple_reads r2 r1 (SeqAt.canLay_of_shaped g.2) (SeqAt.canLay_of_shaped g.1) hu2 ⟨.bl _, H, I, rfl, o.now r rfl⟩
      · simp only [grd, if_neg g] at o
        cases neg <;> exact o.elim
theorem o_in2 (hK : X.K = w.K) (hu : X.A.units + 66 < cLine) (neg : Bool) : OpR X (compareOp (if neg then .NotIn else .In)) (rB w fun a b m => if neg then (inA a b m).not else inA a b m) := by
  rintro pins s σ H x y v u Q I rx ry ⟨α, m, a, b, E, r, pa, pb, o⟩
  replace o : Out w pBv α m.length H Q E (if neg then (inA a b m).not else inA a b m) := o
  unfold inA at o
  cases eb : b.str? with
  | some z =>
    rw [eb] at o
    cases ea : a.str? with
    | none => rw [ea] at o; cases neg <;> exact o.elim
    | some z2 =>
      rw [ea] at o
      cases str_of eb
      cases str_of ea
      obtain ⟨rfl, _⟩ := pa.str
      obtain ⟨rfl, _⟩ := pb.str
      cases neg with
      | true => exact op_notin_str pins s σ H _ _ v u Q I rx ry ⟨_, _, rfl, rfl, o.now r rfl⟩
      | false => exact op_in_str pins s σ H _ _ v u Q I rx ry ⟨_, _, rfl, rfl, o.now r rfl⟩
  | none =>
    rw [eb] at o
    cases e2 : seqOf m b with
    | none => rw [e2] at o; cases neg <;> exact o.elim
    | some ys =>
      rw [e2] at o
      cases e1 : a.flat? with
      | none => rw [e1] at o; exact o_inDeep hK hu I rx ry r pa pb e2 o
      | some dx =>
        rw [e1] at o
        by_cases g : ys.all D.flat = true
        · simp only [if_pos g] at o
          obtain ⟨p, vs, rfl, hp, z, q, l⟩ := pb.seq r e2
          have hx : dx.flat = true ∧ Rep w α H dx x := by
            cases a with
            | fl _ => cases e1
            | d d =>
              have e1 : (if d.flat then some d else none) = some dx := e1
              by_cases f : d.flat = true
              · rw [if_pos f] at e1; cases e1; exact ⟨f, pa.1⟩
              · rw [if_neg f] at e1; cases e1
          obtain ⟨q1, q2⟩ := flats g q
          have e3 : inV x vs = ys.any fun y => eqF y dx := q2 hx.1 hx.2
          rw [← hK] at hp
          cases neg with
          | true => exact op_notIn_seq pins s σ H _ _ v u Q I rx ry ⟨p, vs, rfl, hp, rep_vals (n := 0) hx.1 hx.2, q1, o.now r (by show V.bl _ = V.bl _; rw [← e3]; rfl)⟩
          | false => exact op_in_seq pins s σ H _ _ v u Q I rx ry ⟨p, vs, rfl, hp, rep_vals (n := 0) hx.1 hx.2, q1, o.now r (by show V.bl _ = V.bl _; rw [← e3]; rfl)⟩
        · simp only [if_neg g] at o
          exact o_inDeep hK hu I rx ry r pa pb e2 o
theorem rep_nonIff {α : Nat → Addr} {H : Hp} {n : Nat} {a : A} {v : V} (p : RepA w α n H a v) : decide (v = .non) = a.isNon := by
  cases a with
  | fl ds =>
    obtain ⟨a, vs, rfl, _⟩ := p
    exact decide_eq_false (fun z => by cases z)
  | d d =>
    have h := p.1
    cases d <;> simp only [Rep] at h
    case non => subst h; rfl
    case bl b => subst h; rfl
    case int i => subst h; rfl
    case str x => obtain ⟨rfl, _⟩ := h; rfl
    case tup xs => obtain ⟨a, vs, rfl, _⟩ := h; rfl
    case frl xs => obtain ⟨a, vs, rfl, _⟩ := h; rfl
    case ref i => subst h; rfl
    case fn k => obtain ⟨f, rfl, _⟩ := h; rfl
theorem o_is2 (neg : Bool) : OpR X (compareOp (if neg then .IsNot else .Is)) (rB w fun a b m => if neg then (isA a b m).not else isA a b m) := by
  rintro pins s σ H x y v u Q I rx ry ⟨α, m, a, b, E, r, pa, pb, o⟩
  replace o : Out w pBv α m.length H Q E (if neg then (isA a b m).not else isA a b m) := o
  by_cases c : b = .d .non
  · subst c
    cases pb.non
    have e := rep_nonIff pa
    cases neg with
    | true => exact op_notN pins s σ H _ _ v u Q I rx ry ⟨rfl, by rw [e]; exact o.now r rfl⟩
    | false => exact op_isN pins s σ H _ _ v u Q I rx ry ⟨rfl, by rw [e]; exact o.now r rfl⟩
  · have e : isA a b m = .bad := by
      cases b with
      | fl _ => rfl
      | d d => cases d <;> first | rfl | exact (c rfl).elim
    rw [e] at o
    cases neg <;> exact o.elim
theorem o_cmp (hK : X.K = w.K) (hu : X.A.units + 66 < cLine) (op : CmpOp) : OpR X (compareOp op) (rB w (cmpA op)) := by
  cases op
  case Eq => exact o_eq2 hK (by omega) false
  case NotEq => exact o_eq2 hK (by omega) true
  case Lt => exact o_lt
  case LtE => exact o_icmp op_le
  case Gt => exact o_icmp op_gt
  case GtE => exact o_icmp op_ge
  case Is => exact o_is2 false
  case IsNot => exact o_is2 true
  case In => exact o_in2 hK hu false
  case NotIn => exact o_in2 hK hu true
end
end Mp
end
section
/-! Mp: subscripts, slices, calls of built-ins. -/
namespace Mp
open PySem L2
section
variable {X : Cx} {w : Wd} {W : WX} {e a b c : Expr} {pos : Pos} {fa fb fc : Rho → Hm → R A}

theorem atI_rep {α : Nat → Addr} {H : Hp} {xs : List D} {vs : List V} {i : Int} {d : D} (q : RepL w α H xs vs) (e : atI xs i = some d) : ∃ v, atI vs i = some v ∧ Rep w α H d v := by
  unfold atI at e ⊢
  rw [← RepL.length _ _ q]
  cases h : ixN xs.length i with
  | none => rw [h] at e; cases e
  | some j => rw [h] at e; exact q.get e
theorem atI_lt {n : Nat} {xs : List D} {i : Int} {d : D} (l : ltAll n xs) (e : atI xs i = some d) : d.lt n := by
  unfold atI at e
  cases h : ixN xs.length i with
  | none => rw [h] at e; cases e
  | some j => rw [h] at e; exact ltAll_get l e
theorem i_ix (hK : X.K = w.K) : IxR X (rA w ixA) := by
  rintro value slice pins s σ H x y v u Q I rx ry ⟨α, m, a, b, E, r, pa, pb, o⟩ hs
  unfold ixA at o
  split at o
  · cases pb.int
    split at o
    · obtain ⟨rfl, z⟩ := pa.str
      split at o
      · rename_i c hc
        exact ix_str value slice pins s σ H _ _ v u Q I rx ry ⟨_, _, c, rfl, rfl, z, hc, o.now r (rep_str (by rw [sizeLine_eq]; show 1 ≤ _; decide))⟩ hs
      · exact o.elim
    · split at o
      · rename_i xs hx
        split at o
        · rename_i d hd
          obtain ⟨p, vs, rfl, hp, z, q, l⟩ := pa.seq r hx
          obtain ⟨v', hv, rv⟩ := atI_rep q hd
          have fin := o.now r (g := v') ⟨⟨rv, atI_lt l hd⟩, trivial⟩
          rcases hp with hp | hp
          · exact ix_list value slice pins s σ H _ _ v u Q I rx ry ⟨p, vs, _, v', rfl, rfl, by rw [hK]; exact hp, hv, fin⟩ hs
          · exact ix_tup value slice pins s σ H _ _ v u Q I rx ry ⟨p, vs, _, v', rfl, rfl, by rw [hK]; exact hp, hv, fin⟩ hs
        · exact o.elim
      · exact o.elim
  · exact o.elim
/-- a slice by values -/
def rSl (w : Wd) (g : A → Option Int → Option Int → Hm → R A) : V → Option Int → Option Int → Hp → VK → Prop := fun x lo hi H Q => ∃ α m a E, Rl w α m H ∧ RepA w α m.length H a x ∧ Out w (pA w) α m.length H Q E (g a lo hi m)
theorem cut_rep {α : Nat → Addr} {H : Hp} {xs : List D} {vs : List V} (q : RepL w α H xs vs) (lo hi : Option Int) : RepL w α H (cutL xs lo hi) (cutV vs lo hi) := by
  unfold cutL cutV
  rw [RepL.length _ _ q]
  exact (q.drop _).take _
theorem cut_lt {n : Nat} {xs : List D} (l : ltAll n xs) (lo hi : Option Int) : ltAll n (cutL xs lo hi) := ltAll_iff.mpr fun d hd => by
  unfold cutL at hd
  exact ltAll_iff.mp l d (List.mem_of_mem_drop (List.mem_of_mem_take hd))
theorem cut_len {xs : List D} (lo hi : Option Int) : (cutL xs lo hi).length ≤ xs.length := by
  unfold cutL
  rw [List.length_take, List.length_drop]
  omega
theorem l_slc (hK : X.K = w.K) : SlR X (rSl w slcA) := by
  rintro pins s σ H x v vl vu lo hi sl Q I rx hs pl pu ⟨α, m, a, E, r, pa, o⟩
  unfold slcA at o
  split at o
  · rename_i xs
    obtain ⟨p, vs, rfl, hp, z, q, l⟩ := pa.tup
    refine sl_tupA pins s σ H _ v vl vu lo hi sl Q I rx hs pl pu ⟨p, vs, rfl, by rw [hK]; exact hp, fun hw => ?_, fun hw t ht => ?_⟩
    · have e : cutL xs lo hi = xs := by
        unfold cutL
        rw [RepL.length _ _ q, hw.1, hw.2, ← RepL.length _ _ q]
        simp
      rw [e] at o
      exact o.same r hp q l z
    · exact o.tuple r (cut_rep q lo hi) (cut_lt l lo hi) (Nat.le_trans (cut_len lo hi) z) ht
  · split at o
    · rename_i xs hx
      obtain ⟨p, vs, rfl, hp, z, q, l⟩ := pa.lst r hx
      exact sl_list pins s σ H _ v vl vu lo hi sl Q I rx hs pl pu ⟨p, vs, rfl, by rw [hK]; exact hp, fun t ht => o.list r (cut_rep q lo hi) (cut_lt l lo hi) (Nat.le_trans (cut_len lo hi) z) ht⟩
    · exact o.elim

/-! ### built-ins by their values -/
def rC (w : Wd) (g : List A → Hm → R A) : List V → Hp → VK → Prop := fun vs H Q => ∃ α m as E, Rl w α m H ∧ RepAs w α m.length H as vs ∧ Out w (pA w) α m.length H Q E (g as m)
theorem repAs_one {α : Nat → Addr} {H : Hp} {n : Nat} {a : A} {vs : List V} (p : RepAs w α n H [a] vs) : ∃ v, vs = [v] ∧ RepA w α n H a v := by
  obtain ⟨v, us, rfl, p1, p2⟩ := p
  exact ⟨v, by rw [show us = [] from p2], p1⟩
theorem repAs_two {α : Nat → Addr} {H : Hp} {n : Nat} {a b : A} {vs : List V} (p : RepAs w α n H [a, b] vs) : ∃ v u, vs = [v, u] ∧ RepA w α n H a v ∧ RepA w α n H b u := by
  obtain ⟨v, us, rfl, p1, p2⟩ := p
  obtain ⟨u, rfl, p3⟩ := repAs_one p2
  exact ⟨v, u, rfl, p1, p3⟩
theorem alls_bools {α : Nat → Addr} {H : Hp} : ∀ {xs : List D} {vs : List V} {bs : List Bool}, alls isBool xs = some bs → RepL w α H xs vs → vs = bs.map V.bl
  | [], vs, bs, e, h => by
    unfold RepL at h; unfold alls at e; cases e; subst h; rfl
  | x :: xs, vs, bs, e, h => by
    unfold RepL at h
    obtain ⟨v, us, rfl, h1, h2⟩ := h
    unfold alls at e
    split at e
    · rename_i y ys e1 e2
      cases e
      rw [alls_bools e2 h2]
      cases x <;> first | (cases e1; unfold Rep at h1; subst h1; rfl) | cases e1
    · cases e
theorem alls_ints {α : Nat → Addr} {H : Hp} : ∀ {xs : List D} {vs : List V} {bs : List Int}, alls D.int? xs = some bs → RepL w α H xs vs → vs = bs.map V.int
  | [], vs, bs, e, h => by
    unfold RepL at h; unfold alls at e; cases e; subst h; rfl
  | x :: xs, vs, bs, e, h => by
    unfold RepL at h
    obtain ⟨v, us, rfl, h1, h2⟩ := h
    unfold alls at e
    split at e
    · rename_i y ys e1 e2
      cases e
      rw [alls_ints e2 h2]
      cases x <;> first | (cases e1; unfold Rep at h1; subst h1; rfl) | cases e1
    · cases e
theorem alls_strs {α : Nat → Addr} {H : Hp} : ∀ {xs : List D} {vs : List V} {bs : List Str}, alls D.str? xs = some bs → RepL w α H xs vs → vs = bs.map V.str
  | [], vs, bs, e, h => by
    unfold RepL at h; unfold alls at e; cases e; subst h; rfl
  | x :: xs, vs, bs, e, h => by
    unfold RepL at h
    obtain ⟨v, us, rfl, h1, h2⟩ := h
    unfold alls at e
    split at e
    · rename_i y ys e1 e2
      cases e
      rw [alls_strs e2 h2]
      cases x <;> first | (cases e1; unfold Rep at h1; rw [h1.1]; rfl) | cases e1
    · cases e
theorem insI_perm (x : Int) : ∀ ys : List Int, (insI x ys).Perm (x :: ys)
  | [] => .refl _
  | y :: ys => by
    unfold insI
    split
    · exact .refl _
    · exact ((insI_perm x ys).cons y).trans (.swap x y ys)
theorem srtI_perm : ∀ ys : List Int, (srtI ys).Perm ys
  | [] => .refl _
  | y :: ys => (insI_perm y (srtI ys)).trans ((srtI_perm ys).cons y)
theorem insI_sorted (x : Int) : ∀ {ys : List Int}, ys.Pairwise (· ≤ ·) → (insI x ys).Pairwise (· ≤ ·)
  | [], _ => by simp [insI]
  | y :: ys, h => by
    unfold insI
    obtain ⟨h1, h2⟩ := List.pairwise_cons.mp h
    split
    · rename_i hx
      exact List.pairwise_cons.mpr ⟨fun z hz => (List.mem_cons.mp hz).elim (fun e => e ▸ hx) fun hz => Int.le_trans hx (h1 z hz), h⟩
    · refine List.pairwise_cons.mpr ⟨fun z hz => ?_, insI_sorted x h2⟩
      rcases List.mem_cons.mp ((insI_perm x ys).mem_iff.mp hz) with e | hz
      · subst e; omega
      · exact h1 z hz
theorem srtI_sorted : ∀ ys : List Int, (srtI ys).Pairwise (· ≤ ·)
  | [] => .nil
  | y :: ys => insI_sorted y (srtI_sorted ys)
theorem sorted_one {xs ys : List Int} (p : xs.Perm ys) (h1 : xs.Pairwise (· ≤ ·)) (h2 : ys.Pairwise (· ≤ ·)) : xs = ys :=
  p.eq_of_pairwise (fun a b _ _ h h' => Int.le_antisymm h h') h1 h2
theorem repL_ints {α : Nat → Addr} {H : Hp} : ∀ ns : List Int, RepL w α H (ns.map D.int) (ns.map V.int)
  | [] => by simp [RepL]
  | n :: ns => by
    show RepL w α H (.int n :: ns.map D.int) (.int n :: ns.map V.int)
    unfold RepL
    exact ⟨_, _, rfl, by unfold Rep; rfl, repL_ints ns⟩
theorem lt_ints {n : Nat} (ns : List Int) : ltAll n (ns.map D.int) := ltAll_iff.mpr fun d hd => by
  obtain ⟨i, _, rfl⟩ := List.mem_map.mp hd
  unfold D.lt; trivial
theorem repL_strs {α : Nat → Addr} {H : Hp} : ∀ ns : List Str, (∀ x ∈ ns, x.length ≤ sizeLine) → RepL w α H (ns.map D.str) (ns.map V.str)
  | [], _ => by simp [RepL]
  | n :: ns, h => by
    show RepL w α H (.str n :: ns.map D.str) (.str n :: ns.map V.str)
    unfold RepL
    exact ⟨_, _, rfl, by unfold Rep; exact ⟨rfl, h n (by simp)⟩, repL_strs ns fun x hx => h x (by simp [hx])⟩
theorem lt_strs {n : Nat} (ns : List Str) : ltAll n (ns.map D.str) := ltAll_iff.mpr fun d hd => by
  obtain ⟨i, _, rfl⟩ := List.mem_map.mp hd
  unfold D.lt; trivial
theorem kv_ints {α : Nat → Addr} {H : Hp} {n : Nat} {kvs : List (D × D)} {ks : List (Key × V)} (h : KvR w α H n kvs ks) : ∀ {ns : List Int}, alls D.int? (kvs.map (·.1)) = some ns → ks.map (·.1) = ns.map Sum.inl := by
  induction h with
  | nil => intro ns e; unfold alls at e; cases e; rfl
  | @cons k d v r s _ _ _ ih =>
    intro ns e
    simp only [List.map_cons] at e
    unfold alls at e
    split at e
    · rename_i y ys e1 e2
      cases e
      cases k with
      | inl i => cases e1; simp only [List.map_cons]; rw [ih e2]
      | inr x => cases e1
    · cases e
theorem log_ok {i : Int} (h : i.natAbs < 2 ^ 64) : i.natAbs.log2 < 1920 := by
  by_cases h0 : i.natAbs = 0
  · rw [h0]; decide
  · exact Nat.lt_trans ((Nat.log2_lt h0).mpr h) (by decide)
theorem dctAt_some {m : Hm} {i : Nat} {kvs : List (D × D)} (h : dctAt m i = some kvs) : m[i]? = some (.dct kvs) := by
  unfold dctAt at h
  split at h
  · rename_i e; cases h; exact e
  · cases h
theorem strI_len {i : Int} (h : i.natAbs < 2 ^ 64) : (toString i : Str).length ≤ sizeLine := by
  rw [ofString_length]
  exact Nat.le_trans (int_text_length_le (k := 1920) (by decide) (log_ok h)) (by rw [sizeLine_eq]; decide)
def BI.val : BI → Value
  | .len => .builtin "len" | .tuple => .type "tuple" | .list => .type "list" | .str => .type "str" | .int => .type "int" | .abs => .builtin "abs"
  | .max2 => .builtin "max" | .min2 => .builtin "min" | .all => .builtin "all" | .any => .builtin "any" | .sorted => .builtin "sorted" | .repr => .builtin "repr"
theorem c_bi (hK : X.K = w.K) (hc : X.calm = true) (hg : X.A.guards = some []) (hu : X.A.units + 66 < cLine) (bi : BI) : CallR X bi.val (rC w (biA bi)) := by
  rintro pins s σ H vs us Q I rv ⟨α, m, as, E, r, pas, o⟩
  unfold biA at o
  split at o
  · -- len
    obtain ⟨v, rfl, pa⟩ := repAs_one pas
    split at o
    · obtain ⟨rfl, z⟩ := pa.str
      exact call_len pins s σ H _ us Q I rv ⟨_, _, rfl, ⟨z, rfl⟩, o.now r rep_int⟩
    · split at o
      · rename_i xs hx
        obtain ⟨p, vs, rfl, hp, z, q, l⟩ := pa.seq r hx
        have e := RepL.length _ _ q
        refine call_len pins s σ H _ us Q I rv ⟨_, xs.length, rfl, ?_, o.now r rep_int⟩
        rcases hp with hp | hp
        · exact .inl ⟨vs, by rw [hK]; exact hp, e⟩
        · exact .inr ⟨vs, by rw [hK]; exact hp, e⟩
      · exact o.elim
  · -- tuple
    obtain ⟨v, rfl, pa⟩ := repAs_one pas
    split at o
    · rename_i xs hx
      obtain ⟨p, vs, rfl, hp, z, q, l⟩ := pa.seq r hx
      refine call_tuple_of pins s σ H _ us Q I rv ⟨p, vs, rfl, ?_⟩
      rcases hp with hp | hp
      · exact .inl ⟨by rw [hK]; exact hp, fun t ht => o.tuple r q l z ht⟩
      · exact .inr ⟨by rw [hK]; exact hp, o.same r hp q l z⟩
    · exact o.elim
  · -- list
    obtain ⟨v, rfl, pa⟩ := repAs_one pas
    split at o
    · rename_i xs hx
      obtain ⟨p, vs, rfl, hp, z, q, l⟩ := pa.seq r hx
      exact call_list_of pins s σ H _ us Q I rv ⟨p, vs, rfl, by rw [hK]; exact hp, fun t ht => o.list r q l z ht⟩
    · exact o.elim
  · -- str
    obtain ⟨v, rfl, pa⟩ := repAs_one pas
    cases pa.int
    obtain ⟨hz, o⟩ := o.grd_
    exact call_str_int pins s σ H _ us Q I rv ⟨_, rfl, log_ok hz, o.now r (rep_str (strI_len hz))⟩
  · -- int
    obtain ⟨v, rfl, pa⟩ := repAs_one pas
    cases pa.int
    exact call_int1 pins s σ H _ us Q I rv (.inl ⟨_, rfl, o.now r rep_int⟩)
  · obtain ⟨v, rfl, pa⟩ := repAs_one pas
    cases pa.bl
    exact call_int1 pins s σ H _ us Q I rv (.inr ⟨_, rfl, o.now r rep_int⟩)
  · obtain ⟨v, rfl, pa⟩ := repAs_one pas
    obtain ⟨rfl, z⟩ := pa.str
    split at o
    · rename_i n hn
      obtain ⟨hz, o⟩ := o.grd_
      exact call_int_str pins s σ H _ us Q I rv ⟨_, n, rfl, hn, hz, o.now r rep_int⟩
    · exact o.elim
  · -- abs
    obtain ⟨v, rfl, pa⟩ := repAs_one pas
    cases pa.int
    exact call_abs pins s σ H _ us Q I rv ⟨_, rfl, o.now r rep_int⟩
  · obtain ⟨v, u, rfl, pa, pb⟩ := repAs_two pas
    cases pa.int; cases pb.int
    exact call_max2 hc pins s σ H _ us Q I rv ⟨_, _, rfl, o.now r rep_int⟩
  · obtain ⟨v, u, rfl, pa, pb⟩ := repAs_two pas
    cases pa.int; cases pb.int
    exact call_min2 hc pins s σ H _ us Q I rv ⟨_, _, rfl, o.now r rep_int⟩
  · -- all
    obtain ⟨v, rfl, pa⟩ := repAs_one pas
    obtain ⟨p, vs, rfl, hp, ne, q, l, z⟩ := pa
    split at o
    · rename_i bs hb
      cases alls_bools hb q
      exact cr_all hc pins s σ H _ us Q I rv ⟨p, bs, rfl, SqL.of hp, o.now r rep_bl⟩
    · exact o.elim
  · obtain ⟨v, rfl, pa⟩ := repAs_one pas
    obtain ⟨p, vs, rfl, hp, ne, q, l, z⟩ := pa
    split at o
    · rename_i bs hb
      cases alls_bools hb q
      exact cr_any hc pins s σ H _ us Q I rv ⟨p, bs, rfl, SqL.of hp, o.now r rep_bl⟩
    · exact o.elim
  · -- sorted
    obtain ⟨v, rfl, pa⟩ := repAs_one pas
    split at o
    · rename_i kvs hk
      split at o
      · rename_i ks hks
        obtain ⟨hz, o⟩ := o.grd_
        have hv := pa.1
        unfold Rep at hv
        subst hv
        obtain ⟨ks', h1, h2, h3⟩ := r.objs _ _ (dctAt_some hk)
        refine call_sortedDI hc pins s σ H _ us Q I rv ⟨_, ks', ks, rfl, .inl h1, kv_ints h2 hks, hz, fun ys p hp hs hf => ?_⟩
        have e : ys = srtI ks := sorted_one (hp.trans (srtI_perm ks).symm) hs (srtI_sorted ks)
        subst e
        exact o.list r (repL_ints _) (lt_ints _) (by rw [List.length_map, (srtI_perm ks).length_eq]; exact Nat.le_trans (Nat.le_of_lt hz) (by rw [sizeLine_eq]; decide)) hf
      · exact o.elim
    · exact o.elim
  · -- repr
    obtain ⟨v, rfl, pa⟩ := repAs_one pas
    split at o
    · rename_i ps hps
      obtain ⟨hz, o⟩ := o.grd_
      simp only [reprOk, Bool.and_eq_true, decide_eq_true_eq, Bool.not_eq_true'] at hz
      obtain ⟨⟨⟨h1, h2⟩, h3⟩, h4⟩ := hz
      obtain ⟨p, vs, rfl, hp, z, q, l⟩ := pa.tup
      have dp : Dp X.K H (.ref p) (.tuple ps) := by rw [hK]; exact .tup hp (toPy_dp.2 _ ps vs hps q)
      obtain ⟨u, rfl, ru⟩ := rv.one
      obtain ⟨as, rd⟩ := Dp.reads I _ _ _ dp ru
      cases ru
      refine repr_of_reads' rd h1 (fun z => by rw [h2] at z; cases z) hg (by omega) (fun _ _ e => e) (fun h' t tk kp => ?_) h4
      exact ⟨.str _, H, I.kept kp, ⟨t, rfl⟩, o.now r (rep_str h4)⟩
    · exact o.elim
  · exact o.elim
end
end Mp
end
section
/-! Mp: the look whether a code is an expression of the text. -/
namespace Mp
open PySem L2

def okName (x : Str) : Bool := !(x == ("__debug__" : Str)) && !(x == ("__classdict__" : Str)) && !(x == ("__name__" : Str))
def visB (sc : Scope) (x : Str) : Bool := okName x && (match sc.names.lookup x with | some .local => true | some .cell => true | some .free => true | _ => false)
def glB (sc : Scope) (x : Str) : Bool := okName x && (match sc.names.lookup x with | some .globalImplicit => true | _ => false)
def notStar : Expr → Bool
  | .Starred _ _ => false
  | _ => true
def notSlice : Expr → Bool
  | .Slice _ _ _ _ => false
  | _ => true
def notSet : Expr → Bool
  | .Set _ _ _ => false
  | _ => true
/-- the base of a built-in's method: no call without arguments -/
def plainBase : Expr → Bool
  | .Call _ [] _ _ => false
  | _ => true
def BI.nam : BI → Str
  | .len => "len" | .tuple => "tuple" | .list => "list" | .str => "str" | .int => "int" | .abs => "abs"
  | .max2 => "max" | .min2 => "min" | .all => "all" | .any => "any" | .sorted => "sorted" | .repr => "repr"
def Ty.nam : Ty → String
  | .int => "int" | .bool => "bool" | .str => "str" | .tuple => "tuple" | .list => "list" | .own _ => ""
/-- what stands fast of a text: the names of slots, names by number, how many parameters, what is a constant -/
structure Cfg where
  N : List Str
  nm : Nat → Str
  ar : Nat → Nat → Option Nat
  isCon : Nat → Bool
  isExc : Nat → Bool
mutual
def chkT (N : List Str) (sc : Scope) : Tg → Expr → Bool
  | .nm i, e => match e with
    | .Name x _ => decide (N[i]? = some x) && (match sc.names.lookup x with | some .local => true | some .cell => true | _ => false)
    | _ => false
  | .tp ts, e => match e with
    | .Tuple es _ _ => chkTs N sc ts es
    | _ => false
def chkTs (N : List Str) (sc : Scope) : List Tg → List Expr → Bool
  | [], es => es.isEmpty
  | t :: ts, es => match es with
    | e :: es => notStar e && chkT N sc t e && chkTs N sc ts es
    | [] => false
end
mutual
def slots : Tg → List Nat
  | .nm i => [i]
  | .tp ts => slotss ts
def slotss : List Tg → List Nat
  | [] => []
  | t :: ts => slots t ++ slotss ts
end
def ownPairs (N : List Str) (own : List Nat) : List (Str × Nat) := own.map fun i => ((N[i]?).getD Str.empty, i)
/-- the iterable of a walk: its kind, its parts -/
def itParts (sc : Scope) (ik : IK) (e : Expr) : Option (List Expr) := match ik with
  | .seq => some [e]
  | .rng1 => match e with
    | .Call (.Name f _) [a] [] _ => if f = "range" && glB sc f then some [a] else none
    | _ => none
  | .rng2 => match e with
    | .Call (.Name f _) [a, b] [] _ => if f = "range" && glB sc f then some [a, b] else none
    | _ => none
  | .zip => match e with
    | .Call (.Name f _) [a, b] [] _ => if f = "zip" && glB sc f then some [a, b] else none
    | _ => none
  | .enum => none
def zipTg (ik : IK) (t : Tg) : Bool := match ik, t with
  | .zip, .nm _ => false
  | .enum, .nm _ => false
  | _, _ => true
section
variable (g : Cfg)
mutual
def chk : C → Scope → Expr → Bool
  | .var i, sc, e => match e with
    | .Name x _ => decide (g.N[i]? = some x) && visB sc x
    | _ => false
  | .non, _, e => match e with
    | .Constant .none _ _ => true
    | _ => false
  | .bl b, _, e => match e with
    | .Constant (.bool c) _ _ => b == c
    | _ => false
  | .int i, _, e => match e with
    | .Constant (.int j) _ _ => i == j
    | _ => false
  | .str x, _, e => match e with
    | .Constant (.str y) _ _ => decide (x = y) && decide (x.length ≤ 1000)
    | _ => false
  | .glb k, sc, e => match e with
    | .Name x _ => decide (g.nm k = x) && glB sc x && g.isCon k
    | _ => false
  | .tup es, sc, e => match e with
    | .Tuple xs _ _ => chks es sc xs
    | _ => false
  | .lst es, sc, e => match e with
    | .List xs _ => chks es sc xs
    | _ => false
  | .bin op a b, sc, e => match e with
    | .BinOp x o y _ => decide (op = o) && chk a sc x && chk b sc y
    | _ => false
  | .neg a, sc, e => match e with
    | .UnaryOp .USub x _ => chk a sc x
    | _ => false
  | .cmp op a b, sc, e => match e with
    | .Compare x [o] [y] _ => decide (op = o) && notSet y && chk a sc x && chk b sc y
    | _ => false
  | .cmp2 op op' a b c, sc, e => match e with
    | .Compare x [o, o'] [y, z] _ => decide (op = o) && decide (op' = o') && notSet z && chk a sc x && chk b sc y && chk c sc z
    | _ => false
  | .and es, sc, e => match e with
    | .BoolOp .And xs _ => !xs.isEmpty && chks es sc xs
    | _ => false
  | .or es, sc, e => match e with
    | .BoolOp .Or xs _ => !xs.isEmpty && chks es sc xs
    | _ => false
  | .not a, sc, e => match e with
    | .UnaryOp .Not x _ => chk a sc x
    | _ => false
  | .ife t a b, sc, e => match e with
    | .IfExp x y z _ => chk t sc x && chk a sc y && chk b sc z
    | _ => false
  | .ix a i, sc, e => match e with
    | .Subscript x y _ => notSlice y && chk a sc x && chk i sc y
    | _ => false
  | .slc a lo hi, sc, e => match e with
    | .Subscript x (.Slice l h none _) _ => chk a sc x && chkO lo sc l && chkO hi sc h
    | _ => false
  | .call k es, sc, e => match e with
    | .Call (.Name f _) xs [] _ => decide (g.nm k = f) && glB sc f && decide (g.ar 0 k = some xs.length) && chks es sc xs
    | _ => false
  | .bi b es, sc, e => match e with
    | .Call (.Name f _) xs [] _ => decide (b.nam = f) && glB sc f && !xs.isEmpty && chks es sc xs
    | _ => false
  | .join o x, sc, e => match e with
    | .Call (.Attribute y f ap) [z] [] pos => decide (f = "join") && (ap.endLine == pos.line) && plainBase y && notStar z && chk o sc y && chk x sc z
    | _ => false
  | .split o x, sc, e => match e with
    | .Call (.Attribute y f ap) [z] [] pos => decide (f = "split") && (ap.endLine == pos.line) && plainBase y && notStar z && chk o sc y && chk x sc z
    | _ => false
  | .app o x, sc, e => match e with
    | .Call (.Attribute y f ap) [z] [] pos => decide (f = "append") && (ap.endLine == pos.line) && plainBase y && notStar z && chk o sc y && chk x sc z
    | _ => false
  | .isi x t, sc, e => match e with
    | .Call (.Name f _) [y, .Name c _] [] _ => decide (f = "isinstance") && glB sc f && decide ((t.nam : Str) = c) && glB sc c && notStar y && (match t with | .own _ => false | _ => true) && chk x sc y
    | _ => false
  | .comp own elt tg ik is ifs, sc, e => match e with
    | .ListComp x [⟨t, it, fs, a⟩] s _ => (a == 0) && L2.blkC g.N sc s (ownPairs g.N own) && (match ifs, fs with | [], [] => true | [_], [_] => true | _, _ => false) && notSet it && chkT g.N s tg t && (slots tg).all (fun i => own.contains i) && zipTg ik tg &&
      (match itParts sc ik it with | some ps => chks is sc ps | none => false) && chks ifs (L2.relS s sc) fs && chk elt (L2.relS s sc) x
    | _ => false
  | .dnew, _, e => match e with
    | .Dict [] [] _ => true
    | _ => false
  | .lenset x, sc, e => match e with
    | .Call (.Name f _) [.Call (.Name f2 _) [y] [] _] [] _ => decide (f = "len") && glB sc f && decide (f2 = "set") && glB sc f2 && notStar y && chk x sc y
    | _ => false
def chks : List C → Scope → List Expr → Bool
  | [], _, es => es.isEmpty
  | c :: cs, sc, es => match es with
    | e :: es => notStar e && chk c sc e && chks cs sc es
    | [] => false
def chkO : Option C → Scope → Option Expr → Bool
  | none, _, e => e.isNone
  | some c, sc, e => match e with
    | some e => chk c sc e
    | none => false
end
end
def notLC : Expr → Bool
  | .ListComp _ _ _ _ => false
  | .SetComp _ _ _ _ => false
  | .DictComp _ _ _ _ _ => false
  | _ => true
def notTup : Expr → Bool
  | .Tuple _ _ _ => false
  | _ => true
section
variable (g : Cfg)
mutual
def chkS : S → Scope → Stmt → Bool
  | .expr c, sc, st => match st with
    | .Expr e _ => notLC e && chk g c sc e
    | _ => false
  | .asg t c, sc, st => match st with
    | .Assign [tg] e pos => chkT g.N sc t tg && chk g c sc e && (match t with | .tp _ => notTup e && notLC e | .nm _ => true) &&
      (match e with
        | .ListComp _ _ s p => match tg with
          | .Name y py => match sc.names.lookup y with
            | some .local => (py.line == p.line) && !(s.names.any fun (n, k) => n == y && (k == .local || k == .cell))
            | _ => true
          | _ => false
        | .SetComp _ _ _ _ => false
        | .DictComp _ _ _ _ _ => false
        | _ => true)
    | _ => false
  | .store o i e, sc, st => match st with
    | .Assign [.Subscript x y _] v _ => notSlice y && chk g o sc x && chk g i sc y && chk g e sc v
    | _ => false
  | .ife t a b, sc, st => match st with
    | .If x ys zs _ => chk g t sc x && chkSs a sc ys && chkSs b sc zs
    | _ => false
  | .ret c, sc, st => match st with
    | .Return (some e) _ => chk g c sc e
    | _ => false
  | .retN, _, st => match st with
    | .Return none _ => true
    | _ => false
  | .for_ t ik is body, sc, st => match st with
    | .For tg it ys [] _ => notSet it && chkT g.N sc t tg && zipTg ik t && (match itParts sc ik it with | some ps => chks g is sc ps | none => false) && chkSs body sc ys
    | _ => false
  | .raise k, sc, st => match st with
    | .Raise (some (.Call (.Name x _) [.Constant (.str _) _ _] [] _)) none _ => decide (g.nm k = x) && glB sc x && g.isExc k
    | _ => false
  | .pass, _, st => match st with
    | .Pass _ => true
    | _ => false
def chkSs : List S → Scope → List Stmt → Bool
  | [], _, sts => sts.isEmpty
  | s :: ss, sc, sts => match sts with
    | st :: sts => chkS s sc st && chkSs ss sc sts
    | [] => false
end
end
end Mp
end
section
/-! Mp: each form of an expression, by its parts. -/
namespace Mp
open PySem L2

/-! ### a def of the text, where no guard is around -/
structure FnG (P : Program) (wo : World) (K : PySem.W.Frag) (mg : Str → Option Value) (base : Heap) (k : Nat) (f : Addr) (fd : FuncData) (ps : List Str) (sp : Sp) : Prop where
  len : ∀ vs H Q E, sp vs H Q E → vs.length = ps.length
  run : ∀ (A : Around) (outer : List PySem.Env) (s : Shared) (H : Hp) (args : Args) (us : List Value) (vs : List V) (Q : VK) (E : XK), Room k A → A.guards = some [] → Env0 P wo K mg base A outer s H → BindsTo s fd args (ps.zip us) →
    Vals vs us → sp vs H Q E → codeAny (model P wo) A (.call (.ref f) args) (CR (L2.CX P wo) outer P wo H s Q E) s
/-- what a def of the table promises -/
def spOf (w : Wd) (np : Nat) (call : List D → Hm → R D) : Sp := fun vs H Q E => ∃ α m ds, ds.length = np ∧ Rl w α m H ∧ RepL w α H ds vs ∧ ltAll m.length ds ∧ Out w (pD w) α m.length H Q E (call ds m)

/-- names of built-ins that are not stored by the module -/
def boots : List Str := ["len", "tuple", "list", "str", "int", "abs", "max", "min", "all", "any", "sorted", "repr", "range", "zip", "enumerate", "isinstance", "bool", "set", "sum", "dict"]
/-- a def by its number -/
structure FnK (X : Cx) (w : Wd) (call : Calls) (lev : Nat) (k np : Nat) : Prop where
  ex : ∃ f fd ps, w.mg (w.nm k) = some (.ref f) ∧ PySem.W.keepIn w.K (.ref f) = true ∧ Binds w.K fd ps [] ∧ ps.length = np ∧ FnG X.prog X.w X.K X.mg X.base lev f fd ps (spOf w np (call 0 k))
structure Good (g : Cfg) (w : Wd) (call : Calls) (con : Nat → Option D) (lev : Nat) (X : Cx) : Prop where
  hK : X.K = w.K
  hmg : X.mg = w.mg
  hnm : w.nm = g.nm
  hN : X.N = g.N
  nd : X.N.Nodup
  calm : X.calm = true
  gd : X.A.guards = some []
  room : Room lev X.A
  boot : ∀ x ∈ boots, w.mg x = none
  cons : ∀ k, g.isCon k = true → ∃ d u v, con k = some d ∧ w.mg (w.nm k) = some u ∧ RelV v u ∧ (∀ α H, Rep w α H d v) ∧ ∀ n, d.lt n
  excs : ∀ k, g.isExc k = true → ∃ C, w.mg (w.nm k) = some (.ref C) ∧ PySem.W.excIn w.K C [.type "ValueError", .type "Exception", .type "BaseException", .type "object"] "ValueError.__new__" = true ∧ PySem.W.keepIn w.K (.ref C) = true ∧
    PySem.W.subIn w.K (.ref C) (.type "BaseException") = some true ∧ PySem.W.typeIn w.K (.ref C) = some (.type "type")
  fns : ∀ k np, g.ar 0 k = some np → FnK X w call lev k np

section
variable {X : Cx} {w : Wd} {W : WX} {e a b c : Expr} {pos : Pos} {fa fb fc : Rho → Hm → R A} {g : Cfg} {call : Calls} {con : Nat → Option D} {lev : Nat}
theorem Good.units (G : Good g w call con lev X) : X.A.units + 66 < cLine := by have := G.room.un; omega
theorem Good.blk (G : Good g w call con lev X) (s : Shared) (H : Hp) (scope : Scope) (env : PySem.Env) (fp : List Addr) : Good g w call con lev (X.blk s H scope env fp) :=
  ⟨G.hK, G.hmg, G.hnm, G.hN, G.nd, G.calm, G.gd, G.room, G.boot, G.cons, G.excs, fun k np h => ⟨(G.fns k np h).ex⟩⟩
theorem star_ok (h : notStar e = true) (es : List Expr) (env : PySem.Env) : starEach (e :: es) env = (false, eval e env) :: starEach es env := by
  cases e <;> first | rfl | cases h
theorem ix_ok (h : notSlice b = true) : PlainIx b := by
  intro o i
  cases b <;> first | rfl | cases h
theorem set_ok {op : CmpOp} (h : notSet b = true) : behindInMarks op b = false := by
  cases b <;> first | rfl | cases h
theorem fold_ok (h : notSet b = true) (env : PySem.Env) (x : Value) : foldedSetIterable b env x = pure x := by
  cases b <;> first | rfl | cases h
theorem base_ok (h : plainBase a = true) (x : Str) (env : PySem.Env) : attributeBase a x env (eval a env) = eval a env := by
  cases a <;> first | rfl | skip
  case Call f args kw p =>
    cases args with
    | nil => cases (show false = true from h)
    | cons y ys => cases f <;> rfl
theorem any_star : ∀ {es : List Expr} {env : PySem.Env} {pos : Pos}, (∀ e ∈ es, notStar e = true) → (backTo pos (starEach es env)).any (·.1) = false
  | [], _, _, _ => rfl
  | e :: es, env, pos, h => by
    rw [star_ok (h e (by simp))]
    show (false || (backTo pos (starEach es env)).any (·.1)) = false
    rw [any_star fun x hx => h x (by simp [hx])]
    rfl
theorem vis_of {sc : Scope} {x : Str} (h : visB sc x = true) : Vis sc x ∧ (x == ("__debug__" : Str)) = false ∧ (x == ("__classdict__" : Str)) = false := by
  unfold visB okName at h
  simp only [Bool.and_eq_true, Bool.not_eq_true'] at h
  refine ⟨?_, h.1.1.1, h.1.1.2⟩
  have h2 := h.2
  unfold Vis
  split at h2 <;> simp_all
theorem gl_of {X : Cx} {x : Str} (h : glB X.env.scope x = true) : Gl X x ∧ (x == ("__debug__" : Str)) = false ∧ x ≠ "__name__" := by
  unfold glB okName at h
  simp only [Bool.and_eq_true, Bool.not_eq_true', beq_eq_false_iff_ne] at h
  refine ⟨?_, by simpa using h.1.1.1, h.1.2⟩
  have h2 := h.2
  show X.env.scope.names.lookup x = some .globalImplicit
  split at h2 <;> simp_all

/-- both, of an expression whose truth is asked of its value -/
theorem both (h : PE X e (tE w (pA w) W fa)) (he : ∀ whole, isTrue e X.env whole = (do let v ← whole; standAt e.pos; holding [v] (truthy v))) :
    PE X e (tE w (pA w) W fa) ∧ PT X e (tE w pB W (fun ρ m => (fa ρ m).bind fun a m => boolOf a m .ok)) := by
  refine ⟨h, PT.imp (pt_val h he) fun σ H Q ⟨α, ρ, m, r, en, o⟩ => ⟨α, ρ, m, r, en, ?_⟩⟩
  refine (Out.bind (rep := pA w) o pB.back).imp fun x H1 ⟨α1, m1, a, x1, r1, p1, o1⟩ => ?_
  cases a with
  | fl _ => exact o1.elim
  | d d =>
    cases d with
    | bl k =>
      cases RepA.bl (m := m1) p1.1
      exact ⟨k, rfl, Out.now (rep := pB) o1 r1 rfl⟩
    | _ => exact o1.elim
theorem atom {v : V} (f : A) (hf : ∀ ρ m, fa ρ m = .ok f m) (h : ∀ α n H, pA w H α n H f v) (he : PE X e (tC v)) : PE X e (tE w (pA w) W fa) := PE.imp he fun σ H Q ⟨α, ρ, m, r, en, o⟩ => by
  rw [hf] at o
  exact o.now r (h _ _ _)
theorem q_var {i : Nat} {x : Str} (hN : X.N[i]? = some x) (hv : visB X.env.scope x = true) : PE X (.Name x pos) (tE w (pA w) W (fun ρ m => match ρ[i]? with | some (some d) => .ok (.d d) m | _ => .bad)) := by
  obtain ⟨h1, h2, h3⟩ := vis_of hv
  refine PE.imp (pe_var hN h1 h2 h3) fun σ H Q ⟨α, ρ, m, r, en, o⟩ => ?_
  replace o : Out w (pA w) α m.length H Q (fun cls d H' => W cls d σ H') (match ρ[i]? with | some (some d) => .ok (.d d) m | _ => .bad) := o
  cases e : (ρ[i]? : Option (Option D)) with
  | none => rw [e] at o; exact o.elim
  | some q =>
    cases q with
    | none => rw [e] at o; exact o.elim
    | some d =>
      rw [e] at o
      obtain ⟨v, h4, h5, h6⟩ := en.2 i d e
      exact ⟨v, h4, o.now r ⟨⟨h5, h6⟩, trivial⟩⟩
theorem q_neg (ha : PE X a (tE w (pA w) W fa)) : PE X (.UnaryOp .USub a pos) (tE w (pA w) W (fun ρ m => (fa ρ m).bind fun x m => match x with | .d (.int i) => .ok (.d (.int (-i))) m | _ => .bad)) := PE.imp (pe_un un_neg ha) fun σ H Q ⟨α, ρ, m, r, en, o⟩ => by
  refine ⟨α, ρ, m, r, en, (Out.bind (rep := pA w) o pA.back).imp fun x H1 ⟨α1, m1, a, x1, r1, p1, o1⟩ => ?_⟩
  split at o1
  · cases RepA.int (m := m1) p1.1
    exact ⟨_, rfl, o1.now r1 rep_int⟩
  · exact o1.elim

/-! ### comparisons -/
theorem twoB {r : R2} {k : A → A → Hm → R Bool} (hr : ∀ x y H Q, rB w k x y H Q → r x y H Q) {σ : St} {H : Hp} {Q : VK}
    (h : tE w pBv W (fun ρ m => (fa ρ m).bind fun x m => (fb ρ m).bind fun y m => k x y m) σ H Q) : tE w (pA w) W fa σ H fun x H1 => tE w (pA w) W fb σ H1 fun y H2 => r x y H2 Q := by
  obtain ⟨α, ρ, m, l, en, o⟩ := h
  refine ⟨α, ρ, m, l, en, (Out.bind (rep := pA w) o pBv.back).imp fun x H1 ⟨α1, m1, a, x1, l1, p1, o1⟩ => ?_⟩
  refine ⟨α1, ρ, m1, l1, en.ext x1 l, (Out.bind (rep := pA w) o1 pBv.back).imp fun y H2 ⟨α2, m2, b, x2, l2, p2, o2⟩ => ?_⟩
  exact hr x y H2 Q ⟨α2, m2, a, b, _, l2, p1.1.ext x2 l1, p2.1, o2⟩
theorem Out.ofA {α : Nat → Addr} {n : Nat} {H : Hp} {Q : VK} {E : XK} {r : R Bool} (o : Out w (pA w) α n H Q E (r.bind fun b m => .ok (.d (.bl b)) m)) : Out w pBv α n H Q E r := by
  cases r with
  | ok k m' =>
    intro α' H' v x l p
    cases (show v = V.bl k from p)
    exact o α' H' _ x l ⟨⟨by unfold Rep; rfl, by unfold D.lt; trivial⟩, trivial⟩
  | exc ex m' => exact o
  | bad => exact o
theorem Out.ofB {α : Nat → Addr} {n : Nat} {H : Hp} {Q : Bool → Hp → Prop} {E : XK} {r : R Bool} (o : Out w pB α n H Q E r) : Out w pBv α n H (fun v H' => ∃ k, v = .bl k ∧ Q k H') E r := by
  cases r with
  | ok k m' =>
    intro α' H' v x l p
    cases (show v = V.bl k from p)
    exact ⟨k, rfl, o α' H' k x l rfl⟩
  | exc ex m' => exact o
  | bad => exact o
theorem bind_bl (r : R Bool) : (r.bind fun b m => R.ok (A.d (.bl b)) m).bind (fun a m => boolOf a m .ok) = r := by cases r <;> rfl
theorem R.bind_assoc {α β γ : Type} (r : R α) (f : α → Hm → R β) (h : β → Hm → R γ) : (r.bind f).bind h = r.bind fun a m => (f a m).bind h := by cases r <;> rfl
theorem q_cmp {op : CmpOp} {k : A → A → Hm → R Bool} (ho : OpR X (compareOp op) (rB w k)) (hb' : behindInMarks op b = false) (ha : PE X a (tE w (pA w) W fa)) (hb : PE X b (tE w (pA w) W fb)) :
    PE X (.Compare a [op] [b] pos) (tE w (pA w) W (fun ρ m => (fa ρ m).bind fun x m => (fb ρ m).bind fun y m => (k x y m).bind fun b m => .ok (.d (.bl b)) m)) ∧
    PT X (.Compare a [op] [b] pos) (tE w pB W (fun ρ m => (fa ρ m).bind fun x m => (fb ρ m).bind fun y m => k x y m)) := by
  refine ⟨PE.imp (pe_cmpR ho ha hb hb') fun σ H Q ⟨α, ρ, m, r, en, o⟩ => twoB (fun _ _ _ _ q => q) ⟨α, ρ, m, r, en, Out.ofA (by simpa only [R.bind_assoc] using o)⟩,
    PT.imp (pt_cmpR ho ha hb hb') fun σ H Q ⟨α, ρ, m, r, en, o⟩ => ?_⟩
  exact twoB (fun _ _ _ _ q => q) ⟨α, ρ, m, r, en, o.ofB⟩
end
end Mp
end
section
/-! Mp: the forms of an expression, further. -/
namespace Mp
open PySem L2
section
variable {X : Cx} {w : Wd} {W : WX} {e a b c : Expr} {es : List Expr} {pos : Pos} {fa fb fc : Rho → Hm → R A} {g : Cfg} {call : Calls} {con : Nat → Option D} {lev : Nat}

theorem chain_of {k k' : A → A → Hm → R Bool} {σ : St} {H : Hp} {Q : VK}
    (h : tE w pBv W (fun ρ m => (fa ρ m).bind fun x m => (fb ρ m).bind fun y m => (k x y m).bind fun z m => if z then (fc ρ m).bind fun u m => k' y u m else .ok false m) σ H Q) :
    tChain (rB w k) (rB w k') (tE w (pA w) W fa) (tE w (pA w) W fb) (tE w (pA w) W fc) σ H Q := by
  obtain ⟨α, ρ, m, l, en, o⟩ := h
  refine ⟨α, ρ, m, l, en, (Out.bind (rep := pA w) o pBv.back).imp fun x H1 ⟨α1, m1, a, x1, l1, p1, o1⟩ => ?_⟩
  have en1 := en.ext x1 l
  refine ⟨α1, ρ, m1, l1, en1, (Out.bind (rep := pA w) o1 pBv.back).imp fun y H2 ⟨α2, m2, b, x2, l2, p2, o2⟩ => ?_⟩
  have en2 := en1.ext x2 l1
  refine ⟨α2, m2, a, b, _, l2, p1.1.ext x2 l1, p2.1, (Out.bind (rep := pBv) o2 pBv.back).imp fun z H3 ⟨α3, m3, t, x3, l3, p3, o3⟩ => ?_⟩
  refine ⟨t, p3, ?_⟩
  cases t with
  | false => exact iteF (Out.now (rep := pBv) (b := false) o3 l3 rfl)
  | true =>
    refine iteT ⟨α3, ρ, m3, l3, en2.ext x3 l2, (Out.bind (rep := pA w) o3 pBv.back).imp fun u H4 ⟨α4, m4, c, x4, l4, p4, o4⟩ => ?_⟩
    exact ⟨α4, m4, b, c, _, l4, (p2.1.ext x3 l2).ext x4 l3, p4.1, o4⟩
theorem q_chain {op op' : CmpOp} {k k' : A → A → Hm → R Bool} (ho : OpR X (compareOp op) (rB w k)) (ho' : OpR X (compareOp op') (rB w k')) (hm : behindInMarks op' c = false)
    (ha : PE X a (tE w (pA w) W fa)) (hb : PE X b (tE w (pA w) W fb)) (hc : PE X c (tE w (pA w) W fc)) :
    PE X (.Compare a [op, op'] [b, c] pos) (tE w (pA w) W (fun ρ m => (fa ρ m).bind fun x m => (fb ρ m).bind fun y m => (k x y m).bind fun z m =>
      if z then (fc ρ m).bind fun u m => (k' y u m).bind fun b m => .ok (.d (.bl b)) m else .ok (.d (.bl false)) m)) ∧
    PT X (.Compare a [op, op'] [b, c] pos) (tE w pB W (fun ρ m => (fa ρ m).bind fun x m => (fb ρ m).bind fun y m => (k x y m).bind fun z m => if z then (fc ρ m).bind fun u m => k' y u m else .ok false m)) := by
  refine ⟨PE.imp (pe_chain ho ho' ha hb hc hm) fun σ H Q ⟨α, ρ, m, r, en, o⟩ => chain_of ⟨α, ρ, m, r, en, Out.ofA (w := w) ?_⟩,
    PT.imp (pt_chain ho ho' ha hb hc hm) fun σ H Q ⟨α, ρ, m, r, en, o⟩ => chain_of ⟨α, ρ, m, r, en, o.ofB⟩⟩
  have e : ∀ (x : A) (m : Hm), ((fb ρ m).bind fun y m => (k x y m).bind fun z m => if z then (fc ρ m).bind fun u m => (k' y u m).bind fun b m => R.ok (A.d (.bl b)) m else R.ok (A.d (.bl false)) m) =
      ((fb ρ m).bind fun y m => (k x y m).bind fun z m => if z then (fc ρ m).bind fun u m => k' y u m else .ok false m).bind fun b m => .ok (.d (.bl b)) m := fun x m => by
    rw [R.bind_assoc]; congr; funext y m; rw [R.bind_assoc]; congr; funext z m; cases z
    · rfl
    · simp only [if_true, R.bind_assoc]
  simp only [e] at o
  rw [R.bind_assoc]
  exact o

/-! ### and, or, not -/
theorem q_not {fa : Rho → Hm → R Bool} (ht : PT X a (tE w pB W fa)) (he : PE X a (tE w (pBv) W fa)) : PE X (.UnaryOp .Not a pos) (tE w (pA w) W (fun ρ m => (fa ρ m).bind fun b m => .ok (.d (.bl (!b))) m)) ∧
    PT X (.UnaryOp .Not a pos) (tE w pB W (fun ρ m => (fa ρ m).bind fun b m => .ok (!b) m)) := by
  refine ⟨PE.imp (pe_not he) fun σ H Q ⟨α, ρ, m, r, en, o⟩ => ⟨α, ρ, m, r, en, (Out.bind (rep := pBv) o pA.back).imp fun x H1 ⟨α1, m1, a, x1, r1, p1, o1⟩ => ⟨a, p1, o1.now r1 rep_bl⟩⟩,
    PT.imp (pt_not ht) fun σ H Q ⟨α, ρ, m, r, en, o⟩ => ⟨α, ρ, m, r, en, (Out.bind (rep := pB) o pB.back).imp fun x H1 ⟨α1, m1, a, x1, r1, p1, o1⟩ => ?_⟩⟩
  cases (show x = a from p1)
  exact Out.now (rep := pB) o1 r1 rfl
/-- a bool's expression -/
theorem asBool (he : PE X e (tE w (pA w) W fa)) : PE X e (tE w pBv W (fun ρ m => (fa ρ m).bind fun a m => boolOf a m .ok)) := PE.imp he fun σ H Q ⟨α, ρ, m, r, en, o⟩ => by
  refine ⟨α, ρ, m, r, en, (Out.bind (rep := pA w) o pBv.back).imp fun x H1 ⟨α1, m1, a, x1, r1, p1, o1⟩ => ?_⟩
  cases a with
  | fl _ => exact o1.elim
  | d d =>
    cases d with
    | bl k =>
      cases RepA.bl (m := m1) p1.1
      exact Out.now (rep := pBv) o1 r1 rfl
    | _ => exact o1.elim
theorem ofBool {fa : Rho → Hm → R Bool} (he : PE X e (tE w pBv W fa)) : PE X e (tE w (pA w) W (fun ρ m => (fa ρ m).bind fun b m => .ok (.d (.bl b)) m)) := PE.imp he fun σ H Q ⟨α, ρ, m, r, en, o⟩ => ⟨α, ρ, m, r, en, o.ofA⟩
theorem q_and1 {fa : Rho → Hm → R Bool} (he : PE X a (tE w pBv W fa)) (ht : PT X a (tE w pB W fa)) : PE X (.BoolOp .And [a] pos) (tE w pBv W (fun ρ m => (fa ρ m).bind fun b m => if b then .ok true m else .ok false m)) ∧
    PW X (.BoolOp .And [a] pos) (tE w pB W (fun ρ m => (fa ρ m).bind fun b m => if b then .ok true m else .ok false m)) := by
  have e : ∀ r : R Bool, (r.bind fun b m => if b then R.ok true m else R.ok false m) = r := fun r => by
    cases r with
    | ok b m => cases b <;> rfl
    | exc _ _ => rfl
    | bad => rfl
  simp only [e]
  exact ⟨pe_one he, pw_and1 ht⟩
theorem q_or1 {fa : Rho → Hm → R Bool} (he : PE X a (tE w pBv W fa)) (ht : PT X a (tE w pB W fa)) : PE X (.BoolOp .Or [a] pos) (tE w pBv W (fun ρ m => (fa ρ m).bind fun b m => if b then .ok true m else .ok false m)) ∧
    PW X (.BoolOp .Or [a] pos) (tE w pB W (fun ρ m => (fa ρ m).bind fun b m => if b then .ok true m else .ok false m)) := by
  have e : ∀ r : R Bool, (r.bind fun b m => if b then R.ok true m else R.ok false m) = r := fun r => by
    cases r with
    | ok b m => cases b <;> rfl
    | exc _ _ => rfl
    | bad => rfl
  simp only [e]
  exact ⟨pe_one he, pw_or1 ht⟩
theorem q_and {fa fr : Rho → Hm → R Bool} {rest : List Expr} (he : PE X a (tE w pBv W fa)) (ht : PT X a (tE w pB W fa)) (hr : PE X (.BoolOp .And (b :: rest) pos) (tE w pBv W fr)) (hw : PW X (.BoolOp .And (b :: rest) pos) (tE w pB W fr)) :
    PE X (.BoolOp .And (a :: b :: rest) pos) (tE w pBv W (fun ρ m => (fa ρ m).bind fun k m => if k then fr ρ m else .ok false m)) ∧ PW X (.BoolOp .And (a :: b :: rest) pos) (tE w pB W (fun ρ m => (fa ρ m).bind fun k m => if k then fr ρ m else .ok false m)) := by
  refine ⟨PE.imp (pe_and he hr) fun σ H Q ⟨α, ρ, m, r, en, o⟩ => ⟨α, ρ, m, r, en, (Out.bind (rep := pBv) o pBv.back).imp fun x H1 ⟨α1, m1, k, x1, r1, p1, o1⟩ => ⟨k, p1, ?_⟩⟩,
    PW.imp (pw_and ht hw) fun σ H Q ⟨α, ρ, m, r, en, o⟩ => ⟨α, ρ, m, r, en, (Out.bind (rep := pB) o pB.back).imp fun x H1 ⟨α1, m1, k, x1, r1, p1, o1⟩ => ?_⟩⟩
  · cases k with
    | false => exact iteF (Out.now (rep := pBv) (b := false) o1 r1 rfl)
    | true => exact iteT ⟨α1, ρ, m1, r1, en.ext x1 r, o1⟩
  · cases (show x = k from p1)
    cases x with
    | false => exact iteF (Out.now (rep := pB) (b := false) o1 r1 rfl)
    | true => exact iteT ⟨α1, ρ, m1, r1, en.ext x1 r, o1⟩
theorem q_or {fa fr : Rho → Hm → R Bool} {rest : List Expr} (he : PE X a (tE w pBv W fa)) (ht : PT X a (tE w pB W fa)) (hr : PE X (.BoolOp .Or (b :: rest) pos) (tE w pBv W fr)) (hw : PW X (.BoolOp .Or (b :: rest) pos) (tE w pB W fr)) :
    PE X (.BoolOp .Or (a :: b :: rest) pos) (tE w pBv W (fun ρ m => (fa ρ m).bind fun k m => if k then .ok true m else fr ρ m)) ∧ PW X (.BoolOp .Or (a :: b :: rest) pos) (tE w pB W (fun ρ m => (fa ρ m).bind fun k m => if k then .ok true m else fr ρ m)) := by
  refine ⟨PE.imp (pe_or he hr) fun σ H Q ⟨α, ρ, m, r, en, o⟩ => ⟨α, ρ, m, r, en, (Out.bind (rep := pBv) o pBv.back).imp fun x H1 ⟨α1, m1, k, x1, r1, p1, o1⟩ => ⟨k, p1, ?_⟩⟩,
    PW.imp (pw_or ht hw) fun σ H Q ⟨α, ρ, m, r, en, o⟩ => ⟨α, ρ, m, r, en, (Out.bind (rep := pB) o pB.back).imp fun x H1 ⟨α1, m1, k, x1, r1, p1, o1⟩ => ?_⟩⟩
  · cases k with
    | false => exact iteF ⟨α1, ρ, m1, r1, en.ext x1 r, o1⟩
    | true => exact iteT (Out.now (rep := pBv) (b := true) o1 r1 rfl)
  · cases (show x = k from p1)
    cases x with
    | false => exact iteF ⟨α1, ρ, m1, r1, en.ext x1 r, o1⟩
    | true => exact iteT (Out.now (rep := pB) (b := true) o1 r1 rfl)
theorem q_ife {ft : Rho → Hm → R Bool} (ht : PT X c (tE w pB W ft)) (ha : PE X a (tE w (pA w) W fa)) (hb : PE X b (tE w (pA w) W fb)) : PE X (.IfExp c a b pos) (tE w (pA w) W (fun ρ m => (ft ρ m).bind fun k m => if k then fa ρ m else fb ρ m)) := PE.imp (pe_ifExp ht ha hb) fun σ H Q ⟨α, ρ, m, r, en, o⟩ => by
  refine ⟨α, ρ, m, r, en, (Out.bind (rep := pB) o pA.back).imp fun x H1 ⟨α1, m1, k, x1, r1, p1, o1⟩ => ?_⟩
  cases (show x = k from p1)
  cases x with
  | false => exact iteF ⟨α1, ρ, m1, r1, en.ext x1 r, o1⟩
  | true => exact iteT ⟨α1, ρ, m1, r1, en.ext x1 r, o1⟩

/-! ### subscripts, slices -/
theorem q_ix (hK : X.K = w.K) (hs : notSlice b = true) (ha : PE X a (tE w (pA w) W fa)) (hb : PE X b (tE w (pA w) W fb)) : PE X (.Subscript a b pos) (tE w (pA w) W (fun ρ m => (fa ρ m).bind fun x m => (fb ρ m).bind fun y m => ixA x y m)) :=
  PE.imp (pe_ix (i_ix hK) ha hb (ix_ok hs)) fun σ H Q h => two (fun _ _ _ _ q => q) h
structure POi (X : Cx) (w : Wd) (W : WX) (e : Option Expr) (f : Rho → Hm → R (Option Int)) : Prop where
  ex : ∃ t, PO X e t ∧ ∀ σ H Q, tE w pO W f σ H Q → t σ H Q
theorem po_no : POi X w W none (fun _ m => .ok none m) := ⟨_, po_none, fun σ H Q ⟨α, ρ, m, r, en, o⟩ => Out.now (rep := pO) o r rfl⟩
theorem po_yes (ha : PE X a (tE w (pA w) W fa)) : POi X w W (some a) (fun ρ m => (fa ρ m).bind fun a m => match a with | .d (.int i) => .ok (some i) m | _ => .bad) := ⟨_, po_some ha, fun σ H Q ⟨α, ρ, m, r, en, o⟩ => by
  refine ⟨α, ρ, m, r, en, (Out.bind (rep := pA w) o pO.back).imp fun x H1 ⟨α1, m1, a, x1, r1, p1, o1⟩ => ?_⟩
  split at o1
  · cases RepA.int (m := m1) p1.1
    exact ⟨_, rfl, Out.now (rep := pO) o1 r1 rfl⟩
  · exact o1.elim⟩
theorem q_slc {lo hi : Option Expr} {p2 : Pos} {fl fh : Rho → Hm → R (Option Int)} (hK : X.K = w.K) (ha : PE X a (tE w (pA w) W fa)) (hl : POi X w W lo fl) (hh : POi X w W hi fh) :
    PE X (.Subscript a (.Slice lo hi none p2) pos) (tE w (pA w) W (fun ρ m => (fa ρ m).bind fun x m => (fl ρ m).bind fun l m => (fh ρ m).bind fun h m => slcA x l h m)) := by
  obtain ⟨tl, pl, il⟩ := hl.ex
  obtain ⟨th, ph, ih⟩ := hh.ex
  refine PE.imp (pe_slice (l_slc hK) ha pl ph) fun σ H Q ⟨α, ρ, m, r, en, o⟩ => ?_
  refine ⟨α, ρ, m, r, en, (Out.bind (rep := pA w) o pA.back).imp fun x H1 ⟨α1, m1, a, x1, r1, p1, o1⟩ => ?_⟩
  have en1 := en.ext x1 r
  refine il σ H1 _ ⟨α1, ρ, m1, r1, en1, (Out.bind (rep := pO) o1 pA.back).imp fun l H2 ⟨α2, m2, l', x2, r2, p2, o2⟩ => ?_⟩
  cases (show l = l' from p2)
  have en2 := en1.ext x2 r1
  refine ih σ H2 _ ⟨α2, ρ, m2, r2, en2, (Out.bind (rep := pO) o2 pA.back).imp fun h H3 ⟨α3, m3, h', x3, r3, p3, o3⟩ => ?_⟩
  cases (show h = h' from p3)
  exact ⟨α3, m3, a, _, r3, (p1.1.ext x2 r1).ext x3 r2, o3⟩

/-! ### argument lists -/
theorem q_nil : PA X [] (tE w (pDs w) W (fun _ m => .ok [] m)) := PA.imp pa_nil fun σ H Q ⟨α, ρ, m, r, en, o⟩ => Out.now (rep := pDs w) (g := []) o r ⟨by unfold RepL; rfl, by unfold ltAll; trivial⟩
theorem q_cons {fs : Rho → Hm → R (List D)} (hs : notStar e = true) (he : PE X e (tE w (pA w) W fa)) (hr : PA X es (tE w (pDs w) W fs)) : PA X (e :: es) (tE w (pDs w) W (fun ρ m => (fa ρ m).bind fun a m => (lay a m).bind fun d m => (fs ρ m).bind fun ds m => .ok (d :: ds) m)) :=
  PA.imp (pa_cons (PE.laid he) hr (star_ok hs _ _)) fun σ H Q ⟨α, ρ, m, r, en, o⟩ => by
    have o' : Out w (pDs w) α m.length H Q (fun cls d H' => W cls d σ H') (((fa ρ m).bind lay).bind fun d m => (fs ρ m).bind fun ds m => .ok (d :: ds) m) := by rw [R.bind_assoc]; exact o
    refine ⟨α, ρ, m, r, en, (Out.bind (rep := pD w) o' pDs.back).imp fun x H1 ⟨α1, m1, d, x1, r1, p1, o1⟩ => ?_⟩
    refine ⟨α1, ρ, m1, r1, en.ext x1 r, (Out.bind (rep := pDs w) o1 pDs.back).imp fun xs H2 ⟨α2, m2, ds, x2, r2, p2, o2⟩ => ?_⟩
    refine Out.now (rep := pDs w) o2 r2 ⟨?_, ?_⟩
    · unfold RepL
      exact ⟨x, xs, rfl, Rep.ext (x2.keeps r1) d x p1.2 p1.1, p2.1⟩
    · unfold ltAll
      exact ⟨D.lt_mono x2.le d p1.2, p2.2⟩
theorem q_nilA : PA X [] (tE w (pAs w) W (fun _ m => .ok [] m)) := PA.imp pa_nil fun σ H Q ⟨α, ρ, m, r, en, o⟩ => Out.now (rep := pAs w) (g := []) o r rfl
theorem q_consA {fs : Rho → Hm → R (List A)} (hs : notStar e = true) (he : PE X e (tE w (pA w) W fa)) (hr : PA X es (tE w (pAs w) W fs)) : PA X (e :: es) (tE w (pAs w) W (fun ρ m => (fa ρ m).bind fun a m => (fs ρ m).bind fun as m => .ok (a :: as) m)) :=
  PA.imp (pa_cons he hr (star_ok hs _ _)) fun σ H Q ⟨α, ρ, m, r, en, o⟩ => by
    refine ⟨α, ρ, m, r, en, (Out.bind (rep := pA w) o pAs.back).imp fun x H1 ⟨α1, m1, a, x1, r1, p1, o1⟩ => ?_⟩
    refine ⟨α1, ρ, m1, r1, en.ext x1 r, (Out.bind (rep := pAs w) o1 pAs.back).imp fun xs H2 ⟨α2, m2, as, x2, r2, p2, o2⟩ => ?_⟩
    exact Out.now (rep := pAs w) o2 r2 ⟨x, xs, rfl, p1.1.ext x2 r1, p2⟩
theorem q_tup {k : Nat} {fs : Rho → Hm → R (List D)} (h : PA X es (tE w (pDs w) W fs)) : PE X (.Tuple es k pos) (tE w (pA w) W (fun ρ m => (fs ρ m).bind fun ds m => grd (ds.length ≤ sizeLine) (.ok (.d (.tup ds)) m))) := PE.imp (pe_tup h) fun σ H Q ⟨α, ρ, m, r, en, o⟩ => by
  refine ⟨α, ρ, m, r, en, (Out.bind (rep := pDs w) o pA.back).imp fun xs H1 ⟨α1, m1, ds, x1, r1, p1, o1⟩ => ?_⟩
  obtain ⟨hz, o1⟩ := o1.grd_
  exact ⟨by rw [← RepL.length _ _ p1.1]; exact hz, fun p hp => o1.tuple r1 p1.1 p1.2 hz hp⟩
theorem q_lst {fs : Rho → Hm → R (List D)} (h : PA X es (tE w (pDs w) W fs)) : PE X (.List es pos) (tE w (pA w) W (fun ρ m => (fs ρ m).bind fun ds m => grd (ds.length ≤ sizeLine) (.ok (.fl ds) m))) := PE.imp (pe_lst h) fun σ H Q ⟨α, ρ, m, r, en, o⟩ => by
  refine ⟨α, ρ, m, r, en, (Out.bind (rep := pDs w) o pA.back).imp fun xs H1 ⟨α1, m1, ds, x1, r1, p1, o1⟩ => ?_⟩
  obtain ⟨hz, o1⟩ := o1.grd_
  exact ⟨by rw [← RepL.length _ _ p1.1]; exact hz, fun p hp => o1.list r1 p1.1 p1.2 hz hp⟩

/-! ### calls -/
/-- a built-in function or class by its name -/
theorem q_bi {x : Str} {p : Pos} {bi : BI} {fs : Rho → Hm → R (List A)} (G : Good g w call con lev X) (hx : bi.nam = x) (hg : glB X.env.scope x = true) (he : notStar e = true) (hes : ∀ y ∈ es, notStar y = true) (h : PA X (e :: es) (tE w (pAs w) W fs)) :
    PE X (.Call (.Name x p) (e :: es) [] pos) (tE w (pA w) W (fun ρ m => (fs ρ m).bind fun as m => biA bi as m)) := by
  subst hx
  obtain ⟨h1, h2, h3⟩ := gl_of hg
  have hb : w.mg bi.nam = none := G.boot _ (by cases bi <;> simp [BI.nam, boots])
  rw [← G.hmg] at hb
  have rule := c_bi G.hK G.calm G.gd G.units bi
  have goal : PE X (.Call (.Name bi.nam p) (e :: es) [] pos) (tCB (rC w (biA bi)) (tE w (pAs w) W fs)) := by
    cases bi
    case len => exact pe_callB rule h1 hb (by decide +kernel) h h3 h2 (star_ok he _ _) (any_star hes)
    case tuple => exact pe_callTy rule h1 hb (by decide +kernel) h h3 h2 (star_ok he _ _) (any_star hes)
    case list => exact pe_callTy rule h1 hb (by decide +kernel) h h3 h2 (star_ok he _ _) (any_star hes)
    case str => exact pe_callTy rule h1 hb (by decide +kernel) h h3 h2 (star_ok he _ _) (any_star hes)
    case int => exact pe_callTy rule h1 hb (by decide +kernel) h h3 h2 (star_ok he _ _) (any_star hes)
    case abs => exact pe_callB rule h1 hb (by decide +kernel) h h3 h2 (star_ok he _ _) (any_star hes)
    case max2 => exact pe_callB rule h1 hb (by decide +kernel) h h3 h2 (star_ok he _ _) (any_star hes)
    case min2 => exact pe_callB rule h1 hb (by decide +kernel) h h3 h2 (star_ok he _ _) (any_star hes)
    case all => exact pe_callB rule h1 hb (by decide +kernel) h h3 h2 (star_ok he _ _) (any_star hes)
    case any => exact pe_callB rule h1 hb (by decide +kernel) h h3 h2 (star_ok he _ _) (any_star hes)
    case sorted => exact pe_callB rule h1 hb (by decide +kernel) h h3 h2 (star_ok he _ _) (any_star hes)
    case repr => exact pe_callB rule h1 hb (by decide +kernel) h h3 h2 (star_ok he _ _) (any_star hes)
  refine PE.imp goal fun σ H Q ⟨α, ρ, m, r, en, o⟩ => ?_
  exact ⟨α, ρ, m, r, en, (Out.bind (rep := pAs w) o pA.back).imp fun xs H1 ⟨α1, m1, as, x1, r1, p1, o1⟩ => ⟨α1, m1, as, _, r1, p1, o1⟩⟩
end
end Mp
end
section
/-! Mp: calls of defs, methods of texts and lists, comprehensions. -/
namespace Mp
open PySem L2
section
variable {X : Cx} {w : Wd} {W : WX} {e a b c : Expr} {es : List Expr} {pos : Pos} {fa fb fc : Rho → Hm → R A} {g : Cfg} {call : Calls} {con : Nat → Option D} {lev : Nat}

theorem run_fnG {f : Addr} {fd : FuncData} {ps : List Str} {sp : Sp} {pins : List (Addr × Obj)} {σ : St} {H : Hp} {s : Shared} {Q : VK} {us : List Value} {vs : List V} (F : FnG X.prog X.w X.K X.mg X.base lev f fd ps sp)
    (hr : Room lev X.A) (hg : X.A.guards = some []) (hb : Binds X.K fd ps []) (tk : Takes X W) (I : Inv X pins σ H s) (r : Vals vs us) (h : sp vs H Q fun cls d H' => W cls d σ H') :
    wpAny (model X.prog X.w) X.A (PySem.call (.ref f) us) (EP X pins σ Q) X.xe s := by
  have hl : us.length = ps.length := r.length.symm.trans (F.len _ _ _ _ h)
  have b : BindsTo s fd ⟨us, []⟩ (ps.zip us) := by
    have b := hb s us I.kIn (by rw [List.append_nil]; exact hl)
    rwa [List.append_nil] at b
  refine wpAny_call (codeAny_mono (F.run X.A X.stack s H _ us vs Q _ hr hg I.env0 b r h) fun res s' hq => ?_)
  match res, hq with
  | .error e, hq => exact passAt tk σ pins H s e s' I hq
  | .ok (.ret u), hq => exact I.after hq
  | .ok .next, hq => exact hq.elim
  | .ok .brk, hq => exact hq.elim
  | .ok .cont, hq => exact hq.elim
/-- f(e, ..), f a def of the text -/
theorem q_call {x : Str} {p : Pos} {k np : Nat} {fs : Rho → Hm → R (List D)} (G : Good g w call con lev X) (tk : Takes X W) (hx : g.nm k = x) (hgl : glB X.env.scope x = true) (ha : g.ar 0 k = some np) (hlen : ∀ ρ m ds m', fs ρ m = .ok ds m' → ds.length = np) (h0 : es = [] → fs = fun _ m => .ok [] m)
    (hes : ∀ y ∈ es, notStar y = true) (h : PA X es (tE w (pDs w) W fs)) :
    PE X (.Call (.Name x p) es [] pos) (tE w (pA w) W (fun ρ m => (fs ρ m).bind fun ds m => (call 0 k ds m).bind fun d m => .ok (.d d) m)) := by
  obtain ⟨h1, h2, h3⟩ := gl_of hgl
  obtain ⟨f, fd, ps, hm, hk, hb, hnp, F⟩ := (G.fns k np ha).ex
  rw [G.hnm, hx] at hm
  rw [← G.hmg] at hm
  rw [← G.hK] at hk hb
  refine ⟨fun pins s σ H Q I ht => ?_⟩
  obtain ⟨α, ρ, m, r, en, o⟩ := ht
  refine wpAny_Call_Name_kw (ld_glob I h1 hm ?_ h2)
  have run : ∀ {s1 : Shared} {us : List Value} {vs : List V} {H1 : Hp}, Inv X pins σ H1 s1 → Vals vs us → (∃ α1 m1 ds, Ext α m.length H α1 m1.length H1 ∧ Rl w α1 m1 H1 ∧ pDs w H α1 m1.length H1 ds vs ∧ ds.length = np ∧
      Out w (pA w) α1 m1.length H1 Q (fun cls d H' => W cls d σ H') ((call 0 k ds m1).bind fun d m => .ok (.d d) m)) → wpAny (model X.prog X.w) X.A (PySem.call (.ref f) us) (EP X pins σ Q) X.xe s1 := by
    rintro s1 us vs H1 I1 rv ⟨α1, m1, ds, x1, r1, p1, hl, o1⟩
    refine run_fnG F G.room G.gd hb tk I1 rv ⟨α1, m1, ds, hl, r1, p1.1, p1.2, ?_⟩
    cases hc : call 0 k ds m1 with
    | ok d m2 => rw [hc] at o1; exact fun α' H' v x l p => o1 α' H' v x l ⟨p, trivial⟩
    | exc ex m2 => rw [hc] at o1; exact o1
    | bad => rw [hc] at o1; exact o1
  have args : tE w (pDs w) W fs σ H fun vs H1 => ∃ α1 m1 ds, Ext α m.length H α1 m1.length H1 ∧ Rl w α1 m1 H1 ∧ pDs w H α1 m1.length H1 ds vs ∧ ds.length = np ∧
      Out w (pA w) α1 m1.length H1 Q (fun cls d H' => W cls d σ H') ((call 0 k ds m1).bind fun d m => .ok (.d d) m) := by
    refine ⟨α, ρ, m, r, en, ?_⟩
    have o2 : Out w (pA w) α m.length H Q (fun cls d H' => W cls d σ H') ((fs ρ m).bind fun ds m => (call 0 k ds m).bind fun d m => .ok (.d d) m) := o
    have hl2 := hlen ρ m
    cases hf : fs ρ m with
    | ok ds m' => rw [hf] at o2; exact fun α' H' vs x l p => ⟨α', m', ds, x, l, p, hl2 ds m' hf, Out.mono o2 pA.back x⟩
    | exc ex m' => rw [hf] at o2; exact o2
    | bad => rw [hf] at o2; exact o2
  cases es with
  | nil =>
    cases h0 rfl
    exact PySem.W.callWith_K0 I.kIn hk (run I .nil ⟨α, m, [], Ext.refl r.mapped, r, ⟨by unfold RepL; rfl, by unfold ltAll; trivial⟩, hlen ρ m [] m rfl, o⟩)
  | cons e es =>
    refine PySem.W.callWith_K (h₀ := X.base) I.ok.mod.kin hk (thn (h.run pos pins s σ H _ I args) fun us s1 ⟨vs, H1, I1, r, q⟩ => ⟨I1.kIn, run I1 r q⟩) (star_ok (hes e (by simp)) _ _) (any_star fun y hy => hes y (by simp [hy]))

/-! ### methods -/
theorem onStr_some {α : Type} {γ : Type} {rep : RepT α γ} {a : A} {f : Str → R α} {β : Nat → Addr} {n : Nat} {H : Hp} {Q : γ → Hp → Prop} {E : XK} (o : Out w rep β n H Q E (onStr a f)) : ∃ z, a = .d (.str z) ∧ Out w rep β n H Q E (f z) := by
  unfold onStr at o
  cases e : a.str? with
  | none => rw [e] at o; exact o.elim
  | some z => rw [e] at o; exact ⟨z, str_of e, o⟩
theorem q_m1 {id : String} {name : Str} {ap : Pos} {k : Str → A → Hm → R A} {r : V → List V → Hp → VK → Prop} (slot : PySem.Slot "str" name id) (ty : typeOf (.builtin id) = pure (.type "method_descriptor")) (rule : MtR X id r)
    (hr : ∀ z y H Q α m b E, z.length ≤ sizeLine → Rl w α m H → RepA w α m.length H b y → Out w (pA w) α m.length H Q E (k z b m) → r (.str z) [y] H Q)
    (hn : notStar b = true) (hb : plainBase a = true) (hl : (ap.endLine == pos.line) = true) (ha : PE X a (tE w (pA w) W fa)) (hbb : PE X b (tE w (pA w) W fb)) :
    PE X (.Call (.Attribute a name ap) [b] [] pos) (tE w (pA w) W (fun ρ m => (fa ρ m).bind fun x m => onStr x fun z => (fb ρ m).bind fun y m => k z y m)) := by
  refine PE.imp (pe_m1 slot ty rule ha hbb (star_ok hn _ _) (base_ok hb _ _) hl) fun σ H Q ⟨α, ρ, m, r, en, o⟩ => ?_
  refine ⟨α, ρ, m, r, en, (Out.bind (rep := pA w) o pA.back).imp fun x H1 ⟨α1, m1, a, x1, r1, p1, o1⟩ => ?_⟩
  obtain ⟨z, rfl, o1⟩ := onStr_some o1
  obtain ⟨rfl, hz⟩ := RepA.str (m := m1) p1.1
  refine ⟨⟨_, rfl⟩, α1, ρ, m1, r1, en.ext x1 r, (Out.bind (rep := pA w) o1 pA.back).imp fun y H2 ⟨α2, m2, b, x2, r2, p2, o2⟩ => ?_⟩
  exact hr z y H2 Q α2 m2 b _ hz r2 p2.1 o2
theorem q_join {ap : Pos} (hK : X.K = w.K) (hn : notStar b = true) (hb : plainBase a = true) (hl : (ap.endLine == pos.line) = true) (ha : PE X a (tE w (pA w) W fa)) (hbb : PE X b (tE w (pA w) W fb)) :
    PE X (.Call (.Attribute a "join" ap) [b] [] pos) (tE w (pA w) W (fun ρ m => (fa ρ m).bind fun x m => onStr x fun z => (fb ρ m).bind fun y m => joinA z y m)) := by
  refine q_m1 F.slot_str_join F.type_str_join mt_join ?_ hn hb hl ha hbb
  intro z y H Q α m b E hz r p o
  unfold joinA at o
  split at o
  · rename_i xs hx
    split at o
    · rename_i ys hy
      obtain ⟨hs, o⟩ := o.grd_
      obtain ⟨q, vs, rfl, hp, zz, qq, l⟩ := p.seq r hx
      cases alls_strs hy qq
      refine ⟨_, q, ys, rfl, rfl, by rw [hK]; exact hp, hs, o.now r (rep_str ?_)⟩
      show (PySem.Builtin.Str.glued z ys).length ≤ _
      rw [size_glued, sizeLine_eq]
      have : (ys.length - 1) * z.length ≤ ys.length * z.length := Nat.mul_le_mul_right _ (Nat.sub_le _ _)
      omega
    · exact o.elim
  · exact o.elim
theorem q_split {ap : Pos} (hn : notStar b = true) (hb : plainBase a = true) (hl : (ap.endLine == pos.line) = true) (ha : PE X a (tE w (pA w) W fa)) (hbb : PE X b (tE w (pA w) W fb)) :
    PE X (.Call (.Attribute a "split" ap) [b] [] pos) (tE w (pA w) W (fun ρ m => (fa ρ m).bind fun x m => onStr x fun z => (fb ρ m).bind fun y m => splitA z y m)) := by
  refine q_m1 F.slot_str_split F.type_str_split mt_split ?_ hn hb hl ha hbb
  intro z y H Q α m b E hz r p o
  unfold splitA at o
  split at o
  · rename_i x hx
    cases str_of hx
    obtain ⟨⟨h1, h2⟩, o⟩ := o.grd_
    obtain ⟨rfl, hy⟩ := p.str
    refine ⟨_, _, rfl, rfl, h1, h2, fun t ht => o.list r (repL_strs _ fun y hy => ?_) (lt_strs _) ?_ ht⟩
    · exact Nat.le_trans (PyProof.Rows.part_short hy) hz
    · rw [List.length_map]
      exact Nat.le_trans (PyProof.Rows.split_le _ _) h2
  · exact o.elim
theorem lstAt_some {m : Hm} {i : Nat} {xs : List D} (h : lstAt m i = some xs) : m[i]? = some (.lst xs) := by
  unfold lstAt at h
  split at h
  · rename_i e; cases h; exact e
  · cases h
theorem q_app {ap : Pos} (hK : X.K = w.K) (hn : notStar b = true) (hb : plainBase a = true) (hl : (ap.endLine == pos.line) = true) (ha : PE X a (tE w (pA w) W fa)) (hbb : PE X b (tE w (pA w) W fb)) :
    PE X (.Call (.Attribute a "append" ap) [b] [] pos) (tE w (pA w) W (fun ρ m => (fa ρ m).bind fun x m => onLst x m fun i => ((fb ρ m).bind lay).bind fun d m => appA i d m)) := by
  have few : ((backTo pos (starEach [b] X.env)).all (fun x => !x.1) && (backToKw pos (keywordEach [] X.env)).all (fun x => x.1.isSome) && decide ([b].length + ([] : List Keyword).length + (if ([] : List Keyword).isEmpty then 0 else 1) < 30)) = true := by
    rw [star_ok hn]; rfl
  refine PE.imp (pe_bm PySem.F.plainAttrs_list PySem.F.slot_list_append PySem.F.type_list_append mt_append ha (pa_cons (PE.laid hbb) pa_nil (star_ok hn _ _)) (base_ok hb _ _) few hl (star_ok hn _ _) rfl) fun σ H Q ⟨α, ρ, m, r, en, o⟩ => ?_
  refine ⟨α, ρ, m, r, en, (Out.bind (rep := pA w) o pA.back).imp fun x H1 ⟨α1, m1, a, x1, r1, p1, o1⟩ => ?_⟩
  unfold onLst at o1
  split at o1
  · rename_i i
    split at o1
    · rename_i ys hy
      have hv := p1.1.1
      unfold Rep at hv
      subst hv
      obtain ⟨vs, h1, _⟩ := r1.objs i _ (lstAt_some hy)
      refine ⟨.inl ⟨rfl, vs, SqL.of h1⟩, α1, ρ, m1, r1, en.ext x1 r, (Out.bind (rep := pD w) o1 pA.back).imp fun y H2 ⟨α2, m2, d, x2, r2, p2, o2⟩ => ?_⟩
      have hi1 : i < m1.length := (List.getElem?_eq_some_iff.mp (lstAt_some hy)).1
      unfold appA at o2
      split at o2
      · rename_i xs hx
        obtain ⟨hz, o2⟩ := o2.grd_
        have hx' := lstAt_some hx
        obtain ⟨us, g1, g2, g3, g4⟩ := r2.objs i _ hx'
        have hi2 : i < m2.length := (List.getElem?_eq_some_iff.mp hx').1
        have e2 := RepL.length _ _ g2
        refine ⟨α1 i, us, y, rfl, rfl, by rw [← x2.agree i hi1]; exact g1, by rw [← e2]; exact hz, ?_⟩
        obtain ⟨x3, r3⟩ := r2.put hi2 (o := .lst (us ++ [y])) (ob := .lst (xs ++ [d])) (fun _ z => by cases z) fun x k => ⟨us ++ [y], upd_same, RepL.append (RepL.ext k xs us g4 g2) (by unfold RepL; exact ⟨y, [], rfl, Rep.ext k d y p2.2 p2.1, by unfold RepL; rfl⟩), by
          rw [List.length_append]; simp only [List.length_cons, List.length_nil]; omega, ltAll_append g4 (by unfold ltAll; exact ⟨p2.2, by unfold ltAll; trivial⟩)⟩
        rw [← x2.agree i hi1]
        exact o2 α2 _ _ x3 r3 ⟨⟨by unfold Rep; rfl, by unfold D.lt; trivial⟩, trivial⟩
      · exact o2.elim
    · exact o1.elim
  · exact o1.elim
theorem q_dnew : PE X (.Dict [] [] pos) (tE w (pA w) W (fun _ m => .ok (.d (.ref m.length)) (m ++ [.dct []]))) := by
  refine PE.imp pe_dnewK fun σ H Q ⟨α, ρ, m, r, en, o⟩ => ?_
  intro p hp
  obtain ⟨x1, r1, ne⟩ := r.new (o := .dK []) hp
  obtain ⟨α2, x2, r2, e2, ag⟩ := r1.lay (ob := .dct []) x1 hp ne fun α' ag => ⟨[], upd_same, .nil, Nat.zero_le _⟩
  refine o α2 _ _ x2 r2 ⟨⟨?_, ?_⟩, trivial⟩
  · unfold Rep; rw [e2]
  · unfold D.lt; simp
end
end Mp
end
section
/-! Mp: isinstance, how many unlike, walks. -/
namespace Mp
open L2 PySem PySem.Spec PyProof.Rows
section
variable {X : Cx} {w : Wd} {W : WX} {e a b c : Expr} {es : List Expr} {pos : Pos} {fa fb fc : Rho → Hm → R A} {g : Cfg} {call : Calls} {con : Nat → Option D} {lev : Nat}
def TyN.nam : TyN → String
  | .non => "NoneType" | .bool => "bool" | .int => "int" | .str => "str" | .tuple => "tuple" | .list => "list" | .dict => "dict"
theorem sub_kit (n : TyN) (t : Ty) (b : Bool) (h : isSub n t = some b) : kitB n.nam t.nam = some b := by
  cases t <;> cases n <;> first
    | (cases h; decide +kernel)
    | cases h
theorem ty_rep {α : Nat → Addr} {m : Hm} {H : Hp} (r : Rl w α m H) {a : A} {v : V} {n : TyN} (p : RepA w α m.length H a v) (h : tyOf m a = some n) : TyX w.K H v (.type n.nam) := by
  cases a with
  | fl ds =>
    cases h
    obtain ⟨q, vs, rfl, hq, _⟩ := p
    exact .base (.lst hq)
  | d d =>
    have hv := p.1
    cases d with
    | non => cases h; unfold Rep at hv; subst hv; exact .base .non
    | bl b => cases h; unfold Rep at hv; subst hv; exact .base (.bl b)
    | int i => cases h; unfold Rep at hv; subst hv; exact .base (.int i)
    | str x => cases h; unfold Rep at hv; rw [hv.1]; exact .base (.str x)
    | tup xs =>
      cases h
      unfold Rep at hv
      obtain ⟨q, vs, rfl, s, _⟩ := hv
      rcases s with (s | ⟨o, s⟩) | ⟨o, its, k, s, hc, _⟩
      · exact .base (.tup s)
      · exact .fTuple s
      · exact .kTuple s hc
    | frl xs => cases h
    | fn k => cases h
    | ref i =>
      unfold Rep at hv
      subst hv
      have h' : (match m[i]? with | some (.lst _) => some TyN.list | some (.dct _) => some TyN.dict | _ => none) = some n := h
      split at h'
      · rename_i xs hx
        cases h'
        obtain ⟨vs, h1, _⟩ := r.objs i _ hx
        exact .base (.lst h1)
      · rename_i xs hx
        cases h'
        obtain ⟨vs, h1, _⟩ := r.objs i _ hx
        exact .base (.dK h1)
      · cases h'
theorem q_isi {p cp : Pos} {t : Ty} (G : Good g w call con lev X) (hi : glB X.env.scope "isinstance" = true) (ht : ∀ k, t ≠ .own k) (hg : glB X.env.scope (t.nam : Str) = true) (hn : notStar a = true) (ha : PE X a (tE w (pA w) W fa)) :
    PE X (.Call (.Name "isinstance" p) [a, .Name (t.nam : Str) cp] [] pos) (tE w (pA w) W (fun ρ m => (fa ρ m).bind fun x m => match isiA x t m with | some b => .ok (.d (.bl b)) m | none => .bad)) := by
  obtain ⟨h1, h2, h3⟩ := gl_of hi
  obtain ⟨g1, g2, g3⟩ := gl_of hg
  have b1 : X.mg "isinstance" = none := by rw [G.hmg]; exact G.boot _ (by simp [boots])
  have b2 : X.mg (t.nam : Str) = none := by rw [G.hmg]; exact G.boot _ (by cases t <;> first | exact (ht _ rfl).elim | simp [Ty.nam, boots])
  have bt : bootBuiltins (t.nam : Str) = some (.type t.nam) := by
    cases t <;> first | exact (ht _ rfl).elim | decide +kernel
  have two : PA X [a, .Name (t.nam : Str) cp] (tCons (tE w (pA w) W fa) (tCons (tC (.ty t.nam)) tNil)) := pa_cons ha (pa_cons (pe_bltn g1 b2 bt rfl g3 g2) pa_nil rfl) (star_ok hn _ _)
  refine PE.imp (pe_callB call_isi h1 b1 (by decide +kernel) two h3 h2 (star_ok hn _ _) rfl) fun σ H Q ⟨α, ρ, m, r, en, o⟩ => ?_
  refine ⟨α, ρ, m, r, en, (Out.bind (rep := pA w) o pA.back).imp fun x H1 ⟨α1, m1, a, x1, r1, p1, o1⟩ => ?_⟩
  unfold isiA at o1
  cases hty : tyOf m1 a with
  | none => rw [hty] at o1; exact o1.elim
  | some n =>
    rw [hty] at o1
    cases hs : isSub n t with
    | none =>
      have o1 : Out w (pA w) α1 m1.length H1 Q (fun cls d H' => W cls d σ H') (match isSub n t with | some b => .ok (.d (.bl b)) m1 | none => .bad) := o1
      rw [hs] at o1; exact o1.elim
    | some b =>
      have o1 : Out w (pA w) α1 m1.length H1 Q (fun cls d H' => W cls d σ H') (match isSub n t with | some b => .ok (.d (.bl b)) m1 | none => .bad) := o1
      rw [hs] at o1
      exact ⟨x, .ty t.nam, .type n.nam, .type t.nam, b, rfl, .ty _, by rw [G.hK]; exact ty_rep r1 p1.1 hty, kit_ty (sub_kit n t b hs), o1.now r1 rep_bl⟩

/-! ### how many unlike -/
theorem distinct_of : ∀ (ns L : List Int), L.Nodup → (∀ k, k ∈ L ↔ k ∈ ns) → L.length = distinct ns
  | [], L, _, h => by
    cases L with
    | nil => rfl
    | cons x r => exact absurd ((h x).mp (by simp)) (by simp)
  | n :: ns, L, nd, h => by
    unfold distinct
    by_cases hn : n ∈ ns
    · rw [if_pos hn]
      exact distinct_of ns L nd fun k => (h k).trans ⟨fun z => (List.mem_cons.mp z).elim (fun e => e ▸ hn) id, fun z => List.mem_cons_of_mem _ z⟩
    · rw [if_neg hn]
      have hm : n ∈ L := (h n).mpr (by simp)
      have e := distinct_of ns (L.erase n) (nd.erase n) fun k => by
        rw [nd.mem_erase_iff, h k, List.mem_cons]
        constructor
        · rintro ⟨h1, h2 | h2⟩
          · exact absurd h2 h1
          · exact h2
        · intro hk
          exact ⟨fun z => hn (z ▸ hk), .inr hk⟩
      rw [List.length_erase_of_mem hm] at e
      have : 0 < L.length := List.length_pos_of_mem hm
      omega
theorem q_lenset {p p2 q : Pos} (G : Good g w call con lev X) (h1 : glB X.env.scope "len" = true) (h2 : glB X.env.scope "set" = true) (hn : notStar a = true) (ha : PE X a (tE w (pA w) W fa)) :
    PE X (.Call (.Name "len" p) [.Call (.Name "set" p2) [a] [] q] [] pos) (tE w (pA w) W (fun ρ m => (fa ρ m).bind fun x m => lensetA x m)) := by
  obtain ⟨g1, _, _⟩ := gl_of h1
  obtain ⟨g2, _, _⟩ := gl_of h2
  have b1 : X.mg "len" = none := by rw [G.hmg]; exact G.boot _ (by simp [boots])
  have b2 : X.mg "set" = none := by rw [G.hmg]; exact G.boot _ (by simp [boots])
  refine ⟨fun pins s σ H Q I ht => ?_⟩
  obtain ⟨α, ρ, m, r, en, o⟩ := ht
  have inner := ha.run pins s σ H _ I ⟨α, ρ, m, r, en, (Out.bind (rep := pA w) (rep' := pA w) o pA.back)⟩
  refine Call_ (ld_blt I g1 b1 PySem.boot_len ?_)
  refine PyProof.Rows.callWith_builtin1 (PyProof.Rows.args_cons ?_ rfl) rfl rfl
  refine Call_ (ld_blt I g2 b2 PyProof.Rows.boot_set ?_)
  refine PyProof.Rows.callWith_type1 (PyProof.Rows.args_cons (thn inner fun v s1 ⟨x, H1, I1, rx, α1, m1, a, x1, r1, p1, o1⟩ => PyProof.Rows.args_nil ?_) (star_ok hn _ _)) (star_ok hn _ _) rfl
  unfold lensetA at o1
  split at o1
  · rename_i xs
    split at o1
    · rename_i ns hns
      obtain ⟨hz, o1⟩ := o1.grd_
      obtain ⟨l, vs, rfl, hq, _, qq, _⟩ := RepA.tup (m := m1) p1.1
      cases alls_ints hns qq
      rw [← G.hK] at hq
      cases rx
      obtain ⟨its, rv, pt, _⟩ := I1.tuple hq
      refine call_set_tupI ns (I1.ok.hd G.calm) (show s1.heap.IsTuple l its.toArray from pt) (by simpa using ints_of_vals rv) (by unfold scanBound; omega) fun h' tk k R1 hk kp => ?_
      obtain ⟨ob, es, ep, t, ho, hex, hd, gd, nd, mm, hb, hf, hsz, hr, hl⟩ := R1
      refine PyProof.Rows.args_nil ?_
      have I2 : Inv X pins σ H1 { s1 with heap := h', toks := tk } := I1.kept kp
      have e : es.size = distinct ns := by
        rw [← distinct_of ns _ nd fun k => by rw [← mm k]; exact ⟨of_decide_eq_true, decide_eq_true⟩]
        simp
      exact call_len_set ho hex hd hf (by omega) ⟨.int (distinct ns), H1, I2.tok _, ⟨_, by rw [e]⟩, o1.now r1 rep_int⟩
    · exact o1.elim
  · exact o1.elim
end
end Mp
end
section
/-! Mp: what is walked. -/
namespace Mp
open L2 PySem PySem.Spec PyProof.Rows
/-- J walks ds, from this state on, while what is to stay stays -/
def Walks (w : Wd) (α1 : Nat → Addr) (n1 : Nat) (H1 : Hp) (J : It) (ds : List D) (chk : Chk) : Prop :=
  ∀ (α : Nat → Addr) (m : Hm) (H : Hp), Ext α1 n1 H1 α m.length H → Rl w α m H → chk.ok m →
    (∀ i, i < ds.length → J.go i H ∧ ∀ x H', J.yld i H x H' → Ext α m.length H α m.length H' ∧ Rl w α m H' ∧ ∃ d, ds[i]? = some d ∧ Rep w α H' d x ∧ d.lt m.length) ∧ J.stop ds.length H
def pI (w : Wd) : RepT (List D × Chk) It := fun _ α n H wk J => Walks w α n H J wk.1 wk.2 ∧ wk.1.length ≤ sizeLine
theorem pI.back {w : Wd} : Back (pI w) := fun _ p => p
section
variable {X : Cx} {w : Wd} {W : WX} {tg e a b c : Expr} {es : List Expr} {pos : Pos} {fa fb fc : Rho → Hm → R A} {g : Cfg} {call : Calls} {con : Nat → Option D} {lev : Nat}
variable {α : Nat → Addr} {m : Hm} {H : Hp} {ds : List D} {vs : List V} {p : Addr}
theorem PI.imp {t t' : TI} (h : PI X tg e t) (i : ∀ σ H R, t' σ H R → t σ H R) : PI X tg e t' := ⟨fun pins s σ H R I q => h.run pins s σ H R I (i σ H R q)⟩
theorem get_rep {α' : Nat → Addr} {n : Nat} {H' : Hp} (r : Rl w α m H) (x : Ext α m.length H α' n H') (q : RepL w α H ds vs) (l : ltAll m.length ds) {i : Nat} (hi : i < ds.length) :
    ∃ d v, ds[i]? = some d ∧ vs[i]? = some v ∧ Rep w α' H' d v ∧ d.lt n := by
  have e : ds[i]? = some ds[i] := List.getElem?_eq_getElem hi
  obtain ⟨v, h1, h2⟩ := q.get e
  have hl := ltAll_get l e
  exact ⟨_, v, e, h1, Rep.ext (x.keeps r) _ _ hl h2, D.lt_mono x.le _ hl⟩
theorem walks_fresh (r : Rl w α m H) (hp : H p = some (.lst vs)) (ne : ∀ i, i < m.length → α i ≠ p) (q : RepL w α H ds vs) (l : ltAll m.length ds) : Walks w α m.length H (Itl w.K p) ds [] := by
  intro α' m' H' x r' _
  have h' := (x.keep p _ hp ne).1
  have e := RepL.length _ _ q
  refine ⟨fun i hi => ?_, vs, SqL.of h', Nat.le_of_eq e.symm⟩
  obtain ⟨d, v, h1, h2, h3, h4⟩ := get_rep r x q l hi
  refine ⟨⟨vs, v, SqL.of h', h2⟩, fun y H2 ⟨e1, e2⟩ => ?_⟩
  subst e1
  have e3 := e2 vs (SqL.of h')
  rw [h2] at e3
  cases e3
  exact ⟨Ext.refl r'.mapped, r', d, h1, h3, h4⟩
theorem walks_known {k : Nat} (r : Rl w α m H) (hk : m[k]? = some (.lst ds)) : Walks w α m.length H (Itl w.K (α k)) ds [(k, ds)] := by
  intro α' m' H' x r' ck
  have hk' : m'[k]? = some (.lst ds) := ck (k, ds) (by simp)
  obtain ⟨vs, h1, h2, h3, h4⟩ := r'.objs k _ hk'
  rw [x.agree k (List.getElem?_eq_some_iff.mp hk).1] at h1
  have e := RepL.length _ _ h2
  refine ⟨fun i hi => ?_, vs, SqL.of h1, Nat.le_of_eq e.symm⟩
  obtain ⟨d, v, g1, g2, g3, g4⟩ := get_rep r' (Ext.refl r'.mapped) h2 h4 hi
  refine ⟨⟨vs, v, SqL.of h1, g2⟩, fun y H2 ⟨e1, e2⟩ => ?_⟩
  subst e1
  have e3 := e2 vs (SqL.of h1)
  rw [g2] at e3
  cases e3
  exact ⟨Ext.refl r'.mapped, r', d, g1, g3, g4⟩
theorem walks_frl (r : Rl w α m H) (hp : SqF w.K H p vs) (q : RepL w α H ds vs) (l : ltAll m.length ds) : Walks w α m.length H (Itl w.K p) ds [] := by
  intro α' m' H' x r' _
  have h' := (r.sqF x hp)
  have e := RepL.length _ _ q
  refine ⟨fun i hi => ?_, vs, h'.sq, Nat.le_of_eq e.symm⟩
  obtain ⟨d, v, h1, h2, h3, h4⟩ := get_rep r x q l hi
  refine ⟨⟨vs, v, h'.sq, h2⟩, fun y H2 ⟨e1, e2⟩ => ?_⟩
  subst e1
  have e3 := e2 vs h'.sq
  rw [h2] at e3
  cases e3
  exact ⟨Ext.refl r'.mapped, r', d, h1, h3, h4⟩
theorem walks_tup (r : Rl w α m H) (hp : SqT w.K H p vs) (q : RepL w α H ds vs) (l : ltAll m.length ds) : Walks w α m.length H (Itt w.K p) ds [] := by
  intro α' m' H' x r' _
  have h' := (r.sqT x hp)
  have e := RepL.length _ _ q
  refine ⟨fun i hi => ?_, vs, h', Nat.le_of_eq e.symm⟩
  obtain ⟨d, v, h1, h2, h3, h4⟩ := get_rep r x q l hi
  refine ⟨⟨vs, v, h', h2⟩, fun y H2 ⟨e1, e2⟩ => ?_⟩
  subst e1
  have e3 := e2 vs h'
  rw [h2] at e3
  cases e3
  exact ⟨Ext.refl r'.mapped, r', d, h1, h3, h4⟩
theorem walks_str (x : Str) : Walks w α m.length H (Its x) (x.cps.toList.map fun c => .str (sgn c)) [] := by
  intro α' m' H' _ r' _
  have e : (x.cps.toList.map fun c => D.str (sgn c)).length = x.cps.size := by simp
  refine ⟨fun i hi => ?_, by rw [e]; exact Nat.le_refl _⟩
  rw [e] at hi
  refine ⟨hi, fun y H2 ⟨e1, c, hc, e2⟩ => ?_⟩
  subst e1
  subst e2
  refine ⟨Ext.refl r'.mapped, r', .str (sgn c), ?_, ?_, by unfold D.lt; trivial⟩
  · rw [List.getElem?_map, Array.getElem?_toList, hc]; rfl
  · unfold Rep
    exact ⟨rfl, by rw [sizeLine_eq]; show 1 ≤ _; decide⟩
theorem walks_itv (lo : Int) (k : Nat) : Walks w α m.length H (Itr lo k) (itv lo k) [] := by
  intro α' m' H' _ r' _
  have e : (itv lo k).length = k := by simp [itv]
  refine ⟨fun i hi => ?_, by rw [e]; exact Nat.le_refl _⟩
  rw [e] at hi
  refine ⟨hi, fun y H2 ⟨e1, e2⟩ => ?_⟩
  subst e1
  subst e2
  refine ⟨Ext.refl r'.mapped, r', .int (lo + (i : Nat)), ?_, by unfold Rep; rfl, by unfold D.lt; trivial⟩
  simp [itv, hi]
theorem zipD_len : ∀ xs ys : List D, (zipD xs ys).length = min xs.length ys.length
  | [], _ => by simp [zipD]
  | _ :: _, [] => by simp [zipD]
  | x :: xs, y :: ys => by simp [zipD, zipD_len xs ys]
theorem zipD_get : ∀ {xs ys : List D} {i : Nat} {x y : D}, xs[i]? = some x → ys[i]? = some y → (zipD xs ys)[i]? = some (.tup [x, y])
  | [], _, _, _, _, h, _ => by simp at h
  | _ :: _, [], _, _, _, _, h => by simp at h
  | x :: xs, y :: ys, 0, _, _, h1, h2 => by simp at h1 h2; subst h1; subst h2; simp [zipD]
  | x :: xs, y :: ys, i + 1, _, _, h1, h2 => by simp [zipD]; exact zipD_get (by simpa using h1) (by simpa using h2)
theorem pairRep {H' : Hp} {T : Addr} {x y : D} {v u : V} (r : Rl w α m H) (hT : H T = none) (h1 : Rep w α H x v) (l1 : x.lt m.length) (h2 : Rep w α H y u) (l2 : y.lt m.length) :
    Ext α m.length H α m.length (upd H T (.tup [v, u])) ∧ Rl w α m (upd H T (.tup [v, u])) ∧ Rep w α (upd H T (.tup [v, u])) (.tup [x, y]) (.ref T) ∧ (D.tup [x, y]).lt m.length := by
  obtain ⟨x1, r1, ne⟩ := r.new (o := .tup [v, u]) hT
  refine ⟨x1, r1, ?_, ?_⟩
  · unfold Rep
    refine ⟨T, [v, u], rfl, SqT.of upd_same, by rw [sizeLine_eq]; show 2 ≤ _; decide, ?_⟩
    unfold RepL
    refine ⟨v, [u], rfl, Rep.ext (x1.keeps r) x v l1 h1, ?_⟩
    unfold RepL
    exact ⟨u, [], rfl, Rep.ext (x1.keeps r) y u l2 h2, by unfold RepL; rfl⟩
  · unfold D.lt ltAll ltAll ltAll
    exact ⟨l1, l2, trivial⟩
theorem walks_zip {q : Addr} {es : List D} {us : List V} (r : Rl w α m H) (hp : SqT w.K H p vs) (qp : RepL w α H ds vs) (lp : ltAll m.length ds) (hq : SqT w.K H q us) (qq : RepL w α H es us) (lq : ltAll m.length es) : Walks w α m.length H (RZ.ItzT w.K p q) (zipD ds es) [] := by
  intro α' m' H' x r' _
  have h1 := (r.sqT x hp)
  have h2 := (r.sqT x hq)
  have e1 := RepL.length _ _ qp
  have e2 := RepL.length _ _ qq
  rw [zipD_len]
  refine ⟨fun i hi => ?_, vs, us, h1, h2, by omega⟩
  obtain ⟨d, v, a1, a2, a3, a4⟩ := get_rep r x qp lp (i := i) (by omega)
  obtain ⟨d', u, b1, b2, b3, b4⟩ := get_rep r x qq lq (i := i) (by omega)
  refine ⟨⟨vs, us, v, u, h1, h2, a2, b2⟩, fun y H2 ⟨T, x1, y1, e3, hT, e4, e5, e6⟩ => ?_⟩
  subst e3
  subst e4
  have f1 := e5 vs h1
  have f2 := e6 us h2
  rw [a2] at f1
  rw [b2] at f2
  cases f1
  cases f2
  obtain ⟨x2, r2, p2, l2⟩ := pairRep (H' := H') r' hT a3 a4 b3 b4
  exact ⟨x2, r2, _, zipD_get a1 b1, p2, l2⟩

/-! ### the walks of expressions -/
theorem q_seq (hK : X.K = w.K) (ha : PE X e (tE w (pA w) W fa)) : PI X tg e (tE w (pI w) W (fun ρ m => (fa ρ m).bind fun a m => match walkOf m a with | some wk => .ok wk m | none => .bad)) := by
  refine ⟨fun pins s σ H R I ht => ?_⟩
  obtain ⟨α, ρ, m, r, en, o⟩ := ht
  replace o : Out w (pI w) α m.length H R (fun cls d H' => W cls d σ H') ((fa ρ m).bind fun a m => match walkOf m a with | some wk => .ok wk m | none => .bad) := o
  have lists : Out w (pA w) α m.length H (fun v H' => ∃ a, v = .ref a ∧ (∃ xs, SqL X.K H' a xs) ∧ R (Itl X.K a) H') (fun cls d H' => W cls d σ H') (fa ρ m) → wpAny (model X.prog X.w) X.A (eval e X.env) (fun v s1 => wpAny (model X.prog X.w) X.A (pyIter v) (PIE X pins σ tg R) X.xe s1) X.xe s :=
    fun h => (pi_list ha).run pins s σ H R I ⟨α, ρ, m, r, en, h⟩
  cases hf : fa ρ m with
  | bad => rw [hf] at o; exact o.elim
  | exc ex m1 =>
    rw [hf] at o
    exact lists (by rw [hf]; exact o)
  | ok a m1 =>
    rw [hf] at o
    replace o : Out w (pI w) α m.length H R (fun cls d H' => W cls d σ H') (match walkOf m1 a with | some wk => .ok wk m1 | none => .bad) := o
    cases a with
    | fl xs =>
      refine lists ?_
      rw [hf]
      intro α' H' v x l ⟨⟨p, vs, e1, h1, ne, q, lt, z⟩, _⟩
      subst e1
      refine ⟨p, rfl, ⟨vs, SqL.of h1⟩, ?_⟩
      rw [hK]
      exact o α' H' _ x l ⟨walks_fresh l h1 ne q lt, z⟩
    | d d =>
      cases d with
      | tup xs =>
        refine (pi_tup ha).run pins s σ H R I ⟨α, ρ, m, r, en, ?_⟩
        rw [hf]
        intro α' H' v x l p
        obtain ⟨q, vs, e1, h1, z, qq, lt⟩ := RepA.tup (m := m1) p.1
        subst e1
        refine ⟨q, rfl, ⟨vs, by rw [hK]; exact h1⟩, ?_⟩
        rw [hK]
        exact o α' H' _ x l ⟨walks_tup l h1 qq lt, z⟩
      | str z =>
        refine (pi_str ha).run pins s σ H R I ⟨α, ρ, m, r, en, ?_⟩
        rw [hf]
        intro α' H' v x l p
        obtain ⟨e1, hz⟩ := RepA.str (m := m1) p.1
        subst e1
        exact ⟨z, rfl, o α' H' _ x l ⟨walks_str z, by show (List.map _ _).length ≤ _; rw [List.length_map, Array.length_toList]; exact hz⟩⟩
      | frl xs =>
        refine lists ?_
        rw [hf]
        intro α' H' v x l p
        obtain ⟨h, lt⟩ := p.1
        unfold Rep at h
        unfold D.lt at lt
        obtain ⟨q, vs, e1, h1, z, qq⟩ := h
        subst e1
        refine ⟨q, rfl, ⟨vs, by rw [hK]; exact h1.sq⟩, ?_⟩
        rw [hK]
        exact o α' H' _ x l ⟨walks_frl l h1 qq lt, z⟩
      | ref k =>
        have e2 : walkOf m1 (.d (.ref k)) = (lstAt m1 k).map fun xs => (xs, [(k, xs)]) := rfl
        rw [e2] at o
        cases hk : lstAt m1 k with
        | none => rw [hk] at o; exact o.elim
        | some xs =>
          rw [hk] at o
          refine lists ?_
          rw [hf]
          intro α' H' v x l p
          have hv := p.1.1
          unfold Rep at hv
          subst hv
          obtain ⟨vs, h1, _, hz, _⟩ := l.objs k _ (lstAt_some hk)
          refine ⟨α' k, rfl, ⟨vs, SqL.of h1⟩, ?_⟩
          rw [hK]
          exact o α' H' _ x l ⟨walks_known l (lstAt_some hk), hz⟩
      | non => exact o.elim
      | bl _ => exact o.elim
      | int _ => exact o.elim
      | fn _ => exact o.elim
theorem q_rng1 {p : Pos} {fs : Rho → Hm → R (List A)} (G : Good g w call con lev X) (hg : glB X.env.scope "range" = true) (hn : notStar a = true) (ha : PA X [a] (tE w (pAs w) W fs)) :
    PI X tg (.Call (.Name "range" p) [a] [] pos) (tE w (pI w) W (fun ρ m => (fs ρ m).bind fun as m => itA .rng1 as m)) := by
  obtain ⟨h1, _, _⟩ := gl_of hg
  have b1 : X.mg "range" = none := by rw [G.hmg]; exact G.boot _ (by simp [boots])
  refine PI.imp (pi_range1 h1 b1 ha (star_ok hn _ _)) fun σ H R ⟨α, ρ, m, r, en, o⟩ => ?_
  refine ⟨α, ρ, m, r, en, (Out.bind (rep := pAs w) o pI.back).imp fun xs H1 ⟨α1, m1, as, x1, r1, p1, o1⟩ => ?_⟩
  replace o1 : Out w (pI w) α1 m1.length H1 R (fun cls d H' => W cls d σ H') (itRng1 as m1) := o1
  unfold itRng1 at o1
  split at o1
  case h_1 =>
    obtain ⟨hz, o1⟩ := o1.grd_
    obtain ⟨v, e1, pa⟩ := repAs_one p1
    subst e1
    cases RepA.int (m := m1) pa
    have h62 : (sizeLine : Int) < 2 ^ 62 := by rw [sizeLine_eq]; decide
    refine ⟨_, rfl, hz.1, by omega, ?_⟩
    exact Out.now (rep := pI w) o1 r1 ⟨walks_itv 0 _, by simp only [itv, List.length_map, List.length_range]; omega⟩
  case h_2 => exact o1.elim
theorem q_rng2 {p : Pos} {fs : Rho → Hm → R (List A)} (G : Good g w call con lev X) (hg : glB X.env.scope "range" = true) (hn : notStar a = true) (hn2 : notStar b = true) (ha : PA X [a, b] (tE w (pAs w) W fs)) :
    PI X tg (.Call (.Name "range" p) [a, b] [] pos) (tE w (pI w) W (fun ρ m => (fs ρ m).bind fun as m => itA .rng2 as m)) := by
  obtain ⟨h1, _, _⟩ := gl_of hg
  have b1 : X.mg "range" = none := by rw [G.hmg]; exact G.boot _ (by simp [boots])
  refine PI.imp (pi_range2 h1 b1 ha (by rw [star_ok hn, star_ok hn2]; rfl) (star_ok hn2 _ _)) fun σ H R ⟨α, ρ, m, r, en, o⟩ => ?_
  refine ⟨α, ρ, m, r, en, (Out.bind (rep := pAs w) o pI.back).imp fun xs H1 ⟨α1, m1, as, x1, r1, p1, o1⟩ => ?_⟩
  replace o1 : Out w (pI w) α1 m1.length H1 R (fun cls d H' => W cls d σ H') (itRng2 as m1) := o1
  unfold itRng2 at o1
  split at o1
  case h_1 =>
    obtain ⟨hz, o1⟩ := o1.grd_
    obtain ⟨v, u, e1, pa, pb⟩ := repAs_two p1
    subst e1
    cases RepA.int (m := m1) pa
    cases RepA.int (m := m1) pb
    refine ⟨_, _, rfl, hz.1, ?_⟩
    exact Out.now (rep := pI w) o1 r1 ⟨walks_itv _ _, by simp only [itv, List.length_map, List.length_range]; exact hz.2⟩
  case h_2 => exact o1.elim
theorem q_zip {p tpos : Pos} {elts : List Expr} {kk : Nat} {fs : Rho → Hm → R (List A)} (G : Good g w call con lev X) (hg : glB X.env.scope "zip" = true) (hn : notStar a = true) (hn2 : notStar b = true) (ha : PA X [a, b] (tE w (pAs w) W fs)) :
    PI X (.Tuple elts kk tpos) (.Call (.Name "zip" p) [a, b] [] pos) (tE w (pI w) W (fun ρ m => (fs ρ m).bind fun as m => itA .zip as m)) := by
  obtain ⟨h1, _, _⟩ := gl_of hg
  have b1 : X.mg "zip" = none := by rw [G.hmg]; exact G.boot _ (by simp [boots])
  refine PI.imp (RZ.pi_zipA h1 b1 ha (star_ok hn _ _) (by rw [star_ok hn2]; rfl)) fun σ H R ⟨α, ρ, m, r, en, o⟩ => ?_
  refine ⟨α, ρ, m, r, en, (Out.bind (rep := pAs w) o pI.back).imp fun xs H1 ⟨α1, m1, as, x1, r1, p1, o1⟩ => ?_⟩
  replace o1 : Out w (pI w) α1 m1.length H1 R (fun cls d H' => W cls d σ H') (itZip as m1) := o1
  unfold itZip at o1
  split at o1
  case h_1 =>
    obtain ⟨v, u, e1, pa, pb⟩ := repAs_two p1
    subst e1
    obtain ⟨q, vs, e2, h2, z2, q2, l2⟩ := RepA.tup (m := m1) pa
    obtain ⟨q', us, e3, h3, z3, q3, l3⟩ := RepA.tup (m := m1) pb
    subst e2
    subst e3
    rw [G.hK]
    exact ⟨q, q', vs, us, rfl, .inr ⟨h2, h3, Out.now (rep := pI w) o1 r1 ⟨walks_zip r1 h2 q2 l2 h3 q3 l3, by show (zipD _ _).length ≤ _; rw [zipD_len]; omega⟩⟩⟩
  case h_2 => exact o1.elim
end
end Mp
end
section
/-! Mp: targets, comprehensions. -/
namespace Mp
open L2 PySem PySem.Spec PyProof.Rows
mutual
def gOf (K : PySem.W.Frag) : Tg → TG
  | .nm i => gName i
  | .tp ts => gTup K ts.length (gsOf K ts)
def gsOf (K : PySem.W.Frag) : List Tg → TGs
  | [] => gNil
  | t :: ts => gCons (gOf K t) (gsOf K ts)
end
section
variable {X : Cx} {w : Wd} {W : WX} {tg e a b c : Expr} {es : List Expr} {pos : Pos} {fa fb fc : Rho → Hm → Mp.R A} {g : Cfg} {call : Calls} {con : Nat → Option D} {lev : Nat}
variable {α : Nat → Addr} {m : Hm} {H : Hp} {ds : List D} {vs : List V} {p : Addr} {n : Nat}
theorem each_ok (h : notStar e = true) (es : List Expr) (env : PySem.Env) : assignEach (e :: es) env = (false, assign e env) :: assignEach es env := by
  cases e <;> first | rfl | cases h
theorem each_len : ∀ {es : List Expr} {env : PySem.Env}, (∀ e ∈ es, notStar e = true) → (assignEach es env).length = es.length ∧ (assignEach es env).findIdx? (·.1) = none
  | [], _, _ => ⟨rfl, rfl⟩
  | e :: es, env, h => by
    rw [each_ok (h e (by simp))]
    obtain ⟨h1, h2⟩ := each_len (es := es) (env := env) fun x hx => h x (by simp [hx])
    refine ⟨by simp [h1], ?_⟩
    rw [List.findIdx?_cons]
    simp [h2]
/-- names that may be stored here -/
def Stores (X : Cx) (raw : Scope) : Prop := ∀ x, (match raw.names.lookup x with | some .local => true | some .cell => true | _ => false) = true → Loc X.env.scope x ∧ (X.fn x = true ∨ X.env.scope.names.lookup x = some .local)
mutual
theorem pg_of (hN : X.N = g.N) (nd : X.N.Nodup) (hc : X.calm = true) {raw : Scope} (st : Stores X raw) : ∀ (t : Tg) (e : Expr), chkT g.N raw t e = true → PG X e (gOf X.K t)
  | .nm i, e, h => by
    unfold chkT at h
    split at h
    · simp only [Bool.and_eq_true, decide_eq_true_eq] at h
      obtain ⟨h1, h2⟩ := st _ h.2
      unfold gOf
      exact pg_name nd (by rw [hN]; exact h.1) h1 h2
    · cases h
  | .tp ts, e, h => by
    unfold chkT at h
    split at h
    · rename_i es _ _
      unfold gOf
      obtain ⟨h1, h2, h3⟩ := pgs_of hN nd hc st ts es h
      obtain ⟨e1, e2⟩ := each_len (env := X.env) h2
      exact pg_tup hc h1 (e1.trans h3.symm) e2
    · cases h
theorem pgs_of (hN : X.N = g.N) (nd : X.N.Nodup) (hc : X.calm = true) {raw : Scope} (st : Stores X raw) : ∀ (ts : List Tg) (es : List Expr), chkTs g.N raw ts es = true → PGs X es (gsOf X.K ts) ∧ (∀ e ∈ es, notStar e = true) ∧ ts.length = es.length
  | [], es, h => by
    unfold chkTs at h
    cases es with
    | nil => unfold gsOf; exact ⟨pgs_nil, fun _ z => (by cases z), rfl⟩
    | cons _ _ => cases h
  | t :: ts, es, h => by
    unfold chkTs at h
    cases es with
    | nil => cases h
    | cons e es =>
      simp only [Bool.and_eq_true] at h
      obtain ⟨h1, h2, h3⟩ := pgs_of hN nd hc st ts es h.2
      unfold gsOf
      refine ⟨pgs_cons (pg_of hN nd hc st t e h.1.2) h1 (by rw [each_ok h.1.1]; rfl), fun x hx => ?_, by simp [h3]⟩
      rcases List.mem_cons.mp hx with z | z
      · subst z; exact h.1.1
      · exact h2 x z
end
theorem EnvR.set {ρ : Rho} {σ : L2.St} {i : Nat} {d : D} {v : V} (e : EnvR w α n H ρ σ) (r : Rep w α H d v) (l : d.lt n) : EnvR w α n H (ρ.set i (some d)) (σ.set i (some v)) := by
  refine ⟨by rw [List.length_set, List.length_set]; exact e.1, fun j c h => ?_⟩
  by_cases hj : i = j
  · subst hj
    by_cases hi : i < ρ.length
    · rw [List.getElem?_set_self hi] at h
      cases h
      exact ⟨v, List.getElem?_set_self (by rw [← e.1]; exact hi), r, l⟩
    · rw [List.getElem?_eq_none (by rw [List.length_set]; omega)] at h; cases h
  · rw [List.getElem?_set_ne hj] at h
    obtain ⟨u, h1, h2, h3⟩ := e.2 j c h
    exact ⟨u, by rw [List.getElem?_set_ne hj]; exact h1, h2, h3⟩
theorem wipe_set {σ : L2.St} {i : Nat} {x : Option V} : ∀ {vs : List Nat}, wipe (σ.set i x) vs = if i ∈ vs then wipe σ vs else (wipe σ vs).set i x
  | [] => by simp [wipe]
  | v :: vs => by
    unfold wipe
    rw [wipe_set]
    by_cases hi : i ∈ vs
    · rw [if_pos hi, if_pos (List.mem_cons_of_mem _ hi)]
    · rw [if_neg hi]
      by_cases hv : i = v
      · subst hv
        rw [if_pos (by simp), List.set_set]
      · rw [if_neg (by simp [hi, hv]), List.set_comm _ _ hv]
theorem EnvR.wipe {ρ : Rho} {σ : L2.St} (e : EnvR w α n H ρ σ) : ∀ vs : List Nat, EnvR w α n H (wipeD ρ vs) (L2.wipe σ vs)
  | [] => e
  | v :: vs => by
    have ih := EnvR.wipe e vs
    show EnvR w α n H ((wipeD ρ vs).set v none) ((L2.wipe σ vs).set v none)
    refine ⟨by rw [List.length_set, List.length_set]; exact ih.1, fun j c h => ?_⟩
    by_cases hj : v = j
    · subst hj
      by_cases hi : v < (wipeD ρ vs).length
      · rw [List.getElem?_set_self hi] at h; cases h
      · rw [List.getElem?_eq_none (by rw [List.length_set]; omega)] at h; cases h
    · rw [List.getElem?_set_ne hj] at h
      obtain ⟨u, h1, h2, h3⟩ := ih.2 j c h
      exact ⟨u, by rw [List.getElem?_set_ne hj]; exact h1, h2, h3⟩
theorem asgs_len : ∀ (ts : List Tg) {ds : List D} {ρ ρ' : Rho}, asgs ts ds ρ = some ρ' → ts.length = ds.length
  | [], ds, ρ, ρ', h => by
    cases ds with
    | nil => rfl
    | cons _ _ => unfold asgs at h; cases h
  | t :: ts, ds, ρ, ρ', h => by
    cases ds with
    | nil => unfold asgs at h; cases h
    | cons d ds =>
      unfold asgs at h
      cases h1 : asg t d ρ with
      | none => rw [h1] at h; cases h
      | some ρ1 =>
        rw [h1] at h
        simp [asgs_len ts h]
mutual
theorem asg_ok : ∀ (t : Tg) {d : D} {v : V} {ρ ρ' : Rho} {σ : L2.St} {Q : L2.St → Hp → Prop}, asg t d ρ = some ρ' → EnvR w α n H ρ σ → Rep w α H d v → d.lt n →
    (∀ σ', EnvR w α n H ρ' σ' → (∀ vs : List Nat, (∀ i ∈ slots t, i ∈ vs) → wipe σ' vs = wipe σ vs) → Q σ' H) → gOf w.K t v σ H Q
  | .nm i, d, v, ρ, ρ', σ, Q, h, e, r, l, k => by
    unfold asg at h
    cases h
    unfold gOf
    exact k _ (e.set r l) fun vs hv => by rw [wipe_set, if_pos (hv i (by simp [slots]))]
  | .tp ts, d, v, ρ, ρ', σ, Q, h, e, r, l, k => by
    cases d with
    | tup ds =>
      unfold asg at h
      unfold gOf
      unfold Rep at r
      unfold D.lt at l
      obtain ⟨a, vs, rfl, s, z, q⟩ := r
      have e1 := RepL.length _ _ q
      obtain ⟨h1, h2⟩ := asgs_ok ts h e q l (Q := Q) fun σ' e' hw => k σ' e' fun vs hv => hw vs (by unfold slots at hv; exact hv)
      exact ⟨a, vs, rfl, s, by rw [← e1]; exact h2.symm, h1⟩
    | _ => unfold asg at h; cases h
theorem asgs_ok : ∀ (ts : List Tg) {ds : List D} {vs : List V} {ρ ρ' : Rho} {σ : L2.St} {Q : L2.St → Hp → Prop}, asgs ts ds ρ = some ρ' → EnvR w α n H ρ σ → RepL w α H ds vs → ltAll n ds →
    (∀ σ', EnvR w α n H ρ' σ' → (∀ vs : List Nat, (∀ i ∈ slotss ts, i ∈ vs) → wipe σ' vs = wipe σ vs) → Q σ' H) → gsOf w.K ts vs σ H Q ∧ ts.length = ds.length
  | [], ds, vs, ρ, ρ', σ, Q, h, e, r, l, k => by
    cases ds with
    | nil =>
      unfold asgs at h
      cases h
      unfold RepL at r
      subst r
      unfold gsOf
      exact ⟨⟨rfl, k σ e fun _ _ => rfl⟩, rfl⟩
    | cons _ _ => unfold asgs at h; cases h
  | t :: ts, ds, vs, ρ, ρ', σ, Q, h, e, r, l, k => by
    cases ds with
    | nil => unfold asgs at h; cases h
    | cons d ds =>
      unfold asgs at h
      cases h1 : asg t d ρ with
      | none => rw [h1] at h; cases h
      | some ρ1 =>
        rw [h1] at h
        unfold RepL at r
        unfold ltAll at l
        obtain ⟨v, us, rfl, r1, r2⟩ := r
        have hl : ts.length = ds.length := asgs_len ts h
        unfold gsOf
        refine ⟨⟨v, us, rfl, ?_⟩, by simp [hl]⟩
        refine asg_ok t h1 e r1 l.1 fun σ1 e1 hw1 => ?_
        exact (asgs_ok ts h e1 r2 l.2 fun σ2 e2 hw2 => k σ2 e2 fun vs hv => by
          unfold slotss at hv
          rw [hw2 vs fun i hi => hv i (List.mem_append_right _ hi), hw1 vs fun i hi => hv i (List.mem_append_left _ hi)]).1
end
end
end Mp
end
section
/-! Mp: comprehensions. -/
namespace Mp
open L2 PySem PySem.Spec PyProof.Rows
section
variable {X : Cx} {w : Wd} {W : WX} {tg e a b c iter elt : Expr} {es : List Expr} {pos : Pos} {fa fb fc : Rho → Hm → Mp.R A} {g : Cfg} {call : Calls} {con : Nat → Option D} {lev : Nat}
variable {α α' : Nat → Addr} {m : Hm} {H H' : Hp} {ds : List D} {vs : List V} {p : Addr} {n n' : Nat}
/-- what nobody knew, changed -/
theorem Ext.touch (x : Ext α n H α' n' H') (hp : H p = none) (ne : ∀ i, i < n' → α' i ≠ p) (o : HO) : Ext α n H α' n' (upd H' p o) :=
  ⟨x.le, x.agree, fun b u e h => by
    obtain ⟨h1, h2⟩ := x.keep b u e h
    exact ⟨by rw [upd_ne (ne_of_none e hp)]; exact h1, h2⟩, x.mapped, fun i hi => by rw [upd_ne (ne i hi)]; exact x.mapped' i hi⟩
theorem Rl.touch (r : Rl w α m H) (hp : H p = some (.lst vs)) (ne : ∀ i, i < m.length → α i ≠ p) (us : List V) : Rl w α m (upd H p (.lst us)) ∧ Keeps w α m.length H α (upd H p (.lst us)) := by
  have kp : Keeps w α m.length H α (upd H p (.lst us)) := by
    have nt : ∀ {b : Addr} {xs : List V}, H b = some (.tup xs) → b ≠ p := fun h z => by subst z; rw [h] at hp; cases hp
    have nf : ∀ {b : Addr} {o : Obj} {u : HO}, H b = some (.frz o u) → b ≠ p := fun h z => by subst z; rw [h] at hp; cases hp
    refine ⟨fun _ _ => rfl, fun a xs h => ?_, fun a xs h => ?_⟩
    · rcases h with (h | ⟨o, h⟩) | h
      · exact .inl (.inl (by rw [upd_ne (nt h)]; exact h))
      · exact .inl (.inr ⟨o, by rw [upd_ne (nf h)]; exact h⟩)
      · exact .inr h
    · rcases h with ⟨o, h⟩ | h
      · exact .inl ⟨o, by rw [upd_ne (nf h)]; exact h⟩
      · exact .inr h
  exact ⟨⟨r.inj, fun i o e => (r.objs i o e).ext kp (Nat.le_refl _) (upd_ne (ne i (List.getElem?_eq_some_iff.mp e).1))⟩, kp⟩
theorem compD_nil {chk : Chk} {f : D → Hm → Mp.R (Option D)} {m m' : Hm} {r : List D} (h : compD chk f [] m = .ok r m') : chk.ok m ∧ r = [] ∧ m' = m := by
  unfold compD grd at h
  by_cases c : chk.ok m
  · rw [if_pos c] at h; cases h; exact ⟨c, rfl, rfl⟩
  · rw [if_neg c] at h; cases h
theorem compD_cons {chk : Chk} {f : D → Hm → Mp.R (Option D)} {m m' : Hm} {x : D} {xs r : List D} (h : compD chk f (x :: xs) m = .ok r m') :
    chk.ok m ∧ ∃ o m1 r1, f x m = .ok o m1 ∧ compD chk f xs m1 = .ok r1 m' ∧ r = (consO o r1) := by
  unfold compD grd at h
  by_cases c : chk.ok m
  · rw [if_pos c] at h
    refine ⟨c, ?_⟩
    cases h1 : f x m with
    | ok o m1 =>
      rw [h1] at h
      cases h2 : compD chk f xs m1 with
      | ok r1 m2 =>
        have h : ((compD chk f xs m1).bind fun r m => Mp.R.ok (consO o r) m) = .ok r m' := h
        rw [h2] at h
        cases h
        exact ⟨o, m1, r1, rfl, h2, rfl⟩
      | exc ex m2 =>
        have h : ((compD chk f xs m1).bind fun r m => Mp.R.ok (consO o r) m) = .ok r m' := h
        rw [h2] at h
        cases h
      | bad =>
        have h : ((compD chk f xs m1).bind fun r m => Mp.R.ok (consO o r) m) = .ok r m' := h
        rw [h2] at h
        cases h
    | exc ex m1 => rw [h1] at h; cases h
    | bad => rw [h1] at h; cases h
  · rw [if_neg c] at h; cases h
/-- no wish about exceptions -/
abbrev W0 : WX := fun _ _ _ _ => False
theorem own_snd (N : List Str) (own : List Nat) : (ownPairs N own).map (·.2) = own := by
  unfold ownPairs
  rw [List.map_map]
  show own.map (fun i => i) = own
  simp
theorem wiped (σ : L2.St) : ∀ (us : List Nat) (v : Nat), v ∈ us → (wipe σ us).set v none = wipe σ us
  | u :: us, v, h => by
    show ((wipe σ us).set u none).set v none = (wipe σ us).set u none
    by_cases e : u = v
    · subst e; rw [List.set_set]
    · have hv : v ∈ us := (List.mem_cons.mp h).resolve_left fun z => e z.symm
      rw [List.set_comm _ _ e, wiped σ us v hv]
theorem wipe_out {σ : L2.St} {i : Nat} {x : Option V} : ∀ {vs : List Nat}, i ∉ vs → (wipe σ vs).set i x = wipe (σ.set i x) vs := fun {vs} h => by rw [wipe_set, if_neg h]
theorem wipe_idem (σ : L2.St) : ∀ vs : List Nat, wipe (wipe σ vs) vs = wipe σ vs := by
  have key : ∀ (vs us : List Nat) (σ : L2.St), (∀ v ∈ vs, v ∈ us) → wipe (wipe σ us) vs = wipe σ us := by
    intro vs us
    induction vs with
    | nil => intro σ _; rfl
    | cons v vs ih =>
      intro σ h
      show (wipe (wipe σ us) vs).set v none = wipe σ us
      rw [ih σ fun x hx => h x (List.mem_cons_of_mem _ hx)]
      exact wiped σ us v (h v (by simp))
  exact fun vs => key vs vs σ fun _ h => h
/-- where the invariant of a comprehension stands, ahead of turn i -/
def CInv (w : Wd) (f : D → Hm → Mp.R (Option D)) (chk : Chk) (ds : List D) (α1 : Nat → Addr) (n1 : Nat) (H1 : Hp) (Dp : Addr) (tot : List D) (mE : Hm) (i : Nat) (H : Hp) : Prop :=
  i ≤ ds.length ∧ ∃ α m acc vacc rest, Ext α1 n1 H1 α m.length H ∧ Rl w α m H ∧ H Dp = some (.lst vacc) ∧ (∀ i, i < m.length → α i ≠ Dp) ∧ RepL w α H acc vacc ∧ ltAll m.length acc ∧ acc.length ≤ i ∧ compD chk f (ds.drop i) m = .ok rest mE ∧ tot = acc ++ rest
theorem lc_read {t : Tg} {own : List Nat} {fi : Rho → Hm → Mp.R (List D × Chk)} {ff : Rho → Hm → Mp.R Bool} {fe : Rho → Hm → Mp.R D} (G : Good g w call con lev X) (hs : ∀ i ∈ slots t, i ∈ own) {σ : L2.St} {H : Hp} {Q : VK}
    (h : tE w (pA w) W (fun ρ m => (fi ρ m).bind fun wk m => (compD wk.2 (fun d m => match asg t d (wipeD ρ own) with
        | none => .bad
        | some ρ' => (ff ρ' m).bind fun k m => if k then (fe ρ' m).bind fun d m => .ok (some d) m else .ok none m) wk.1 m).calm.bind fun ds m => .ok (.fl ds) m) σ H Q) : tLc (tE w (pI w) W fi) (gOf X.K t) (tE w pB W0 ff) (tE w (pD w) W0 fe) own σ H Q := by
  obtain ⟨α, ρ, m, r, en, o⟩ := h
  refine ⟨α, ρ, m, r, en, (Out.bind (rep := pI w) o pA.back).imp fun J H1 ⟨α1, m1, wk, x1, r1, ⟨p1, hz⟩, o1⟩ => ?_⟩
  obtain ⟨ds, chk⟩ := wk
  replace hz : ds.length ≤ sizeLine := hz
  generalize hf : (fun (d : D) (m : Hm) => match asg t d (wipeD ρ own) with
        | none => Mp.R.bad
        | some ρ' => (ff ρ' m).bind fun k m => if k then (fe ρ' m).bind fun d m => .ok (some d) m else .ok none m) = f at o1
  replace o1 : Out w (pA w) α1 m1.length H1 Q (fun cls d H' => W cls d σ H') ((compD chk f ds m1).calm.bind fun ds m => .ok (.fl ds) m) := o1
  intro Dp hD
  cases hc : compD chk f ds m1 with
  | bad => rw [hc] at o1; exact o1.elim
  | exc ex m2 => rw [hc] at o1; exact o1.elim
  | ok tot mE =>
    rw [hc] at o1
    replace o1 : Out w (pA w) α1 m1.length H1 Q (fun cls d H' => W cls d σ H') (.ok (.fl tot) mE) := o1
    have en1 := en.ext x1 r
    refine ⟨fun i k H => k = ds.length - i ∧ CInv w f chk ds α1 m1.length H1 Dp tot mE i H, ⟨ds.length, by simp, Nat.zero_le _, ?_⟩, ?_⟩
    · obtain ⟨x2, r2, ne⟩ := r1.new (o := .lst []) hD
      exact ⟨α1, m1, [], [], tot, x2, r2, upd_same, ne, by unfold RepL; rfl, by unfold ltAll; trivial, Nat.le_refl _, hc, rfl⟩
    · rintro i k Hc ⟨rfl, hil, αc, mc, acc, vacc, rest, xc, rc, hDp, ne, qa, la, hal, hcd, htot⟩
      by_cases hlt : i < ds.length
      · have hdrop : ds.drop i = ds[i] :: ds.drop (i + 1) := List.drop_eq_getElem_cons hlt
        rw [hdrop] at hcd
        obtain ⟨ck, od, m2, rest1, e1, e2, e3⟩ := compD_cons hcd
        obtain ⟨hgo, hyld⟩ := (p1 αc mc Hc xc rc ck).1 i hlt
        refine .inr ⟨hgo, fun H' => CInv w f chk ds α1 m1.length H1 Dp tot mE (i + 1) H', fun H' c => ⟨_, by omega, rfl, c⟩, fun x H2 hy => ?_⟩
        obtain ⟨x2, r2, d, hd, rd, ld⟩ := hyld x H2 hy
        have hd' : ds[i] = d := by rw [List.getElem?_eq_getElem hlt] at hd; exact Option.some.inj hd
        rw [hd'] at e1
        have xc2 := xc.trans x2
        obtain ⟨hDp2, ne2⟩ := x2.keep Dp _ hDp ne
        have enw : EnvR w αc mc.length H2 (wipeD ρ own) (wipe σ own) := (en1.ext xc2 r1).wipe own
        rw [← hf] at e1
        cases ha : asg t d (wipeD ρ own) with
        | none => simp only [ha] at e1; cases e1
        | some ρ' =>
          simp only [ha] at e1
          rw [G.hK]
          refine asg_ok t ha enw rd ld fun σ2 en2 hw => ⟨?_, ?_⟩
          · rw [hw own hs]
            exact wipe_idem σ own
          · cases hff : ff ρ' mc with
            | bad => rw [hff] at e1; cases e1
            | exc _ _ => rw [hff] at e1; cases e1
            | ok k m3 =>
              rw [hff] at e1
              refine ⟨αc, ρ', mc, r2, en2, ?_⟩
              rw [hff]
              intro α3 H3 kb x3 r3 hk
              cases (show kb = k from hk)
              have x13 := xc2.trans x3
              obtain ⟨hDp3, ne3⟩ := x3.keep Dp _ hDp2 ne2
              have kp3 : RepL w α3 H3 acc vacc := RepL.ext (x3.keeps r2) acc vacc la (RepL.ext (x2.keeps rc) acc vacc la qa)
              have la3 := D.ltAll_mono x3.le acc la
              cases k with
              | false =>
                refine iteF ?_
                have e1 : Mp.R.ok (none : Option D) m3 = .ok od m2 := e1
                cases e1
                exact ⟨hlt, α3, _, acc, vacc, rest1, x13, r3, hDp3, ne3, kp3, la3, by omega, e2, by rw [htot, e3]; rfl⟩
              | true =>
                refine iteT ?_
                have e1 : ((fe ρ' m3).bind fun d m => Mp.R.ok (some d) m) = .ok od m2 := e1
                cases hfe : fe ρ' m3 with
                | bad => rw [hfe] at e1; cases e1
                | exc _ _ => rw [hfe] at e1; cases e1
                | ok d' m4 =>
                  rw [hfe] at e1
                  cases e1
                  refine ⟨α3, ρ', m3, r3, en2.ext x3 r2, ?_⟩
                  rw [hfe]
                  intro α4 H4 y x4 r4 py
                  obtain ⟨hDp4, ne4⟩ := x4.keep Dp _ hDp3 ne3
                  have el := RepL.length _ _ kp3
                  refine ⟨vacc, hDp4, by omega, hlt, α4, m2, acc ++ [d'], vacc ++ [y], rest1, (x13.trans x4).touch hD ne4 _, ?_⟩
                  obtain ⟨r5, k5⟩ := r4.touch hDp4 ne4 (vacc ++ [y])
                  have la4 := D.ltAll_mono x4.le acc la3
                  refine ⟨r5, upd_same, ne4, RepL.append (RepL.ext k5 acc vacc la4 (RepL.ext (x4.keeps r3) acc vacc la3 kp3)) (by unfold RepL; exact ⟨y, [], rfl, Rep.ext k5 d' y py.2 py.1, by unfold RepL; rfl⟩), ltAll_append la4 (by unfold ltAll; exact ⟨py.2, by unfold ltAll; trivial⟩), by rw [List.length_append]; simp only [List.length_cons, List.length_nil]; omega, e2, by rw [htot, e3]; simp [consO]⟩
      · have hi' : i = ds.length := by omega
        subst hi'
        rw [List.drop_length] at hcd
        obtain ⟨ck, e1, e2⟩ := compD_nil hcd
        subst e1
        subst e2
        rw [List.append_nil] at htot
        subst htot
        refine .inl ⟨(p1 αc mE Hc xc rc ck).2, ?_⟩
        exact o1 αc Hc _ xc rc ⟨⟨Dp, vacc, rfl, hDp, ne, qa, la, by omega⟩, Dp, rfl, hD⟩
theorem q_comp {t : Tg} {ifs : List Expr} {scope : Scope} {own : List Nat} {fi : Rho → Hm → Mp.R (List D × Chk)} {ff : Rho → Hm → Mp.R Bool} {fe : Rho → Hm → Mp.R D} (G : Good g w call con lev X)
    (hi : PI X tg iter (tE w (pI w) W fi)) (ok : BlkOk X.N X.env.scope scope (ownPairs g.N own))
    (hg : ∀ (s : Shared) (H : Hp) (C : Addr) (cl : List (Str × Addr)) (fp : List Addr), PG (X.blk s H scope (compEnvC scope cl C X.env) fp) tg (gOf X.K t))
    (ht : ∀ (s : Shared) (H : Hp) (C : Addr) (cl : List (Str × Addr)) (fp : List Addr), ∃ tt, PTs (X.blk s H scope (compEnvC scope cl C X.env) fp) ifs tt ∧ tt = (tE w pB W0 ff))
    (he : ∀ (s : Shared) (H : Hp) (C : Addr) (cl : List (Str × Addr)) (fp : List Addr), PE (X.blk s H scope (compEnvC scope cl C X.env) fp) elt (tE w (pD w) W0 fe))
    (hs : ∀ i ∈ slots t, i ∈ own) (hn : notSet iter = true) :
    PE X (.ListComp elt [⟨tg, iter, ifs, 0⟩] scope pos) (tE w (pA w) W (fun ρ m => (fi ρ m).bind fun wk m => (compD wk.2 (fun d m => match asg t d (wipeD ρ own) with
        | none => .bad
        | some ρ' => (ff ρ' m).bind fun k m => if k then (fe ρ' m).bind fun d m => .ok (some d) m else .ok none m) wk.1 m).calm.bind fun ds m => .ok (.fl ds) m)) := by
  have rule := pe_lc (own := ownPairs g.N own) (te := tE w (pD w) W0 fe) (tt := tE w pB W0 ff) (pos := pos) G.calm G.nd hi ok hg (fun s H C cl fp => by obtain ⟨tt, h, e⟩ := ht s H C cl fp; rw [← e]; exact h) he (fold_ok hn _)
  rw [own_snd] at rule
  exact PE.imp rule fun σ H Q h => lc_read G hs h
theorem z_setLc {i : Nat} {y : Str} {py spos : Pos} {t : Tg} {ifs : List Expr} {scope : Scope} {own : List Nat} {fi : Rho → Hm → Mp.R (List D × Chk)} {ff : Rho → Hm → Mp.R Bool} {fe : Rho → Hm → Mp.R D} (G : Good g w call con lev X)
    (hy : X.N[i]? = some y) (hyl : X.env.scope.names.lookup y = some .local) (hsw : swapsWith (.ListComp elt [⟨tg, iter, ifs, 0⟩] scope pos) (some (.Name y py)) spos.line X.env = pure true) (hi : PI X tg iter (tE w (pI w) W fi)) (ok : BlkOk X.N X.env.scope scope (ownPairs g.N own))
    (hg : ∀ (s : Shared) (H : Hp) (C : Addr) (cl : List (Str × Addr)) (fp : List Addr), PG (X.blk s H scope (compEnvC scope cl C X.env) fp) tg (gOf X.K t))
    (ht : ∀ (s : Shared) (H : Hp) (C : Addr) (cl : List (Str × Addr)) (fp : List Addr), ∃ tt, PTs (X.blk s H scope (compEnvC scope cl C X.env) fp) ifs tt ∧ tt = (tE w pB W0 ff))
    (he : ∀ (s : Shared) (H : Hp) (C : Addr) (cl : List (Str × Addr)) (fp : List Addr), PE (X.blk s H scope (compEnvC scope cl C X.env) fp) elt (tE w (pD w) W0 fe))
    (hs : ∀ i ∈ slots t, i ∈ own) (hn : notSet iter = true) :
    PS X (.Assign [.Name y py] (.ListComp elt [⟨tg, iter, ifs, 0⟩] scope pos) spos) (fun De σ H => tE w (pD w) W (fun ρ m => ((fun ρ m => (fi ρ m).bind fun wk m => (compD wk.2 (fun d m => match asg t d (wipeD ρ own) with
        | none => .bad
        | some ρ' => (ff ρ' m).bind fun k m => if k then (fe ρ' m).bind fun d m => .ok (some d) m else .ok none m) wk.1 m).calm.bind fun ds m => .ok (.fl ds) m) ρ m).bind lay) σ H fun x H1 => De.nx (σ.set i (some x)) H1) := by
  have rule := ps_setLc (own := ownPairs g.N own) (te := tE w (pD w) W0 fe) (tt := tE w pB W0 ff) (pos := pos) (spos := spos) G.calm G.nd hy hyl hsw hi ok hg (fun s H C cl fp => by obtain ⟨tt, h, e⟩ := ht s H C cl fp; rw [← e]; exact h) he (fold_ok hn _)
  rw [own_snd] at rule
  exact ⟨fun pins s σ H De I h => rule.run pins s σ H De I (lc_read G hs (laid_imp h))⟩
end
end Mp
end
section
/-! Mp: every expression. -/
namespace Mp
open L2 PySem PySem.Spec PyProof.Rows
section
variable {w : Wd} {g : Cfg} {call : Calls} {con : Nat → Option D} {lev : Nat}
theorem lookup_rel {sc : Scope} {x : Str} {k : NameKind} (hk : (k == NameKind.free) = false) : ∀ {names : List (Str × NameKind)}, names.lookup x = some k →
    (names.map fun (n, k) => if (k == .free && sc.kind == .function && sc.names.lookup n == some .cell) then (n, NameKind.cell) else (n, k)).lookup x = some k
  | [], h => by cases h
  | (n, k') :: r, h => by
    rw [List.lookup_cons] at h
    rw [List.map_cons]
    by_cases hx : (x == n) = true
    · rw [hx] at h
      cases h
      show List.lookup x ((if (k == .free && sc.kind == .function && sc.names.lookup n == some .cell) then (n, NameKind.cell) else (n, k)) :: _) = some k
      rw [hk]
      show List.lookup x ((n, k) :: _) = some k
      rw [List.lookup_cons, hx]
    · have hx : (x == n) = false := by simpa using hx
      rw [hx] at h
      have ih := lookup_rel hk (sc := sc) (names := r) h
      show List.lookup x ((if (k' == .free && sc.kind == .function && sc.names.lookup n == some .cell) then (n, NameKind.cell) else (n, k')) :: _) = some k
      by_cases c : (k' == .free && sc.kind == .function && sc.names.lookup n == some .cell) = true
      · rw [if_pos c, List.lookup_cons, hx]; exact ih
      · rw [if_neg c, List.lookup_cons, hx]; exact ih
theorem stores_blk (X : Cx) (s : Shared) (H : Hp) (scope : Scope) (C : Addr) (cl : List (Str × Addr)) (fp : List Addr) : Stores (X.blk s H scope (compEnvC scope cl C X.env) fp) scope := by
  intro x h
  show Loc (relS scope X.env.scope) x ∧ ((scope.names.lookup x == some .cell) = true ∨ (relS scope X.env.scope).names.lookup x = some .local)
  split at h
  · rename_i e
    have := lookup_rel (sc := X.env.scope) (k := .local) rfl e
    exact ⟨.inl this, .inr this⟩
  · rename_i e
    have := lookup_rel (sc := X.env.scope) (k := .cell) rfl e
    exact ⟨.inr this, .inl (by rw [e]; rfl)⟩
  · cases h
theorem takes_no {X : Cx} : Takes X W0 := fun _ _ x => by
  obtain ⟨_, _, _, _, _, _, _, _, _, _, _, _, _, _, _, _, z⟩ := x
  exact z.elim
theorem boolOf_bind {α β : Type} (a : Mp.A) (m : Hm) (f : Bool → Hm → Mp.R α) (h : α → Hm → Mp.R β) : (boolOf a m f).bind h = boolOf a m fun b m => (f b m).bind h := by
  cases a with
  | fl _ => rfl
  | d d => cases d <;> rfl
theorem evB_bind {α : Type} (r : Mp.R Mp.A) (f : Bool → Hm → Mp.R α) : ((r.bind fun a m => boolOf a m .ok).bind f) = r.bind fun a m => boolOf a m f := by
  rw [R.bind_assoc]
  congr
  funext a m
  rw [boolOf_bind]
  rfl
/-- of an expression -/
def EOk (X : Cx) (w : Wd) (W : WX) (call : Calls) (con : Nat → Option D) (c : C) (e : Expr) : Prop := PE X e (tE w (pA w) W (evA call con c)) ∧ PT X e (tE w pB W (evB call con c))
/-- of an argument list -/
structure LOk (X : Cx) (w : Wd) (W : WX) (call : Calls) (con : Nat → Option D) (cs : List C) (es : List Expr) : Prop where
  ds : PA X es (tE w (pDs w) W (evs call con cs))
  as : PA X es (tE w (pAs w) W (evAs call con cs))
  ns : ∀ y ∈ es, notStar y = true
  len : cs.length = es.length
  one : ∀ c e, cs = [c] → es = [e] → EOk X w W call con c e
  and_ : es ≠ [] → ∀ pos, PE X (.BoolOp .And es pos) (tE w pBv W (evAnd call con cs)) ∧ PW X (.BoolOp .And es pos) (tE w pB W (evAnd call con cs))
  or_ : es ≠ [] → ∀ pos, PE X (.BoolOp .Or es pos) (tE w pBv W (evOr call con cs)) ∧ PW X (.BoolOp .Or es pos) (tE w pB W (evOr call con cs))
theorem lok_nil {X : Cx} {W : WX} : LOk X w W call con [] [] where
  ds := by
    have : evs call con [] = fun _ m => .ok [] m := by funext ρ m; rw [evs]
    rw [this]; exact q_nil
  as := by
    have : evAs call con [] = fun _ m => .ok [] m := by funext ρ m; rw [evAs]
    rw [this]; exact q_nilA
  ns := fun _ z => by cases z
  len := rfl
  one := fun c e z => by cases z
  and_ := fun h => (h rfl).elim
  or_ := fun h => (h rfl).elim
theorem lok_cons {X : Cx} {W : WX} {c : C} {cs : List C} {e : Expr} {es : List Expr} (hn : notStar e = true) (h : EOk X w W call con c e) (l : LOk X w W call con cs es) : LOk X w W call con (c :: cs) (e :: es) where
  ds := by
    have : evs call con (c :: cs) = fun ρ m => (evA call con c ρ m).bind fun a m => (lay a m).bind fun d m => (evs call con cs ρ m).bind fun ds m => .ok (d :: ds) m := by funext ρ m; rw [evs]
    rw [this]; exact q_cons hn h.1 l.ds
  as := by
    have : evAs call con (c :: cs) = fun ρ m => (evA call con c ρ m).bind fun a m => (evAs call con cs ρ m).bind fun as m => .ok (a :: as) m := by funext ρ m; rw [evAs]
    rw [this]; exact q_consA hn h.1 l.as
  ns := fun y hy => (List.mem_cons.mp hy).elim (fun z => z ▸ hn) (l.ns y)
  len := by simp [l.len]
  one := fun c' e' z1 z2 => by cases z1; cases z2; exact h
  and_ := fun _ pos => by
    have hb := asBool h.1
    cases es with
    | nil =>
      have : cs = [] := List.length_eq_zero_iff.mp l.len
      subst this
      have e1 : evAnd call con [c] = fun ρ m => (evB call con c ρ m).bind fun b m => if b then .ok true m else .ok false m := by
        funext ρ m; rw [evAnd, evB, evB_bind]; simp only [evAnd]
      rw [e1]
      exact q_and1 hb h.2
    | cons e2 es =>
      obtain ⟨h1, h2⟩ := l.and_ (by simp) pos
      have e1 : evAnd call con (c :: cs) = fun ρ m => (evB call con c ρ m).bind fun b m => if b then evAnd call con cs ρ m else .ok false m := by
        funext ρ m; rw [evAnd, evB, evB_bind]
      rw [e1]
      exact q_and hb h.2 h1 h2
  or_ := fun _ pos => by
    have hb := asBool h.1
    cases es with
    | nil =>
      have : cs = [] := List.length_eq_zero_iff.mp l.len
      subst this
      have e1 : evOr call con [c] = fun ρ m => (evB call con c ρ m).bind fun b m => if b then .ok true m else .ok false m := by
        funext ρ m; rw [evOr, evB, evB_bind]; simp only [evOr]
      rw [e1]
      exact q_or1 hb h.2
    | cons e2 es =>
      obtain ⟨h1, h2⟩ := l.or_ (by simp) pos
      have e1 : evOr call con (c :: cs) = fun ρ m => (evB call con c ρ m).bind fun b m => if b then .ok true m else evOr call con cs ρ m := by
        funext ρ m; rw [evOr, evB, evB_bind]
      rw [e1]
      exact q_or hb h.2 h1 h2
/-- an expression by its own equation -/
theorem eok {X : Cx} {W : WX} {c : C} {e : Expr} {f : Rho → Hm → Mp.R Mp.A} (hf : ∀ ρ m, evA call con c ρ m = f ρ m) (h : PE X e (tE w (pA w) W f)) (he : ∀ whole, isTrue e X.env whole = (do let v ← whole; standAt e.pos; holding [v] (truthy v))) : EOk X w W call con c e := by
  have e1 : evA call con c = f := by funext ρ m; exact hf ρ m
  have e2 : evB call con c = fun ρ m => (f ρ m).bind fun a m => boolOf a m .ok := by funext ρ m; rw [evB, e1]
  unfold EOk
  rw [e1, e2]
  exact both h he
/-- .. whose value is a bool -/
theorem eokB {X : Cx} {W : WX} {c : C} {e : Expr} {f : Rho → Hm → Mp.R Bool} (hf : ∀ ρ m, evA call con c ρ m = (f ρ m).bind fun b m => .ok (.d (.bl b)) m) (h : PE X e (tE w (pA w) W fun ρ m => (f ρ m).bind fun b m => .ok (.d (.bl b)) m)) (h2 : PT X e (tE w pB W f)) : EOk X w W call con c e := by
  have e1 : evA call con c = fun ρ m => (f ρ m).bind fun b m => .ok (.d (.bl b)) m := by funext ρ m; exact hf ρ m
  have e2 : evB call con c = f := by funext ρ m; rw [evB, e1]; exact bind_bl _
  unfold EOk
  rw [e1, e2]
  exact ⟨h, h2⟩
end
end Mp
end
section
/-! Mp: every expression that the look takes. -/
namespace Mp
open L2 PySem PySem.Spec PyProof.Rows
section
variable {w : Wd} {g : Cfg} {call : Calls} {con : Nat → Option D} {lev : Nat}
theorem q_iter {X : Cx} {W : WX} (G : Good g w call con lev X) {ik : IK} {is : List C} {tg it : Expr} {ps : List Expr} {t : Tg} {raw : Scope} (hp : itParts X.env.scope ik it = some ps) (l : LOk X w W call con is ps)
    (hz : zipTg ik t = true) (ht : chkT g.N raw t tg = true) (one : ik = .seq → ∃ c, is = [c] ∧ EOk X w W call con c it) : PI X tg it (tE w (pI w) W (fun ρ m => (evAs call con is ρ m).bind fun as m => itA ik as m)) := by
  cases ik with
  | seq =>
    obtain ⟨c, rfl, h⟩ := one rfl
    have e1 : (fun ρ m => (evAs call con [c] ρ m).bind fun as m => itA .seq as m) = fun ρ m => (evA call con c ρ m).bind fun a m => match walkOf m a with | some wk => Mp.R.ok wk m | none => .bad := by
      funext ρ m
      simp only [evAs, R.bind_assoc]
      rfl
    rw [e1]
    exact q_seq G.hK h.1
  | rng1 =>
    unfold itParts at hp
    simp only at hp
    split at hp
    · split at hp
      · rename_i hc
        cases hp
        simp only [Bool.and_eq_true, decide_eq_true_eq] at hc
        obtain ⟨rfl, hg⟩ := hc
        exact q_rng1 G hg (l.ns _ (by simp)) l.as
      · cases hp
    · cases hp
  | rng2 =>
    unfold itParts at hp
    simp only at hp
    split at hp
    · split at hp
      · rename_i hc
        cases hp
        simp only [Bool.and_eq_true, decide_eq_true_eq] at hc
        obtain ⟨rfl, hg⟩ := hc
        exact q_rng2 G hg (l.ns _ (by simp)) (l.ns _ (by simp)) l.as
      · cases hp
    · cases hp
  | zip =>
    cases t with
    | nm i => cases hz
    | tp ts =>
      unfold chkT at ht
      split at ht
      · unfold itParts at hp
        simp only at hp
        split at hp
        · split at hp
          · rename_i hc
            cases hp
            simp only [Bool.and_eq_true, decide_eq_true_eq] at hc
            obtain ⟨rfl, hg⟩ := hc
            exact q_zip G hg (l.ns _ (by simp)) (l.ns _ (by simp)) l.as
          · cases hp
        · cases hp
      · cases ht
  | enum => cases hp
theorem evs_len : ∀ (cs : List C) (ρ : Rho) (m : Hm) (ds : List D) (m' : Hm), evs call con cs ρ m = .ok ds m' → ds.length = cs.length
  | [], ρ, m, ds, m', h => by rw [evs] at h; cases h; rfl
  | c :: cs, ρ, m, ds, m', h => by
    rw [evs] at h
    cases h1 : evA call con c ρ m with
    | bad => rw [h1] at h; cases h
    | exc _ _ => rw [h1] at h; cases h
    | ok a m1 =>
      rw [h1] at h
      replace h : ((lay a m1).bind fun d m => (evs call con cs ρ m).bind fun ds m => .ok (d :: ds) m) = .ok ds m' := h
      cases h2 : lay a m1 with
      | bad => rw [h2] at h; cases h
      | exc _ _ => rw [h2] at h; cases h
      | ok d m2 =>
        rw [h2] at h
        replace h : ((evs call con cs ρ m2).bind fun ds m => Mp.R.ok (d :: ds) m) = .ok ds m' := h
        cases h3 : evs call con cs ρ m2 with
        | bad => rw [h3] at h; cases h
        | exc _ _ => rw [h3] at h; cases h
        | ok es m3 =>
          rw [h3] at h
          cases h
          simp [evs_len cs ρ m2 es _ h3]
theorem pts_of {X : Cx} {W : WX} : ∀ {cs : List C} {es : List Expr}, LOk X w W call con cs es → (match cs, es with | [], [] => true | [_], [_] => true | _, _ => false) = true → PTs X es (tE w pB W (evAnd call con cs))
  | [], [], _, _ => by
    have e1 : evAnd call con [] = fun _ m => .ok true m := by funext ρ m; rw [evAnd]
    rw [e1]
    exact ⟨fun pins s σ H Q I ⟨α, ρ, m, r, en, o⟩ => pts_nil.run pins s σ H Q I (Out.now (rep := pB) (b := true) o r rfl)⟩
  | [c], [e], l, _ => by
    have h := l.one c e rfl rfl
    have e1 : evAnd call con [c] = evB call con c := by
      funext ρ m
      rw [evAnd, evB]
      simp only [evAnd]
      congr
      funext a m
      cases a with
      | fl _ => rfl
      | d d => cases d <;> first | rfl | (rename_i b; cases b <;> rfl)
    rw [e1]
    exact pts_one h.2
  | [], _ :: _, _, h => by cases h
  | [_], [], _, h => by cases h
  | [_], _ :: _ :: _, _, h => by cases h
  | _ :: _ :: _, _, _, h => by cases h
theorem q_biL {X : Cx} {W : WX} {es : List Expr} {pos : Pos} {x : Str} {p : Pos} {bi : BI} {fs : Rho → Hm → Mp.R (List Mp.A)} (G : Good g w call con lev X) (hx : bi.nam = x) (hg : glB X.env.scope x = true) (hne : (!es.isEmpty) = true) (hes : ∀ y ∈ es, notStar y = true) (h : PA X es (tE w (pAs w) W fs)) :
    PE X (.Call (.Name x p) es [] pos) (tE w (pA w) W (fun ρ m => (fs ρ m).bind fun as m => biA bi as m)) := by
  cases es with
  | nil => cases hne
  | cons e es => exact q_bi G hx hg (hes e (by simp)) (fun y hy => hes y (by simp [hy])) h
theorem q_ifeT {X : Cx} {W : WX} {a b c : Expr} {pos : Pos} {ft fa fb : Rho → Hm → Mp.R Bool} (ht : PT X c (tE w pB W ft)) (ha : PT X a (tE w pB W fa)) (hb : PT X b (tE w pB W fb)) :
    PT X (.IfExp c a b pos) (tE w pB W (fun ρ m => (ft ρ m).bind fun k m => if k then fa ρ m else fb ρ m)) := by
  refine ⟨fun pins s σ H Q I ⟨α, ρ, m, r, en, o⟩ => ?_⟩
  refine PyProof.Rows.isTrue_IfExp (thn (ht.run pins s σ H _ I ⟨α, ρ, m, r, en, Out.bind (rep := pB) o pB.back⟩) fun d s1 ⟨H1, I1, α1, m1, k, x1, r1, p1, o1⟩ => ?_)
  cases (show d = k from p1)
  cases d with
  | true => exact ha.run pins s1 σ H1 Q I1 ⟨α1, ρ, m1, r1, en.ext x1 r, o1⟩
  | false => exact hb.run pins s1 σ H1 Q I1 ⟨α1, ρ, m1, r1, en.ext x1 r, o1⟩
mutual
theorem soundC : ∀ (c : C) (X : Cx), Good g w call con lev X → ∀ (W : WX), Takes X W → ∀ (e : Expr), chk g c X.env.scope e = true → EOk X w W call con c e
  | .var i, X, G, W, tk, e, h => by
    unfold chk at h
    split at h
    · simp only [Bool.and_eq_true, decide_eq_true_eq] at h
      exact eok (fun ρ m => by rw [evA] <;> rfl) (q_var (i := i) (by rw [G.hN]; exact h.1) h.2) fun _ => rfl
    · cases h
  | .non, X, G, W, tk, e, h => by
    unfold chk at h
    split at h
    · exact eok (fun ρ m => by rw [evA] <;> rfl) (atom (.d .non) (fun _ _ => rfl) (fun _ _ _ => ⟨⟨by unfold Rep; rfl, by unfold D.lt; trivial⟩, trivial⟩) pe_non) fun _ => rfl
    · cases h
  | .bl b, X, G, W, tk, e, h => by
    unfold chk at h
    split at h
    · cases (beq_iff_eq.mp h)
      exact eok (fun ρ m => by rw [evA] <;> rfl) (atom (.d (.bl b)) (fun _ _ => rfl) (fun _ _ _ => ⟨⟨by unfold Rep; rfl, by unfold D.lt; trivial⟩, trivial⟩) pe_bl) fun _ => rfl
    · cases h
  | .int i, X, G, W, tk, e, h => by
    unfold chk at h
    split at h
    · cases (beq_iff_eq.mp h)
      exact eok (fun ρ m => by rw [evA] <;> rfl) (atom (.d (.int i)) (fun _ _ => rfl) (fun _ _ _ => ⟨⟨by unfold Rep; rfl, by unfold D.lt; trivial⟩, trivial⟩) pe_int) fun _ => rfl
    · cases h
  | .str x, X, G, W, tk, e, h => by
    unfold chk at h
    split at h
    · simp only [Bool.and_eq_true, decide_eq_true_eq] at h
      cases h.1
      exact eok (fun ρ m => by rw [evA] <;> rfl) (atom (.d (.str x)) (fun _ _ => rfl) (fun _ _ _ => ⟨⟨by unfold Rep; exact ⟨rfl, Nat.le_trans h.2 (by rw [sizeLine_eq]; decide)⟩, by unfold D.lt; trivial⟩, trivial⟩) pe_str) fun _ => rfl
    · cases h
  | .glb k, X, G, W, tk, e, h => by
    unfold chk at h
    split at h
    · simp only [Bool.and_eq_true, decide_eq_true_eq] at h
      obtain ⟨⟨rfl, h2⟩, h3⟩ := h
      obtain ⟨d, u, v, e1, e2, e3, e4, e5⟩ := G.cons k h3
      obtain ⟨g1, g2, _⟩ := gl_of h2
      rw [← G.hmg, G.hnm] at e2
      exact eok (f := fun _ m => .ok (.d d) m) (fun ρ m => by rw [evA, e1]) (atom (.d d) (fun _ _ => rfl) (fun _ _ _ => ⟨⟨e4 _ _, e5 _⟩, trivial⟩) (pe_glob g1 e2 e3 g2)) fun _ => rfl
    · cases h
  | .tup es, X, G, W, tk, e, h => by
    unfold chk at h
    split at h
    · exact eok (fun ρ m => by rw [evA] <;> rfl) (q_tup (soundL es X G W tk _ h).ds) fun _ => rfl
    · cases h
  | .lst es, X, G, W, tk, e, h => by
    unfold chk at h
    split at h
    · exact eok (fun ρ m => by rw [evA] <;> rfl) (q_lst (soundL es X G W tk _ h).ds) fun _ => rfl
    · cases h
  | .bin op a b, X, G, W, tk, e, h => by
    unfold chk at h
    split at h
    · simp only [Bool.and_eq_true, decide_eq_true_eq] at h
      obtain ⟨⟨rfl, h1⟩, h2⟩ := h
      exact eok (fun ρ m => by rw [evA] <;> rfl) (q_bin (o_bin G.hK op) (soundC a X G W tk _ h1).1 (soundC b X G W tk _ h2).1) fun _ => rfl
    · cases h
  | .neg a, X, G, W, tk, e, h => by
    unfold chk at h
    split at h
    · exact eok (fun ρ m => by rw [evA] <;> rfl) (q_neg (soundC a X G W tk _ h).1) fun _ => rfl
    · cases h
  | .cmp op a b, X, G, W, tk, e, h => by
    unfold chk at h
    split at h
    · simp only [Bool.and_eq_true, decide_eq_true_eq] at h
      obtain ⟨⟨⟨rfl, h0⟩, h1⟩, h2⟩ := h
      have q := q_cmp (pos := by assumption) (o_cmp G.hK G.units op) (set_ok h0) (soundC a X G W tk _ h1).1 (soundC b X G W tk _ h2).1
      exact eokB (fun ρ m => by rw [evA]; simp only [R.bind_assoc]) (by simp only [R.bind_assoc]; exact q.1) q.2
    · cases h
  | .cmp2 op op' a b c, X, G, W, tk, e, h => by
    unfold chk at h
    split at h
    · simp only [Bool.and_eq_true, decide_eq_true_eq] at h
      obtain ⟨⟨⟨⟨⟨rfl, rfl⟩, h0⟩, h1⟩, h2⟩, h3⟩ := h
      have hu : X.A.units + 66 < cLine := G.units
      have q := q_chain (pos := by assumption) (o_cmp G.hK hu op) (o_cmp G.hK hu op') (set_ok h0) (soundC a X G W tk _ h1).1 (soundC b X G W tk _ h2).1 (soundC c X G W tk _ h3).1
      have e1 : ∀ (ρ : Rho) (m : Hm), ((evA call con a ρ m).bind fun x m => (evA call con b ρ m).bind fun y m => (cmpA op x y m).bind fun z m => if z then (evA call con c ρ m).bind fun u m => (cmpA op' y u m).bind fun b m => Mp.R.ok (Mp.A.d (.bl b)) m else .ok (.d (.bl false)) m) =
          ((evA call con a ρ m).bind fun x m => (evA call con b ρ m).bind fun y m => (cmpA op x y m).bind fun z m => if z then (evA call con c ρ m).bind fun u m => cmpA op' y u m else .ok false m).bind fun b m => .ok (.d (.bl b)) m := fun ρ m => by
        rw [R.bind_assoc]; congr; funext x m; rw [R.bind_assoc]; congr; funext y m; rw [R.bind_assoc]; congr; funext z m
        cases z
        · rfl
        · simp only [if_true, R.bind_assoc]
      have q1 := q.1
      simp only [e1] at q1
      exact eokB (fun ρ m => by rw [evA, ← e1]) q1 q.2
    · cases h
  | .and es, X, G, W, tk, e, h => by
    unfold chk at h
    split at h
    · simp only [Bool.and_eq_true] at h
      obtain ⟨h1, h2⟩ := (soundL es X G W tk _ h.2).and_ (by intro z; rw [z] at h; cases h.1) (by assumption)
      exact eokB (fun ρ m => by rw [evA] <;> rfl) (ofBool h1) h2.pt
    · cases h
  | .or es, X, G, W, tk, e, h => by
    unfold chk at h
    split at h
    · simp only [Bool.and_eq_true] at h
      obtain ⟨h1, h2⟩ := (soundL es X G W tk _ h.2).or_ (by intro z; rw [z] at h; cases h.1) (by assumption)
      exact eokB (fun ρ m => by rw [evA] <;> rfl) (ofBool h1) h2.pt
    · cases h
  | .not a, X, G, W, tk, e, h => by
    unfold chk at h
    split at h
    · have ha := soundC a X G W tk _ h
      have q := q_not (pos := by assumption) ha.2 (asBool ha.1)
      have e1 : ∀ (ρ : Rho) (m : Hm), (evB call con a ρ m).bind (fun b m => Mp.R.ok (Mp.A.d (.bl (!b))) m) = ((evB call con a ρ m).bind fun b m => Mp.R.ok (!b) m).bind fun b m => .ok (.d (.bl b)) m := fun ρ m => by rw [R.bind_assoc]; rfl
      refine eokB (f := fun ρ m => (evB call con a ρ m).bind fun b m => Mp.R.ok (!b) m) (fun ρ m => by rw [evA, ← e1, evB, evB_bind]) ?_ q.2
      have q1 := q.1
      simp only [← e1]
      exact q1
    · cases h
  | .ife t a b, X, G, W, tk, e, h => by
    unfold chk at h
    split at h
    · simp only [Bool.and_eq_true] at h
      have ht := soundC t X G W tk _ h.1.1
      have ha := soundC a X G W tk _ h.1.2
      have hb := soundC b X G W tk _ h.2
      have e1 : evA call con (.ife t a b) = fun ρ m => (evB call con t ρ m).bind fun k m => if k then evA call con a ρ m else evA call con b ρ m := by
        funext ρ m
        rw [evA]
        show _ = ((evA call con t ρ m).bind fun a m => boolOf a m .ok).bind _
        rw [evB_bind]
      have e2 : evB call con (.ife t a b) = fun ρ m => (evB call con t ρ m).bind fun k m => if k then evB call con a ρ m else evB call con b ρ m := by
        funext ρ m
        show (evA call con (.ife t a b) ρ m).bind _ = _
        rw [e1]
        show ((evB call con t ρ m).bind _).bind _ = _
        rw [R.bind_assoc]
        congr
        funext k m
        cases k <;> rfl
      unfold EOk
      rw [e1, e2]
      exact ⟨q_ife ht.2 ha.1 hb.1, q_ifeT ht.2 ha.2 hb.2⟩
    · cases h
  | .ix a i, X, G, W, tk, e, h => by
    unfold chk at h
    split at h
    · simp only [Bool.and_eq_true] at h
      exact eok (fun ρ m => by rw [evA] <;> rfl) (q_ix G.hK h.1.1 (soundC a X G W tk _ h.1.2).1 (soundC i X G W tk _ h.2).1) fun _ => rfl
    · cases h
  | .slc a lo hi, X, G, W, tk, e, h => by
    unfold chk at h
    split at h
    · simp only [Bool.and_eq_true] at h
      exact eok (fun ρ m => by rw [evA] <;> rfl) (q_slc G.hK (soundC a X G W tk _ h.1.1).1 (soundO lo X G W tk _ h.1.2) (soundO hi X G W tk _ h.2)) fun _ => rfl
    · cases h
  | .call k es, X, G, W, tk, e, h => by
    unfold chk at h
    split at h
    · simp only [Bool.and_eq_true, decide_eq_true_eq] at h
      obtain ⟨⟨⟨h1, h2⟩, h3⟩, h4⟩ := h
      have l := soundL es X G W tk _ h4
      refine eok (fun ρ m => by rw [evA] <;> rfl) (q_call G tk h1 h2 h3 (fun ρ m ds m' hd => by rw [← l.len]; exact evs_len es ρ m ds m' hd) (fun z => ?_) l.ns l.ds) fun _ => rfl
      have : es = [] := List.length_eq_zero_iff.mp (by rw [l.len, z]; rfl)
      subst this
      funext ρ m
      rw [evs]
    · cases h
  | .bi b es, X, G, W, tk, e, h => by
    unfold chk at h
    split at h
    · simp only [Bool.and_eq_true, decide_eq_true_eq] at h
      obtain ⟨⟨⟨h1, h2⟩, h3⟩, h4⟩ := h
      have l := soundL es X G W tk _ h4
      exact eok (fun ρ m => by rw [evA] <;> rfl) (q_biL G h1 h2 h3 l.ns l.as) fun _ => rfl
    · cases h
  | .join o x, X, G, W, tk, e, h => by
    unfold chk at h
    split at h
    · simp only [Bool.and_eq_true, decide_eq_true_eq] at h
      obtain ⟨⟨⟨⟨⟨rfl, h1⟩, h2⟩, h3⟩, h4⟩, h5⟩ := h
      exact eok (fun ρ m => by rw [evA] <;> rfl) (q_join G.hK h3 h2 h1 (soundC o X G W tk _ h4).1 (soundC x X G W tk _ h5).1) fun _ => rfl
    · cases h
  | .split o x, X, G, W, tk, e, h => by
    unfold chk at h
    split at h
    · simp only [Bool.and_eq_true, decide_eq_true_eq] at h
      obtain ⟨⟨⟨⟨⟨rfl, h1⟩, h2⟩, h3⟩, h4⟩, h5⟩ := h
      exact eok (fun ρ m => by rw [evA] <;> rfl) (q_split h3 h2 h1 (soundC o X G W tk _ h4).1 (soundC x X G W tk _ h5).1) fun _ => rfl
    · cases h
  | .app o x, X, G, W, tk, e, h => by
    unfold chk at h
    split at h
    · simp only [Bool.and_eq_true, decide_eq_true_eq] at h
      obtain ⟨⟨⟨⟨⟨rfl, h1⟩, h2⟩, h3⟩, h4⟩, h5⟩ := h
      exact eok (fun ρ m => by rw [evA] <;> rfl) (q_app G.hK h3 h2 h1 (soundC o X G W tk _ h4).1 (soundC x X G W tk _ h5).1) fun _ => rfl
    · cases h
  | .isi x t, X, G, W, tk, e, h => by
    unfold chk at h
    split at h
    · simp only [Bool.and_eq_true, decide_eq_true_eq] at h
      obtain ⟨⟨⟨⟨⟨⟨rfl, h1⟩, rfl⟩, h3⟩, h4⟩, h5⟩, h6⟩ := h
      exact eok (fun ρ m => by rw [evA] <;> rfl) (q_isi G h1 (fun k z => by rw [z] at h5; cases h5) h3 h4 (soundC x X G W tk _ h6).1) fun _ => rfl
    · cases h
  | .comp own elt tg ik is ifs, X, G, W, tk, e, h => by
    unfold chk at h
    split at h
    · rename_i x t it fs a s p
      simp only [Bool.and_eq_true, beq_iff_eq] at h
      obtain ⟨⟨⟨⟨⟨⟨⟨⟨⟨h0, h1⟩, h2⟩, h3⟩, h4⟩, h5⟩, h6⟩, h7⟩, h8⟩, h9⟩ := h
      subst h0
      cases hps : itParts X.env.scope ik it with
      | none => rw [hps] at h7; cases h7
      | some ps =>
        rw [hps] at h7
        have l := soundL is X G W tk ps h7
        have one : ik = .seq → ∃ c, is = [c] ∧ EOk X w W call con c it := fun z => by
          subst z
          cases hps
          have e : ∃ c, is = [c] := by
            have := l.len
            match is, this with
            | [c], _ => exact ⟨c, rfl⟩
            | [], z => cases z
            | _ :: _ :: _, z => simp at z
          obtain ⟨c, rfl⟩ := e
          exact ⟨c, rfl, l.one c it rfl rfl⟩
        have hi := q_iter G hps l h6 h4 one
        have bl : ∀ (s0 : Shared) (H : Hp) (C : Addr) (cl : List (Str × Addr)) (fp : List Addr), Good g w call con lev (X.blk s0 H s (compEnvC s cl C X.env) fp) := fun s0 H C cl fp => G.blk s0 H s _ fp
        refine eok (f := fun ρ m => ((evAs call con is ρ m).bind fun as m => itA ik as m).bind fun wk m => (compD wk.2 (fun d m => match asg tg d (wipeD ρ own) with
            | none => .bad
            | some ρ' => (evAnd call con ifs ρ' m).bind fun k m => if k then ((evA call con elt ρ' m).bind lay).bind fun d m => .ok (some d) m else .ok none m) wk.1 m).calm.bind fun ds m => .ok (.fl ds) m) (fun ρ m => by rw [evA, R.bind_assoc] <;> rfl)
          (q_comp G hi (blkOk_by (by rw [G.hN]; exact h1)) (fun s0 H C cl fp => pg_of (bl s0 H C cl fp).hN G.nd G.calm (stores_blk X s0 H s C cl fp) tg t h4)
            (fun s0 H C cl fp => ⟨_, pts_of (soundL ifs _ (bl s0 H C cl fp) W0 takes_no fs h8) h2, rfl⟩) (fun s0 H C cl fp => PE.laid (soundC elt _ (bl s0 H C cl fp) W0 takes_no x h9).1)
            (fun i hi => by have := List.all_eq_true.mp h5 i hi; simpa using this) h3) fun _ => rfl
    · cases h
  | .dnew, X, G, W, tk, e, h => by
    unfold chk at h
    split at h
    · exact eok (fun ρ m => by rw [evA] <;> rfl) q_dnew fun _ => rfl
    · cases h
  | .lenset x, X, G, W, tk, e, h => by
    unfold chk at h
    split at h
    · simp only [Bool.and_eq_true, decide_eq_true_eq] at h
      obtain ⟨⟨⟨⟨⟨rfl, h1⟩, rfl⟩, h2⟩, h3⟩, h4⟩ := h
      exact eok (fun ρ m => by rw [evA] <;> rfl) (q_lenset G h1 h2 h3 (soundC x X G W tk _ h4).1) fun _ => rfl
    · cases h
termination_by c => sizeOf c
decreasing_by all_goals (simp; try omega)
theorem soundL : ∀ (cs : List C) (X : Cx), Good g w call con lev X → ∀ (W : WX), Takes X W → ∀ (es : List Expr), chks g cs X.env.scope es = true → LOk X w W call con cs es
  | [], X, G, W, tk, es, h => by
    unfold chks at h
    cases es with
    | nil => exact lok_nil
    | cons _ _ => cases h
  | c :: cs, X, G, W, tk, es, h => by
    unfold chks at h
    cases es with
    | nil => cases h
    | cons e es =>
      simp only [Bool.and_eq_true] at h
      exact lok_cons h.1.1 (soundC c X G W tk e h.1.2) (soundL cs X G W tk es h.2)
termination_by cs => sizeOf cs
decreasing_by all_goals (simp; try omega)
theorem soundO : ∀ (o : Option C) (X : Cx), Good g w call con lev X → ∀ (W : WX), Takes X W → ∀ (e : Option Expr), chkO g o X.env.scope e = true → POi X w W e (evO call con o)
  | none, X, G, W, tk, e, h => by
    unfold chkO at h
    cases e with
    | none =>
      have : evO call con none = fun _ m => .ok none m := by funext ρ m; rw [evO]
      rw [this]; exact po_no
    | some _ => cases h
  | some c, X, G, W, tk, e, h => by
    unfold chkO at h
    cases e with
    | none => cases h
    | some e =>
      have : evO call con (some c) = fun ρ m => (evA call con c ρ m).bind fun a m => match a with | .d (.int i) => .ok (some i) m | _ => .bad := by funext ρ m; rw [evO] <;> rfl
      rw [this]; exact po_yes (soundC c X G W tk e h).1
  termination_by o => sizeOf o
  decreasing_by all_goals (simp; try omega)
end
end
end Mp
end
section
/-! Mp: statements. -/
namespace Mp
open L2 PySem PySem.Spec PyProof.Rows
/-- what is wanted behind a statement -/
def OutS (w : Wd) (W : WX) (α : Nat → Addr) (n : Nat) (H : Hp) (D : Ends) : O → Prop
  | .nx ρ' m' => ∀ α' H' σ', Ext α n H α' m'.length H' → Rl w α' m' H' → EnvR w α' m'.length H' ρ' σ' → D.nx σ' H'
  | .rt d m' => ∀ α' H' v, Ext α n H α' m'.length H' → Rl w α' m' H' → Rep w α' H' d v → d.lt m'.length → D.rt v H'
  | .bk ρ' m' => ∀ α' H' σ', Ext α n H α' m'.length H' → Rl w α' m' H' → EnvR w α' m'.length H' ρ' σ' → D.bk σ' H'
  | .ct ρ' m' => ∀ α' H' σ', Ext α n H α' m'.length H' → Rl w α' m' H' → EnvR w α' m'.length H' ρ' σ' → D.ct σ' H'
  | .exc e ρ' m' => ∀ α' H' σ' cls d, Ext α n H α' m'.length H' → Rl w α' m' H' → EnvR w α' m'.length H' ρ' σ' → ExR w e cls d H' → W cls d σ' H'
  | .bad => False
def tS (w : Wd) (W : WX) (f : Rho → Hm → O) : TS := fun D σ H => ∃ α ρ m, Rl w α m H ∧ EnvR w α m.length H ρ σ ∧ OutS w W α m.length H D (f ρ m)
section
variable {X : Cx} {w : Wd} {W : WX} {g : Cfg} {call : Calls} {con : Nat → Option D} {lev : Nat} {α α1 : Nat → Addr} {m : Hm} {H H1 : Hp} {n n1 : Nat} {De De' : Ends} {β γ : Type} {rep : RepT β γ}
theorem OutS.mono {o : O} (h : OutS w W α n H De o) (x : Ext α n H α1 n1 H1) : OutS w W α1 n1 H1 De o := by
  cases o with
  | nx ρ m' => exact fun α' H' σ' y r e => h α' H' σ' (x.trans y) r e
  | rt d m' => exact fun α' H' v y r e l => h α' H' v (x.trans y) r e l
  | bk ρ m' => exact fun α' H' σ' y r e => h α' H' σ' (x.trans y) r e
  | ct ρ m' => exact fun α' H' σ' y r e => h α' H' σ' (x.trans y) r e
  | exc e ρ m' => exact fun α' H' σ' c d y r e => h α' H' σ' c d (x.trans y) r e
  | bad => exact h
/-- an expression ahead of the rest -/
theorem OutS.expr {r : Mp.R β} {ρ : Rho} {σ : L2.St} {f : β → Hm → O} (h : OutS w W α m.length H De (r.toO ρ f)) (rl : Rl w α m H) (en : EnvR w α m.length H ρ σ) :
    Out w rep α m.length H (fun x H1 => ∃ α1 m1 b, Ext α m.length H α1 m1.length H1 ∧ Rl w α1 m1 H1 ∧ EnvR w α1 m1.length H1 ρ σ ∧ rep H α1 m1.length H1 b x ∧ OutS w W α1 m1.length H1 De (f b m1)) (fun cls d H' => W cls d σ H') r := by
  cases r with
  | ok b m' => exact fun α' H' x y l p => ⟨α', m', b, y, l, en.ext y rl, p, OutS.mono (o := f b m') h y⟩
  | exc e m' => exact fun α' H' c d y l q => h α' H' σ c d y l (en.ext y rl) q
  | bad => exact h
theorem OutS.grd_ {c : Prop} {r : Mp.R β} {ρ : Rho} {f : β → Hm → O} (h : OutS w W α n H De ((grd c r).toO ρ f)) : c ∧ OutS w W α n H De (r.toO ρ f) := by
  unfold grd at h
  by_cases hc : c
  · rw [if_pos hc] at h; exact ⟨hc, h⟩
  · rw [if_neg hc] at h; exact h.elim
theorem PS.imp {st : Stmt} {t t' : TS} (h : PS X st t) (i : ∀ D σ H, t' D σ H → t D σ H) : PS X st t' := ⟨fun pins s σ H D I q => h.run pins s σ H D I (i D σ H q)⟩
theorem PSs.imp {st : List Stmt} {t t' : TS} (h : PSs X st t) (i : ∀ D σ H, t' D σ H → t D σ H) : PSs X st t' := ⟨fun pins s σ H D I q => h.run pins s σ H D I (i D σ H q)⟩
theorem tS_eq {f f' : Rho → Hm → O} (h : ∀ ρ m, f ρ m = f' ρ m) : tS w W f = tS w W f' := by
  have : f = f' := by funext ρ m; exact h ρ m
  rw [this]

theorem z_nil : PSs X [] (tS w W fun ρ m => .nx ρ m) := PSs.imp pss_nil fun D σ H ⟨α, ρ, m, r, en, o⟩ => o α H σ (Ext.refl r.mapped) r en
theorem z_cons {st : Stmt} {sts : List Stmt} {f k : Rho → Hm → O} (h : PS X st (tS w W f)) (hs : PSs X sts (tS w W k)) : PSs X (st :: sts) (tS w W fun ρ m => (f ρ m).andThen k) :=
  PSs.imp (pss_cons h hs) fun D σ H ⟨α, ρ, m, r, en, o⟩ => ⟨α, ρ, m, r, en, by
    replace o : OutS w W α m.length H D ((f ρ m).andThen k) := o
    cases e : f ρ m with
    | nx ρ' m' =>
      rw [e] at o
      exact fun α' H' σ' x l en' => ⟨α', ρ', m', l, en', OutS.mono (o := k ρ' m') o x⟩
    | rt d m' => rw [e] at o; exact o
    | bk ρ' m' => rw [e] at o; exact o
    | ct ρ' m' => rw [e] at o; exact o
    | exc ex ρ' m' => rw [e] at o; exact o
    | bad => rw [e] at o; exact o⟩
theorem z_expr {e : Expr} {pos : Pos} {f : Rho → Hm → Mp.R Mp.A} (he : PE X e (tE w (pA w) W f)) (hs : swapsWith e none pos.line X.env = pure false) : PS X (.Expr e pos) (tS w W fun ρ m => (f ρ m).toO ρ fun _ m => .nx ρ m) :=
  PS.imp (ps_expr he hs) fun D σ H ⟨α, ρ, m, r, en, o⟩ => ⟨α, ρ, m, r, en, (OutS.expr (rep := pA w) o r en).imp fun x H1 ⟨α1, m1, b, x1, r1, en1, p1, o1⟩ => o1 α1 H1 σ (Ext.refl r1.mapped) r1 en1⟩
theorem z_ret {e : Expr} {pos : Pos} {f : Rho → Hm → Mp.R D} (he : PE X e (tE w (pD w) W f)) : PS X (.Return (some e) pos) (tS w W fun ρ m => (f ρ m).toO ρ fun d m => .rt d m) :=
  PS.imp (ps_ret he) fun D σ H ⟨α, ρ, m, r, en, o⟩ => ⟨α, ρ, m, r, en, (OutS.expr (rep := pD w) o r en).imp fun x H1 ⟨α1, m1, b, x1, r1, en1, p1, o1⟩ => o1 α1 H1 x (Ext.refl r1.mapped) r1 p1.1 p1.2⟩
theorem z_retN {pos : Pos} : PS X (.Return none pos) (tS w W fun ρ m => .rt .non m) :=
  PS.imp ps_retN fun D σ H ⟨α, ρ, m, r, en, o⟩ => o α H .non (Ext.refl r.mapped) r (by unfold Rep; rfl) (by unfold Mp.D.lt; trivial)
theorem z_pass {pos : Pos} : PS X (.Pass pos) (tS w W fun ρ m => .nx ρ m) := PS.imp ps_pass fun D σ H ⟨α, ρ, m, r, en, o⟩ => o α H σ (Ext.refl r.mapped) r en
theorem z_if {c : Expr} {as bs : List Stmt} {pos : Pos} {ft : Rho → Hm → Mp.R Bool} {fa fb : Rho → Hm → O} (hc : PT X c (tE w pB W ft)) (ha : PSs X as (tS w W fa)) (hb : PSs X bs (tS w W fb)) :
    PS X (.If c as bs pos) (tS w W fun ρ m => (ft ρ m).toO ρ fun k m => if k then fa ρ m else fb ρ m) :=
  PS.imp (ps_if hc ha hb) fun D σ H ⟨α, ρ, m, r, en, o⟩ => ⟨α, ρ, m, r, en, (OutS.expr (rep := pB) o r en).imp fun x H1 ⟨α1, m1, b, x1, r1, en1, p1, o1⟩ => by
    cases (show x = b from p1)
    cases x with
    | true => exact iteT ⟨α1, ρ, m1, r1, en1, o1⟩
    | false => exact iteF ⟨α1, ρ, m1, r1, en1, o1⟩⟩
/-- target = e -/
theorem asg_read {t : Tg} {d : D} {v : V} {ρ : Rho} {σ : L2.St} {k : Rho → O} {Q : L2.St → Hp → Prop} (rl : Rl w α m H) (en : EnvR w α m.length H ρ σ) (p : Rep w α H d v) (l : d.lt m.length) (o : OutS w W α m.length H De (asgO t d ρ k))
    (h : ∀ ρ' σ', asg t d ρ = some ρ' → EnvR w α m.length H ρ' σ' → OutS w W α m.length H De (k ρ') → Q σ' H) : gOf w.K t v σ H Q := by
  unfold asgO at o
  cases e : asg t d ρ with
  | none => rw [e] at o; exact o.elim
  | some ρ' => rw [e] at o; exact asg_ok t e en p l fun σ' en' _ => h ρ' σ' e en' o
theorem z_asg {tg e : Expr} {pos : Pos} {t : Tg} {f : Rho → Hm → Mp.R D} (hK : X.K = w.K) (he : PE X e (tE w (pD w) W f)) (hg : PG X tg (gOf X.K t)) (hs : swapsWithSole [tg] e pos.line X.env = pure false) (hw : swappedStores [tg] e X.env = pure none)
    (h1 : (assignEach [tg] X.env).map (·.2) = [assign tg X.env]) : PS X (.Assign [tg] e pos) (tS w W fun ρ m => (f ρ m).toO ρ fun d m => asgO t d ρ fun ρ => .nx ρ m) :=
  PS.imp (ps_asg he hg hs hw h1) fun D σ H ⟨α, ρ, m, r, en, o⟩ => ⟨α, ρ, m, r, en, (OutS.expr (rep := pD w) o r en).imp fun x H1 ⟨α1, m1, b, x1, r1, en1, p1, o1⟩ => by
    rw [hK]
    exact asg_read r1 en1 p1.1 p1.2 o1 fun ρ' σ' _ en2 o2 => o2 α1 H1 σ' (Ext.refl r1.mapped) r1 en2⟩

/-! ### stores -/
theorem swaps_sub (v o i : Expr) (p : Pos) (l : Nat) (env : PySem.Env) : swapsWith v (some (.Subscript o i p)) l env = pure false := by
  cases v <;> rfl
theorem storeI {w : Wd} {α : Nat → Addr} {H : Hp} {n : Nat} {kvs : List (D × D)} {ks : List (Key × V)} (h : KvR w α H n kvs ks) (i : Int) {d : D} {v : V} (r : Rep w α H d v) (l : d.lt n) (ai : ∀ p ∈ kvs, ∃ j, p.1 = .int j) : KvR w α H n (storeA.putI kvs i d) (putK ks (Sum.inl i) v) := by
  have any : (kvs.any fun p => p.1.int? == some i) = (ks.any fun kv => decide (kv.1 = (Sum.inl i : Key))) := by
    clear r l
    induction h with
    | nil => rfl
    | @cons k d' v' r' s' _ _ _ ih =>
      simp only [List.any_cons]
      rw [ih fun p hp => ai p (by simp [hp])]
      congr 1
      cases k with
      | inl j =>
        show (some j == some i) = decide ((Sum.inl j : Key) = Sum.inl i)
        rw [key_ll]
        rfl
      | inr x => rfl
  unfold storeA.putI putK
  rw [any]
  by_cases c : (ks.any fun kv => decide (kv.1 = (Sum.inl i : Key))) = true
  · rw [if_pos c, if_pos c]
    clear any c
    induction h with
    | nil => exact .nil
    | @cons k d' v' r' s' h1 h2 h3 ih =>
      simp only [List.map_cons]
      have ih := ih fun p hp => ai p (by simp [hp])
      cases k with
      | inl j =>
        by_cases hj : j = i
        · subst hj
          rw [if_pos (by show (some j == some j) = true; simp), if_pos rfl]
          exact .cons r l ih
        · rw [if_neg (by show ¬ (some j == some i) = true; simpa using hj), if_neg (by intro z; exact hj (Sum.inl.inj z))]
          exact .cons h1 h2 ih
      | inr x =>
        rw [if_neg (by show ¬ (none == some i) = true; simp), if_neg (by intro z; cases z)]
        exact .cons h1 h2 ih
  · rw [if_neg c, if_neg c]
    clear any c
    induction h with
    | nil => exact .cons (k := .inl i) r l .nil
    | cons h1 h2 h3 ih => exact .cons h1 h2 (ih fun p hp => ai p (by simp [hp]))
theorem KvR.length {w : Wd} {α : Nat → Addr} {H : Hp} {n : Nat} {kvs : List (D × D)} {ks : List (Key × V)} (h : KvR w α H n kvs ks) : kvs.length = ks.length := by
  induction h with
  | nil => rfl
  | cons _ _ _ ih => simp [ih]
theorem putI_len (kvs : List (D × D)) (i : Int) (d : D) : (storeA.putI kvs i d).length ≤ kvs.length + 1 := by
  unfold storeA.putI
  split
  · simp
  · simp
theorem z_store {o i e : Expr} {p pos : Pos} {fe : Rho → Hm → Mp.R D} {fo fi : Rho → Hm → Mp.R Mp.A} (hu : X.A.units + 1 < cLine) (he : PE X e (tE w (pD w) W fe)) (ho : PE X o (tE w (pA w) W fo)) (hi : PE X i (tE w (pA w) W fi)) :
    PS X (.Assign [.Subscript o i p] e pos) (tS w W fun ρ m => (fe ρ m).toO ρ fun d m => (fo ρ m).toO ρ fun x m => (fi ρ m).toO ρ fun y m => (storeA x y d m).toO ρ fun _ m => .nx ρ m) := by
  refine ⟨fun pins s σ H De I ⟨α, ρ, m, r, en, o⟩ => ?_⟩
  refine wpAny_Assign_Subscript (thn (he.run pins s σ H _ I ⟨α, ρ, m, r, en, OutS.expr (rep := pD w) o r en⟩) fun ev s1 ⟨v, H1, I1, rv, α1, m1, d, x1, r1, en1, p1, o1⟩ => ?_) (swaps_sub _ _ _ _ _ _)
  refine thn (ho.run pins s1 σ H1 _ I1 ⟨α1, ρ, m1, r1, en1, OutS.expr (rep := pA w) o1 r1 en1⟩) fun ov s2 ⟨x, H2, I2, rx, α2, m2, a, x2, r2, en2, p2, o2⟩ => ?_
  refine thn (hi.run pins s2 σ H2 _ I2 ⟨α2, ρ, m2, r2, en2, OutS.expr (rep := pA w) o2 r2 en2⟩) fun iv s3 ⟨y, H3, I3, ry, α3, m3, b, x3, r3, en3, p3, o3⟩ => ?_
  have pd : Rep w α3 H3 d v := Rep.ext (x3.keeps r2) d v (D.lt_mono x2.le d p1.2) (Rep.ext (x2.keeps r1) d v p1.2 p1.1)
  have ld : d.lt m3.length := D.lt_mono x3.le d (D.lt_mono x2.le d p1.2)
  have pa := p2.1.ext x3 r2
  unfold storeA at o3
  split at o3
  · split at o3
    · cases RepA.int (m := m3) p3.1
      have hx := pa.1
      unfold Rep at hx
      subst hx
      split at o3
      · rename_i xs hxs
        split at o3
        · rename_i j hj
          obtain ⟨vs, h1, h2, h3, h4⟩ := r3.objs _ _ hxs
          have hk := (List.getElem?_eq_some_iff.mp hxs).1
          have e1 := RepL.length _ _ h2
          refine thn (set_list pins s3 σ H3 _ _ _ ov iv ev (fun H' => De.nx σ H') I3 rx ry rv ⟨α3 _, vs, _, j, rfl, rfl, h1, by rw [← e1]; exact hj, ?_⟩) fun _ s4 ⟨H4, I4, q4⟩ => ⟨σ, H4, I4, q4⟩
          obtain ⟨x4, r4⟩ := r3.put hk (o := .lst (vs.set j v)) (ob := .lst (xs.set j d)) (fun _ z => by cases z) fun x k => ⟨vs.set j v, upd_same, RepL.set j (Rep.ext k d v ld pd) (RepL.ext k xs vs h4 h2), by rw [List.length_set]; exact h3, ltAll_iff.mpr fun c hc => by
            rcases List.mem_or_eq_of_mem_set hc with z | z
            · exact ltAll_iff.mp h4 c z
            · subst z; exact ld⟩
          exact o3 α3 _ σ x4 r4 (en3.ext x4 r3)
        · exact o3.elim
      · rename_i kvs hkv
        obtain ⟨ks, h1, h2, h3⟩ := r3.objs _ _ hkv
        have hk := (List.getElem?_eq_some_iff.mp hkv).1
        obtain ⟨⟨c1, c2⟩, o4⟩ := OutS.grd_ o3
        cases (show ov = Value.ref (α3 _) from rx)
        refine d_setItem hu I3 (DPut.k (k := Sum.inl _) h1 (by rw [← h2.length]; exact c1)) ry rv fun s4 I4 => ⟨σ, _, I4, ?_⟩
        obtain ⟨x4, r4⟩ := r3.put hk (o := .dK (putK ks (Sum.inl _) v)) (ob := .dct (storeA.putI kvs _ d)) (fun _ z => by cases z) fun x k => ⟨_, upd_same, storeI (h2.ext k (Nat.le_refl _)) _ (Rep.ext k d v ld pd) ld c2, Nat.le_trans (putI_len _ _ _) c1⟩
        exact o4 α3 _ σ x4 r4 (en3.ext x4 r3)
      · exact o3.elim
    · exact o3.elim
  · exact o3.elim
end
end Mp
end
section
/-! Mp: loops, raises, every statement. -/
namespace Mp
open L2 PySem PySem.Spec PyProof.Rows
section
variable {X : Cx} {w : Wd} {W : WX} {g : Cfg} {call : Calls} {con : Nat → Option D} {lev : Nat} {α α1 : Nat → Addr} {m : Hm} {H H1 : Hp} {n n1 : Nat} {De De' : Ends} {β γ : Type} {rep : RepT β γ}
theorem OutS.grdO_ {c : Prop} {r : O} (h : OutS w W α n H De (grdO c r)) : c ∧ OutS w W α n H De r := by
  unfold grdO at h
  by_cases hc : c
  · rw [if_pos hc] at h; exact ⟨hc, h⟩
  · rw [if_neg hc] at h; exact h.elim
theorem z_for {tg it : Expr} {body : List Stmt} {pos : Pos} {t : Tg} {fi : Rho → Hm → Mp.R (List D × Chk)} {fb : Rho → Hm → O} (hp : PassesOwn (model X.prog X.w) X.A X.env X.xe) (hK : X.K = w.K) (hc : X.calm = true) (hn : notSet it = true)
    (hi : PI X tg it (tE w (pI w) W fi)) (hg : PG X tg (gOf X.K t)) (hb : PSs X body (tS w W fb)) :
    PS X (.For tg it body [] pos) (tS w W fun ρ m => (fi ρ m).toO ρ fun wk m => forD wk.2 (fun d ρ m => asgO t d ρ fun ρ => fb ρ m) wk.1 ρ m) := by
  refine PS.imp (ps_for hp hc hi hg hb (fold_ok hn _)) fun De σ H ⟨α, ρ, m, r, en, o⟩ => ?_
  refine ⟨α, ρ, m, r, en, (OutS.expr (rep := pI w) o r en).imp fun J H1 ⟨α1, m1, wk, x1, r1, en1, ⟨p1, hz⟩, o1⟩ => ?_⟩
  obtain ⟨ds, chk⟩ := wk
  replace p1 : Walks w α1 m1.length H1 J ds chk := p1
  replace o1 : OutS w W α1 m1.length H1 De (forD chk (fun d ρ m => asgO t d ρ fun ρ => fb ρ m) ds ρ m1) := o1
  generalize hF : (fun (d : D) (ρ : Rho) (m : Hm) => asgO t d ρ fun ρ => fb ρ m) = F at o1
  refine ⟨fun i k σ H => k = ds.length - i ∧ i ≤ ds.length ∧ ∃ α m ρ, Ext α1 m1.length H1 α m.length H ∧ Rl w α m H ∧ EnvR w α m.length H ρ σ ∧ OutS w W α m.length H De (forD chk F (ds.drop i) ρ m),
    ⟨ds.length, by simp, Nat.zero_le _, α1, m1, ρ, Ext.refl r1.mapped, r1, en1, o1⟩, ?_⟩
  rintro i k σc Hc ⟨rfl, hil, αc, mc, ρc, xc, rc, enc, oc⟩
  by_cases hlt : i < ds.length
  · have hdrop : ds.drop i = ds[i] :: ds.drop (i + 1) := List.drop_eq_getElem_cons hlt
    rw [hdrop] at oc
    unfold forD at oc
    obtain ⟨ck, oc⟩ := oc.grdO_
    obtain ⟨hgo, hyld⟩ := (p1 αc mc Hc xc rc ck).1 i hlt
    refine .inr ⟨hgo, fun σ' H' => ∃ α m ρ, Ext α1 m1.length H1 α m.length H' ∧ Rl w α m H' ∧ EnvR w α m.length H' ρ σ' ∧ OutS w W α m.length H' De (forD chk F (ds.drop (i + 1)) ρ m), fun σ' H' q => ⟨ds.length - (i + 1), by omega, rfl, hlt, q⟩, fun x H2 hy => ?_⟩
    obtain ⟨x2, r2, d, hd, rd, ld⟩ := hyld x H2 hy
    have hd' : ds[i] = d := by rw [List.getElem?_eq_getElem hlt] at hd; exact Option.some.inj hd
    have eF : F d ρc mc = asgO t d ρc fun ρ => fb ρ mc := by rw [← hF]
    rw [hd', eF] at oc
    have xc2 := xc.trans x2
    have en2 := enc.ext x2 rc
    unfold asgO at oc
    cases ha : asg t d ρc with
    | none => rw [ha] at oc; exact oc.elim
    | some ρ' =>
      rw [ha] at oc
      replace oc : OutS w W αc mc.length H2 De ((fb ρ' mc).turned (forD chk F (ds.drop (i + 1)))) := OutS.mono oc x2
      rw [hK]
      refine asg_ok t ha en2 rd ld fun σ2 en3 _ => ⟨αc, ρ', mc, r2, en3, ?_⟩
      cases hb : fb ρ' mc with
      | nx ρ3 m3 =>
        rw [hb] at oc
        exact fun α' H' σ' y l e => ⟨α', m3, ρ3, xc2.trans y, l, e, OutS.mono (o := forD chk F (ds.drop (i + 1)) ρ3 m3) oc y⟩
      | ct ρ3 m3 =>
        rw [hb] at oc
        exact fun α' H' σ' y l e => ⟨α', m3, ρ3, xc2.trans y, l, e, OutS.mono (o := forD chk F (ds.drop (i + 1)) ρ3 m3) oc y⟩
      | bk ρ3 m3 => rw [hb] at oc; exact oc
      | rt d3 m3 => rw [hb] at oc; exact oc
      | exc e3 ρ3 m3 => rw [hb] at oc; exact oc
      | bad => rw [hb] at oc; exact oc
  · have hi' : i = ds.length := by omega
    subst hi'
    rw [List.drop_length] at oc
    unfold forD at oc
    obtain ⟨ck, oc⟩ := oc.grdO_
    exact .inl ⟨(p1 αc mc Hc xc rc ck).2, oc αc Hc σc (Ext.refl rc.mapped) rc enc⟩
theorem z_raise {k : Nat} {x ms : Str} {j : Nat} {p p2 p3 pos : Pos} (G : Good g w call con lev X) (tk : Takes X W) (hx : g.nm k = x) (hg : glB X.env.scope x = true) (he : g.isExc k = true) :
    PS X (.Raise (some (.Call (.Name x p) [.Constant (.str ms) j p2] [] p3)) none pos) (tS w W fun ρ m => .exc ⟨k, []⟩ ρ m) := by
  obtain ⟨C, h1, h2, h3, h4, h5⟩ := G.excs k he
  obtain ⟨g1, g2, _⟩ := gl_of hg
  have hm : X.mg x = some (.ref C) := by rw [G.hmg, ← hx, ← G.hnm]; exact h1
  refine PS.imp (ps_raise G.calm tk (pmk_own PySem.F.excBase_ValueError (by rw [G.hK]; exact h2) hm (by rw [G.hK]; exact h3) (raises_own (by rw [G.hK]; exact h4) (by rw [G.hK]; exact h5)) g1 g2)) fun De σ H ⟨α, ρ, m, r, en, o⟩ => ?_
  exact o α H σ (.ref C) none (Ext.refl r.mapped) r en ⟨C, h1, rfl, fun _ => rfl⟩
/-- what a statement's place must have -/
structure GoodS (X : Cx) : Prop where
  po : PassesOwn (model X.prog X.w) X.A X.env X.xe
  st : Stores X X.env.scope
  kind : X.env.scope.kind = .function
theorem sole_ok {tg e : Expr} {l : Nat} {env : PySem.Env} (h : notLC e = true) : swapsWithSole [tg] e l env = pure false := by
  cases e <;> first | rfl | cases h
theorem expr_ok {e : Expr} {l : Nat} {env : PySem.Env} (h : notLC e = true) : swapsWith e none l env = pure false := by
  cases e <;> first | rfl | cases h
theorem one_ok {tg : Expr} {env : PySem.Env} (h : notStar tg = true) : (assignEach [tg] env).map (·.2) = [assign tg env] := by
  rw [each_ok h]; rfl
theorem swst_name {x : Str} {p : Pos} {e : Expr} {env : PySem.Env} : swappedStores [.Name x p] e env = pure none := by
  cases e <;> rfl
theorem swst_tup {es : List Expr} {k : Nat} {p : Pos} {e : Expr} {env : PySem.Env} (h : notTup e = true) : swappedStores [.Tuple es k p] e env = pure none := by
  cases e <;> first | rfl | cases h
theorem sw_cell {elt : Expr} {gs : List Comprehension} {s : Scope} {p py : Pos} {y : Str} {l : Nat} {env : PySem.Env} (h : env.scope.names.lookup y ≠ some .local) : swapsWithSole [.Name y py] (.ListComp elt gs s p) l env = pure false := by
  show swapsWith (.ListComp elt gs s p) (some (.Name y py)) l env = pure false
  have e : (env.kindOf y == some NameKind.local) = false := by
    show (env.scope.names.lookup y == some NameKind.local) = false
    cases q : env.scope.names.lookup y with
    | none => rfl
    | some k => cases k <;> first | rfl | exact (h q).elim
  unfold swapsWith
  simp only [e, Bool.and_false, Bool.false_and]
theorem tS_swap {De : Ends} {σ : L2.St} {H : Hp} {i : Nat} {f : Rho → Hm → Mp.R D} (h : tS w W (fun ρ m => (f ρ m).toO ρ fun d m => asgO (.nm i) d ρ fun ρ => .nx ρ m) De σ H) : tE w (pD w) W f σ H fun x H1 => De.nx (σ.set i (some x)) H1 := by
  obtain ⟨α, ρ, m, r, en, o⟩ := h
  refine ⟨α, ρ, m, r, en, (OutS.expr (rep := pD w) o r en).imp fun x H1 ⟨α1, m1, d, x1, r1, en1, p1, o1⟩ => ?_⟩
  exact (show OutS w W α1 m1.length H1 De (.nx (ρ.set i (some d)) m1) from o1) α1 H1 _ (Ext.refl r1.mapped) r1 (en1.set p1.1 p1.2)
theorem z_compAsg {X : Cx} {W : WX} {c : C} {i : Nat} {y : Str} {py p pos : Pos} {x : Expr} {gs : List Comprehension} {s : Scope} (G : Good g w call con lev X) (tk : Takes X W) (h : chk g c X.env.scope (.ListComp x gs s p) = true) (hy : X.N[i]? = some y) (hyl : X.env.scope.names.lookup y = some .local)
    (hsw : swapsWith (.ListComp x gs s p) (some (.Name y py)) pos.line X.env = pure true) : PS X (.Assign [.Name y py] (.ListComp x gs s p) pos) (fun De σ H => tE w (pD w) W (ev call con c) σ H fun v H1 => De.nx (σ.set i (some v)) H1) := by
  cases c with
  | comp own elt tg ik is ifs =>
    unfold chk at h
    split at h
    · rename_i x t it fs a s p e0
      cases e0
      simp only [Bool.and_eq_true, beq_iff_eq] at h
      obtain ⟨⟨⟨⟨⟨⟨⟨⟨⟨h0, h1⟩, h2⟩, h3⟩, h4⟩, h5⟩, h6⟩, h7⟩, h8⟩, h9⟩ := h
      subst h0
      cases hps : itParts X.env.scope ik it with
      | none => rw [hps] at h7; cases h7
      | some ps =>
        rw [hps] at h7
        have l := soundL is X G W tk ps h7
        have one : ik = .seq → ∃ c, is = [c] ∧ EOk X w W call con c it := fun z => by
          subst z
          cases hps
          have e : ∃ c, is = [c] := by
            have := l.len
            match is, this with
            | [c], _ => exact ⟨c, rfl⟩
            | [], z => cases z
            | _ :: _ :: _, z => simp at z
          obtain ⟨c, rfl⟩ := e
          exact ⟨c, rfl, l.one c it rfl rfl⟩
        have hi := q_iter G hps l h6 h4 one
        have bl : ∀ (s0 : Shared) (H : Hp) (C : Addr) (cl : List (Str × Addr)) (fp : List Addr), Good g w call con lev (X.blk s0 H s (compEnvC s cl C X.env) fp) := fun s0 H C cl fp => G.blk s0 H s _ fp
        have e0 : evA call con (.comp own elt tg ik is ifs) = (fun ρ m => ((evAs call con is ρ m).bind fun as m => itA ik as m).bind fun wk m => (compD wk.2 (fun d m => match asg tg d (wipeD ρ own) with
            | none => .bad
            | some ρ' => (evAnd call con ifs ρ' m).bind fun k m => if k then ((evA call con elt ρ' m).bind lay).bind fun d m => .ok (some d) m else .ok none m) wk.1 m).calm.bind fun ds m => .ok (.fl ds) m) := by
          funext ρ m
          rw [evA, R.bind_assoc] <;> rfl
        have e1 : ev call con (.comp own elt tg ik is ifs) = fun ρ m => ((fun ρ m => ((evAs call con is ρ m).bind fun as m => itA ik as m).bind fun wk m => (compD wk.2 (fun d m => match asg tg d (wipeD ρ own) with
            | none => .bad
            | some ρ' => (evAnd call con ifs ρ' m).bind fun k m => if k then ((evA call con elt ρ' m).bind lay).bind fun d m => .ok (some d) m else .ok none m) wk.1 m).calm.bind fun ds m => .ok (.fl ds) m) ρ m).bind lay := by
          funext ρ m
          show (evA call con (.comp own elt tg ik is ifs) ρ m).bind lay = _
          rw [e0]
        rw [e1]
        exact z_setLc G hy hyl hsw hi (blkOk_by (by rw [G.hN]; exact h1)) (fun s0 H C cl fp => pg_of (bl s0 H C cl fp).hN G.nd G.calm (stores_blk X s0 H s C cl fp) tg t h4)
            (fun s0 H C cl fp => ⟨_, pts_of (soundL ifs _ (bl s0 H C cl fp) W0 takes_no fs h8) h2, rfl⟩) (fun s0 H C cl fp => PE.laid (soundC elt _ (bl s0 H C cl fp) W0 takes_no x h9).1)
            (fun i hi => by have := List.all_eq_true.mp h5 i hi; simpa using this) h3
    · cases h
  | _ => unfold chk at h; cases h
mutual
theorem soundS : ∀ (s : S) (X : Cx), Good g w call con lev X → GoodS X → ∀ (W : WX), Takes X W → ∀ (st : Stmt), chkS g s X.env.scope st = true → PS X st (tS w W (exS call con s))
  | .expr c, X, G, Z, W, tk, st, h => by
    unfold chkS at h
    split at h
    · simp only [Bool.and_eq_true] at h
      rw [tS_eq fun ρ m => by rw [exS]]
      exact z_expr (soundC c X G W tk _ h.2).1 (expr_ok h.1)
    · cases h
  | .asg t c, X, G, Z, W, tk, st, h => by
    unfold chkS at h
    split at h
    · rename_i tg e pos
      simp only [Bool.and_eq_true] at h
      obtain ⟨⟨⟨h1, h2⟩, h3⟩, h4⟩ := h
      rw [tS_eq fun ρ m => by rw [exS]]
      have ev_eq : (fun ρ m => (evA call con c ρ m).bind lay) = ev call con c := by funext ρ m; rw [ev]
      have hg := pg_of G.hN G.nd G.calm Z.st t tg h1
      have plain : PE X e (tE w (pD w) W (ev call con c)) := by rw [← ev_eq]; exact PE.laid (soundC c X G W tk e h2).1
      have fin : notStar tg = true → swapsWithSole [tg] e pos.line X.env = pure false → swappedStores [tg] e X.env = pure none → PS X (.Assign [tg] e pos) (tS w W fun ρ m => (ev call con c ρ m).toO ρ fun d m => asgO t d ρ fun ρ => .nx ρ m) :=
        fun a b c => z_asg G.hK plain hg b c (one_ok a)
      cases t with
      | tp ts =>
        unfold chkT at h1
        split at h1
        · simp only [Bool.and_eq_true] at h3
          exact fin rfl (sole_ok h3.2) (swst_tup h3.1)
        · cases h1
      | nm i =>
        unfold chkT at h1
        split at h1
        · rename_i y py
          simp only [Bool.and_eq_true, decide_eq_true_eq] at h1
          cases e with
          | SetComp a b c d => cases h4
          | DictComp a b c d f => cases h4
          | ListComp elt gs s p =>
            cases hy : X.env.scope.names.lookup y with
            | none => exact fin rfl (sw_cell (by rw [hy]; intro z; cases z)) swst_name
            | some kd =>
              by_cases hk : kd = .local
              · subst hk
                simp only [hy, Bool.and_eq_true, Bool.not_eq_true'] at h4
                exact ⟨fun pins s σ H De I q => (z_compAsg G tk h2 (by rw [G.hN]; exact h1.1) hy (sw_true Z.kind hy h4.1 h4.2)).run pins s σ H De I (tS_swap q)⟩
              · exact fin rfl (sw_cell (by rw [hy]; intro z; exact hk (Option.some.inj z))) swst_name
          | _ => exact fin rfl (sole_ok rfl) swst_name
        · cases h1
    · cases h
  | .store o i e, X, G, Z, W, tk, st, h => by
    unfold chkS at h
    split at h
    · simp only [Bool.and_eq_true] at h
      rw [tS_eq fun ρ m => by rw [exS]]
      have ev_eq : (fun ρ m => (evA call con e ρ m).bind lay) = ev call con e := by funext ρ m; rw [ev]
      exact z_store (by have := G.units; omega) (by rw [← ev_eq]; exact PE.laid (soundC e X G W tk _ h.2).1) (soundC o X G W tk _ h.1.1.2).1 (soundC i X G W tk _ h.1.2).1
    · cases h
  | .ife t a b, X, G, Z, W, tk, st, h => by
    unfold chkS at h
    split at h
    · simp only [Bool.and_eq_true] at h
      rw [tS_eq fun ρ m => by rw [exS]]
      exact z_if (soundC t X G W tk _ h.1.1).2 (soundSs a X G Z W tk _ h.1.2) (soundSs b X G Z W tk _ h.2)
    · cases h
  | .ret c, X, G, Z, W, tk, st, h => by
    unfold chkS at h
    split at h
    · rw [tS_eq fun ρ m => by rw [exS]]
      have ev_eq : (fun ρ m => (evA call con c ρ m).bind lay) = ev call con c := by funext ρ m; rw [ev]
      exact z_ret (by rw [← ev_eq]; exact PE.laid (soundC c X G W tk _ h).1)
    · cases h
  | .retN, X, G, Z, W, tk, st, h => by
    unfold chkS at h
    split at h
    · rw [tS_eq fun ρ m => by rw [exS]]
      exact z_retN
    · cases h
  | .for_ t ik is body, X, G, Z, W, tk, st, h => by
    unfold chkS at h
    split at h
    · rename_i tg it ys pos
      simp only [Bool.and_eq_true] at h
      obtain ⟨⟨⟨⟨h1, h2⟩, h3⟩, h4⟩, h5⟩ := h
      cases hps : itParts X.env.scope ik it with
      | none => rw [hps] at h4; cases h4
      | some ps =>
        rw [hps] at h4
        have l := soundL is X G W tk ps h4
        have one : ik = .seq → ∃ c, is = [c] ∧ EOk X w W call con c it := fun z => by
          subst z
          cases hps
          have e : ∃ c, is = [c] := by
            have := l.len
            match is, this with
            | [c], _ => exact ⟨c, rfl⟩
            | [], z => cases z
            | _ :: _ :: _, z => simp at z
          obtain ⟨c, rfl⟩ := e
          exact ⟨c, rfl, l.one c it rfl rfl⟩
        have hi := q_iter G hps l h3 h2 one
        have e1 : ∀ ρ m, exS call con (.for_ t ik is body) ρ m = ((evAs call con is ρ m).bind fun as m => itA ik as m).toO ρ fun wk m => forD wk.2 (fun d ρ m => asgO t d ρ fun ρ => exSs call con body ρ m) wk.1 ρ m := fun ρ m => by
          rw [exS]
          cases evAs call con is ρ m <;> rfl
        rw [tS_eq e1]
        exact z_for Z.po G.hK G.calm h1 hi (pg_of G.hN G.nd G.calm Z.st t tg h2) (soundSs body X G Z W tk ys h5)
    · cases h
  | .raise k, X, G, Z, W, tk, st, h => by
    unfold chkS at h
    split at h
    · simp only [Bool.and_eq_true, decide_eq_true_eq] at h
      rw [tS_eq fun ρ m => by rw [exS]]
      exact z_raise G tk h.1.1 h.1.2 h.2
    · cases h
  | .pass, X, G, Z, W, tk, st, h => by
    unfold chkS at h
    split at h
    · rw [tS_eq fun ρ m => by rw [exS]]
      exact z_pass
    · cases h
termination_by s => sizeOf s
decreasing_by all_goals (simp; try omega)
theorem soundSs : ∀ (ss : List S) (X : Cx), Good g w call con lev X → GoodS X → ∀ (W : WX), Takes X W → ∀ (sts : List Stmt), chkSs g ss X.env.scope sts = true → PSs X sts (tS w W (exSs call con ss))
  | [], X, G, Z, W, tk, sts, h => by
    unfold chkSs at h
    cases sts with
    | nil =>
      rw [tS_eq fun ρ m => by rw [exSs]]
      exact z_nil
    | cons _ _ => cases h
  | s :: ss, X, G, Z, W, tk, sts, h => by
    unfold chkSs at h
    cases sts with
    | nil => cases h
    | cons st sts =>
      simp only [Bool.and_eq_true] at h
      rw [tS_eq fun ρ m => by rw [exSs]]
      exact z_cons (soundS s X G Z W tk st h.1) (soundSs ss X G Z W tk sts h.2)
termination_by ss => sizeOf ss
decreasing_by all_goals (simp; try omega)
end
end
end Mp
end
section
/-! Mp: defs, the whole table. -/
namespace Mp
open L2 PySem PySem.Spec PyProof.Rows
section
variable {P : Program} {wo : World} {K : PySem.W.Frag} {mg : Str → Option Value} {base : Heap}
/-- a def by its body, where no guard is around -/
theorem fnG_of {x qual : Str} {st : Stmt} {f : Addr} {fd : FuncData} {N ps : List Str} {k : Nat} {sp : Sp} (F : Fun K x qual st f fd) (S : FnScope N ps (defScope st)) (len : ∀ vs H Q E, sp vs H Q E → vs.length = ps.length)
    (hbody : ∀ (cdv : Value) (A : Around) (outer : List PySem.Env) (s : Shared) (H : Hp) (vs : List V) (Q : VK) (E : XK), Room k (A.deeper (envOfC qual (defScope st) s.heap.objs.size f cdv)) → A.guards = some [] → sp vs H Q E →
      ∃ t, PSs (cxOf (L2.CX P wo) P wo K mg base N qual (defScope st) f cdv A outer s H E) (defBody st) t ∧ t ⟨fun _ H' => Q .non H', Q, fun _ _ => False, fun _ _ => False⟩ (L2.start N vs) H) : FnG P wo K mg base (k + 1) f fd ps sp := by
  obtain ⟨oc, od, kV, doc, pm, an, cdv, ct, osl, e, lk, hcd⟩ := F.ex
  subst e
  refine ⟨len, fun A outer s H args us vs Q E hr hg e0 hb r h => ?_⟩
  have hl := len _ _ _ _ h
  have stay : ∀ b o, base.get? b = some o → s.heap.get? b = some o := fun b o q => (e0.bs b o q).1
  have KX := e0.mod.kin.keeps stay
  have lim := e0.mod.nolimit.keeps stay
  refine codeAny_call_function hr.depth (KX _ _ lk) rfl S.co S.gen rfl (PySem.W.codeRec_of KX hcd) (hb _ _ _ _ ?_)
  refine wpAny_newFunctionEnv_cells S.kind (fun q hq => ?_) fun env he s1 z => ?_
  · rcases S.par q.1 (List.of_mem_zip hq).1 with p | p
    · exact .inl p
    · exact .inr ⟨p, PySem.W.cellsFrom_some _ _ _ (.inl p)⟩
  · subst he
    obtain ⟨t, ht, q⟩ := hbody cdv A outer s H vs Q E (hr.deeper _) hg h
    have I := inv_start (CX := L2.CX P wo) (qual := qual) (f := f) (cd := cdv) (E := E) S hr.hd e0 hl r z
    refine ⟨lim.keeps z.toInCall.keep, codeAny_func (wpAny_mono (ht.run [] s1 _ H _ I q) (fun fl s' hs => ?_) fun e s' hs => hs)⟩
    match fl, hs with
    | .ret u, hs =>
      obtain ⟨v, σ', H', J, rv, q⟩ := hs
      exact ⟨v, H', J.os, J.bare, J.base, J.hok, rv, q⟩
    | .next, hs =>
      obtain ⟨σ', H', J, q⟩ := hs
      exact ⟨.non, H', J.os, J.bare, J.base, J.hok, rfl, q⟩
    | .brk, hs => obtain ⟨_, _, _, q⟩ := hs; exact q.elim
    | .cont, hs => obtain ⟨_, _, _, q⟩ := hs; exact q.elim
end
section
variable {w : Wd} {α α' : Nat → Addr} {m m' : Hm} {H H' : Hp} {n n' : Nat}
theorem KvR.lts {kvs : List (D × D)} {ks : List (Key × V)} (h : KvR w α H n kvs ks) : ∀ p ∈ kvs, p.2.lt n := by
  induction h with
  | nil => intro p hp; cases hp
  | cons h1 h2 h3 ih =>
    intro p hp
    rcases List.mem_cons.mp hp with z | z
    · subst z; exact h2
    · exact ih p z
theorem KvR.shrink {kvs : List (D × D)} {ks : List (Key × V)} (h : KvR w α' H' n' kvs ks) : (∀ p ∈ kvs, p.2.lt n) → KvR w α' H' n kvs ks := by
  induction h with
  | nil => intro _; exact .nil
  | cons h1 h2 h3 ih => exact fun q => .cons h1 (q (_, _) List.mem_cons_self) (ih fun p hp => q p (List.mem_cons_of_mem _ hp))
theorem ObR.shrink {a b : Addr} {o : Ob} (h : ObR w α' n' H' a o) (q : ObR w α n H b o) : ObR w α' n H' a o := by
  cases o with
  | lst ds =>
    obtain ⟨vs, h1, h2, h3, _⟩ := h
    obtain ⟨_, _, _, _, l⟩ := q
    exact ⟨vs, h1, h2, h3, l⟩
  | dct kvs =>
    obtain ⟨ks, h1, h2, h3⟩ := h
    obtain ⟨_, _, q2, _⟩ := q
    exact ⟨ks, h1, h2.shrink q2.lts, h3⟩
  | ins c fs => exact h.elim
/-- the new things that nobody knows are forgotten -/
theorem gc_ok {d : D} (r : Rl w α m H) (x : Ext α m.length H α' m'.length H') (r' : Rl w α' m' H') (hd : d.lt m'.length) :
    Ext α m.length H α' (gc m m' d).length H' ∧ Rl w α' (gc m m' d) H' ∧ d.lt (gc m m' d).length := by
  unfold gc
  by_cases c : m'.take m.length = m ∧ d.lt m.length
  · rw [if_pos c]
    refine ⟨⟨Nat.le_refl _, x.agree, fun b o e h => ?_, x.mapped, fun i hi => x.mapped' i (Nat.lt_of_lt_of_le hi x.le)⟩, ⟨fun i j hi hj => r'.inj i j (Nat.lt_of_lt_of_le hi x.le) (Nat.lt_of_lt_of_le hj x.le), fun i o e => ?_⟩, c.2⟩
    · obtain ⟨h1, h2⟩ := x.keep b o e h
      exact ⟨h1, fun i hi => h2 i (Nat.lt_of_lt_of_le hi x.le)⟩
    · have hi := (List.getElem?_eq_some_iff.mp e).1
      have e' : m'[i]? = some o := by
        rw [← c.1, List.getElem?_take_of_lt hi] at e
        exact e
      exact (r'.objs i o e').shrink (r.objs i o e)
  · rw [if_neg c]
    exact ⟨x, r', hd⟩
theorem startD_ok {N : List Str} {ds : List D} {vs : List V} (q : RepL w α H ds vs) (l : ltAll n ds) : EnvR w α n H (startD N.length ds) (L2.start N vs) := by
  have e := RepL.length _ _ q
  unfold startD L2.start
  refine ⟨by simp [e], fun i d h => ?_⟩
  by_cases hi : i < ds.length
  · rw [List.getElem?_append_left (by simpa using hi), List.getElem?_map] at h
    cases hd : ds[i]? with
    | none => rw [hd] at h; cases h
    | some c =>
      rw [hd] at h
      cases h
      obtain ⟨v, h1, h2⟩ := q.get hd
      refine ⟨v, ?_, h2, ltAll_get l hd⟩
      rw [List.getElem?_append_left (by simpa [← e] using hi), List.getElem?_map, h1]
      rfl
  · rw [List.getElem?_append_right (by simpa using Nat.le_of_not_lt hi), List.getElem?_replicate] at h
    split at h <;> cases h
theorem finish_ok {o : O} {Q : VK} {E : XK} (r : Rl w α m H) (h : Out w (pD w) α m.length H Q E (finish m o)) : OutS w (fun cls d _ H' => E cls d H') α m.length H ⟨fun _ H' => Q .non H', Q, fun _ _ => False, fun _ _ => False⟩ o := by
  have nl : ∀ k, Mp.D.non.lt k := fun k => by unfold Mp.D.lt; trivial
  cases o with
  | nx ρ m' =>
    intro α' H' σ' x r' _
    obtain ⟨x2, r2, l2⟩ := gc_ok (d := .non) r x r' (nl _)
    exact h α' H' .non x2 r2 ⟨by unfold Rep; rfl, nl _⟩
  | rt d m' =>
    intro α' H' v x r' p l
    obtain ⟨x2, r2, l2⟩ := gc_ok r x r' l
    exact h α' H' v x2 r2 ⟨p, l2⟩
  | bk ρ m' => exact h.elim
  | ct ρ m' => exact h.elim
  | exc e ρ m' =>
    intro α' H' σ' c d x r' _ q
    obtain ⟨x2, r2, l2⟩ := gc_ok (d := .non) r x r' (nl _)
    exact h α' H' c d x2 r2 q
  | bad => exact h.elim
end

/-! ### a table -/
structure DefE where
  np : Nat
  N : List Str
  body : List S
  st : Stmt
  nam : Str
structure Prg where
  nm : Nat → Str
  con : Nat → Option D
  isExc : Nat → Bool
  defs : Nat → Option DefE
def Prg.tab (p : Prg) : Tab := ⟨p.con, fun c k => if c = 0 then (p.defs k).map fun d => ⟨d.np, d.N.length, d.body⟩ else none⟩
def Prg.cfg (p : Prg) (N : List Str) : Cfg := ⟨N, p.nm, fun c k => if c = 0 then (p.defs k).map (·.np) else none, fun k => (p.con k).isSome, p.isExc⟩
/-- what the top must have left of a def -/
structure DefAt (p : Prg) (w : Wd) (k : Nat) (d : DefE) : Prop where
  ex : ∃ f fd ps, w.mg (w.nm k) = some (.ref f) ∧ Fun w.K d.nam d.nam d.st f fd ∧ FnScope d.N ps (defScope d.st) ∧ Binds w.K fd ps [] ∧ ps.length = d.np
  chk : chkSs (p.cfg d.N) d.body (defScope d.st) (defBody d.st) = true
structure World0 (p : Prg) (w : Wd) : Prop where
  nm : w.nm = p.nm
  boot : ∀ x ∈ boots, w.mg x = none
  cons : ∀ k d, p.con k = some d → ∃ u v, w.mg (w.nm k) = some u ∧ RelV v u ∧ (∀ α H, Rep w α H d v) ∧ ∀ n, d.lt n
  excs : ∀ k, p.isExc k = true → ∃ C, w.mg (w.nm k) = some (.ref C) ∧ PySem.W.excIn w.K C [.type "ValueError", .type "Exception", .type "BaseException", .type "object"] "ValueError.__new__" = true ∧ PySem.W.keepIn w.K (.ref C) = true ∧
    PySem.W.subIn w.K (.ref C) (.type "BaseException") = some true ∧ PySem.W.typeIn w.K (.ref C) = some (.type "type")
  defs : ∀ k d, p.defs k = some d → DefAt p w k d
theorem prg_ok {p : Prg} {w : Wd} (Z : World0 p w) (P : Program) (wo : World) (base : Heap) : ∀ (n : Nat) (k : Nat) (d : DefE), p.defs k = some d →
    ∀ f fd ps, w.mg (w.nm k) = some (.ref f) → Fun w.K d.nam d.nam d.st f fd → FnScope d.N ps (defScope d.st) → ps.length = d.np → FnG P wo w.K w.mg base n f fd ps (spOf w d.np (callF p.tab n 0 k)) := by
  intro n
  induction n with
  | zero =>
    intro k d hk f fd ps hm F S hp
    refine ⟨fun vs H Q E h => ?_, fun A outer s H args us vs Q E hr hg e0 hb r h => ?_⟩
    · obtain ⟨α, m, ds, h1, _, h2, _⟩ := h
      rw [← RepL.length _ _ h2, h1, hp]
    · obtain ⟨α, m, ds, _, _, _, _, h⟩ := h
      exact (show False from h).elim
  | succ n ih =>
    intro k d hk f fd ps hm F S hp
    refine fnG_of F S (fun vs H Q E h => ?_) fun cdv A outer s H vs Q E hr hg h => ?_
    · obtain ⟨α, m, ds, h1, _, h2, _⟩ := h
      rw [← RepL.length _ _ h2, h1, hp]
    · obtain ⟨α, m, ds, h1, rl, q, l, o⟩ := h
      have hd := Z.defs k d hk
      have G : Good (p.cfg d.N) w (callF p.tab n) p.tab.con n (cxOf (L2.CX P wo) P wo w.K w.mg base d.N d.nam (defScope d.st) f cdv A outer s H E) :=
        ⟨rfl, rfl, Z.nm, rfl, S.nd, rfl, hg, hr, Z.boot, fun j hj => by
            have hj : (p.con j).isSome = true := hj
            obtain ⟨c, hc⟩ := Option.isSome_iff_exists.mp hj
            obtain ⟨u, v, h⟩ := Z.cons j c hc
            exact ⟨c, u, v, hc, h⟩, Z.excs, fun j np hj => by
            have hj : (if 0 = 0 then (p.defs j).map (·.np) else none) = some np := hj
            rw [if_pos rfl] at hj
            cases hdj : p.defs j with
            | none => rw [hdj] at hj; cases hj
            | some e =>
              rw [hdj] at hj
              cases hj
              obtain ⟨f', fd', ps', g1, g2, g3, g4, g5⟩ := (Z.defs j e hdj).ex
              exact ⟨f', fd', ps', g1, g2.kp, g4, g5, ih j e hdj f' fd' ps' g1 g2 g3 g5⟩⟩
      have GS : GoodS (cxOf (L2.CX P wo) P wo w.K w.mg base d.N d.nam (defScope d.st) f cdv A outer s H E) := by
        refine ⟨passes_of rfl, fun x hx => ⟨?_, .inl rfl⟩, S.kind⟩
        show _ ∨ _
        split at hx
        · rename_i e; exact .inl e
        · rename_i e; exact .inr e
        · cases hx
      refine ⟨_, soundSs d.body _ G GS _ (takes_of rfl rfl rfl rfl) (defBody d.st) hd.chk, α, startD d.N.length ds, m, rl, startD_ok q l, ?_⟩
      have e1 : callF p.tab (n + 1) 0 k ds m = grd (ds.length = d.np) (finish m (exSs (callF p.tab n) p.tab.con d.body (startD d.N.length ds) m)) := by
        show (match p.tab.def_ 0 k with | none => Mp.R.bad | some f => grd (ds.length = f.np) (finish m (exSs (callF p.tab n) p.tab.con f.body (startD f.ns ds) m))) = _
        have : p.tab.def_ 0 k = some ⟨d.np, d.N.length, d.body⟩ := by
          show (if 0 = 0 then (p.defs k).map _ else none) = _
          rw [if_pos rfl, hk]; rfl
        rw [this]
      rw [e1] at o
      exact finish_ok rl o.grd_.2
end Mp
end
section
/-! Mp: a law of the table. -/
namespace Mp
open L2 PySem PySem.Spec PyProof.Rows
section
variable {P : Program} {wo : World} {K : PySem.W.Frag} {mg mb : Str → Option Value}
/-- a state in which nothing but the script is tracked -/
structure Lone (P : Program) (wo : World) (K : PySem.W.Frag) (s : Shared) (H : Hp) (a : Addr) (xs : List V) : Prop where
  only : ∀ b u, H b = some u → b = a ∧ ∃ o ys, u = .frz o (.lst ys)
  none : ∀ b o, K.lookup b = some o → H b = none
  sq : SqF K H a xs
  hok : HOk P wo H s.heap
theorem lone_of {s : Shared} {a : Addr} {vs : List Value} {ns : List Int} (hK : K.In s.heap) (ha : s.heap.get? a = some { cls := .type "list", data := .seq vs.toArray }) (hi : IntsAre vs ns) (hl : ns.length ≤ sizeLine) : ∃ H, Lone P wo K s H a (ns.map V.int) := by
  have rv : Vals (ns.map V.int) vs := vals_ints hi
  have lv : vs.length = ns.length := hi.length
  cases hk : K.lookup a with
  | some o =>
    have e := hK a o hk
    rw [ha] at e
    cases e
    refine ⟨fun _ => none, fun b u z => ?_, fun _ _ _ => rfl, .inr ⟨_, _, _, hk, rfl, rfl, rfl, ?_, by simpa using rv⟩, fun b u z => ?_⟩
    · cases (show (Option.none : Option HO) = some u from z)
    · rw [List.size_toArray, lv]; exact hl
    · cases (show (Option.none : Option HO) = some u from z)
  | none =>
    have at_ : ∀ {b : Addr} {u : HO}, upd (fun _ => none) a (.frz { cls := .type "list", data := .seq vs.toArray } (.lst (ns.map V.int))) b = some u → b = a ∧ u = .frz { cls := .type "list", data := .seq vs.toArray } (.lst (ns.map V.int)) := fun {b u} z => by
      by_cases hb : b = a
      · subst hb; rw [upd_same] at z; cases z; exact ⟨rfl, rfl⟩
      · rw [upd_ne hb] at z; cases z
    refine ⟨upd (fun _ => none) a (.frz { cls := .type "list", data := .seq vs.toArray } (.lst (ns.map V.int))), fun b u z => ?_, fun b o z => ?_, .inl ⟨_, upd_same⟩, fun b u z => ?_⟩
    · obtain ⟨h1, h2⟩ := at_ z
      exact ⟨h1, _, _, h2⟩
    · refine upd_ne fun e => ?_
      subst e
      rw [hk] at z; cases z
    · obtain ⟨h1, h2⟩ := at_ z
      subst h1
      subst h2
      exact ⟨ha, by rw [List.length_map]; exact hl, vs, _, rv, ha⟩
/-- the law's def, called by nobody -/
theorem call_lone {k : Nat} {fa a : Addr} {fd : FuncData} {x : Str} {sp : Sp} {s : Shared} {xs : List V} {H : Hp} (hK : K.In s.heap) (hns : s.heap.Ns mainGlobals mg) (hb : s.heap.Ns builtinsNs mb) (hbb : ∀ x : Str, x ≠ "__name__" → mb x = bootBuiltins x)
    (hlim : s.heap.NoLimit) (hg : s.gens = #[]) (ha : ∃ n its, s.heap.get? a = some { cls := .type "list", data := .seq its n }) (hr : Room k callerA) (L : Lone P wo K s H a xs)
    (F : ∀ base : Heap, FnG P wo K mg base k fa fd [x] sp) (hbind : ∀ (s : Shared) (u : Value), BindsTo s fd ⟨[u], []⟩ [(x, u)]) (h : sp [.ref a] H (fun v _ => v = .bl true) fun _ _ _ => False) :
    codeAny (model P wo) callerA (.call (.ref fa) ⟨[.ref a], []⟩) (fun r s' => r = .ok (.ret (.bool true)) ∧ OldK s.heap s'.heap ∧ s'.os = s.os ∧ AllBare s'.gens) s := by
  obtain ⟨n0, its0, ha⟩ := ha
  have free : ∀ {b : Addr} {o : Obj} {es : Array DictEntry} {ep : Nat}, s.heap.get? b = some o → o.data = .dict es ep → H b = none := fun {b o es ep} e d => by
    cases q : H b with
    | none => rfl
    | some u =>
      have z := (L.only b u q).1
      subst z
      rw [ha] at e
      cases e
      cases (show Data.seq its0 n0 = Data.dict es ep from d)
  have ns' : ∀ {b : Addr} {m : Str → Option Value}, s.heap.Ns b m → (hidT s.heap H).Ns b m := fun ⟨o, es, ep, e, d, r⟩ => ⟨o, es, ep, hidT_get e (free e d), d, r⟩
  have M : Mod K mg (hidT s.heap H) := by
    obtain ⟨mc, c1, c2⟩ := hlim
    exact ⟨fun b o e => hidT_get (hK b o e) (L.none b o e), ns' hns, ⟨mb, ns' hb, hbb⟩, mc, ns' c1, c2⟩
  have nomem : ∀ b : Addr, b ∉ frs [] := fun b z => by cases z
  have e0 : Env0 P wo K mg (hidT s.heap H) callerA [] s H := ⟨rfl, M, fun b o e => of_hidT e, Nat.le_of_eq (hidT_size _ _), trivial, fun b z => (nomem b z).elim, L.hok, .of_eq hg⟩
  refine codeAny_mono ((F (hidT s.heap H)).run callerA [] s H _ [.ref a] [.ref a] _ _ hr rfl e0 (hbind s (.ref a)) (.cons rfl .nil) h) fun res s' q => ?_
  match res, q with
  | .error e, q =>
    obtain ⟨_, _, _, _, _, _, _, _, _, _, _, _, z⟩ := q
    exact z.elim
  | .ok .next, q => exact q.elim
  | .ok .brk, q => exact q.elim
  | .ok .cont, q => exact q.elim
  | .ok (.ret u), q =>
    obtain ⟨v, H', os, bare, un, hok', rv, e⟩ := q
    subst e
    cases (show u = Value.bool true from rv)
    refine ⟨rfl, OldK.of_keep fun b o e => ?_, os, bare⟩
    cases q : H b with
    | none => exact un.keep b o e q (nomem b) (by simp)
    | some u =>
      obtain ⟨_, ob, ys, z⟩ := L.only b u q
      subst z
      have e1 := (L.hok b _ q).1
      rw [e] at e1
      cases e1
      exact (hok' b _ (un.frzs b o _ q)).1
end
/-- the goal that k_head leaves, from what the table's law comes to -/
theorem mp_walk {l : PySem.W.OpenLaw} {q : Program} {loose : List Str} {XP : (Str → Option Value) → Heap → Prop} {YP : World → Heap → Prop} {d : DefRec} {K : Params → PySem.W.Frag} {x : Str} {lev : Nat} (p : Prg) (kl : Nat) (dl : DefE)
    (hn : l.most = some 63) (hdf : d.params.defaults = []) (hr : Room lev callerA) (hY : ∀ (w : World) (h : Heap), YP w h → (K w.params).In h) (hl : p.defs kl = some dl) (h1 : dl.np = 1) (hnm : p.nm kl = d.name)
    (F : ∀ (w : World) (mg : Str → Option Value) (h : Heap), (K w.params).In h → h.Ns mainGlobals mg → World0 p ⟨K w.params, mg, p.nm⟩ ∧ FnScope dl.N [x] (defScope dl.st) ∧
      ∀ fd f, Fun (K w.params) dl.nam dl.nam dl.st f fd → ∀ (s : Shared) (u : Value), BindsTo s fd ⟨[u], []⟩ [(x, u)])
    (law : ∀ ns : List Int, ns.length ≤ 63 → ∃ m, callF p.tab lev 0 kl [.frl (ns.map .int)] [] = .ok (.bl true) m) : PySem.W.WalkO q loose XP YP l.row.toRowW d [] (fun f vs => PySem.call f vs) := by
  refine Att.attach_call hn hdf fun w s₀ s mg mb fa o pm cd doc a vs ns G Y ho hd hcd hmg hobj hints hlen hg => ?_
  have KX := hY w _ Y
  obtain ⟨Z, S, B⟩ := F w mg _ KX G.T.g
  obtain ⟨f, fd, ps, e1, e2, e3, e4, e5⟩ := (Z.defs kl dl hl).ex
  have e6 : mg (p.nm kl) = some (.ref f) := e1
  rw [hnm, hmg] at e6
  cases e6
  obtain ⟨H, L⟩ := lone_of (P := l.prog) (wo := w) KX hobj hints (Nat.le_trans hlen (by rw [sizeLine_eq]; decide))
  refine call_lone KX G.T.g G.T.b G.T.builtins G.T.nolimit hg ⟨_, _, hobj⟩ hr L (fun base => prg_ok Z l.prog w base lev kl dl hl _ fd [x] e1 e2 S (by rw [h1]; rfl)) (B fd _ e2) ?_
  obtain ⟨m, e⟩ := law ns hlen
  refine ⟨fun _ => 0, [], [.frl (ns.map .int)], by rw [h1]; rfl, ⟨fun i j hi => absurd hi (Nat.not_lt_zero i), fun i o e => by simp at e⟩, ?_, ?_, ?_⟩
  · unfold RepL
    refine ⟨.ref a, [], rfl, ?_, by unfold RepL; rfl⟩
    unfold Rep
    exact ⟨a, _, rfl, L.sq, by rw [List.length_map]; exact Nat.le_trans hlen (by rw [sizeLine_eq]; decide), repL_ints ns⟩
  · unfold ltAll D.lt
    exact ⟨lt_ints ns, by unfold ltAll; trivial⟩
  · rw [e]
    intro α' H' v _ _ pv
    have := pv.1
    unfold Rep at this
    exact this
end Mp
end
section
/-! Mp: a table's facts, one by one. -/
namespace Mp
open L2 PySem PySem.Spec PyProof.Rows
def AllP {α : Type} (P : α → Prop) : List α → Prop
  | [] => True
  | x :: r => P x ∧ AllP P r
theorem AllP.get {α : Type} {P : α → Prop} : ∀ {L : List α}, AllP P L → ∀ x ∈ L, P x
  | [], _, x, hx => by cases hx
  | y :: r, h, x, hx => by
    rcases List.mem_cons.mp hx with z | z
    · subst z; exact h.1
    · exact AllP.get h.2 x z
theorem lookup_mem {α : Type} {k : Nat} {d : α} : ∀ {L : List (Nat × α)}, L.lookup k = some d → (k, d) ∈ L
  | [], h => by cases h
  | (j, e) :: r, h => by
    rw [List.lookup_cons] at h
    cases hb : k == j with
    | true =>
      rw [hb] at h
      cases h
      have : k = j := by simpa using hb
      subst this
      exact List.mem_cons_self
    | false => rw [hb] at h; exact List.mem_cons_of_mem _ (lookup_mem h)
/-- a constant of the top -/
def conOk (K : PySem.W.Frag) : Value → D → Bool
  | .int i _, .int j => i == j
  | .str x _, .str y => decide (x = y) && decide (x.length ≤ 1000)
  | .bool b, .bl c => b == c
  | .none, .non => true
  | _, _ => false
def ConAt (w : Wd) (k : Nat) (d : D) : Prop := ∃ u v, w.mg (w.nm k) = some u ∧ RelV v u ∧ (∀ α H, Rep w α H d v) ∧ ∀ n, d.lt n
theorem con_mk {K : PySem.W.Frag} {mg : Str → Option Value} {nm : Nat → Str} {k : Nat} {u : Value} {d : D} (h : mg (nm k) = some u) (r : conOk K u d = true) : ConAt ⟨K, mg, nm⟩ k d := by
  unfold conOk at r
  split at r
  · rename_i i t j
    have : i = j := by simpa using r
    subst this
    exact ⟨_, .int i, h, ⟨t, rfl⟩, fun _ _ => by unfold Rep; rfl, fun _ => by unfold D.lt; trivial⟩
  · rename_i x t y
    simp only [Bool.and_eq_true, decide_eq_true_eq] at r
    obtain ⟨rfl, hz⟩ := r
    exact ⟨_, .str x, h, ⟨t, rfl⟩, fun _ _ => by unfold Rep; exact ⟨rfl, Nat.le_trans hz (by rw [sizeLine_eq]; decide)⟩, fun _ => by unfold D.lt; trivial⟩
  · rename_i b c
    have : b = c := by simpa using r
    subst this
    exact ⟨_, .bl b, h, rfl, fun _ _ => by unfold Rep; rfl, fun _ => by unfold D.lt; trivial⟩
  · exact ⟨_, .non, h, rfl, fun _ _ => by unfold Rep; rfl, fun _ => by unfold D.lt; trivial⟩
  · cases r
theorem con_all {w : Wd} {L : List (Nat × D)} (h : AllP (fun p => ConAt w p.1 p.2) L) : ∀ k d, L.lookup k = some d → ConAt w k d := fun k d e => h.get (k, d) (lookup_mem e)
def ExcAt (w : Wd) (k : Nat) : Prop := ∃ C, w.mg (w.nm k) = some (.ref C) ∧ PySem.W.excIn w.K C [.type "ValueError", .type "Exception", .type "BaseException", .type "object"] "ValueError.__new__" = true ∧ PySem.W.keepIn w.K (.ref C) = true ∧
    PySem.W.subIn w.K (.ref C) (.type "BaseException") = some true ∧ PySem.W.typeIn w.K (.ref C) = some (.type "type")
theorem exc_all {w : Wd} {L : List Nat} (h : AllP (fun k => ExcAt w k) L) : ∀ k, L.contains k = true → ExcAt w k := fun k e => h.get k (by simpa using e)
theorem def_mk {p : Prg} {w : Wd} {k : Nat} {d : DefE} {f : Addr} {fd : FuncData} {ps : List Str} (hm : w.mg (w.nm k) = some (.ref f)) (F : Fun w.K d.nam d.nam d.st f fd) (S : FnScope d.N ps (defScope d.st)) (B : Binds w.K fd ps [])
    (c : chkSs (p.cfg d.N) d.body (defScope d.st) (defBody d.st) = true) (hp : ps.length = d.np := by rfl) : DefAt p w k d := ⟨⟨f, fd, ps, hm, F, S, B, hp⟩, c⟩
theorem def_all {p : Prg} {w : Wd} {L : List (Nat × DefE)} (h : AllP (fun q => DefAt p w q.1 q.2) L) : ∀ k d, L.lookup k = some d → DefAt p w k d := fun k d e => h.get (k, d) (lookup_mem e)
end Mp
end
section
/-! Mp: running codes by hand. -/
namespace Mp
open PySem
section
variable {α β : Type} {call : Calls} {con : Nat → Option D} {ρ : Rho} {m : Hm}
@[simp] theorem bind_ok {a : α} {f : α → Hm → R β} : (R.ok a m).bind f = f a m := rfl
@[simp] theorem bind_exc {e : Ex} {f : α → Hm → R β} : (R.exc e m : R α).bind f = .exc e m := rfl
@[simp] theorem toO_ok {a : α} {f : α → Hm → O} : (R.ok a m).toO ρ f = f a m := rfl
@[simp] theorem toO_exc {e : Ex} {f : α → Hm → O} : (R.exc e m : R α).toO ρ f = .exc e ρ m := rfl
@[simp] theorem then_nx {k : Rho → Hm → O} : (O.nx ρ m).andThen k = k ρ m := rfl
@[simp] theorem then_rt {d : D} {k : Rho → Hm → O} : (O.rt d m).andThen k = .rt d m := rfl
@[simp] theorem then_exc {e : Ex} {k : Rho → Hm → O} : (O.exc e ρ m).andThen k = .exc e ρ m := rfl
@[simp] theorem turned_nx {k : Rho → Hm → O} : (O.nx ρ m).turned k = k ρ m := rfl
@[simp] theorem turned_rt {d : D} {k : Rho → Hm → O} : (O.rt d m).turned k = .rt d m := rfl
@[simp] theorem calm_ok {a : α} : (R.ok a m).calm = .ok a m := rfl
@[simp] theorem not_ok {b : Bool} : (R.ok b m).not = .ok (!b) m := rfl
theorem grd_pos {p : Prop} {r : R α} (h : p) : grd p r = r := if_pos h
theorem grdO_pos {p : Prop} {r : O} (h : p) : grdO p r = r := if_pos h
@[simp] theorem grd_true {r : R α} : grd True r = r := if_pos trivial
@[simp] theorem grdO_true {r : O} : grdO True r = r := if_pos trivial
@[simp] theorem lay_d {x : D} : lay (.d x) m = .ok x m := rfl
@[simp] theorem lay_fl {xs : List D} : lay (.fl xs) m = .ok (.ref m.length) (m ++ [.lst xs]) := rfl
@[simp] theorem boolOf_bl {b : Bool} {f : Bool → Hm → R α} : boolOf (.d (.bl b)) m f = f b m := rfl
@[simp] theorem onStr_str {x : Str} {f : Str → R α} : onStr (.d (.str x)) f = f x := rfl
@[simp] theorem chk_nil : Chk.ok [] m = True := by simp [Chk.ok]
/-- expressions -/
@[simp] theorem v_var {i : Nat} : evA call con (.var i) ρ m = (match ρ[i]? with | some (some d) => .ok (.d d) m | _ => .bad) := by rw [evA] <;> rfl
theorem v_at {i : Nat} {d : D} (h : ρ[i]? = some (some d)) : evA call con (.var i) ρ m = .ok (.d d) m := by rw [evA, h]
@[simp] theorem v_non : evA call con .non ρ m = .ok (.d .non) m := by rw [evA]
@[simp] theorem v_bl {b : Bool} : evA call con (.bl b) ρ m = .ok (.d (.bl b)) m := by rw [evA]
@[simp] theorem v_int {i : Int} : evA call con (.int i) ρ m = .ok (.d (.int i)) m := by rw [evA]
@[simp] theorem v_str {x : Str} : evA call con (.str x) ρ m = .ok (.d (.str x)) m := by rw [evA]
@[simp] theorem v_glb {k : Nat} : evA call con (.glb k) ρ m = (match con k with | some d => .ok (.d d) m | none => .bad) := by rw [evA] <;> rfl
@[simp] theorem v_tup {es : List C} : evA call con (.tup es) ρ m = (evs call con es ρ m).bind fun ds m => grd (ds.length ≤ sizeLine) (.ok (.d (.tup ds)) m) := by rw [evA]
@[simp] theorem v_lst {es : List C} : evA call con (.lst es) ρ m = (evs call con es ρ m).bind fun ds m => grd (ds.length ≤ sizeLine) (.ok (.fl ds) m) := by rw [evA]
@[simp] theorem v_bin {op : Operator} {a b : C} : evA call con (.bin op a b) ρ m = (evA call con a ρ m).bind fun x m => (evA call con b ρ m).bind fun y m => binA op x y m := by rw [evA]
@[simp] theorem v_cmp {op : CmpOp} {a b : C} : evA call con (.cmp op a b) ρ m = (evA call con a ρ m).bind fun x m => (evA call con b ρ m).bind fun y m => (cmpA op x y m).bind fun b m => .ok (.d (.bl b)) m := by rw [evA]
@[simp] theorem v_cmp2 {op op' : CmpOp} {a b c : C} : evA call con (.cmp2 op op' a b c) ρ m = (evA call con a ρ m).bind fun x m => (evA call con b ρ m).bind fun y m => (cmpA op x y m).bind fun k m =>
      if k then (evA call con c ρ m).bind fun z m => (cmpA op' y z m).bind fun b m => .ok (.d (.bl b)) m else .ok (.d (.bl false)) m := by rw [evA]
@[simp] theorem v_and {es : List C} : evA call con (.and es) ρ m = (evAnd call con es ρ m).bind fun b m => .ok (.d (.bl b)) m := by rw [evA]
@[simp] theorem v_or {es : List C} : evA call con (.or es) ρ m = (evOr call con es ρ m).bind fun b m => .ok (.d (.bl b)) m := by rw [evA]
@[simp] theorem v_not {a : C} : evA call con (.not a) ρ m = (evA call con a ρ m).bind fun x m => boolOf x m fun b m => .ok (.d (.bl (!b))) m := by rw [evA]
@[simp] theorem v_ife {t a b : C} : evA call con (.ife t a b) ρ m = (evA call con t ρ m).bind fun x m => boolOf x m fun k m => if k then evA call con a ρ m else evA call con b ρ m := by rw [evA]
@[simp] theorem v_ix {a i : C} : evA call con (.ix a i) ρ m = (evA call con a ρ m).bind fun x m => (evA call con i ρ m).bind fun y m => ixA x y m := by rw [evA]
@[simp] theorem v_slc {a : C} {lo hi : Option C} : evA call con (.slc a lo hi) ρ m = (evA call con a ρ m).bind fun x m => (evO call con lo ρ m).bind fun l m => (evO call con hi ρ m).bind fun h m => slcA x l h m := by rw [evA]
@[simp] theorem v_call {k : Nat} {es : List C} : evA call con (.call k es) ρ m = (evs call con es ρ m).bind fun ds m => (call 0 k ds m).bind fun d m => .ok (.d d) m := by rw [evA]
@[simp] theorem v_bi {b : BI} {es : List C} : evA call con (.bi b es) ρ m = (evAs call con es ρ m).bind fun as m => biA b as m := by rw [evA]
@[simp] theorem v_join {o e : C} : evA call con (.join o e) ρ m = (evA call con o ρ m).bind fun x m => onStr x fun z => (evA call con e ρ m).bind fun y m => joinA z y m := by rw [evA]
@[simp] theorem v_split {o e : C} : evA call con (.split o e) ρ m = (evA call con o ρ m).bind fun x m => onStr x fun z => (evA call con e ρ m).bind fun y m => splitA z y m := by rw [evA]
@[simp] theorem v_app {o e : C} : evA call con (.app o e) ρ m = (evA call con o ρ m).bind fun x m => onLst x m fun i => ((evA call con e ρ m).bind lay).bind fun d m => appA i d m := by rw [evA]
@[simp] theorem v_isi {e : C} {t : Ty} : evA call con (.isi e t) ρ m = (evA call con e ρ m).bind fun x m => match isiA x t m with | some b => .ok (.d (.bl b)) m | none => .bad := by rw [evA] <;> rfl
/-- an element of a comprehension -/
noncomputable def elt1 (call : Calls) (con : Nat → Option D) (own : List Nat) (elt : C) (tg : Tg) (ifs : List C) (ρ : Rho) (d : D) (m : Hm) : R (Option D) := match asg tg d (wipeD ρ own) with
  | none => .bad
  | some ρ' => (evAnd call con ifs ρ' m).bind fun k m => if k then ((evA call con elt ρ' m).bind lay).bind fun d m => .ok (some d) m else .ok none m
@[simp] theorem v_comp {own : List Nat} {elt : C} {tg : Tg} {ik : IK} {is ifs : List C} : evA call con (.comp own elt tg ik is ifs) ρ m = (evAs call con is ρ m).bind fun as m => (itA ik as m).bind fun w m =>
    (compD w.2 (elt1 call con own elt tg ifs ρ) w.1 m).calm.bind fun ds m => .ok (.fl ds) m := by rw [evA]; rfl
@[simp] theorem v_dnew : evA call con .dnew ρ m = .ok (.d (.ref m.length)) (m ++ [.dct []]) := by rw [evA]
@[simp] theorem v_lenset {e : C} : evA call con (.lenset e) ρ m = (evA call con e ρ m).bind fun x m => lensetA x m := by rw [evA]
@[simp] theorem vs_nil : evs call con [] ρ m = .ok [] m := by rw [evs]
@[simp] theorem vs_cons {c : C} {cs : List C} : evs call con (c :: cs) ρ m = (evA call con c ρ m).bind fun a m => (lay a m).bind fun d m => (evs call con cs ρ m).bind fun ds m => .ok (d :: ds) m := by rw [evs]
@[simp] theorem vas_nil : evAs call con [] ρ m = .ok [] m := by rw [evAs]
@[simp] theorem vas_cons {c : C} {cs : List C} : evAs call con (c :: cs) ρ m = (evA call con c ρ m).bind fun a m => (evAs call con cs ρ m).bind fun as m => .ok (a :: as) m := by rw [evAs]
@[simp] theorem vand_nil : evAnd call con [] ρ m = .ok true m := by rw [evAnd]
@[simp] theorem vand_cons {c : C} {cs : List C} : evAnd call con (c :: cs) ρ m = (evA call con c ρ m).bind fun a m => boolOf a m fun b m => if b then evAnd call con cs ρ m else .ok false m := by rw [evAnd]
@[simp] theorem vor_nil : evOr call con [] ρ m = .ok false m := by rw [evOr]
@[simp] theorem vor_cons {c : C} {cs : List C} : evOr call con (c :: cs) ρ m = (evA call con c ρ m).bind fun a m => boolOf a m fun b m => if b then .ok true m else evOr call con cs ρ m := by rw [evOr]
@[simp] theorem vo_none : evO call con none ρ m = .ok none m := by rw [evO]
@[simp] theorem vo_some {c : C} : evO call con (some c) ρ m = (evA call con c ρ m).bind fun a m => match a with | .d (.int i) => .ok (some i) m | _ => .bad := by rw [evO] <;> rfl
@[simp] theorem vb {c : C} : evB call con c ρ m = (evA call con c ρ m).bind fun a m => boolOf a m .ok := rfl
@[simp] theorem ve {c : C} : ev call con c ρ m = (evA call con c ρ m).bind lay := rfl
/-- statements -/
@[simp] theorem x_nil : exSs call con [] ρ m = .nx ρ m := by rw [exSs]
theorem x_cons {s : S} {ss : List S} : exSs call con (s :: ss) ρ m = (exS call con s ρ m).andThen (exSs call con ss) := by rw [exSs]
theorem x_one {s : S} : exSs call con [s] ρ m = exS call con s ρ m := by
  rw [exSs]
  cases exS call con s ρ m <;> simp [O.andThen]
@[simp] theorem x_expr {c : C} : exS call con (.expr c) ρ m = (evA call con c ρ m).toO ρ fun _ m => .nx ρ m := by rw [exS]
@[simp] theorem x_asg {t : Tg} {c : C} : exS call con (.asg t c) ρ m = ((evA call con c ρ m).bind lay).toO ρ fun d m => asgO t d ρ fun ρ => .nx ρ m := by rw [exS]; rfl
@[simp] theorem x_store {o i e : C} : exS call con (.store o i e) ρ m = ((evA call con e ρ m).bind lay).toO ρ fun d m => (evA call con o ρ m).toO ρ fun x m => (evA call con i ρ m).toO ρ fun y m => (storeA x y d m).toO ρ fun _ m => .nx ρ m := by rw [exS]; rfl
@[simp] theorem x_ife {t : C} {a b : List S} : exS call con (.ife t a b) ρ m = ((evA call con t ρ m).bind fun a m => boolOf a m .ok).toO ρ fun k m => if k then exSs call con a ρ m else exSs call con b ρ m := by rw [exS]; rfl
@[simp] theorem x_ret {c : C} : exS call con (.ret c) ρ m = ((evA call con c ρ m).bind lay).toO ρ fun d m => .rt d m := by rw [exS]; rfl
@[simp] theorem x_retN : exS call con .retN ρ m = .rt .non m := by rw [exS]
theorem x_for {tg : Tg} {ik : IK} {is : List C} {body : List S} : exS call con (.for_ tg ik is body) ρ m = (evAs call con is ρ m).toO ρ fun as m => (itA ik as m).toO ρ fun w m => forD w.2 (fun d ρ m => asgO tg d ρ fun ρ => exSs call con body ρ m) w.1 ρ m := by rw [exS]
@[simp] theorem x_raise {k : Nat} : exS call con (.raise k) ρ m = .exc ⟨k, []⟩ ρ m := by rw [exS]
@[simp] theorem asgO_nm {i : Nat} {d : D} {k : Rho → O} : asgO (.nm i) d ρ k = k (ρ.set i (some d)) := by simp [asgO, asg]
theorem call_of {T : Tab} {n k : Nat} {ds : List D} {f : Def} (h : T.def_ 0 k = some f) (hl : ds.length = f.np) : callF T (n + 1) 0 k ds m = finish m (exSs (callF T n) T.con f.body (startD f.ns ds) m) := by
  show (match T.def_ 0 k with | none => R.bad | some f => grd (ds.length = f.np) (finish m (exSs (callF T n) T.con f.body (startD f.ns ds) m))) = _
  rw [h]
  exact if_pos hl
@[simp] theorem fin_rt {d : D} {m' : Hm} : finish m (.rt d m') = .ok d (gc m m' d) := rfl
@[simp] theorem fin_nx {m' : Hm} : finish m (.nx ρ m') = .ok .non (gc m m' .non) := rfl
theorem gc_app {g : Hm} {d : D} (h : d.lt m.length) : gc m (m ++ g) d = m := by
  unfold gc
  rw [if_pos ⟨by simp, h⟩]
@[simp] theorem gc_self {d : D} : gc m m d = m := by
  unfold gc
  split <;> rfl
/-- comprehensions over pure elements -/
theorem compD_pure {γ : Type} {chk : Chk} {f : D → Hm → R (Option D)} {e : γ → D} {h : γ → Option D} (hc : chk.ok m) : ∀ (xs : List γ), (∀ x ∈ xs, f (e x) m = .ok (h x) m) → compD chk f (xs.map e) m = .ok (xs.filterMap h) m
  | [], _ => by simp [compD, grd_pos hc]
  | x :: xs, hx => by
    rw [List.map_cons, compD, grd_pos hc, hx x (by simp), bind_ok, compD_pure hc xs fun y hy => hx y (by simp [hy]), bind_ok, List.filterMap_cons]
    cases h x <;> rfl
theorem compD_map {γ : Type} {chk : Chk} {f : D → Hm → R (Option D)} {e : γ → D} {h : γ → D} (hc : chk.ok m) (xs : List γ) (hx : ∀ x ∈ xs, f (e x) m = .ok (some (h x)) m) : compD chk f (xs.map e) m = .ok (xs.map h) m := by
  rw [compD_pure (h := fun x => some (h x)) hc xs hx]
  congr 1
  induction xs with
  | nil => rfl
  | cons x xs ih => simp
theorem forD_inv {f : D → Rho → Hm → O} (I : Rho → Hm → Prop) : ∀ (xs : List D) {ρ : Rho} {m : Hm}, (∀ x ∈ xs, ∀ ρ m, I ρ m → ∃ ρ' m', f x ρ m = .nx ρ' m' ∧ I ρ' m') → I ρ m → ∃ ρ' m', forD [] f xs ρ m = .nx ρ' m' ∧ I ρ' m'
  | [], ρ, m, _, h => ⟨ρ, m, by simp [forD], h⟩
  | x :: xs, ρ, m, hx, h => by
    obtain ⟨ρ1, m1, e1, h1⟩ := hx x (by simp) ρ m h
    obtain ⟨ρ2, m2, e2, h2⟩ := forD_inv I xs (fun y hy => hx y (by simp [hy])) h1
    exact ⟨ρ2, m2, by rw [forD, chk_nil, grdO_true, e1, turned_nx, e2], h2⟩
end
end Mp
end
section
/-! Mp: operators and built-ins by hand. -/
namespace Mp
open PySem
section
variable {m : Hm}
/-- a loop's turn -/
noncomputable def lp (call : Calls) (con : Nat → Option D) (tg : Tg) (body : List S) (d : D) (ρ : Rho) (m : Hm) : O := asgO tg d ρ fun ρ => exSs call con body ρ m
theorem x_loop {call : Calls} {con : Nat → Option D} {ρ : Rho} {tg : Tg} {ik : IK} {is : List C} {body : List S} : exS call con (.for_ tg ik is body) ρ m = (evAs call con is ρ m).toO ρ fun as m => (itA ik as m).toO ρ fun w m => forD w.2 (lp call con tg body) w.1 ρ m := x_for
@[simp] theorem len_str {x : Str} : biA .len [.d (.str x)] m = .ok (.d (.int x.length)) m := rfl
@[simp] theorem len_tup {xs : List D} : biA .len [.d (.tup xs)] m = .ok (.d (.int xs.length)) m := rfl
@[simp] theorem len_frl {xs : List D} : biA .len [.d (.frl xs)] m = .ok (.d (.int xs.length)) m := rfl
@[simp] theorem len_fl {xs : List D} : biA .len [.fl xs] m = .ok (.d (.int xs.length)) m := rfl
theorem len_ref {i : Nat} {xs : List D} (h : m[i]? = some (.lst xs)) : biA .len [.d (.ref i)] m = .ok (.d (.int xs.length)) m := by
  have : lstAt m i = some xs := by simp [lstAt, h]
  show (match lstAt m i with | some xs => R.ok (A.d (.int xs.length)) m | none => .bad) = _
  rw [this]
@[simp] theorem bit_tup {xs : List D} : biA .tuple [.d (.tup xs)] m = .ok (.d (.tup xs)) m := rfl
@[simp] theorem bit_fl {xs : List D} : biA .tuple [.fl xs] m = .ok (.d (.tup xs)) m := rfl
@[simp] theorem bit_frl {xs : List D} : biA .tuple [.d (.frl xs)] m = .ok (.d (.tup xs)) m := rfl
theorem bit_ref {i : Nat} {xs : List D} (h : m[i]? = some (.lst xs)) : biA .tuple [.d (.ref i)] m = .ok (.d (.tup xs)) m := by
  have : lstAt m i = some xs := by simp [lstAt, h]
  show (match lstAt m i with | some xs => R.ok (A.d (.tup xs)) m | none => .bad) = _
  rw [this]
@[simp] theorem bil_tup {xs : List D} : biA .list [.d (.tup xs)] m = .ok (.fl xs) m := rfl
@[simp] theorem bil_fl {xs : List D} : biA .list [.fl xs] m = .ok (.fl xs) m := rfl
@[simp] theorem bil_frl {xs : List D} : biA .list [.d (.frl xs)] m = .ok (.fl xs) m := rfl
theorem bis_int {i : Int} (h : i.natAbs < 2 ^ 64) : biA .str [.d (.int i)] m = .ok (.d (.str (toString i))) m := grd_pos h
@[simp] theorem bii_int {i : Int} : biA .int [.d (.int i)] m = .ok (.d (.int i)) m := rfl
@[simp] theorem bii_bl {b : Bool} : biA .int [.d (.bl b)] m = .ok (.d (.int (if b then 1 else 0))) m := rfl
theorem bii_str {x : Str} {n : Int} (h : PySem.intText? x = some n) (hl : x.length ≤ 640) : biA .int [.d (.str x)] m = .ok (.d (.int n)) m := by
  show (match PySem.intText? x with | some n => grd (x.length ≤ 640) (R.ok (A.d (.int n)) m) | none => .bad) = _
  rw [h]
  exact grd_pos hl
@[simp] theorem bi_abs {i : Int} : biA .abs [.d (.int i)] m = .ok (.d (.int (if i < 0 then -i else i))) m := rfl
@[simp] theorem bi_max {i j : Int} : biA .max2 [.d (.int i), .d (.int j)] m = .ok (.d (.int (if j > i then j else i))) m := rfl
@[simp] theorem bi_min {i j : Int} : biA .min2 [.d (.int i), .d (.int j)] m = .ok (.d (.int (if j < i then j else i))) m := rfl
theorem alls_map {α β γ : Type} {f : β → Option γ} {e : α → β} {g : α → γ} (h : ∀ x, f (e x) = some (g x)) : ∀ xs : List α, alls f (xs.map e) = some (xs.map g)
  | [] => rfl
  | x :: xs => by simp [alls, h, alls_map h xs]
theorem bi_all {γ : Type} {p : γ → Bool} {xs : List γ} : biA .all [.fl (xs.map fun x => .bl (p x))] m = .ok (.d (.bl (xs.all p))) m := by
  show (match alls isBool (xs.map fun x => D.bl (p x)) with | some bs => R.ok (A.d (.bl (bs.all id))) m | none => .bad) = _
  rw [alls_map (f := isBool) (e := fun x => D.bl (p x)) (g := p) (fun x => rfl)]
  simp
theorem bi_any {γ : Type} {p : γ → Bool} {xs : List γ} : biA .any [.fl (xs.map fun x => .bl (p x))] m = .ok (.d (.bl (xs.any p))) m := by
  show (match alls isBool (xs.map fun x => D.bl (p x)) with | some bs => R.ok (A.d (.bl (bs.any id))) m | none => .bad) = _
  rw [alls_map (f := isBool) (e := fun x => D.bl (p x)) (g := p) (fun x => rfl)]
  simp
/-- walks -/
@[simp] theorem it_str {x : Str} : itA .seq [.d (.str x)] m = .ok (x.cps.toList.map (fun c => .str (sgn c)), []) m := rfl
@[simp] theorem it_tup {xs : List D} : itA .seq [.d (.tup xs)] m = .ok (xs, []) m := rfl
@[simp] theorem it_frl {xs : List D} : itA .seq [.d (.frl xs)] m = .ok (xs, []) m := rfl
@[simp] theorem it_fl {xs : List D} : itA .seq [.fl xs] m = .ok (xs, []) m := rfl
theorem it_ref {i : Nat} {xs : List D} (h : m[i]? = some (.lst xs)) : itA .seq [.d (.ref i)] m = .ok (xs, [(i, xs)]) m := by
  have : lstAt m i = some xs := by simp [lstAt, h]
  show (match (lstAt m i).map fun xs => (xs, [(i, xs)]) with | some w => R.ok w m | none => .bad) = _
  rw [this]
  rfl
theorem it_rng1 {j : Int} (h : -(2 ^ 62) ≤ j ∧ j ≤ sizeLine) : itA .rng1 [.d (.int j)] m = .ok (itv 0 j.toNat, []) m := grd_pos h
@[simp] theorem it_zip {xs ys : List D} : itA .zip [.d (.tup xs), .d (.tup ys)] m = .ok (zipD xs ys, []) m := rfl
/-- comparisons -/
@[simp] theorem cm_le {i j : Int} : cmpA .LtE (.d (.int i)) (.d (.int j)) m = .ok (decide (i ≤ j)) m := rfl
@[simp] theorem cm_lt {i j : Int} : cmpA .Lt (.d (.int i)) (.d (.int j)) m = .ok (decide (i < j)) m := rfl
@[simp] theorem cm_gt {i j : Int} : cmpA .Gt (.d (.int i)) (.d (.int j)) m = .ok (decide (j < i)) m := rfl
@[simp] theorem cm_ge {i j : Int} : cmpA .GtE (.d (.int i)) (.d (.int j)) m = .ok (decide (j ≤ i)) m := rfl
@[simp] theorem cm_eqi {i j : Int} : cmpA .Eq (.d (.int i)) (.d (.int j)) m = .ok (i == j) m := rfl
@[simp] theorem cm_nei {i j : Int} : cmpA .NotEq (.d (.int i)) (.d (.int j)) m = .ok (!(i == j)) m := rfl
@[simp] theorem cm_eqs {x y : Str} : cmpA .Eq (.d (.str x)) (.d (.str y)) m = .ok (x == y) m := rfl
@[simp] theorem cm_nes {x y : Str} : cmpA .NotEq (.d (.str x)) (.d (.str y)) m = .ok (!(x == y)) m := rfl
@[simp] theorem cm_is {a : A} : cmpA .Is a (.d .non) m = .ok a.isNon m := rfl
@[simp] theorem cm_isn {a : A} : cmpA .IsNot a (.d .non) m = .ok (!a.isNon) m := rfl
@[simp] theorem bin_sub {i j : Int} : binA .Sub (.d (.int i)) (.d (.int j)) m = .ok (.d (.int (i - j))) m := grd_pos trivial
@[simp] theorem bin_add {i j : Int} : binA .Add (.d (.int i)) (.d (.int j)) m = .ok (.d (.int (i + j))) m := rfl
theorem bin_adt {xs ys : List D} (h : xs.length + ys.length ≤ sizeLine) : binA .Add (.d (.tup xs)) (.d (.tup ys)) m = .ok (.d (.tup (xs ++ ys))) m := grd_pos h
theorem bin_mul {i j : Int} (h : L2.CMul i j) : binA .Mult (.d (.int i)) (.d (.int j)) m = .ok (.d (.int (i * j))) m := grd_pos h
theorem bin_div {i j : Int} (h : L2.CDiv i j) : binA .FloorDiv (.d (.int i)) (.d (.int j)) m = .ok (.d (.int (i / j))) m := grd_pos h
theorem bin_mod {i j : Int} (h : 0 < j) : binA .Mod (.d (.int i)) (.d (.int j)) m = .ok (.d (.int (i % j))) m := grd_pos h
theorem bin_pow {i j : Int} (h : L2.CPow i j) : binA .Pow (.d (.int i)) (.d (.int j)) m = .ok (.d (.int (i ^ j.toNat))) m := grd_pos h
/-- subscripts -/
theorem ix_tup {xs : List D} {i : Int} {x : D} (h : L2.atI xs i = some x) : ixA (.d (.tup xs)) (.d (.int i)) m = .ok (.d x) m := by
  show (match L2.atI xs i with | some x => R.ok (A.d x) m | none => .bad) = _
  rw [h]
theorem ix_fl {xs : List D} {i : Int} {x : D} (h : L2.atI xs i = some x) : ixA (.fl xs) (.d (.int i)) m = .ok (.d x) m := by
  show (match L2.atI xs i with | some x => R.ok (A.d x) m | none => .bad) = _
  rw [h]
theorem ix_frl {xs : List D} {i : Int} {x : D} (h : L2.atI xs i = some x) : ixA (.d (.frl xs)) (.d (.int i)) m = .ok (.d x) m := by
  show (match L2.atI xs i with | some x => R.ok (A.d x) m | none => .bad) = _
  rw [h]
theorem ix_ref {r : Nat} {xs : List D} {i : Int} {x : D} (hr : m[r]? = some (.lst xs)) (h : L2.atI xs i = some x) : ixA (.d (.ref r)) (.d (.int i)) m = .ok (.d x) m := by
  have : lstAt m r = some xs := by simp [lstAt, hr]
  show (match lstAt m r with | some xs => (match L2.atI xs i with | some x => R.ok (A.d x) m | none => .bad) | none => .bad) = _
  rw [this]
  show (match L2.atI xs i with | some x => R.ok (A.d x) m | none => .bad) = _
  rw [h]
theorem ix_str {z : Str} {i : Int} {c : Nat} (h : L2.atI z.cps.toList i = some c) : ixA (.d (.str z)) (.d (.int i)) m = .ok (.d (.str (sgn c))) m := by
  show (match L2.atI z.cps.toList i with | some c => R.ok (A.d (.str (sgn c))) m | none => .bad) = _
  rw [h]
theorem join_fl {x : Str} {γ : Type} {f : γ → Str} {ys : List γ} (h : ((ys.map fun y => (f y).length)).sum + ys.length * x.length ≤ 16777216) : joinA x (.fl (ys.map fun y => .str (f y))) m = .ok (.d (.str (Txt.join x (ys.map f)))) m := by
  show (match alls D.str? (ys.map fun y => D.str (f y)) with | some zs => grd ((zs.map Str.length).sum + zs.length * x.length ≤ 16777216) (R.ok (A.d (.str (Txt.join x zs))) m) | none => .bad) = _
  rw [alls_map (f := D.str?) (e := fun y => D.str (f y)) (g := f) (fun x => rfl)]
  refine grd_pos ?_
  simpa [Function.comp_def] using h
theorem join_fl' {x : Str} {ys : List Str} (h : ((ys.map (·.length))).sum + ys.length * x.length ≤ 16777216) : joinA x (.fl (ys.map .str)) m = .ok (.d (.str (Txt.join x ys))) m := by
  have := join_fl (m := m) (x := x) (f := id) (ys := ys) (by simpa using h)
  simpa using this
theorem join_ref' {r : Nat} {x : Str} {ys : List Str} (hr : m[r]? = some (.lst (ys.map .str))) (h : ((ys.map (·.length))).sum + ys.length * x.length ≤ 16777216) : joinA x (.d (.ref r)) m = .ok (.d (.str (Txt.join x ys))) m := by
  have e : lstAt m r = some (ys.map .str) := by simp [lstAt, hr]
  unfold joinA seqOf lstOf
  dsimp only
  rw [e]
  dsimp only
  rw [alls_map (f := D.str?) (e := D.str) (g := id) (fun x => rfl)]
  simp only [List.map_id]
  exact grd_pos h
theorem split_str {x y : Str} (h : (y.length == 0) = false ∧ x.length + 2 ≤ sizeLine) : splitA x (.d (.str y)) m = .ok (.fl ((Txt.split x y).map .str)) m := grd_pos h
@[simp] theorem slc_tup {xs : List D} {lo hi : Option Int} : slcA (.d (.tup xs)) lo hi m = .ok (.d (.tup (cutL xs lo hi))) m := rfl
@[simp] theorem slc_fl {xs : List D} {lo hi : Option Int} : slcA (.fl xs) lo hi m = .ok (.fl (cutL xs lo hi)) m := rfl
theorem slc_ref {r : Nat} {xs : List D} {lo hi : Option Int} (hr : m[r]? = some (.lst xs)) : slcA (.d (.ref r)) lo hi m = .ok (.fl (cutL xs lo hi)) m := by
  have : lstAt m r = some xs := by simp [lstAt, hr]
  show (match lstAt m r with | some xs => R.ok (A.fl (cutL xs lo hi)) m | none => .bad) = _
  rw [this]
/-- None in a list of numbers or None -/
theorem in_non {xs : List D} (h : xs.all D.flat = true) : cmpA .In (.d .non) (.fl xs) m = .ok (xs.any fun y => eqF y .non) m := by
  show inA (.d .non) (.fl xs) m = _
  unfold inA
  simp [A.str?, seqOf, lstOf, A.flat?, D.flat] at h ⊢
  intro x hx hf
  have := h x hx
  rw [hf] at this
  simp at this
@[simp] theorem isi_str {x : Str} : isiA (.d (.str x)) .str m = some true := rfl
end
end Mp
end
section
/-! Mp: plain data and its repr. -/
namespace Mp
open PySem
/-- plain data, not deeper than n -/
def Dt (n : Nat) (d : D) : Prop := ∃ p, toPy d = some p ∧ p.canLay0 = true ∧ p.depth ≤ n
/-- ... and its repr not longer than k -/
def Rp (n k : Nat) (d : D) : Prop := ∃ p, toPy d = some p ∧ p.canLay0 = true ∧ p.depth ≤ n ∧ p.showable = true ∧ p.shown.length ≤ k
theorem Rp.dt {n k : Nat} {d : D} (h : Rp n k d) : Dt n d := ⟨h.choose, h.choose_spec.1, h.choose_spec.2.1, h.choose_spec.2.2.1⟩
theorem Dt.mono {n n' : Nat} {d : D} (h : Dt n d) (hn : n ≤ n') : Dt n' d := by
  obtain ⟨p, a, b, c⟩ := h
  exact ⟨p, a, b, by omega⟩
theorem Rp.mono {n n' k k' : Nat} {d : D} (h : Rp n k d) (hn : n ≤ n') (hk : k ≤ k') : Rp n' k' d := by
  obtain ⟨p, a, b, c, e, f⟩ := h
  exact ⟨p, a, b, by omega, e, by omega⟩
theorem Dt.non {n : Nat} : Dt n .non := ⟨.none, rfl, rfl, Nat.zero_le _⟩
theorem Dt.bl {n : Nat} {b : Bool} : Dt n (.bl b) := ⟨.bool b, rfl, rfl, Nat.zero_le _⟩
theorem Dt.int {n : Nat} {i : Int} : Dt n (.int i) := ⟨.int i, rfl, rfl, Nat.zero_le _⟩
theorem Dt.str {n : Nat} {x : Str} (h : PyData.strOk x = true) : Dt n (.str x) := ⟨.str x, rfl, by rw [PyData.canLay0]; exact h, Nat.zero_le _⟩
theorem dts {n : Nat} : ∀ {xs : List D}, (∀ x ∈ xs, Dt n x) → ∃ ps, toPys xs = some ps ∧ PyData.canLayAll0 ps = true ∧ PyData.depthAll ps ≤ n
  | [], _ => ⟨[], rfl, rfl, Nat.zero_le _⟩
  | x :: xs, h => by
    obtain ⟨p, a, b, c⟩ := h x (by simp)
    obtain ⟨ps, as, bs, cs⟩ := dts (xs := xs) fun y hy => h y (by simp [hy])
    refine ⟨p :: ps, by simp [toPys, a, as], by simp [PyData.canLayAll0, b, bs], ?_⟩
    rw [PyData.depthAll]
    omega
theorem Dt.tup {n : Nat} {xs : List D} (h : ∀ x ∈ xs, Dt n x) : Dt (n + 1) (.tup xs) := by
  obtain ⟨ps, a, b, c⟩ := dts h
  exact ⟨.tuple ps, by simp [toPy, a], by rw [PyData.canLay0]; exact b, by rw [PyData.depth]; omega⟩
theorem Rp.non {n : Nat} : Rp n 4 .non := ⟨.none, rfl, rfl, Nat.zero_le _, rfl, by rw [PyData.shown]; decide +kernel⟩
theorem Rp.nat {n i : Nat} {k : Nat} (hk : 0 < k) (hk' : k ≤ 20) (h : i < 10 ^ k) : Rp n k (.int i) := by
  refine ⟨.int i, rfl, rfl, Nat.zero_le _, ?_, ?_⟩
  · rw [PyData.showable]
    have h1 : i < 10 ^ 20 := Nat.lt_of_lt_of_le h (Nat.pow_le_pow_right (by decide) hk')
    have h2 : i < 2 ^ 67 := Nat.lt_of_lt_of_le h1 (by decide)
    by_cases h0 : i = 0
    · subst h0; decide
    · have := (Nat.log2_lt h0).mpr h2
      simp
      omega
  · rw [PyData.shown]
    show (Str.ofString (toString ((i : Nat) : Int))).length ≤ k
    rw [TL.len_tl, TL.tl_num]
    exact TL.numL_len hk h
theorem piled_le {k : Nat} : ∀ {ts : List Str}, (∀ t ∈ ts, t.length ≤ k) → piled ts ≤ ts.length * (k + 2)
  | [], _ => by simp [piled]
  | t :: ts, h => by
    have h1 := h t (by simp)
    have h2 := piled_le (ts := ts) fun y hy => h y (by simp [hy])
    rw [piled_cons, List.length_cons, Nat.succ_mul]
    omega
theorem tupleText_le {k : Nat} {ts : List Str} (h : ∀ t ∈ ts, t.length ≤ k) : (tupleText ts).length ≤ ts.length * (k + 2) + 3 := by
  unfold tupleText
  have e : ∀ a b : Str, (a ++ b).length = a.length + b.length := fun a b => strLen_append a b
  rw [e, e]
  have h1 := piled_le h
  have h3 : ((if ts.length == 1 then ",)" else ")" : String) : Str).length ≤ 2 := by
    split <;> decide +kernel
  have h4 : (("(" : String) : Str).length = 1 := by decide +kernel
  by_cases hn : ts = []
  · subst hn
    have : (Str.join ", " []).length = 0 := by decide +kernel
    simp only [List.length_nil] at *
    omega
  · have h2 := join_length_add ts hn
    omega
theorem rps {n k : Nat} : ∀ {xs : List D}, (∀ x ∈ xs, Rp n k x) → ∃ ps, toPys xs = some ps ∧ PyData.canLayAll0 ps = true ∧ PyData.depthAll ps ≤ n ∧ PyData.showableAll ps = true ∧ (∀ t ∈ PyData.shownAll ps, t.length ≤ k) ∧ (PyData.shownAll ps).length = xs.length
  | [], _ => ⟨[], rfl, rfl, Nat.zero_le _, rfl, by simp [PyData.shownAll], rfl⟩
  | x :: xs, h => by
    obtain ⟨p, a, b, c, e, f⟩ := h x (by simp)
    obtain ⟨ps, as, bs, cs, es, fs, ls⟩ := rps (xs := xs) fun y hy => h y (by simp [hy])
    refine ⟨p :: ps, by simp [toPys, a, as], by simp [PyData.canLayAll0, b, bs], ?_, by simp [PyData.showableAll, e, es], ?_, by simp [PyData.shownAll, ls]⟩
    · rw [PyData.depthAll]
      omega
    · intro t ht
      rw [PyData.shownAll] at ht
      rcases List.mem_cons.mp ht with r | r
      · exact r ▸ f
      · exact fs t r
theorem Rp.tup {n k : Nat} {xs : List D} (h : ∀ x ∈ xs, Rp n k x) : Rp (n + 1) (xs.length * (k + 2) + 3) (.tup xs) := by
  obtain ⟨ps, a, b, c, e, f, g⟩ := rps h
  refine ⟨.tuple ps, by simp [toPy, a], by rw [PyData.canLay0]; exact b, by rw [PyData.depth]; omega, by rw [PyData.showable]; exact e, ?_⟩
  rw [PyData.shown]
  have := tupleText_le f
  rw [g] at this
  exact this
theorem bi_repr {n k : Nat} {xs : List D} {m : Hm} (h : Rp n k (.tup xs)) (hn : n ≤ 64) (hk : k ≤ 16777216) : ∃ p, toPy (.tup xs) = some p ∧ biA .repr [.d (.tup xs)] m = .ok (.d (.str p.shown)) m := by
  obtain ⟨p, a, b, c, e, f⟩ := h
  refine ⟨p, a, ?_⟩
  have ha := a
  rw [toPy] at ha
  cases hp : toPys xs with
  | none => rw [hp] at ha; cases ha
  | some ps =>
    rw [hp] at ha
    cases ha
    show (match toPys xs with | some ps => grd (reprOk (.tuple ps) = true) (R.ok (A.d (.str (PyData.shown (.tuple ps)))) m) | none => .bad) = _
    rw [hp]
    refine grd_pos ?_
    have hd := PyData.hasDict_of_canLay _ b
    unfold reprOk
    rw [e, hd]
    have h1 : PyData.depth (.tuple ps) ≤ 64 := by omega
    have h2 : (PyData.shown (.tuple ps)).length ≤ sizeLine := by show _ ≤ 16777216; omega
    simp [h1, h2]
def D.isNon : D → Bool
  | .non => true
  | _ => false
theorem toPy_non {d : D} {p : PyData} (h : toPy d = some p) : PyData.eqv p .none = d.isNon := by
  cases d with
  | non => cases h; rfl
  | bl b => cases h; simp [PyData.eqv, D.isNon]
  | int i => cases h; simp [PyData.eqv, D.isNon]
  | str x => cases h; simp [PyData.eqv, D.isNon]
  | tup xs =>
    rw [toPy] at h
    cases hp : toPys xs with
    | none => rw [hp] at h; cases h
    | some ps => rw [hp] at h; cases h; simp [PyData.eqv, D.isNon]
  | frl xs => cases h
  | ref i => cases h
  | fn k => cases h
theorem toPys_non : ∀ {ds : List D} {ps : List PyData}, toPys ds = some ps → (ps.any fun z => PyData.eqv z .none) = ds.any D.isNon
  | [], _, h => by cases h; rfl
  | d :: ds, ps, h => by
    rw [toPys] at h
    cases hp : toPy d with
    | none => rw [hp] at h; cases h
    | some p =>
      cases hq : toPys ds with
      | none => rw [hp, hq] at h; cases h
      | some qs =>
        rw [hp, hq] at h
        cases h
        rw [List.any_cons, List.any_cons, toPy_non hp, toPys_non hq]
theorem eqF_non {y : D} (h : y.flat = true) : eqF y .non = y.isNon := by cases y <;> first | rfl | cases h
/-- None in some list of data -/
theorem in_nonD {b : A} {ys : List D} {m : Hm} (hs : b.str? = none) (hb : seqOf m b = some ys) (h : ∀ y ∈ ys, Dt 60 y) : cmpA .In (.d .non) b m = .ok (ys.any D.isNon) m := by
  show inA (.d .non) b m = _
  unfold inA
  rw [hs]
  dsimp only
  rw [hb]
  show (if ys.all D.flat then R.ok (ys.any fun y => eqF y .non) m else inDeep (.d .non) ys m) = _
  split
  · rename_i hf
    congr 1
    have hf' := List.all_eq_true.mp hf
    clear hf hb h
    induction ys with
    | nil => rfl
    | cons y ys ih => rw [List.any_cons, List.any_cons, eqF_non (hf' y (by simp)), ih fun z hz => hf' z (by simp [hz])]
  · obtain ⟨ps, a, c, e⟩ := dts h
    unfold inDeep
    rw [a]
    show grd _ _ = _
    rw [grd_pos, toPys_non a]
    refine ⟨rfl, ?_⟩
    unfold SeqAt.shaped
    rw [PyData.canLay0, PyData.depth, c]
    simp
    omega
/-- a tuple and the empty one -/
theorem eq_nil {n : Nat} {xs : List D} {m : Hm} (hn : n < 64) (h : ∀ x ∈ xs, Dt n x) : cmpA .Eq (.d (.tup xs)) (.d (.tup [])) m = .ok xs.isEmpty m := by
  show eqDeep (.d (.tup xs)) (.d (.tup [])) m = _
  obtain ⟨ps, a, c, e⟩ := dts h
  unfold eqDeep
  have e1 : toPyA m (.d (.tup xs)) = some (.tuple ps) := by show toPy (.tup xs) = _; simp [toPy, a]
  have e2 : toPyA m (.d (.tup [])) = some (.tuple []) := rfl
  rw [e1, e2]
  show grd _ _ = _
  have e3 : PyData.eqv (.tuple ps) (.tuple []) = xs.isEmpty := by
    cases xs with
    | nil => cases a; rfl
    | cons x xs =>
      obtain ⟨p, hp⟩ : ∃ p qs, ps = p :: qs := by
        rw [toPys] at a
        cases hp : toPy x with
        | none => rw [hp] at a; cases a
        | some p =>
          cases hq : toPys xs with
          | none => rw [hp, hq] at a; cases a
          | some qs => rw [hp, hq] at a; cases a; exact ⟨p, qs, rfl⟩
      obtain ⟨qs, rfl⟩ := hp
      simp [PyData.eqv, PyData.eqvAll]
  rw [grd_pos, e3]
  refine ⟨?_, rfl⟩
  unfold SeqAt.shaped
  rw [PyData.canLay0, PyData.depth, c]
  simp
  omega
end Mp
end
section
/-! The codes and the table of the law, printed by gen.py. -/
namespace Mp
open L2 PySem PySem.Spec PyProof.Rows
abbrev top (i : Nat) : Stmt := PySem.Challenge.pw_hearsaybook_k74_rows_written.main.body.getD i (.Pass ⟨0, 0, 0, 0⟩)
def nmL : List (Nat × Str) := [(1, "MOST_FIGURES"), (2, "FIGURES"), (3, "number_in"), (4, "NOTHING"), (5, "part_text"), (6, "doings_text"), (7, "numbers_in"), (8, "part_in"), (9, "NoText"), (10, "doings_in"), (11, "_law_take"), (12, "_law_rising"), (13, "_law_part_text"), (14, "_law_box"), (15, "_law_doings"), (16, "show_row"), (17, "_law_text"), (18, "read_row"), (19, "law"), (20, "HearsayError")]
def nm (k : Nat) : Str := (nmL.lookup k).getD Str.empty
def conL : List (Nat × D) := [(2, .str "0123456789"), (1, .int 9), (4, .str "-")]
def excL : List Nat := [9]
/-- number_in -/
def b_number_in : List S :=
  [.ife (.or [(.not (.cmp2 .LtE .LtE (.int 1) (.bi .len [(.var 0)]) (.glb 1))), (.not (.bi .all [(.comp [1] (.cmp .In (.var 1) (.glb 2)) (.nm 1) .seq [(.var 0)] [])]))]) [.ret .non] [], .ife (.and [(.cmp .Eq (.ix (.var 0) (.int 0)) (.str "0")), (.cmp .NotEq (.var 0) (.str "0"))]) [.ret .non] [], .ret (.bi .int [(.var 0)])]
def d_number_in : DefE := ⟨1, ["word", "sign"], b_number_in, top 7, "number_in"⟩
/-- numbers_in -/
def b_numbers_in : List S :=
  [.asg (.nm 1) (.comp [2] (.call 3 [(.var 2)]) (.nm 2) .seq [(.var 0)] []), .ife (.cmp .In .non (.var 1)) [.ret .non] [], .ret (.bi .tuple [(.var 1)])]
def d_numbers_in : DefE := ⟨1, ["words", "numbers", "word"], b_numbers_in, top 8, "numbers_in"⟩
/-- part_text -/
def b_part_text : List S :=
  [.ife (.cmp .Eq (.bi .len [(.var 0)]) (.int 0)) [.ret (.glb 4)] [], .ret (.join (.str ".") (.comp [1] (.bi .str [(.var 1)]) (.nm 1) .seq [(.var 0)] []))]
def d_part_text : DefE := ⟨1, ["numbers", "number"], b_part_text, top 9, "part_text"⟩
/-- doings_text -/
def b_doings_text : List S :=
  [.ret (.join (.str "/") (.comp [1] (.call 5 [(.var 1)]) (.nm 1) .seq [(.var 0)] []))]
def d_doings_text : DefE := ⟨1, ["doings", "numbers"], b_doings_text, top 10, "doings_text"⟩
/-- show_row -/
def b_show_row : List S :=
  [.ret (.join (.str " ") (.comp [1] (.call 6 [(.var 1)]) (.nm 1) .seq [(.var 0)] []))]
def d_show_row : DefE := ⟨1, ["row", "doings"], b_show_row, top 11, "show_row"⟩
/-- part_in -/
def b_part_in : List S :=
  [.ife (.cmp .Eq (.var 0) (.glb 4)) [.ret (.tup [])] [], .asg (.nm 1) (.call 7 [(.split (.var 0) (.str "."))]), .ife (.or [(.cmp .Is (.var 1) .non), (.not (.bi .all [(.comp [2, 3] (.cmp .Lt (.var 2) (.var 3)) (.tp [(.nm 2), (.nm 3)]) .zip [(.var 1), (.slc (.var 1) (some (.int 1)) none)] [])]))]) [.ret .non] [], .ret (.var 1)]
def d_part_in : DefE := ⟨1, ["word", "numbers", "one", "other"], b_part_in, top 12, "part_in"⟩
/-- doings_in -/
def b_doings_in : List S :=
  [.asg (.nm 1) (.bi .tuple [(.comp [3] (.call 8 [(.var 3)]) (.nm 3) .seq [(.split (.var 0) (.str "/"))] [])]), .ife (.or [(.cmp .NotEq (.bi .len [(.var 1)]) (.int 4)), (.cmp .In .non (.var 1))]) [.ret .non] [], .asg (.nm 2) (.bin .Add (.bin .Add (.ix (.var 1) (.int 1)) (.ix (.var 1) (.int 2))) (.ix (.var 1) (.int 3))), .ife (.cmp .Lt (.lenset (.var 2)) (.bi .len [(.var 2)])) [.ret .non] [], .ret (.var 1)]
def d_doings_in : DefE := ⟨1, ["word", "parts", "houses", "part"], b_doings_in, top 13, "doings_in"⟩
/-- read_row -/
def b_read_row : List S :=
  [.ife (.not (.isi (.var 0) .str)) [.raise 9] [], .ife (.cmp .Eq (.var 0) (.str "")) [.ret (.tup [])] [], .asg (.nm 1) (.comp [2] (.call 10 [(.var 2)]) (.nm 2) .seq [(.split (.var 0) (.str " "))] []), .ife (.cmp .In .non (.var 1)) [.raise 9] [], .ret (.bi .tuple [(.var 1)])]
def d_read_row : DefE := ⟨1, ["text", "row", "word"], b_read_row, top 14, "read_row"⟩
/-- _law_box -/
def b__law_box : List S :=
  [.asg (.nm 2) (.ife (.cmp .Lt (.var 1) (.bi .len [(.var 0)])) (.ix (.var 0) (.var 1)) (.int 0)), .asg (.nm 3) (.bin .Mult (.bi .abs [(.var 2)]) (.bi .int [(.cmp .GtE (.bi .abs [(.var 2)]) (.bin .Pow (.int 10) (.int 18)))])), .ret (.lst [(.var 3), (.bin .Mod (.bin .Mult (.bin .Add (.bin .Add (.bin .Mod (.var 2) (.int 2147483629)) (.bin .Mult (.bin .Mult (.int 7919) (.var 1)) (.var 1))) (.int 11)) (.int 48271)) (.int 2147483647)), (.int 0)])]
def d__law_box : DefE := ⟨2, ["_law_script", "_law_k", "_law_cell", "_law_great"], b__law_box, top 16, "_law_box"⟩
/-- _law_take -/
def b__law_take : List S :=
  [.store (.var 0) (.int 2) (.bin .Add (.ix (.var 0) (.int 2)) (.int 1)), .ife (.and [(.cmp .Gt (.ix (.var 0) (.int 0)) (.int 0)), (.cmp .LtE (.ix (.var 0) (.int 2)) (.int 60))]) [.asg (.nm 2) (.bin .Mod (.ix (.var 0) (.int 0)) (.var 1)), .store (.var 0) (.int 0) (.bin .FloorDiv (.ix (.var 0) (.int 0)) (.var 1)), .ret (.var 2)] [], .store (.var 0) (.int 1) (.bin .Mod (.bin .Add (.bin .Add (.bin .Mult (.ix (.var 0) (.int 1)) (.int 48271)) (.int 12345)) (.ix (.var 0) (.int 2))) (.int 2147483647)), .ret (.bin .Mod (.bin .FloorDiv (.bin .Mod (.bin .Mult (.ix (.var 0) (.int 1)) (.bin .Add (.bin .Mod (.ix (.var 0) (.int 1)) (.int 40009)) (.int 3))) (.int 2147483629)) (.int 7)) (.var 1))]
def d__law_take : DefE := ⟨2, ["_law_box_here", "_law_many", "_law_digit"], b__law_take, top 17, "_law_take"⟩
/-- _law_rising -/
def b__law_rising : List S :=
  [.asg (.nm 3) .dnew, .for_ (.nm 4) .rng1 [(.call 11 [(.var 0), (.bin .Add (.var 2) (.int 1))])] [.store (.var 3) (.call 11 [(.var 0), (.var 1)]) (.bl true)], .ret (.bi .tuple [(.bi .sorted [(.var 3)])])]
def d__law_rising : DefE := ⟨3, ["_law_box_here", "_law_most", "_law_many", "_law_found", "_law_turn"], b__law_rising, top 18, "_law_rising"⟩
/-- _law_doings -/
def b__law_doings : List S :=
  [.asg (.nm 1) (.call 12 [(.var 0), (.ix (.lst [(.int 6), (.int 60), (.bin .Pow (.int 10) (.int 9))]) (.call 11 [(.var 0), (.int 3)])), (.int 5)]), .asg (.nm 2) (.lst [(.lst []), (.lst []), (.lst []), (.lst [])]), .for_ (.nm 3) .rng1 [(.int 8)] [.expr (.app (.ix (.var 2) (.call 11 [(.var 0), (.int 4)])) (.var 3))], .asg (.nm 4) (.call 11 [(.var 0), (.int 3)]), .ife (.cmp .Eq (.var 4) (.int 0)) [.ret (.tup [(.var 1), (.tup []), (.tup []), (.tup [])])] [], .ret (.tup [(.var 1), (.bi .tuple [(.ix (.var 2) (.int 0))]), (.bi .tuple [(.slc (.ix (.var 2) (.int 1)) none (some (.var 4)))]), (.bi .tuple [(.ix (.var 2) (.int 2))])])]
def d__law_doings : DefE := ⟨1, ["_law_box_here", "_law_lost", "_law_lots", "_law_house", "_law_way"], b__law_doings, top 19, "_law_doings"⟩
/-- _law_part_text -/
def b__law_part_text : List S :=
  [.ret (.ife (.cmp .Eq (.var 0) (.tup [])) (.str "-") (.join (.str ".") (.comp [1] (.bi .str [(.var 1)]) (.nm 1) .seq [(.var 0)] [])))]
def d__law_part_text : DefE := ⟨1, ["_law_numbers", "_law_number"], b__law_part_text, top 20, "_law_part_text"⟩
/-- _law_text -/
def b__law_text : List S :=
  [.ret (.join (.str " ") (.comp [1] (.join (.str "/") (.comp [2] (.call 13 [(.var 2)]) (.nm 2) .seq [(.var 1)] [])) (.nm 1) .seq [(.var 0)] []))]
def d__law_text : DefE := ⟨1, ["_law_row", "_law_doings_here", "_law_part"], b__law_text, top 21, "_law_text"⟩
/-- law -/
def b_law : List S :=
  [.for_ (.nm 1) .rng1 [(.bin .Add (.int 1) (.bi .min2 [(.int 12), (.bi .len [(.var 0)])]))] [.asg (.nm 2) (.call 14 [(.var 0), (.var 1)]), .asg (.nm 3) (.ix (.lst [(.int 13), (.int 61)]) (.bi .int [(.cmp .Eq (.call 11 [(.var 2), (.int 8)]) (.int 7))])), .asg (.nm 4) (.bi .tuple [(.comp [10] (.call 15 [(.var 2)]) (.nm 10) .rng1 [(.call 11 [(.var 2), (.var 3)])] [])]), .asg (.nm 5) (.call 16 [(.var 4)]), .ife (.or [(.not (.isi (.var 5) .str)), (.cmp .NotEq (.var 5) (.call 17 [(.var 4)])), (.cmp .NotEq (.bi .repr [(.call 18 [(.var 5)])]) (.bi .repr [(.var 4)]))]) [.ret (.bl false)] [], .asg (.nm 6) (.call 11 [(.var 2), (.bin .Add (.bi .len [(.var 4)]) (.int 1))]), .asg (.nm 7) (.comp [9] (.var 9) (.nm 9) .seq [(.tup [(.call 16 [(.slc (.var 4) none (some (.var 6)))]), (.call 16 [(.slc (.var 4) (some (.var 6)) none)])])] [(.cmp .NotEq (.var 9) (.str ""))]), .ife (.cmp .NotEq (.join (.str " ") (.var 7)) (.var 5)) [.ret (.bl false)] [], .asg (.nm 8) (.bin .Mult (.var 4) (.bin .FloorDiv (.int 400) (.bi .max2 [(.int 1), (.bi .len [(.var 4)])]))), .ife (.and [(.cmp .Eq (.call 11 [(.var 2), (.int 8)]) (.int 0)), (.cmp .NotEq (.bi .repr [(.call 18 [(.call 16 [(.var 8)])])]) (.bi .repr [(.var 8)]))]) [.ret (.bl false)] []], .ret (.and [(.cmp .Eq (.call 16 [(.tup [])]) (.str "")), (.cmp .Eq (.call 18 [(.str "")]) (.tup [])), (.cmp .Eq (.call 16 [(.tup [(.tup [(.tup [(.int 0), (.int 3)]), (.tup []), (.tup [(.int 1)]), (.tup [])])])]) (.str "0.3/-/1/-"))])]
def d_law : DefE := ⟨1, ["_law_script", "_law_k", "_law_box_here", "_law_most", "_law_row", "_law_text_here", "_law_at", "_law_parts", "_law_long", "_law_part", "_law_turn"], b_law, top 22, "law"⟩
def defL : List (Nat × DefE) := [(3, d_number_in), (7, d_numbers_in), (5, d_part_text), (6, d_doings_text), (16, d_show_row), (8, d_part_in), (10, d_doings_in), (18, d_read_row), (14, d__law_box), (11, d__law_take), (12, d__law_rising), (15, d__law_doings), (13, d__law_part_text), (17, d__law_text), (19, d_law)]
def prg : Prg := ⟨nm, fun k => List.lookup k conL, fun k => excL.contains k, fun k => List.lookup k defL⟩
abbrev T : Tab := prg.tab
theorem c_number_in : chkSs (prg.cfg d_number_in.N) d_number_in.body (defScope d_number_in.st) (defBody d_number_in.st) = true := by decide +kernel
theorem s_number_in : FnScope d_number_in.N ["word"] (defScope d_number_in.st) := ⟨rfl, rfl, rfl, by decide +kernel, rfl, by decide +kernel, by decide +kernel⟩
theorem c_numbers_in : chkSs (prg.cfg d_numbers_in.N) d_numbers_in.body (defScope d_numbers_in.st) (defBody d_numbers_in.st) = true := by decide +kernel
theorem s_numbers_in : FnScope d_numbers_in.N ["words"] (defScope d_numbers_in.st) := ⟨rfl, rfl, rfl, by decide +kernel, rfl, by decide +kernel, by decide +kernel⟩
theorem c_part_text : chkSs (prg.cfg d_part_text.N) d_part_text.body (defScope d_part_text.st) (defBody d_part_text.st) = true := by decide +kernel
theorem s_part_text : FnScope d_part_text.N ["numbers"] (defScope d_part_text.st) := ⟨rfl, rfl, rfl, by decide +kernel, rfl, by decide +kernel, by decide +kernel⟩
theorem c_doings_text : chkSs (prg.cfg d_doings_text.N) d_doings_text.body (defScope d_doings_text.st) (defBody d_doings_text.st) = true := by decide +kernel
theorem s_doings_text : FnScope d_doings_text.N ["doings"] (defScope d_doings_text.st) := ⟨rfl, rfl, rfl, by decide +kernel, rfl, by decide +kernel, by decide +kernel⟩
theorem c_show_row : chkSs (prg.cfg d_show_row.N) d_show_row.body (defScope d_show_row.st) (defBody d_show_row.st) = true := by decide +kernel
theorem s_show_row : FnScope d_show_row.N ["row"] (defScope d_show_row.st) := ⟨rfl, rfl, rfl, by decide +kernel, rfl, by decide +kernel, by decide +kernel⟩
theorem c_part_in : chkSs (prg.cfg d_part_in.N) d_part_in.body (defScope d_part_in.st) (defBody d_part_in.st) = true := by decide +kernel
theorem s_part_in : FnScope d_part_in.N ["word"] (defScope d_part_in.st) := ⟨rfl, rfl, rfl, by decide +kernel, rfl, by decide +kernel, by decide +kernel⟩
theorem c_doings_in : chkSs (prg.cfg d_doings_in.N) d_doings_in.body (defScope d_doings_in.st) (defBody d_doings_in.st) = true := by decide +kernel
theorem s_doings_in : FnScope d_doings_in.N ["word"] (defScope d_doings_in.st) := ⟨rfl, rfl, rfl, by decide +kernel, rfl, by decide +kernel, by decide +kernel⟩
theorem c_read_row : chkSs (prg.cfg d_read_row.N) d_read_row.body (defScope d_read_row.st) (defBody d_read_row.st) = true := by decide +kernel
theorem s_read_row : FnScope d_read_row.N ["text"] (defScope d_read_row.st) := ⟨rfl, rfl, rfl, by decide +kernel, rfl, by decide +kernel, by decide +kernel⟩
theorem c__law_box : chkSs (prg.cfg d__law_box.N) d__law_box.body (defScope d__law_box.st) (defBody d__law_box.st) = true := by decide +kernel
theorem s__law_box : FnScope d__law_box.N ["_law_script", "_law_k"] (defScope d__law_box.st) := ⟨rfl, rfl, rfl, by decide +kernel, rfl, by decide +kernel, by decide +kernel⟩
theorem c__law_take : chkSs (prg.cfg d__law_take.N) d__law_take.body (defScope d__law_take.st) (defBody d__law_take.st) = true := by decide +kernel
theorem s__law_take : FnScope d__law_take.N ["_law_box_here", "_law_many"] (defScope d__law_take.st) := ⟨rfl, rfl, rfl, by decide +kernel, rfl, by decide +kernel, by decide +kernel⟩
theorem c__law_rising : chkSs (prg.cfg d__law_rising.N) d__law_rising.body (defScope d__law_rising.st) (defBody d__law_rising.st) = true := by decide +kernel
theorem s__law_rising : FnScope d__law_rising.N ["_law_box_here", "_law_most", "_law_many"] (defScope d__law_rising.st) := ⟨rfl, rfl, rfl, by decide +kernel, rfl, by decide +kernel, by decide +kernel⟩
theorem c__law_doings : chkSs (prg.cfg d__law_doings.N) d__law_doings.body (defScope d__law_doings.st) (defBody d__law_doings.st) = true := by decide +kernel
theorem s__law_doings : FnScope d__law_doings.N ["_law_box_here"] (defScope d__law_doings.st) := ⟨rfl, rfl, rfl, by decide +kernel, rfl, by decide +kernel, by decide +kernel⟩
theorem c__law_part_text : chkSs (prg.cfg d__law_part_text.N) d__law_part_text.body (defScope d__law_part_text.st) (defBody d__law_part_text.st) = true := by decide +kernel
theorem s__law_part_text : FnScope d__law_part_text.N ["_law_numbers"] (defScope d__law_part_text.st) := ⟨rfl, rfl, rfl, by decide +kernel, rfl, by decide +kernel, by decide +kernel⟩
theorem c__law_text : chkSs (prg.cfg d__law_text.N) d__law_text.body (defScope d__law_text.st) (defBody d__law_text.st) = true := by decide +kernel
theorem s__law_text : FnScope d__law_text.N ["_law_row"] (defScope d__law_text.st) := ⟨rfl, rfl, rfl, by decide +kernel, rfl, by decide +kernel, by decide +kernel⟩
theorem c_law : chkSs (prg.cfg d_law.N) d_law.body (defScope d_law.st) (defBody d_law.st) = true := by decide +kernel
theorem s_law : FnScope d_law.N ["_law_script"] (defScope d_law.st) := ⟨rfl, rfl, rfl, by decide +kernel, rfl, by decide +kernel, by decide +kernel⟩
end Mp
end
section
/-! numbers in texts -/
namespace Mp
open PySem
theorem td_number_in : T.def_ 0 3 = some ⟨1, 2, b_number_in⟩ := rfl
theorem con_1 : T.con 1 = some (.int 9) := rfl
theorem con_2 : T.con 2 = some (.str "0123456789") := rfl
theorem con_4 : T.con 4 = some (.str "-") := rfl
def isDig (c : Nat) : Bool := decide (48 ≤ c) && decide (c ≤ 57)
/-- the number that a word tells -/
def numIn (x : Str) : Option Nat :=
  if 1 ≤ x.length ∧ x.length ≤ 9 ∧ x.cps.toList.all isDig = true ∧ ¬ (x.cps.toList.head? = some 48 ∧ x ≠ "0") then some (NumText.digitsVal x.cps.toList) else none
def oInt : Option Nat → D
  | some n => .int (n : Nat)
  | none => .non
theorem fig_in (c : Nat) : (!(Builtin.Str.occurrences "0123456789" (sgn c) 0 (Str.length "0123456789") 1).isEmpty) = isDig c := by
  have h := PySem.StrLaws.found_one "0123456789" c
  show (!(Builtin.Str.occurrences "0123456789" ⟨#[c]⟩ 0 (Str.length "0123456789") 1).isEmpty) = _
  rw [h]
  have e : (Str.ofString "0123456789").cps.toList = [48, 49, 50, 51, 52, 53, 54, 55, 56, 57] := by decide +kernel
  rw [e]
  unfold isDig
  rw [Bool.eq_iff_iff]
  simp
  omega
theorem elt_fig {call : Calls} {x : Str} {m : Hm} {c : Nat} : elt1 call T.con [1] (.cmp .In (.var 1) (.glb 2)) (.nm 1) [] [some (.str x), none] (.str (sgn c)) m = .ok (some (.bl (isDig c))) m := by
  unfold elt1
  simp [asg, wipeD, con_2, cmpA, inA, A.str?, fig_in]
theorem r_number_in (n : Nat) (x : Str) (m : Hm) : callF T (n + 1) 0 3 [.str x] m = .ok (oInt (numIn x)) m := by
  rw [call_of td_number_in rfl]
  unfold b_number_in startD
  have hc : ∀ (xs : List Nat) (m : Hm), compD [] (elt1 (callF T n) T.con [1] (C.cmp CmpOp.In (C.var 1) (C.glb 2)) (Tg.nm 1) [] [some (D.str x), none]) (List.map (fun c => D.str (sgn c)) xs) m = .ok (xs.map fun c => .bl (isDig c)) m := fun xs m => compD_map (by simp) xs fun c _ => elt_fig
  have hlen : x.length = x.cps.toList.length := by simp [Str.length]

  unfold numIn
  by_cases h1 : 1 ≤ x.length
  · have h1' : (1 : Int) ≤ x.length := by omega
    by_cases h2 : x.length ≤ 9
    · have h2' : (x.length : Int) ≤ 9 := by omega
      by_cases h3 : x.cps.toList.all isDig = true
      · obtain ⟨c, cs, hcs⟩ : ∃ c cs, x.cps.toList = c :: cs := by
          match hx : x.cps.toList with
          | [] => rw [hx] at hlen; simp at hlen; omega
          | c :: cs => exact ⟨c, cs, rfl⟩
        have hat : L2.atI x.cps.toList 0 = some c := by rw [hcs]; simp [L2.atI, L2.ixN]
        have hdig : NumText.AllDigits x.cps.toList := by
          intro d hd
          have := List.all_eq_true.mp h3 d hd
          simpa [isDig] using this
        have hval : PySem.intText? x = some ((NumText.digitsVal x.cps.toList : Nat) : Int) := PySem.intText_digits hdig (by simp [hcs]) (by omega)
        have h0 : (sgn c == ("0" : Str)) = (c == 48) := by
          rw [Bool.eq_iff_iff]
          simp only [beq_iff_eq]
          constructor
          · intro h
            have := congrArg (fun s : Str => s.cps.toList) h
            have e : (Str.ofString "0").cps.toList = [48] := by decide +kernel
            simpa [sgn, e] using this
          · intro h
            subst h
            decide +kernel
        have hh : x.cps.toList.head? = some c := by rw [hcs]; rfl
        have hx : ∀ m, ixA (.d (.str x)) (.d (.int 0)) m = .ok (.d (.str (sgn c))) m := fun m => ix_str hat
        have hi : ∀ m, biA .int [.d (.str x)] m = .ok (.d (.int ((NumText.digitsVal x.cps.toList : Nat) : Int))) m := fun m => bii_str hval (by omega)
        have hs48 : sgn 48 = Str.ofString "0" := by decide +kernel
        by_cases h4 : c = 48
        · by_cases h5 : x = "0"
          · have e5 : (x == ("0" : Str)) = true := by simp [h5]
            rw [if_pos ⟨h1, h2, h3, fun h => h.2 h5⟩]
            simp [x_cons, con_1, hc, bi_all, h1', h2', h3, h0, hx, hi, h4, e5, oInt]
          · have e5 : (x == ("0" : Str)) = false := by simpa using h5
            rw [if_neg fun h => h.2.2.2 ⟨by rw [hh, h4], h5⟩]
            simp [x_cons, con_1, hc, bi_all, h1', h2', h3, hx, h4, hs48, e5, oInt]
        · simp [x_cons, con_1, hc, bi_all, h1, h2, h1', h2', h3, h0, hx, hi, h4, hh, oInt]
      · simp [x_cons, con_1, hc, bi_all, h1', h2', h3, oInt]
    · have h2' : ¬ (x.length : Int) ≤ 9 := by omega
      simp [x_cons, con_1, hc, bi_all, h1', h2, h2', oInt]
  · have h1' : ¬ (1 : Int) ≤ x.length := by omega
    simp [x_cons, con_1, hc, bi_all, h1, h1', oInt]
end Mp
end
section
/-! reading rows -/
namespace Mp
open PySem
def dN (n : Nat) : D := .int (n : Nat)
def dP (p : List Nat) : D := .tup (p.map dN)
def oD {α : Type} (f : α → D) : Option α → D
  | some a => f a
  | none => .non
theorem oInt_eq (o : Option Nat) : oInt o = oD dN o := by cases o <;> rfl
@[simp] theorem oD_some {α : Type} {f : α → D} {a : α} : oD f (some a) = f a := rfl
@[simp] theorem oD_none {α : Type} {f : α → D} : oD f none = .non := rfl
theorem oD_non {α : Type} {f : α → D} (hf : ∀ a, (f a).isNon = false) (o : Option α) : (oD f o).isNon = o.isNone := by
  cases o with
  | none => rfl
  | some a => rw [oD_some, hf]; rfl
/-- all of them, if each is there -/
theorem alls_some {α β : Type} {f : α → Option β} : ∀ {xs : List α} {ys : List β}, alls f xs = some ys → (xs.any fun x => (f x).isNone) = false ∧ xs.map f = ys.map some
  | [], _, h => by cases h; exact ⟨rfl, rfl⟩
  | x :: xs, ys, h => by
    rw [alls] at h
    cases hx : f x with
    | none => rw [hx] at h; cases h
    | some y =>
      cases hxs : alls f xs with
      | none => rw [hx, hxs] at h; cases h
      | some zs =>
        rw [hx, hxs] at h
        cases h
        obtain ⟨h1, h2⟩ := alls_some hxs
        exact ⟨by simp [hx, h1], by simp [hx, h2]⟩
theorem alls_none {α β : Type} {f : α → Option β} : ∀ {xs : List α}, alls f xs = none → (xs.any fun x => (f x).isNone) = true
  | x :: xs, h => by
    rw [alls] at h
    cases hx : f x with
    | none => simp [hx]
    | some y =>
      cases hxs : alls f xs with
      | none => simp [alls_none hxs]
      | some zs => rw [hx, hxs] at h; cases h
theorem map_oD {α β : Type} {f : α → Option β} {g : β → D} {xs : List α} {ys : List β} (h : alls f xs = some ys) : xs.map (fun x => oD g (f x)) = ys.map g := by
  have := (alls_some h).2
  have e : xs.map (fun x => oD g (f x)) = (xs.map f).map (oD g) := by simp
  rw [e, this]
  simp
theorem any_oD {α β : Type} {f : α → Option β} {g : β → D} (hg : ∀ a, (g a).isNon = false) (xs : List α) : (xs.map fun x => oD g (f x)).any D.isNon = xs.any fun x => (f x).isNone := by
  induction xs with
  | nil => rfl
  | cons x xs ih => simp only [List.map_cons, List.any_cons, oD_non hg, ih]
theorem td_numbers_in : T.def_ 0 7 = some ⟨1, 3, b_numbers_in⟩ := rfl
theorem dt_oN {n : Nat} (o : Option Nat) : Dt n (oD dN o) := by cases o <;> first | exact .non | exact .int
theorem at_end {m : Hm} {o : Ob} : (m ++ [o])[m.length]? = some o := by simp
theorem at_old {m : Hm} {o q : Ob} {i : Nat} (h : m[i]? = some o) : (m ++ [q])[i]? = some o := by
  have hi : i < m.length := (List.getElem?_eq_some_iff.mp h).1
  rw [List.getElem?_append_left hi]
  exact h
theorem chk_one {m : Hm} {i : Nat} {xs : List D} (h : m[i]? = some (.lst xs)) : Chk.ok [(i, xs)] m := by
  intro p hp
  have := List.mem_singleton.mp hp
  subst this
  exact h
@[simp] theorem gc_non {g m : Hm} : gc m (m ++ g) .non = m := gc_app trivial
@[simp] theorem gc_bl {g m : Hm} {b : Bool} : gc m (m ++ g) (.bl b) = m := gc_app trivial
@[simp] theorem gc_int {g m : Hm} {b : Int} : gc m (m ++ g) (.int b) = m := gc_app trivial
@[simp] theorem gc_str {g m : Hm} {b : Str} : gc m (m ++ g) (.str b) = m := gc_app trivial
theorem lt_dP {n : Nat} (p : List Nat) : D.lt n (dP p) := by
  unfold dP
  rw [D.lt]
  induction p with
  | nil => trivial
  | cons a p ih => exact ⟨trivial, ih⟩
theorem r_numbers_in (n : Nat) (ws : List Str) (m : Hm) (i : Nat) (hi : m[i]? = some (.lst (ws.map .str))) : callF T (n + 2) 0 7 [.ref i] m = .ok (oD dP (alls numIn ws)) m := by
  rw [call_of td_numbers_in rfl]
  unfold b_numbers_in startD
  have hc : compD [(i, ws.map .str)] (elt1 (callF T (n + 1)) T.con [2] (C.call 3 [C.var 2]) (Tg.nm 2) [] [some (D.ref i), none, none]) (ws.map .str) m = .ok (ws.map fun w => oD dN (numIn w)) m := by
    refine compD_map (chk_one hi) ws fun w _ => ?_
    unfold elt1
    simp [asg, wipeD, r_number_in, oInt_eq]
  have hin : ∀ xs, (∀ y ∈ xs, Dt 60 y) → cmpA .In (.d .non) (.d (.ref m.length)) (m ++ [.lst xs]) = .ok (xs.any D.isNon) (m ++ [.lst xs]) := fun xs h => in_nonD rfl (by simp [seqOf, lstOf, lstAt]) h
  have hin' := hin (ws.map fun w => oD dN (numIn w)) (by
    intro y hy
    obtain ⟨w, _, rfl⟩ := List.mem_map.mp hy
    exact dt_oN _)
  rw [any_oD fun a => rfl] at hin'
  have hb : biA .tuple [.d (.ref m.length)] (m ++ [.lst (ws.map fun w => oD dN (numIn w))]) = .ok (.d (.tup (ws.map fun w => oD dN (numIn w)))) (m ++ [.lst (ws.map fun w => oD dN (numIn w))]) := bit_ref at_end
  cases ha : alls numIn ws with
  | none =>
    have h1 := alls_none ha
    rw [h1] at hin'
    simp [x_cons, it_ref hi, hc, hin']
  | some ns =>
    have h1 := (alls_some ha).1
    rw [h1, map_oD ha] at hin'
    rw [map_oD ha] at hb
    simp [x_cons, it_ref hi, hc, hin', hb, map_oD ha]
    exact ⟨rfl, gc_app (lt_dP ns)⟩
end Mp
end
section
/-! reading parts, doings, rows -/
namespace Mp
open PySem
theorem td_part_in : T.def_ 0 8 = some ⟨1, 4, b_part_in⟩ := rfl
theorem td_doings_in : T.def_ 0 10 = some ⟨1, 4, b_doings_in⟩ := rfl
def rising : List Nat → Bool
  | [] => true
  | [_] => true
  | a :: b :: r => decide (a < b) && rising (b :: r)
def partIn (w : Str) : Option (List Nat) := if w = "-" then some [] else match alls numIn (Txt.split w ".") with
  | some ns => if rising ns then some ns else none
  | none => none
theorem cut_from (xs : List D) (k : Nat) : cutL xs (some (k : Int)) none = xs.drop k := by
  unfold cutL
  rw [HT.sIx_nat, HT.sIx_none]
  by_cases h : k ≤ xs.length
  · rw [Nat.min_eq_left h, List.take_of_length_le (by simp)]
  · rw [Nat.min_eq_right (by omega), List.drop_of_length_le (by omega), List.drop_of_length_le (by omega)]
    simp
theorem cut_to (xs : List D) (k : Nat) : cutL xs none (some (k : Int)) = xs.take k := by
  unfold cutL
  rw [HT.sIx_nat, HT.sIx_none]
  simp
theorem zip_nums : ∀ (a b : List Nat), zipD (a.map dN) (b.map dN) = (a.zip b).map fun p => .tup [dN p.1, dN p.2]
  | [], _ => by simp [zipD]
  | _ :: _, [] => by simp [zipD]
  | x :: a, y :: b => by simp [zipD, zip_nums a b]
theorem rising_zip : ∀ p : List Nat, ((p.zip p.tail).all fun q => decide (q.1 < q.2)) = rising p
  | [] => rfl
  | [_] => rfl
  | a :: b :: r => by
    have := rising_zip (b :: r)
    simp only [List.tail_cons] at this
    simp [rising, ← this]
theorem r_part_in (n : Nat) (w : Str) (m : Hm) (hw : w.length ≤ 16000000) : callF T (n + 3) 0 8 [.str w] m = .ok (oD dP (partIn w)) m := by
  rw [call_of td_part_in rfl]
  unfold b_part_in startD partIn
  by_cases h : w = "-"
  · have hb : (w == ("-" : Str)) = true := by simp [h]
    rw [if_pos h]
    simp [x_cons, con_4, hb]
    simp [dP]
  · have hb : (w == ("-" : Str)) = false := by simpa using h
    rw [if_neg h]
    have hs : ∀ m, splitA w (.d (.str ".")) m = .ok (.fl ((Txt.split w ".").map .str)) m := fun m => split_str ⟨by decide +kernel, by show _ ≤ 16777216; omega⟩
    have hcall : callF T (n + 2) 0 7 [.ref m.length] (m ++ [.lst ((Txt.split w ".").map .str)]) = .ok (oD dP (alls numIn (Txt.split w "."))) (m ++ [.lst ((Txt.split w ".").map .str)]) := r_numbers_in n _ _ _ at_end
    have hO : onStr (α := A) (.d (.str w)) = fun f => f w := rfl
    cases ha : alls numIn (Txt.split w ".") with
    | none =>
      rw [ha] at hcall
      simp [x_cons, con_4, hb, hs, hcall, A.isNon]
    | some ns =>
      rw [ha, oD_some] at hcall
      have hz : zipD (ns.map dN) (cutL (ns.map dN) (some 1) none) = (ns.zip ns.tail).map fun p => .tup [dN p.1, dN p.2] := by
        have := cut_from (ns.map dN) 1
        have e : (ns.map dN).drop 1 = ns.tail.map dN := by simp
        rw [e] at this
        rw [← zip_nums, ← this]
        rfl
      have hc : ∀ (xs : List (Nat × Nat)) (m : Hm), compD [] (elt1 (callF T (n + 2)) T.con [2, 3] (C.cmp CmpOp.Lt (C.var 2) (C.var 3)) (Tg.tp [Tg.nm 2, Tg.nm 3]) [] [some (D.str w), some (dP ns), none, none]) (xs.map fun p => .tup [dN p.1, dN p.2]) m = .ok (xs.map fun p => .bl (decide (p.1 < p.2))) m := fun xs m => compD_map (by simp) xs fun p _ => by
        unfold elt1
        simp [asg, asgs, wipeD, dN]
      have hP : dP ns = .tup (ns.map dN) := rfl
      have hn : (A.d (dP ns)).isNon = false := rfl
      have hgc : ∀ g : Hm, gc m (m ++ g) (dP ns) = m := fun g => gc_app (lt_dP ns)
      have hsl : ∀ m : Hm, slcA (.d (dP ns)) (some 1) none m = .ok (.d (.tup (cutL (ns.map dN) (some 1) none))) m := fun m => rfl
      have hit : ∀ (m : Hm) (ys : List D), itA .zip [.d (dP ns), .d (.tup ys)] m = .ok (zipD (ns.map dN) ys, []) m := fun m ys => rfl
      have hall := fun m : Hm => bi_all (m := m) (p := fun p : Nat × Nat => decide (p.1 < p.2)) (xs := ns.zip ns.tail)
      rw [rising_zip] at hall
      dsimp only
      cases hr : rising ns with
      | true =>
        rw [hr] at hall
        simp [x_cons, con_4, hb, hs, hcall, hn, hsl, hit, hz, hc, hall, hgc]
      | false =>
        rw [hr] at hall
        simp [x_cons, con_4, hb, hs, hcall, hn, hsl, hit, hz, hc, hall, hgc]
end Mp
end
section
/-! reading doings -/
namespace Mp
open PySem
def dD (d : List (List Nat)) : D := .tup (d.map dP)
def doingsIn (w : Str) : Option (List (List Nat)) := match alls partIn (Txt.split w "/") with
  | some [a, b, c, d] => if (b ++ (c ++ d)).Nodup then some [a, b, c, d] else none
  | _ => none
theorem distinct_le : ∀ xs : List Int, distinct xs ≤ xs.length
  | [] => Nat.le_refl _
  | x :: xs => by
    have := distinct_le xs
    rw [distinct]
    split <;> simp only [List.length_cons] <;> omega
theorem distinct_lt : ∀ xs : List Int, distinct xs < xs.length ↔ ¬ xs.Nodup
  | [] => by simp [distinct]
  | x :: xs => by
    have h1 := distinct_le xs
    have h2 := distinct_lt xs
    rw [distinct, List.nodup_cons]
    by_cases hx : x ∈ xs
    · rw [if_pos hx]
      simp only [List.length_cons]
      constructor
      · intro _ h
        exact h.1 hx
      · intro _
        omega
    · rw [if_neg hx]
      simp only [List.length_cons]
      constructor
      · intro h h'
        exact h2.mp (by omega) h'.2
      · intro h
        have := h2.mpr fun h' => h ⟨hx, h'⟩
        omega
theorem nodup_cast (xs : List Nat) : (xs.map fun n => ((n : Nat) : Int)).Nodup ↔ xs.Nodup := by
  induction xs with
  | nil => simp
  | cons x xs ih =>
    rw [List.map_cons, List.nodup_cons, List.nodup_cons, ih]
    have : ((x : Nat) : Int) ∈ xs.map (fun n => ((n : Nat) : Int)) ↔ x ∈ xs := by
      rw [List.mem_map]
      constructor
      · rintro ⟨a, ha, e⟩
        have : a = x := by omega
        exact this ▸ ha
      · intro h
        exact ⟨x, h, rfl⟩
    rw [this]
theorem len_nums {ns : List Nat} {m : Hm} (h : ns.length ≤ 1000) : lensetA (.d (.tup (ns.map dN))) m = .ok (.d (.int (distinct (ns.map fun n => ((n : Nat) : Int))))) m := by
  show (match alls D.int? (ns.map dN) with | some ns => grd (ns.length ≤ 1000) (R.ok (A.d (.int (distinct ns))) m) | none => .bad) = _
  rw [alls_map (f := D.int?) (e := dN) (g := fun n => ((n : Nat) : Int)) fun _ => rfl]
  refine grd_pos ?_
  simpa using h
theorem dt_oP {n : Nat} (hn : 1 ≤ n) (o : Option (List Nat)) : Dt n (oD dP o) := by
  cases o with
  | none => exact .non
  | some p =>
    refine (Dt.tup (n := 0) ?_).mono hn
    intro x hx
    obtain ⟨k, _, rfl⟩ := List.mem_map.mp hx
    exact .int
theorem alls_len {α β : Type} {f : α → Option β} {xs : List α} {ys : List β} (h : alls f xs = some ys) : ys.length = xs.length := by
  have := congrArg List.length (alls_some h).2
  simpa using this.symm
theorem part_len {w : Str} {p : List Nat} (h : partIn w = some p) : p.length ≤ w.length + 2 := by
  unfold partIn at h
  split at h
  · cases h; simp
  · cases ha : alls numIn (Txt.split w ".") with
    | none => rw [ha] at h; cases h
    | some ns =>
      rw [ha] at h
      dsimp only at h
      split at h
      · cases h
        have := alls_len ha
        have := PyProof.Rows.split_le w "."
        omega
      · cases h
theorem alls_mem {α β : Type} {f : α → Option β} : ∀ {xs : List α} {ys : List β}, alls f xs = some ys → ∀ y ∈ ys, ∃ x ∈ xs, f x = some y
  | [], _, h, y, hy => by cases h; cases hy
  | x :: xs, ys, h, y, hy => by
    rw [alls] at h
    cases hx : f x with
    | none => rw [hx] at h; cases h
    | some z =>
      cases hxs : alls f xs with
      | none => rw [hx, hxs] at h; cases h
      | some zs =>
        rw [hx, hxs] at h
        cases h
        rcases List.mem_cons.mp hy with e | e
        · exact ⟨x, by simp, e ▸ hx⟩
        · obtain ⟨x', h1, h2⟩ := alls_mem hxs y e
          exact ⟨x', by simp [h1], h2⟩
theorem doings_len {w : Str} {d : List (List Nat)} (h : alls partIn (Txt.split w "/") = some d) : ∀ p ∈ d, p.length ≤ w.length + 2 := fun p hp => by
  obtain ⟨x, h1, h2⟩ := alls_mem h p hp
  have := part_len h2
  have := PyProof.Rows.part_short h1
  omega
theorem lt_dD {n : Nat} (d : List (List Nat)) : D.lt n (dD d) := by
  unfold dD
  rw [D.lt]
  induction d with
  | nil => trivial
  | cons a p ih => exact ⟨lt_dP a, ih⟩
theorem ix_parts {m : Hm} {a b c d : List Nat} : ixA (.d (.tup [dP a, dP b, dP c, dP d])) (.d (.int 1)) m = .ok (.d (dP b)) m ∧ ixA (.d (.tup [dP a, dP b, dP c, dP d])) (.d (.int 2)) m = .ok (.d (dP c)) m ∧ ixA (.d (.tup [dP a, dP b, dP c, dP d])) (.d (.int 3)) m = .ok (.d (dP d)) m :=
  ⟨ix_tup rfl, ix_tup rfl, ix_tup rfl⟩
theorem add_dP {m : Hm} {a b : List Nat} (h : a.length + b.length ≤ 1000) : binA .Add (.d (dP a)) (.d (dP b)) m = .ok (.d (dP (a ++ b))) m := by
  have := bin_adt (m := m) (xs := a.map dN) (ys := b.map dN) (by simp; show _ ≤ 16777216; omega)
  unfold dP
  rw [this, List.map_append]
theorem r_doings_in (n : Nat) (w : Str) (m : Hm) (hw : w.length ≤ 330) : callF T (n + 4) 0 10 [.str w] m = .ok (oD dD (doingsIn w)) m := by
  rw [call_of td_doings_in rfl]
  unfold b_doings_in startD doingsIn
  have hs : ∀ m, splitA w (.d (.str "/")) m = .ok (.fl ((Txt.split w "/").map .str)) m := fun m => split_str ⟨by decide +kernel, by show _ ≤ 16777216; omega⟩
  have hO : ∀ f : Str → R A, onStr (.d (.str w)) f = f w := fun f => rfl
  have hc : ∀ m : Hm, compD [] (elt1 (callF T (n + 3)) T.con [3] (C.call 8 [C.var 3]) (Tg.nm 3) [] [some (D.str w), none, none, none]) ((Txt.split w "/").map .str) m = .ok ((Txt.split w "/").map fun p => oD dP (partIn p)) m := fun m => by
    refine compD_map (by simp) _ fun p hp => ?_
    have hl := PyProof.Rows.part_short hp
    unfold elt1
    simp [asg, wipeD, r_part_in n p m (by omega)]
  have hin : ∀ (xs : List D) (m : Hm), (∀ y ∈ xs, Dt 60 y) → cmpA .In (.d .non) (.d (.tup xs)) m = .ok (xs.any D.isNon) m := fun xs m h => in_nonD rfl rfl h
  have hin' := fun m : Hm => hin ((Txt.split w "/").map fun p => oD dP (partIn p)) m (by
    intro y hy
    obtain ⟨w, _, rfl⟩ := List.mem_map.mp hy
    exact dt_oP (by decide) _)
  rw [any_oD fun a => rfl] at hin'
  cases ha : alls partIn (Txt.split w "/") with
  | none =>
    have h1 := alls_none ha
    rw [h1] at hin'
    simp [x_cons, hs, hO, hc, hin']
  | some ps =>
    have h1 := (alls_some ha).1
    rw [h1, map_oD ha] at hin'
    have hlen := doings_len ha
    match ps, hlen with
    | [a, b, c, d], hlen =>
      have ha' := hlen a (by simp)
      have hb' := hlen b (by simp)
      have hc' := hlen c (by simp)
      have hd' := hlen d (by simp)
      have hixs := fun m : Hm => ix_parts (m := m) (a := a) (b := b) (c := c) (d := d)
      have h4 : ∀ m : Hm, binA .Add (.d (dP b)) (.d (dP c)) m = .ok (.d (dP (b ++ c))) m := fun m => add_dP (by omega)
      have h5 : ∀ m : Hm, binA .Add (.d (dP (b ++ c))) (.d (dP d)) m = .ok (.d (dP (b ++ (c ++ d)))) m := fun m => by
        rw [← List.append_assoc]
        exact add_dP (by rw [List.length_append]; omega)
      have h6 : ∀ m : Hm, lensetA (.d (dP (b ++ (c ++ d)))) m = .ok (.d (.int (distinct ((b ++ (c ++ d)).map fun n => ((n : Nat) : Int))))) m := fun m => len_nums (by rw [List.length_append, List.length_append]; omega)
      have h7 : ∀ m : Hm, biA .len [.d (dP (b ++ (c ++ d)))] m = .ok (.d (.int (((b ++ (c ++ d)).map dN).length))) m := fun m => rfl
      have hT : D.tup [dP a, dP b, dP c, dP d] = dD [a, b, c, d] := rfl
      have hgc : ∀ g : Hm, gc m (m ++ g) (dD [a, b, c, d]) = m := fun g => gc_app (lt_dD _)
      have hlt := distinct_lt ((b ++ (c ++ d)).map fun n => ((n : Nat) : Int))
      rw [nodup_cast, List.length_map] at hlt
      have h8 : ∀ m : Hm, biA .len [.d (dD [a, b, c, d])] m = .ok (.d (.int 4)) m := fun m => rfl
      show _ = R.ok (oD dD (if (b ++ (c ++ d)).Nodup then some [a, b, c, d] else none)) m
      simp only [List.map_cons, List.map_nil] at hin'
      rw [hT] at hin' hixs
      generalize hxs : b ++ (c ++ d) = xs at *
      by_cases hnd : xs.Nodup
      · have hlt' : ¬ distinct (xs.map fun n => ((n : Nat) : Int)) < xs.length := fun h => hlt.mp h hnd
        simp [x_cons, hs, hO, hc, hin', map_oD ha, hT, hixs, h4, h5, h6, h7, h8, hlt', hnd, hgc]
      · have hlt' := hlt.mpr hnd
        simp [x_cons, hs, hO, hc, hin', map_oD ha, hT, hixs, h4, h5, h6, h7, h8, hlt', hnd, hgc]
    | [], _ => simp [x_cons, hs, hO, hc, hin', map_oD ha]
    | [_], _ => simp [x_cons, hs, hO, hc, hin', map_oD ha]
    | [_, _], _ => simp [x_cons, hs, hO, hc, hin', map_oD ha]
    | [_, _, _], _ => simp [x_cons, hs, hO, hc, hin', map_oD ha]
    | _ :: _ :: _ :: _ :: _ :: r, _ =>
      have h9 : ¬ ((r.length : Int) + 1 + 1 + 1 + 1 + 1 = 4) := by omega
      simp [x_cons, hs, hO, hc, hin', map_oD ha, h9]
end Mp
end
section
/-! reading a row -/
namespace Mp
open PySem
theorem td_read_row : T.def_ 0 18 = some ⟨1, 3, b_read_row⟩ := rfl
def dR (r : List (List (List Nat))) : D := .tup (r.map dD)
def rowIn (x : Str) : Option (List (List (List Nat))) := if x = "" then some [] else alls doingsIn (Txt.split x " ")
theorem dt_oD {n : Nat} (hn : 2 ≤ n) (o : Option (List (List Nat))) : Dt n (oD dD o) := by
  cases o with
  | none => exact .non
  | some p =>
    refine (Dt.tup (n := 1) ?_).mono hn
    intro x hx
    obtain ⟨k, _, rfl⟩ := List.mem_map.mp hx
    exact dt_oP (Nat.le_refl _) (some k)
theorem lt_dR {n : Nat} (d : List (List (List Nat))) : D.lt n (dR d) := by
  unfold dR
  rw [D.lt]
  induction d with
  | nil => trivial
  | cons a p ih => exact ⟨lt_dD a, ih⟩
@[simp] theorem fin_exc {m m' : Hm} {e : Ex} {ρ : Rho} : finish m (.exc e ρ m') = .exc e (gc m m' .non) := rfl
theorem r_read_row (n : Nat) (x : Str) (m : Hm) (hx : x.length ≤ 16000000) (hw : ∀ w ∈ Txt.split x " ", w.length ≤ 330) : callF T (n + 5) 0 18 [.str x] m = match rowIn x with | some r => .ok (dR r) m | none => .exc ⟨9, []⟩ m := by
  rw [call_of td_read_row rfl]
  unfold b_read_row startD rowIn
  by_cases h0 : x = ""
  · have hb : (x == ("" : Str)) = true := by simp [h0]
    rw [if_pos h0]
    have hE : D.tup [] = dR [] := rfl
    simp [x_cons, hb, hE]
  · have hb : (x == ("" : Str)) = false := by simpa using h0
    rw [if_neg h0]
    have hs : ∀ m, splitA x (.d (.str " ")) m = .ok (.fl ((Txt.split x " ").map .str)) m := fun m => split_str ⟨by decide +kernel, by show _ ≤ 16777216; omega⟩
    have hO : ∀ f : Str → R A, onStr (.d (.str x)) f = f x := fun f => rfl
    have hc : ∀ m : Hm, compD [] (elt1 (callF T (n + 4)) T.con [2] (C.call 10 [C.var 2]) (Tg.nm 2) [] [some (D.str x), none, none]) ((Txt.split x " ").map .str) m = .ok ((Txt.split x " ").map fun p => oD dD (doingsIn p)) m := fun m => by
      refine compD_map (by simp) _ fun p hp => ?_
      unfold elt1
      simp [asg, wipeD, r_doings_in n p m (hw p hp)]
    have hin' : cmpA .In (.d .non) (.d (.ref m.length)) (m ++ [.lst ((Txt.split x " ").map fun p => oD dD (doingsIn p))]) = .ok (((Txt.split x " ").map fun p => oD dD (doingsIn p)).any D.isNon) (m ++ [.lst ((Txt.split x " ").map fun p => oD dD (doingsIn p))]) := in_nonD rfl (by simp [seqOf, lstOf, lstAt]) (by
      intro y hy
      obtain ⟨w, _, rfl⟩ := List.mem_map.mp hy
      exact dt_oD (by decide) _)
    have hbit : biA .tuple [.d (.ref m.length)] (m ++ [.lst ((Txt.split x " ").map fun p => oD dD (doingsIn p))]) = .ok (.d (.tup ((Txt.split x " ").map fun p => oD dD (doingsIn p)))) (m ++ [.lst ((Txt.split x " ").map fun p => oD dD (doingsIn p))]) := bit_ref at_end
    rw [any_oD fun a => rfl] at hin'
    cases ha : alls doingsIn (Txt.split x " ") with
    | none =>
      rw [alls_none ha] at hin'
      simp [x_cons, hb, hs, hO, hc, hin']
    | some r =>
      rw [(alls_some ha).1] at hin'
      rw [map_oD ha] at hin' hbit
      have hT : D.tup (r.map dD) = dR r := rfl
      rw [hT] at hbit
      simp [x_cons, hb, hs, hO, hc, hin', map_oD ha, hbit]
      exact gc_app (lt_dR r)
end Mp
end
section
/-! writing rows -/
namespace Mp
open PySem
theorem td_part_text : T.def_ 0 5 = some ⟨1, 2, b_part_text⟩ := rfl
theorem td_doings_text : T.def_ 0 6 = some ⟨1, 2, b_doings_text⟩ := rfl
theorem td_show_row : T.def_ 0 16 = some ⟨1, 2, b_show_row⟩ := rfl
theorem td__law_part_text : T.def_ 0 13 = some ⟨1, 2, b__law_part_text⟩ := rfl
theorem td__law_text : T.def_ 0 17 = some ⟨1, 3, b__law_text⟩ := rfl
def nT (n : Nat) : Str := Str.ofString (toString ((n : Nat) : Int))
def pT (p : List Nat) : Str := if p = [] then "-" else Txt.join "." (p.map nT)
def dT (d : List (List Nat)) : Str := Txt.join "/" (d.map pT)
def rT (r : List (List (List Nat))) : Str := Txt.join " " (r.map dT)
theorem sum_le {k : Nat} : ∀ {xs : List Nat}, (∀ x ∈ xs, x ≤ k) → xs.sum ≤ xs.length * k
  | [], _ => by simp
  | x :: xs, h => by
    have h1 := h x (by simp)
    have h2 := sum_le (xs := xs) fun y hy => h y (by simp [hy])
    rw [List.sum_cons, List.length_cons, Nat.succ_mul]
    omega
theorem sums_le {α : Type} {k : Nat} {f : α → Str} {xs : List α} (h : ∀ x ∈ xs, (f x).length ≤ k) (s : Nat) : (xs.map fun x => (f x).length).sum + xs.length * s ≤ xs.length * (k + s) := by
  have := sum_le (k := k) (xs := xs.map fun x => (f x).length) (by
    intro y hy
    obtain ⟨x, hx, rfl⟩ := List.mem_map.mp hy
    exact h x hx)
  rw [List.length_map] at this
  rw [Nat.mul_add]
  omega
theorem sjoin_le (s : Str) : ∀ ys : List Str, (Str.join s ys).length ≤ (ys.map (·.length)).sum + ys.length * s.length
  | [] => by
    have : (Str.join s []).length = 0 := rfl
    omega
  | [x] => by
    show x.length ≤ _
    simp
  | x :: y :: r => by
    have ih := sjoin_le s (y :: r)
    have e : Str.join s (x :: y :: r) = x ++ s ++ Str.join s (y :: r) := rfl
    have ea : ∀ a b : Str, (a ++ b).length = a.length + b.length := fun a b => strLen_append a b
    rw [e, ea, ea, List.map_cons, List.sum_cons, List.length_cons, Nat.succ_mul]
    omega
theorem join_le {α : Type} {s : Str} {k : Nat} {f : α → Str} {xs : List α} (h : ∀ x ∈ xs, (f x).length ≤ k) : (Txt.join s (xs.map f)).length ≤ xs.length * (k + s.length) := by
  have h1 := sums_le h s.length
  have h2 := sjoin_le s (xs.map f)
  rw [List.map_map, List.length_map] at h2
  rw [TL.join_eq]
  exact Nat.le_trans h2 h1
/-- small numbers, not too many -/
def Sm (k : Nat) (p : List Nat) : Prop := p.length ≤ k ∧ ∀ n ∈ p, n < 1000000000
theorem nT_len {n : Nat} (h : n < 1000000000) : (nT n).length ≤ 9 := by
  unfold nT
  rw [TL.len_tl, TL.tl_num]
  exact TL.numL_len (by decide) h
theorem pT_len {k : Nat} {p : List Nat} (h : Sm k p) : (pT p).length ≤ k * 10 + 1 := by
  unfold pT
  split
  · show Str.length ("-" : Str) ≤ _
    have : Str.length ("-" : Str) = 1 := by decide +kernel
    omega
  · have h1 := join_le (s := ".") (f := nT) (xs := p) (k := 9) fun n hn => nT_len (h.2 n hn)
    have e : (Str.ofString ".").length = 1 := by decide +kernel
    rw [e] at h1
    have := Nat.mul_le_mul_right 10 h.1
    omega
theorem dT_len {d : List (List Nat)} (h4 : d.length ≤ 4) (h : ∀ p ∈ d, Sm 8 p) : (dT d).length ≤ 328 := by
  have h1 := join_le (s := "/") (f := pT) (xs := d) (k := 81) fun p hp => pT_len (h p hp)
  have e : (Str.ofString "/").length = 1 := by decide +kernel
  rw [e] at h1
  unfold dT
  omega
/-- rows that may be shown -/
def SmR (r : List (List (List Nat))) : Prop := ∀ d ∈ r, d.length ≤ 4 ∧ ∀ p ∈ d, Sm 8 p
theorem rT_len {r : List (List (List Nat))} (h : SmR r) : (rT r).length ≤ r.length * 329 := by
  have h1 := join_le (s := " ") (f := dT) (xs := r) (k := 328) fun d hd => dT_len (h d hd).1 (h d hd).2
  have e : (Str.ofString " ").length = 1 := by decide +kernel
  rw [e] at h1
  unfold rT
  exact h1
theorem str_num {m : Hm} {n : Nat} (h : n < 1000000000) : biA .str [.d (dN n)] m = .ok (.d (.str (nT n))) m := bis_int (by simp; omega)
theorem dP_nil : dP [] = .tup [] := rfl
theorem r_parts {n : Nat} {v : List Nat} (p : List Nat) (m : Hm) (h : Sm 8 p) (ρ : Rho) (call : Calls) : compD [] (elt1 call T.con [1] (C.bi BI.str [C.var 1]) (Tg.nm 1) [] [some (dP p), none]) (p.map dN) m = .ok (p.map fun n => .str (nT n)) m := by
  refine compD_map (by simp) _ fun k hk => ?_
  unfold elt1
  simp [asg, wipeD, str_num (h.2 k hk)]
theorem join_parts {p : List Nat} {m : Hm} (h : Sm 8 p) : joinA "." (.fl (p.map fun n => .str (nT n))) m = .ok (.d (.str (Txt.join "." (p.map nT)))) m := by
  refine join_fl ?_
  have := sums_le (f := nT) (xs := p) (k := 9) (fun n hn => nT_len (h.2 n hn)) (Str.ofString ".").length
  have e : (Str.ofString ".").length = 1 := by decide +kernel
  rw [e] at this ⊢
  have := h.1
  omega
theorem len_dP {p : List Nat} {m : Hm} : biA .len [.d (dP p)] m = .ok (.d (.int p.length)) m := by
  have : (p.map dN).length = p.length := by simp
  rw [← this]
  rfl
theorem it_dP {p : List Nat} {m : Hm} : itA .seq [.d (dP p)] m = .ok (p.map dN, []) m := rfl
theorem r_part_text (n : Nat) (p : List Nat) (m : Hm) (h : Sm 8 p) : callF T (n + 1) 0 5 [dP p] m = .ok (.str (pT p)) m := by
  rw [call_of td_part_text rfl]
  unfold b_part_text startD pT
  by_cases hp : p = []
  · have hz : (p.length == 0) = true := by simp [hp]
    have hz' : ((p.length : Int) == 0) = true := by simp [hp]
    rw [if_pos hp]
    simp [x_cons, len_dP, con_4, hz', hp]
  · have hz' : ¬ ((p.length : Int) = 0) := by
      have : p.length ≠ 0 := fun e => hp (List.length_eq_zero_iff.mp e)
      omega
    rw [if_neg hp]
    simp [x_cons, len_dP, con_4, hp, it_dP, r_parts (n := n) (v := p) p _ h [] , join_parts h, A.str?, onStr]
theorem eq_dP {p : List Nat} {m : Hm} : cmpA .Eq (.d (dP p)) (.d (.tup [])) m = .ok p.isEmpty m := by
  have := eq_nil (n := 0) (xs := p.map dN) (m := m) (by decide) (by
    intro x hx
    obtain ⟨k, _, rfl⟩ := List.mem_map.mp hx
    exact .int)
  unfold dP
  rw [this]
  cases p <;> rfl
theorem r__law_part_text (n : Nat) (p : List Nat) (m : Hm) (h : Sm 8 p) : callF T (n + 1) 0 13 [dP p] m = .ok (.str (pT p)) m := by
  rw [call_of td__law_part_text rfl]
  unfold b__law_part_text startD pT
  by_cases hp : p = []
  · have hz' : p.isEmpty = true := by simp [hp]
    rw [if_pos hp]
    simp [x_cons, eq_dP, hz']
  · have hz' : p.isEmpty = false := by simpa using hp
    rw [if_neg hp]
    simp [x_cons, eq_dP, hz', it_dP, r_parts (n := n) (v := p) p _ h [] , join_parts h, A.str?, onStr]
end Mp
end
section
/-! writing doings and rows; what is written is read -/
namespace Mp
open PySem
theorem it_dD {d : List (List Nat)} {m : Hm} : itA .seq [.d (dD d)] m = .ok (d.map dP, []) m := rfl
theorem it_dR {d : List (List (List Nat))} {m : Hm} : itA .seq [.d (dR d)] m = .ok (d.map dD, []) m := rfl
theorem join_doings {d : List (List Nat)} {m : Hm} (h4 : d.length ≤ 4) (h : ∀ p ∈ d, Sm 8 p) : joinA "/" (.fl (d.map fun p => .str (pT p))) m = .ok (.d (.str (dT d))) m := by
  refine join_fl ?_
  have := sums_le (f := pT) (xs := d) (k := 81) (fun p hp => pT_len (h p hp)) (Str.ofString "/").length
  have e : (Str.ofString "/").length = 1 := by decide +kernel
  rw [e] at this ⊢
  omega
theorem join_row {r : List (List (List Nat))} {m : Hm} (h4 : r.length ≤ 400) (h : SmR r) : joinA " " (.fl (r.map fun p => .str (dT p))) m = .ok (.d (.str (rT r))) m := by
  refine join_fl ?_
  have := sums_le (f := dT) (xs := r) (k := 328) (fun p hp => dT_len (h p hp).1 (h p hp).2) (Str.ofString " ").length
  have e : (Str.ofString " ").length = 1 := by decide +kernel
  rw [e] at this ⊢
  omega
theorem r_doings_text (n : Nat) (d : List (List Nat)) (m : Hm) (h4 : d.length ≤ 4) (h : ∀ p ∈ d, Sm 8 p) : callF T (n + 2) 0 6 [dD d] m = .ok (.str (dT d)) m := by
  rw [call_of td_doings_text rfl]
  unfold b_doings_text startD
  have hc : ∀ m : Hm, compD [] (elt1 (callF T (n + 1)) T.con [1] (C.call 5 [C.var 1]) (Tg.nm 1) [] [some (dD d), none]) (d.map dP) m = .ok (d.map fun p => .str (pT p)) m := fun m => by
    refine compD_map (by simp) _ fun p hp => ?_
    unfold elt1
    simp [asg, wipeD, r_part_text n p m (h p hp)]
  simp [x_cons, it_dD, hc, join_doings h4 h, A.str?, onStr]
theorem r_show_row (n : Nat) (r : List (List (List Nat))) (m : Hm) (h4 : r.length ≤ 400) (h : SmR r) : callF T (n + 3) 0 16 [dR r] m = .ok (.str (rT r)) m := by
  rw [call_of td_show_row rfl]
  unfold b_show_row startD
  have hc : ∀ m : Hm, compD [] (elt1 (callF T (n + 2)) T.con [1] (C.call 6 [C.var 1]) (Tg.nm 1) [] [some (dR r), none]) (r.map dD) m = .ok (r.map fun p => .str (dT p)) m := fun m => by
    refine compD_map (by simp) _ fun p hp => ?_
    unfold elt1
    simp [asg, wipeD, r_doings_text n p m (h p hp).1 (h p hp).2]
  simp [x_cons, it_dR, hc, join_row h4 h, A.str?, onStr]
theorem r__law_text (n : Nat) (r : List (List (List Nat))) (m : Hm) (h4 : r.length ≤ 400) (h : SmR r) : callF T (n + 2) 0 17 [dR r] m = .ok (.str (rT r)) m := by
  rw [call_of td__law_text rfl]
  unfold b__law_text startD
  have hc : ∀ m : Hm, compD [] (elt1 (callF T (n + 1)) T.con [1] ((C.str "/").join (.comp [2] (.call 13 [(.var 2)]) (.nm 2) .seq [(.var 1)] [])) (Tg.nm 1) [] [some (dR r), none, none]) (r.map dD) m = .ok (r.map fun p => .str (dT p)) m := fun m => by
    refine compD_map (by simp) _ fun d hd => ?_
    have hc' : ∀ m : Hm, compD [] (elt1 (callF T (n + 1)) T.con [2] (C.call 13 [C.var 2]) (Tg.nm 2) [] [some (dR r), some (dD d), none]) (d.map dP) m = .ok (d.map fun p => .str (pT p)) m := fun m => by
      refine compD_map (by simp) _ fun p hp => ?_
      unfold elt1
      simp [asg, wipeD, r__law_part_text n p m ((h d hd).2 p hp)]
    unfold elt1
    simp [asg, wipeD, it_dD, hc', join_doings (h d hd).1 (h d hd).2, A.str?, onStr]
  simp [x_cons, it_dR, hc, join_row h4 h, A.str?, onStr]
/-! what is written is read -/
theorem numIn_nT {n : Nat} (h : n < 1000000000) : numIn (nT n) = some n := by
  have ht : (nT n).cps.toList = TL.numL n := TL.tl_num n
  have hl : (nT n).length = (TL.numL n).length := by rw [TL.len_tl]; exact congrArg List.length ht
  have h9 : (TL.numL n).length ≤ 9 := TL.numL_len (by decide) h
  have hne := TL.numL_ne n
  have h1 : 1 ≤ (TL.numL n).length := by
    cases hh : TL.numL n with
    | nil => exact absurd hh hne
    | cons a b => simp
  unfold numIn
  rw [if_pos, ht, TL.numL_val]
  refine ⟨by omega, by omega, ?_, ?_⟩
  · rw [ht, List.all_eq_true]
    intro c hc
    have := TL.numL_digits n c hc
    simp [isDig, this.1, this.2]
  · rw [ht]
    rintro ⟨hh, hx⟩
    by_cases hn : n < 10
    · rw [TL.numL_lt hn] at hh
      have : n = 0 := by simp at hh; exact hh
      subst this
      exact hx (by decide +kernel)
    · -- the first figure isn't nought
      have : ∀ k, 10 ≤ k → (TL.numL k).head? ≠ some 48 := by
        intro k
        induction k using Nat.strongRecOn with
        | _ k ih =>
          intro hk hh
          rw [TL.numL_step hk] at hh
          by_cases h2 : 10 ≤ k / 10
          · have := ih (k / 10) (by omega) h2
            rw [List.head?_append] at hh
            cases hq : (TL.numL (k / 10)).head? with
            | none => exact TL.numL_ne _ (List.head?_eq_none_iff.mp hq)
            | some c =>
              rw [hq] at hh this
              exact this hh
          · rw [TL.numL_lt (by omega)] at hh
            simp at hh
            omega
      exact this n (by omega) hh
theorem alls_of {α β : Type} {f : α → Option β} {g : β → α} : ∀ {ys : List β}, (∀ y ∈ ys, f (g y) = some y) → alls f (ys.map g) = some ys
  | [], _ => rfl
  | y :: ys, h => by
    rw [List.map_cons, alls, h y (by simp), alls_of fun z hz => h z (by simp [hz])]
theorem tl_s {s : String} : TL.tl (Str.ofString s) = s.toList.map Char.toNat := TL.tl_ofString s
theorem dot_nT (n : Nat) (c : Nat) (h : c < 48) : c ∉ TL.tl (nT n) := by
  unfold nT
  rw [TL.tl_num]
  exact TL.numL_free (.inl h)
theorem split_nums {p : List Nat} (hp : p ≠ []) : Txt.split (Txt.join "." (p.map nT)) "." = p.map nT := by
  refine TL.split_join (y := (".": String)) (s := 46) (S := []) (by rw [tl_s]; decide) (by decide +kernel) (by simpa using hp) ?_
  intro q hq
  obtain ⟨n, _, rfl⟩ := List.mem_map.mp hq
  exact dot_nT n 46 (by decide)
theorem free_join {c : Nat} {s : Str} (hs : c ∉ TL.tl s) : ∀ ys : List Str, (∀ y ∈ ys, c ∉ TL.tl y) → c ∉ TL.tl (Str.join s ys)
  | [], _ => by
    show c ∉ TL.tl (Str.empty)
    intro h
    cases h
  | [x], h => h x (by simp)
  | x :: y :: r, h => by
    have ih := free_join hs (y :: r) fun z hz => h z (by simp [List.mem_cons.mp hz])
    have e : Str.join s (x :: y :: r) = x ++ s ++ Str.join s (y :: r) := rfl
    rw [e, TL.tl_append, TL.tl_append, List.mem_append, List.mem_append]
    rintro ((h1 | h1) | h1)
    · exact h x (by simp) h1
    · exact hs h1
    · exact ih h1
theorem free_pT {c : Nat} (p : List Nat) (h1 : c < 45 ∨ c = 47) : c ∉ TL.tl (pT p) := by
  unfold pT
  split
  · rw [tl_s]
    intro h
    have : c = 45 := by simpa using h
    omega
  · rw [TL.join_eq]
    refine free_join ?_ _ ?_
    · rw [tl_s]
      intro h
      have : c = 46 := by simpa using h
      omega
    · intro q hq
      obtain ⟨n, _, rfl⟩ := List.mem_map.mp hq
      exact dot_nT n c (by omega)
theorem pT_dash {p : List Nat} (hp : p ≠ []) : pT p ≠ "-" := by
  unfold pT
  rw [if_neg hp]
  intro h
  have hm : (45 : Nat) ∈ TL.tl (Txt.join "." (p.map nT)) := by
    rw [h, tl_s]
    decide
  rw [TL.join_eq] at hm
  refine free_join ?_ _ ?_ hm
  · rw [tl_s]
    decide
  · intro q hq
    obtain ⟨n, _, rfl⟩ := List.mem_map.mp hq
    exact dot_nT n 45 (by decide)
theorem partIn_pT {k : Nat} {p : List Nat} (h : Sm k p) (hr : rising p = true) : partIn (pT p) = some p := by
  by_cases hp : p = []
  · subst hp
    rfl
  · unfold partIn
    rw [if_neg (pT_dash hp)]
    unfold pT
    rw [if_neg hp, split_nums hp, alls_of fun n hn => numIn_nT (h.2 n hn)]
    dsimp only
    rw [if_pos hr]
theorem split_doings {d : List (List Nat)} (hd : d ≠ []) : Txt.split (dT d) "/" = d.map pT := by
  refine TL.split_join (y := ("/": String)) (s := 47) (S := []) (by rw [tl_s]; decide) (by decide +kernel) (by simpa using hd) ?_
  intro q hq
  obtain ⟨n, _, rfl⟩ := List.mem_map.mp hq
  exact free_pT n (.inr rfl)
/-- doings as they are drawn -/
def Dgs (k : Nat) (d : List (List Nat)) : Prop := ∃ a b c e, d = [a, b, c, e] ∧ (∀ p ∈ d, Sm k p ∧ rising p = true) ∧ (b ++ (c ++ e)).Nodup
theorem doingsIn_dT {k : Nat} {d : List (List Nat)} (h : Dgs k d) : doingsIn (dT d) = some d := by
  obtain ⟨a, b, c, e, rfl, hp, hn⟩ := h
  unfold doingsIn
  rw [split_doings (by simp), alls_of fun p hq => partIn_pT (hp p hq).1 (hp p hq).2]
  dsimp only
  rw [if_pos hn]
theorem free_dT (d : List (List Nat)) : 32 ∉ TL.tl (dT d) := by
  unfold dT
  rw [TL.join_eq]
  refine free_join ?_ _ ?_
  · rw [tl_s]
    decide
  · intro q hq
    obtain ⟨n, _, rfl⟩ := List.mem_map.mp hq
    exact free_pT n (.inl (by decide))
theorem split_row {r : List (List (List Nat))} (hr : r ≠ []) : Txt.split (rT r) " " = r.map dT := by
  refine TL.split_join (y := (" ": String)) (s := 32) (S := []) (by rw [tl_s]; decide) (by decide +kernel) (by simpa using hr) ?_
  intro q hq
  obtain ⟨n, _, rfl⟩ := List.mem_map.mp hq
  exact free_dT n
theorem dT_ne {k : Nat} {d : List (List Nat)} (h : Dgs k d) : dT d ≠ "" := by
  intro h0
  obtain ⟨a, b, c, e, rfl, hp, hn⟩ := h
  have := split_doings (d := [a, b, c, e]) (by simp)
  rw [h0] at this
  have h1 : (Txt.split "" "/").length = 1 := by decide +kernel
  rw [this] at h1
  simp at h1
theorem rT_ne {k : Nat} {r : List (List (List Nat))} (hr : r ≠ []) (h : ∀ d ∈ r, Dgs k d) : rT r ≠ "" := by
  intro h0
  have := split_row hr
  rw [h0] at this
  have h1 : Txt.split "" " " = [("" : Str)] := by decide +kernel
  rw [h1] at this
  match r, hr with
  | d :: ds, _ =>
    have := (List.cons.inj this).1
    exact dT_ne (h d (by simp)) this.symm
theorem rowIn_rT {k : Nat} {r : List (List (List Nat))} (h : ∀ d ∈ r, Dgs k d) : rowIn (rT r) = some r := by
  by_cases hr : r = []
  · subst hr
    rfl
  · unfold rowIn
    rw [if_neg (rT_ne hr h), split_row hr]
    exact alls_of fun d hd => doingsIn_dT (h d hd)
end Mp
end
section
/-! the box of draws -/
namespace Mp
open PySem
theorem td__law_box : T.def_ 0 14 = some ⟨2, 4, b__law_box⟩ := rfl
theorem td__law_take : T.def_ 0 11 = some ⟨2, 3, b__law_take⟩ := rfl
def BoxAt (m : Hm) (b : Nat) : Prop := ∃ g x c : Int, m[b]? = some (.lst [.int g, .int x, .int c]) ∧ 0 ≤ g ∧ 0 ≤ x ∧ x < 2147483647
/-- only the box is another one; more lies behind -/
structure St (b : Nat) (m m' : Hm) : Prop where
  box : BoxAt m' b
  len : m.length ≤ m'.length
  same : ∀ j, j ≠ b → j < m.length → m'[j]? = m[j]?
theorem BoxAt.lt {m : Hm} {b : Nat} (h : BoxAt m b) : b < m.length := by
  obtain ⟨g, x, c, e, _⟩ := h
  exact (List.getElem?_eq_some_iff.mp e).1
theorem St.refl {m : Hm} {b : Nat} (h : BoxAt m b) : St b m m := ⟨h, Nat.le_refl _, fun _ _ _ => rfl⟩
theorem St.trans {m m' m'' : Hm} {b : Nat} (h : St b m m') (h' : St b m' m'') : St b m m'' :=
  ⟨h'.box, Nat.le_trans h.len h'.len, fun j hj hl => by rw [h'.same j hj (Nat.lt_of_lt_of_le hl h.len), h.same j hj hl]⟩
theorem St.old {m m' : Hm} {b j : Nat} {o : Ob} (h : St b m m') (hj : j ≠ b) (ho : m[j]? = some o) : m'[j]? = some o := by
  rw [h.same j hj (List.getElem?_eq_some_iff.mp ho).1, ho]
theorem St.app {m g : Hm} {b : Nat} (h : BoxAt m b) : St b m (m ++ g) := by
  obtain ⟨y, x, c, e, r⟩ := h
  have hb := (List.getElem?_eq_some_iff.mp e).1
  exact ⟨⟨y, x, c, by rw [List.getElem?_append_left hb]; exact e, r⟩, by simp, fun j _ hl => List.getElem?_append_left hl⟩
theorem St.gc {m m' : Hm} {b : Nat} {d : D} (hb : BoxAt m b) (h : St b m m') : St b m (gc m m' d) := by
  unfold Mp.gc
  split
  · exact .refl hb
  · exact h
/-- something newer than m is another one -/
theorem St.set {m m' : Hm} {b j : Nat} {o : Ob} (hb : BoxAt m b) (h : St b m m') (hj : m.length ≤ j) : St b m (m'.set j o) := by
  have hlt := hb.lt
  obtain ⟨y, x, c, e, r⟩ := h.box
  have hjb : j ≠ b := by omega
  refine ⟨⟨y, x, c, by rw [List.getElem?_set_ne hjb]; exact e, r⟩, by simpa using h.len, fun k hk hl => ?_⟩
  rw [List.getElem?_set_ne (by omega)]
  exact h.same k hk hl
theorem ix_box {m : Hm} {b : Nat} {g x c : Int} (h : m[b]? = some (.lst [.int g, .int x, .int c])) : ixA (.d (.ref b)) (.d (.int 0)) m = .ok (.d (.int g)) m ∧ ixA (.d (.ref b)) (.d (.int 1)) m = .ok (.d (.int x)) m ∧ ixA (.d (.ref b)) (.d (.int 2)) m = .ok (.d (.int c)) m :=
  ⟨ix_ref h rfl, ix_ref h rfl, ix_ref h rfl⟩
theorem st_lst {m : Hm} {r j : Nat} {xs : List D} {k : Int} {d : D} (h : m[r]? = some (.lst xs)) (hk : L2.ixN xs.length k = some j) : storeA (.d (.ref r)) (.d (.int k)) d m = .ok () (m.set r (.lst (xs.set j d))) := by
  unfold storeA
  dsimp only
  rw [h]
  dsimp only
  rw [hk]
theorem st_box {m : Hm} {b : Nat} {g x c : Int} {d : D} (h : m[b]? = some (.lst [.int g, .int x, .int c])) : storeA (.d (.ref b)) (.d (.int 0)) d m = .ok () (m.set b (.lst [d, .int x, .int c])) ∧ storeA (.d (.ref b)) (.d (.int 1)) d m = .ok () (m.set b (.lst [.int g, d, .int c])) ∧ storeA (.d (.ref b)) (.d (.int 2)) d m = .ok () (m.set b (.lst [.int g, .int x, d])) :=
  ⟨st_lst (j := 0) h rfl, st_lst (j := 1) h rfl, st_lst (j := 2) h rfl⟩
theorem set_box {m : Hm} {b : Nat} {o o' : Ob} (h : m[b]? = some o) : (m.set b o')[b]? = some o' := by
  rw [List.getElem?_set_self (List.getElem?_eq_some_iff.mp h).1]
theorem St.here {m : Hm} {b : Nat} {g x c : Int} {o : Ob} (h : m[b]? = some o) (hg : 0 ≤ g) (hx : 0 ≤ x) (hx' : x < 2147483647) : St b m (m.set b (.lst [.int g, .int x, .int c])) :=
  ⟨⟨g, x, c, set_box h, hg, hx, hx'⟩, by simp, fun j hj _ => List.getElem?_set_ne (Ne.symm hj)⟩
theorem r__law_take (n : Nat) (b : Nat) (many : Int) (m : Hm) (hb : BoxAt m b) (h0 : 0 < many) (h1 : many < 1073741824) : ∃ r m', callF T (n + 1) 0 11 [.ref b, .int many] m = .ok (.int r) m' ∧ 0 ≤ r ∧ r < many ∧ St b m m' := by
  obtain ⟨g, x, c, e, hg, hx, hx'⟩ := id hb
  rw [call_of td__law_take rfl]
  unfold b__law_take startD
  have i0 := ix_box e
  have s0 := st_box (d := .int (c + 1)) e
  have e1 : (m.set b (.lst [.int g, .int x, .int (c + 1)]))[b]? = some (.lst [.int g, .int x, .int (c + 1)]) := set_box e
  have i1 := ix_box e1
  have hm : ∀ (i : Int) (m : Hm), binA .Mod (.d (.int i)) (.d (.int many)) m = .ok (.d (.int (i % many))) m := fun i m => bin_mod h0
  have hd : ∀ (i : Int) (m : Hm), binA .FloorDiv (.d (.int i)) (.d (.int many)) m = .ok (.d (.int (i / many))) m := fun i m => bin_div ⟨h0, h1⟩
  have sA := fun d => st_box (d := d) e1
  suffices h : ∃ r m1, finish m (exSs (callF T n) T.con b__law_take [some (.ref b), some (.int many), none] m) = .ok (.int r) (gc m m1 (.int r)) ∧ 0 ≤ r ∧ r < many ∧ St b m m1 by
    obtain ⟨r, m1, h1, h2, h3, h4⟩ := h
    exact ⟨r, _, h1, h2, h3, h4.gc hb⟩
  unfold b__law_take
  by_cases hgr : 0 < g ∧ c + 1 ≤ 60
  · obtain ⟨hg0, hc⟩ := hgr
    refine ⟨g % many, m.set b (.lst [.int (g / many), .int x, .int (c + 1)]), ?_, Int.emod_nonneg _ (by omega), Int.emod_lt_of_pos _ h0, ?_⟩
    · simp [x_cons, i0, s0, i1, hg0, hc, hm, hd, sA, List.set_set]
    · exact St.here e (Int.ediv_nonneg hg (by omega)) hx hx'
  · obtain ⟨x', ex'⟩ : ∃ x', x' = (x * 48271 + 12345 + (c + 1)) % 2147483647 := ⟨_, rfl⟩
    have hx0 : 0 ≤ x' := by omega
    have hx1 : x' < 2147483647 := by omega
    have e2 : (m.set b (.lst [.int g, .int x', .int (c + 1)]))[b]? = some (.lst [.int g, .int x', .int (c + 1)]) := set_box e
    have i2 := ix_box e2
    have q1 : ∀ m : Hm, binA .Mult (.d (.int x)) (.d (.int 48271)) m = .ok (.d (.int (x * 48271))) m := fun m => bin_mul (.inr (by decide))
    have q2 : ∀ m : Hm, binA .Mod (.d (.int (x * 48271 + 12345 + (c + 1)))) (.d (.int 2147483647)) m = .ok (.d (.int x')) m := fun m => by rw [ex']; exact bin_mod (by decide)
    have q3 : ∀ m : Hm, binA .Mod (.d (.int x')) (.d (.int 40009)) m = .ok (.d (.int (x' % 40009))) m := fun m => bin_mod (by decide)
    have q4 : ∀ m : Hm, binA .Mult (.d (.int x')) (.d (.int (x' % 40009 + 3))) m = .ok (.d (.int (x' * (x' % 40009 + 3)))) m := fun m => bin_mul (.inl (by omega))
    have q5 : ∀ (i : Int) (m : Hm), binA .Mod (.d (.int i)) (.d (.int 2147483629)) m = .ok (.d (.int (i % 2147483629))) m := fun i m => bin_mod (by decide)
    have q6 : ∀ (i : Int) (m : Hm), binA .FloorDiv (.d (.int i)) (.d (.int 7)) m = .ok (.d (.int (i / 7))) m := fun i m => bin_div ⟨by decide, by decide⟩
    refine ⟨x' * (x' % 40009 + 3) % 2147483629 / 7 % many, m.set b (.lst [.int g, .int x', .int (c + 1)]), ?_, Int.emod_nonneg _ (by omega), Int.emod_lt_of_pos _ h0, St.here e hg hx0 hx1⟩
    by_cases hg0 : 0 < g
    · have hc : ¬ c + 1 ≤ 60 := fun h => hgr ⟨hg0, h⟩
      simp [x_cons, i0, s0, i1, hg0, hc, hm, hd, sA, List.set_set, q1, q2, i2, q3, q4, q5, q6]
    · simp [x_cons, i0, s0, i1, hg0, hm, hd, sA, List.set_set, q1, q2, i2, q3, q4, q5, q6]
theorem r__law_box (n : Nat) (ns : List Int) (k : Nat) (m : Hm) (hk : k ≤ 63) : ∃ g x : Int, callF T (n + 1) 0 14 [.frl (ns.map .int), .int k] m = .ok (.ref m.length) (m ++ [.lst [.int g, .int x, .int 0]]) ∧ 0 ≤ g ∧ 0 ≤ x ∧ x < 2147483647 := by
  rw [call_of td__law_box rfl]
  unfold b__law_box startD
  obtain ⟨cell, hcell, hcell'⟩ : ∃ cell : Int, (k < ns.length → L2.atI (ns.map D.int) k = some (.int cell)) ∧ (¬ k < ns.length → cell = 0) := by
    by_cases h : k < ns.length
    · refine ⟨ns[k], fun _ => ?_, fun h' => absurd h h'⟩
      simp [L2.atI, L2.ixN, h]
    · exact ⟨0, fun h' => absurd h' h, fun _ => rfl⟩
  obtain ⟨a, ha⟩ : ∃ a : Int, a = if cell < 0 then -cell else cell := ⟨_, rfl⟩
  have ha0 : 0 ≤ a := by rw [ha]; split <;> omega
  obtain ⟨f, hf⟩ : ∃ f : Int, f = if decide (10 ^ 18 ≤ a) then 1 else 0 := ⟨_, rfl⟩
  have hf01 : f = 0 ∨ f = 1 := by rw [hf]; split <;> simp
  obtain ⟨x, hx⟩ : ∃ x : Int, x = (cell % 2147483629 + 7919 * k * k + 11) * 48271 % 2147483647 := ⟨_, rfl⟩
  have q1 : ∀ m : Hm, binA .Pow (.d (.int 10)) (.d (.int 18)) m = .ok (.d (.int (10 ^ 18))) m := fun m => bin_pow ⟨by decide, by decide, by decide⟩
  have q2 : ∀ m : Hm, binA .Mult (.d (.int a)) (.d (.int f)) m = .ok (.d (.int (a * f))) m := fun m => bin_mul (.inr (by rcases hf01 with h | h <;> rw [h] <;> decide))
  have q3 : ∀ m : Hm, binA .Mod (.d (.int cell)) (.d (.int 2147483629)) m = .ok (.d (.int (cell % 2147483629))) m := fun m => bin_mod (by decide)
  have q4 : ∀ m : Hm, binA .Mult (.d (.int 7919)) (.d (.int k)) m = .ok (.d (.int (7919 * k))) m := fun m => bin_mul (.inl (by decide))
  have q5 : ∀ m : Hm, binA .Mult (.d (.int (7919 * k))) (.d (.int k)) m = .ok (.d (.int (7919 * k * k))) m := fun m => bin_mul (.inr (by omega))
  have q6 : ∀ m : Hm, binA .Mult (.d (.int (cell % 2147483629 + 7919 * k * k + 11))) (.d (.int 48271)) m = .ok (.d (.int ((cell % 2147483629 + 7919 * k * k + 11) * 48271))) m := fun m => bin_mul (.inr (by decide))
  have q7 : ∀ m : Hm, binA .Mod (.d (.int ((cell % 2147483629 + 7919 * k * k + 11) * 48271))) (.d (.int 2147483647)) m = .ok (.d (.int x)) m := fun m => by rw [hx]; exact bin_mod (by decide)
  have q8 : ∀ m : Hm, biA .abs [.d (.int cell)] m = .ok (.d (.int a)) m := fun m => by rw [ha]; rfl
  have q9 : ∀ m : Hm, biA .int [.d (.bl (decide (10 ^ 18 ≤ a)))] m = .ok (.d (.int f)) m := fun m => by rw [hf]; rfl
  have hgc : ∀ q : Hm, gc m (m ++ q) (.ref m.length) = m ++ q := fun q => by
    unfold gc
    rw [if_neg]
    rintro ⟨_, h⟩
    rw [D.lt] at h
    omega
  refine ⟨a * f, x, ?_, Int.mul_nonneg ha0 (by omega), by rw [hx]; omega, by rw [hx]; omega⟩
  have h3 : (3 : Nat) ≤ sizeLine := by decide
  by_cases h : k < ns.length
  · have hc := hcell h
    have hix : ∀ m : Hm, ixA (.d (.frl (ns.map .int))) (.d (.int k)) m = .ok (.d (.int cell)) m := fun m => ix_frl hc
    simp only [Int.reducePow] at q1 q9
    simp [x_cons, h, hix, q1, q2, q3, q4, q5, q6, q7, q8, q9, h3, hgc]
  · have hc := hcell' h
    rw [← hc] at *
    simp only [Int.reducePow] at q1 q9
    simp [x_cons, h, q1, q2, q3, q4, q5, q6, q7, q8, q9, h3, hgc]
end Mp
end
section
/-! rising numbers -/
namespace Mp
open PySem
theorem td__law_rising : T.def_ 0 12 = some ⟨3, 5, b__law_rising⟩ := rfl
theorem forD_cnt {f : D → Rho → Hm → O} (I : Nat → Rho → Hm → Prop) : ∀ (xs : List D) (k : Nat) {ρ : Rho} {m : Hm}, (∀ i x, xs[i]? = some x → ∀ ρ m, I (k + i) ρ m → ∃ ρ' m', f x ρ m = .nx ρ' m' ∧ I (k + i + 1) ρ' m') → I k ρ m → ∃ ρ' m', forD [] f xs ρ m = .nx ρ' m' ∧ I (k + xs.length) ρ' m'
  | [], k, ρ, m, _, h => ⟨ρ, m, by simp [forD], h⟩
  | x :: xs, k, ρ, m, hx, h => by
    obtain ⟨ρ1, m1, e1, h1⟩ := hx 0 x rfl ρ m h
    obtain ⟨ρ2, m2, e2, h2⟩ := forD_cnt I xs (k + 1) (fun i y hy ρ m hI => by
      have := hx (i + 1) y (by simpa using hy) ρ m (by simpa [Nat.add_comm, Nat.add_left_comm, Nat.add_assoc] using hI)
      simpa [Nat.add_comm, Nat.add_left_comm, Nat.add_assoc] using this) h1
    refine ⟨ρ2, m2, by rw [forD, chk_nil, grdO_true, e1, turned_nx, e2], ?_⟩
    simpa [Nat.add_comm, Nat.add_left_comm, Nat.add_assoc] using h2
theorem insI_mem {x y : Int} : ∀ {ys : List Int}, y ∈ insI x ys ↔ y = x ∨ y ∈ ys
  | [] => by simp [insI]
  | z :: ys => by
    rw [insI]
    split
    · simp
    · rw [List.mem_cons, insI_mem, List.mem_cons]
      constructor
      · rintro (h | h | h) <;> simp [h]
      · rintro (h | h | h) <;> simp [h]
theorem insI_len {x : Int} : ∀ {ys : List Int}, (insI x ys).length = ys.length + 1
  | [] => rfl
  | z :: ys => by
    rw [insI]
    split
    · rfl
    · simp [insI_len]
theorem insI_up {x : Int} : ∀ {ys : List Int}, ys.Pairwise (· < ·) → x ∉ ys → (insI x ys).Pairwise (· < ·)
  | [], _, _ => by simp [insI]
  | z :: ys, h, hx => by
    rw [List.pairwise_cons] at h
    rw [List.mem_cons, not_or] at hx
    rw [insI]
    split
    · rename_i hz
      rw [List.pairwise_cons, List.pairwise_cons]
      refine ⟨fun a ha => ?_, h⟩
      rcases List.mem_cons.mp ha with e | e
      · omega
      · have := h.1 a e
        omega
    · rename_i hz
      rw [List.pairwise_cons]
      refine ⟨fun a ha => ?_, insI_up h.2 hx.2⟩
      rcases insI_mem.mp ha with e | e
      · omega
      · exact h.1 a e
theorem srtI_mem {y : Int} : ∀ {ys : List Int}, y ∈ srtI ys ↔ y ∈ ys
  | [] => by simp [srtI]
  | z :: ys => by rw [srtI, insI_mem, srtI_mem, List.mem_cons]
theorem srtI_len : ∀ {ys : List Int}, (srtI ys).length = ys.length
  | [] => rfl
  | z :: ys => by rw [srtI, insI_len, srtI_len, List.length_cons]
theorem srtI_up : ∀ {ys : List Int}, ys.Nodup → (srtI ys).Pairwise (· < ·)
  | [], _ => by simp [srtI]
  | z :: ys, h => by
    rw [List.nodup_cons] at h
    rw [srtI]
    exact insI_up (srtI_up h.2) fun hm => h.1 (srtI_mem.mp hm)
/-- sorted whole numbers -/
theorem srt_nat {ks : List Nat} (h : ks.Nodup) : ∃ ys : List Nat, srtI (ks.map fun n => ((n : Nat) : Int)) = ys.map (fun n => ((n : Nat) : Int)) ∧ ys.Pairwise (· < ·) ∧ ys.length = ks.length ∧ ∀ y, y ∈ ys ↔ y ∈ ks := by
  have e : srtI (ks.map fun n => ((n : Nat) : Int)) = ((srtI (ks.map fun n => ((n : Nat) : Int))).map Int.toNat).map (fun n => ((n : Nat) : Int)) := by
    rw [List.map_map]
    have : (srtI (ks.map fun n => ((n : Nat) : Int))).map ((fun n => ((n : Nat) : Int)) ∘ Int.toNat) = (srtI (ks.map fun n => ((n : Nat) : Int))).map id := by
      refine List.map_congr_left fun a ha => ?_
      rw [srtI_mem] at ha
      obtain ⟨k, _, rfl⟩ := List.mem_map.mp ha
      rfl
    rw [this, List.map_id]
  refine ⟨(srtI (ks.map fun n => ((n : Nat) : Int))).map Int.toNat, e, ?_, by rw [List.length_map, srtI_len, List.length_map], ?_⟩
  · have hp := srtI_up ((nodup_cast ks).mpr h)
    rw [e, List.pairwise_map] at hp
    refine hp.imp ?_
    intro a b hab
    omega
  · intro y
    rw [List.mem_map]
    constructor
    · rintro ⟨a, ha, rfl⟩
      rw [srtI_mem] at ha
      obtain ⟨k, hk, rfl⟩ := List.mem_map.mp ha
      simpa using hk
    · intro hy
      exact ⟨(y : Int), srtI_mem.mpr (List.mem_map.mpr ⟨y, hy, rfl⟩), by simp⟩
theorem rising_of : ∀ {p : List Nat}, p.Pairwise (· < ·) → rising p = true
  | [], _ => rfl
  | [_], _ => rfl
  | a :: b :: r, h => by
    rw [List.pairwise_cons] at h
    have := rising_of h.2
    have hab := h.1 b (by simp)
    simp [rising, this, hab]
def keyed (ks : List Nat) : List (D × D) := ks.map fun k => (dN k, .bl true)
theorem putI_keyed {ks : List Nat} {k : Nat} : storeA.putI (keyed ks) (k : Int) (.bl true) = keyed (if k ∈ ks then ks else ks ++ [k]) := by
  unfold storeA.putI
  have h1 : ((keyed ks).any fun p => p.1.int? == some (k : Int)) = decide (k ∈ ks) := by
    unfold keyed
    induction ks with
    | nil => rfl
    | cons a ks ih =>
      rw [List.map_cons, List.any_cons, ih]
      rw [Bool.eq_iff_iff]
      simp only [Bool.or_eq_true, beq_iff_eq, decide_eq_true_eq, List.mem_cons, dN, D.int?, Option.some.injEq]
      constructor
      · rintro (h | h)
        · left; omega
        · right; exact h
      · rintro (h | h)
        · left; omega
        · right; exact h
  have h2 : (keyed ks).map (fun p => if p.1.int? == some (k : Int) then (p.1, D.bl true) else p) = keyed ks := by
    unfold keyed
    rw [List.map_map]
    refine List.map_congr_left fun a _ => ?_
    simp
  rw [h1, h2]
  by_cases h : k ∈ ks
  · simp [h]
  · simp [h, keyed, dN]
theorem st_dct {m : Hm} {r k : Nat} {ks : List Nat} (h : m[r]? = some (.dct (keyed ks))) (hl : ks.length < 1000) : storeA (.d (.ref r)) (.d (.int k)) (.bl true) m = .ok () (m.set r (.dct (keyed (if k ∈ ks then ks else ks ++ [k])))) := by
  unfold storeA
  dsimp only
  rw [h]
  dsimp only
  rw [putI_keyed]
  refine grd_pos ⟨?_, ?_⟩
  · show (keyed ks).length < 16777216
    unfold keyed
    rw [List.length_map]
    omega
  · intro p hp
    obtain ⟨k, _, rfl⟩ := List.mem_map.mp hp
    exact ⟨k, rfl⟩
theorem sorted_dct {m : Hm} {r : Nat} {ks : List Nat} (h : m[r]? = some (.dct (keyed ks))) (hl : ks.length < 64) : biA .sorted [.d (.ref r)] m = .ok (.fl ((srtI (ks.map fun n => ((n : Nat) : Int))).map .int)) m := by
  show (match dctAt m r with
    | some kvs => match alls D.int? (kvs.map fun p : D × D => p.1) with
      | some ks => grd (ks.length < 64) (R.ok (A.fl ((srtI ks).map .int)) m)
      | none => .bad
    | none => .bad) = _
  have e : dctAt m r = some (keyed ks) := by simp [dctAt, h]
  rw [e]
  dsimp only
  have e2 : ((keyed ks).map fun p : D × D => p.1) = ks.map dN := by simp [keyed]
  rw [e2, alls_map (f := D.int?) (e := dN) (g := fun n => ((n : Nat) : Int)) fun _ => rfl]
  refine grd_pos ?_
  simpa using hl
theorem itv_len {lo : Int} {n : Nat} : (itv lo n).length = n := by simp [itv]
theorem itv_at {lo : Int} {n i : Nat} {x : D} (h : (itv lo n)[i]? = some x) : i < n ∧ x = .int (lo + i) := by
  unfold itv at h
  rw [List.getElem?_map] at h
  by_cases hi : i < n
  · rw [List.getElem?_range hi] at h
    cases h
    exact ⟨hi, rfl⟩
  · rw [List.getElem?_eq_none (by simp; omega)] at h
    cases h
theorem r__law_rising (n b : Nat) (most : Nat) (many : Nat) (m : Hm) (hb : BoxAt m b) (hm0 : 0 < most) (hm1 : most < 1073741824) (hn : many ≤ 8) : ∃ p m', callF T (n + 2) 0 12 [.ref b, .int most, .int many] m = .ok (dP p) m' ∧ p.Pairwise (· < ·) ∧ p.length ≤ many ∧ (∀ x ∈ p, x < most) ∧ St b m m' := by
  rw [call_of td__law_rising rfl]
  suffices h : ∃ p m', finish m (exSs (callF T (n + 1)) T.con b__law_rising [some (.ref b), some (.int most), some (.int many), none, none] m) = .ok (dP p) (gc m m' (dP p)) ∧ p.Pairwise (· < ·) ∧ p.length ≤ many ∧ (∀ x ∈ p, x < most) ∧ St b m m' by
    obtain ⟨r, m1, h1, h2, h3, h4, h5⟩ := h
    exact ⟨r, _, h1, h2, h3, h4, h5.gc hb⟩
  have hb1 : BoxAt (m ++ [.dct []]) b := (St.app hb).box
  obtain ⟨r, m1, t1, t2, t3, t4⟩ := r__law_take n b ((many : Int) + 1) (m ++ [.dct []]) hb1 (by omega) (by omega)
  have hlt := hb.lt
  let I : Nat → Rho → Hm → Prop := fun i ρ m' => ∃ ks t, ρ = [some (.ref b), some (.int most), some (.int many), some (.ref m.length), t] ∧ St b m m' ∧ m'[m.length]? = some (.dct (keyed ks)) ∧ ks.Nodup ∧ ks.length ≤ i ∧ ∀ x ∈ ks, x < most
  have hloop := forD_cnt (f := lp (callF T (n + 1)) T.con (.nm 4) [.store (.var 3) (.call 11 [(.var 0), (.var 1)]) (.bl true)]) I (itv 0 r.toNat) 0 (ρ := [some (.ref b), some (.int most), some (.int many), some (.ref m.length), none]) (m := m1) (by
    rintro i x hx ρ m' ⟨ks, t, rfl, hs, hd, hnd, hlen, hlt'⟩
    obtain ⟨q, m2, u1, u2, u3, u4⟩ := r__law_take n b (most : Int) m' hs.box (by omega) (by omega)
    obtain ⟨k, rfl⟩ := Int.eq_ofNat_of_zero_le u2
    have hi := (itv_at hx).1
    have hd2 := u4.old (by omega) hd
    have hst := st_dct (k := k) hd2 (by omega)
    refine ⟨_, _, by unfold lp; simp [x_cons, u1, hst], if k ∈ ks then ks else ks ++ [k], some x, rfl, ?_, set_box hd2, ?_, ?_, ?_⟩
    · exact (hs.trans u4).set hb (Nat.le_refl _)
    · split
      · exact hnd
      · rename_i hk
        rw [List.nodup_append]
        refine ⟨hnd, by simp, ?_⟩
        intro a ha c hc
        have := List.mem_singleton.mp hc
        subst this
        intro hac
        exact hk (hac ▸ ha)
    · split
      · omega
      · simp; omega
    · intro y hy
      split at hy
      · exact hlt' y hy
      · rcases List.mem_append.mp hy with h | h
        · exact hlt' y h
        · have := List.mem_singleton.mp h
          omega) ⟨[], none, rfl, (St.app hb).trans t4, t4.old (by omega) at_end, List.nodup_nil, Nat.le_refl _, fun x hx => by cases hx⟩
  obtain ⟨ρ', m2, e2, ks, t, rfl, hs, hd, hnd, hlen, hlt'⟩ := hloop
  rw [itv_len, Nat.zero_add] at hlen
  obtain ⟨ys, y1, y2, y3, y4⟩ := srt_nat hnd
  refine ⟨ys, m2, ?_, y2, by omega, fun x hx => hlt' x ((y4 x).mp hx), hs⟩
  have hso := sorted_dct hd (by omega)
  rw [y1] at hso
  have hr : itA .rng1 [.d (.int r)] m1 = .ok (itv 0 r.toNat, []) m1 := it_rng1 ⟨by omega, by show r ≤ 16777216; omega⟩
  have hP : D.tup ((ys.map fun n => ((n : Nat) : Int)).map .int) = dP ys := by simp [dP, dN]
  unfold b__law_rising
  simp [x_cons, x_loop, t1, hr, e2, hso]
  have hP' : D.tup (ys.map (D.int ∘ fun n => ((n : Nat) : Int))) = dP ys := by simp [dP, dN]
  rw [hP']
  exact ⟨rfl, rfl⟩
end Mp
end
section
/-! drawn doings -/
namespace Mp
open PySem
theorem td__law_doings : T.def_ 0 15 = some ⟨1, 5, b__law_doings⟩ := rfl
theorem app_at {m : Hm} {r : Nat} {xs : List D} {d : D} (h : m[r]? = some (.lst xs)) (hl : xs.length < 1000) : appA r d m = .ok (.d .non) (m.set r (.lst (xs ++ [d]))) := by
  have e : lstAt m r = some xs := by simp [lstAt, h]
  unfold appA
  rw [e]
  exact grd_pos (by show xs.length < 16777216; omega)
theorem onLst_at {α : Type} {m : Hm} {r : Nat} {xs : List D} {f : Nat → R α} (h : m[r]? = some (.lst xs)) : onLst (.d (.ref r)) m f = f r := by
  have e : lstAt m r = some xs := by simp [lstAt, h]
  unfold onLst
  dsimp only
  rw [e]
/-- lots: four lists -/
structure Lots (m : Hm) (l0 i : Nat) (q : Nat → List Nat) : Prop where
  at_ : ∀ j, j < 4 → m[l0 + j]? = some (.lst ((q j).map dN))
  top : m[l0 + 4]? = some (.lst [.ref l0, .ref (l0 + 1), .ref (l0 + 2), .ref (l0 + 3)])
  up : ∀ j, j < 4 → (q j).Pairwise (· < ·)
  lt : ∀ j, j < 4 → ∀ x ∈ q j, x < i
  len : ∀ j, j < 4 → (q j).length ≤ i
  off : ∀ j k, j < 4 → k < 4 → j ≠ k → ∀ x ∈ q j, x ∉ q k
theorem Lots.st {b : Nat} {m m' : Hm} {l0 i : Nat} {q : Nat → List Nat} (h : Lots m l0 i q) (hs : St b m m') (hb : b < l0) : Lots m' l0 i q :=
  ⟨fun j hj => hs.old (by omega) (h.at_ j hj), hs.old (by omega) h.top, h.up, h.lt, h.len, h.off⟩
theorem ix_lots {l0 k : Nat} {m : Hm} (h : m[l0 + 4]? = some (.lst [.ref l0, .ref (l0 + 1), .ref (l0 + 2), .ref (l0 + 3)])) (hk : k < 4) : ixA (.d (.ref (l0 + 4))) (.d (.int (k : Nat))) m = .ok (.d (.ref (l0 + k))) m := by
  match k, hk with
  | 0, _ => exact ix_ref h rfl
  | 1, _ => exact ix_ref h rfl
  | 2, _ => exact ix_ref h rfl
  | 3, _ => exact ix_ref h rfl
theorem Lots.put {m : Hm} {l0 i k : Nat} {q : Nat → List Nat} (h : Lots m l0 i q) (hk : k < 4) : Lots (m.set (l0 + k) (.lst ((q k).map dN ++ [dN i]))) l0 (i + 1) (fun j => if j = k then q j ++ [i] else q j) := by
  refine ⟨fun j hj => ?_, ?_, fun j hj => ?_, fun j hj x hx => ?_, fun j hj => ?_, fun j j' hj hj' hne x hx => ?_⟩
  · by_cases e : j = k
    · subst e
      rw [set_box (h.at_ j hj)]
      simp
    · rw [List.getElem?_set_ne (by omega), h.at_ j hj]
      simp [e]
  · rw [List.getElem?_set_ne (by omega)]
    exact h.top
  · by_cases e : j = k
    · simp only [e, if_true]
      rw [List.pairwise_append]
      refine ⟨h.up k hk, by simp, fun a ha c hc => ?_⟩
      have := List.mem_singleton.mp hc
      have := h.lt k hk a ha
      omega
    · simp only [e, if_false]
      exact h.up j hj
  · by_cases e : j = k
    · simp only [e, if_true, List.mem_append, List.mem_singleton] at hx
      rcases hx with hx | hx
      · have := h.lt k hk x hx
        omega
      · omega
    · simp only [e, if_false] at hx
      have := h.lt j hj x hx
      omega
  · by_cases e : j = k
    · simp only [e, if_true, List.length_append, List.length_singleton]
      have := h.len k hk
      omega
    · simp only [e, if_false]
      have := h.len j hj
      omega
  · by_cases e : j = k
    · have e' : ¬ j' = k := fun h => hne (e.trans h.symm)
      simp only [e, if_true, List.mem_append, List.mem_singleton] at hx
      simp only [e', if_false]
      rcases hx with hx | hx
      · exact h.off k j' hk hj' (by omega) x hx
      · intro hm
        have := h.lt j' hj' x hm
        omega
    · simp only [e, if_false] at hx
      by_cases e' : j' = k
      · simp only [e', if_true, List.mem_append, List.mem_singleton, not_or]
        refine ⟨h.off j k hj hk e x hx, ?_⟩
        have := h.lt j hj x hx
        omega
      · simp only [e', if_false]
        exact h.off j j' hj hj' hne x hx
theorem nodup_up {p : List Nat} (h : p.Pairwise (· < ·)) : p.Nodup := h.imp (by intro a b hab; omega)
theorem Lots.dgs {m : Hm} {l0 w : Nat} {q : Nat → List Nat} {p : List Nat} (h : Lots m l0 8 q) (hp : p.Pairwise (· < ·)) (hp' : p.length ≤ 5) (hp'' : ∀ x ∈ p, x < 1000000000) : Dgs 8 [p, q 0, (q 1).take w, q 2] := by
  refine ⟨p, q 0, (q 1).take w, q 2, rfl, ?_, ?_⟩
  · intro y hy
    have hq : ∀ j, j < 4 → Sm 8 (q j) ∧ rising (q j) = true := fun j hj => ⟨⟨h.len j hj, fun n hn => by have := h.lt j hj n hn; omega⟩, rising_of (h.up j hj)⟩
    simp only [List.mem_cons, List.not_mem_nil, or_false] at hy
    rcases hy with e | e | e | e
    · subst e
      exact ⟨⟨by omega, hp''⟩, rising_of hp⟩
    · subst e
      exact hq 0 (by decide)
    · subst e
      have h1 := h.up 1 (by decide)
      refine ⟨⟨?_, fun n hn => (hq 1 (by decide)).1.2 n (List.mem_of_mem_take hn)⟩, rising_of (h1.sublist (List.take_sublist _ _))⟩
      have := h.len 1 (by decide)
      rw [List.length_take]
      omega
    · subst e
      exact hq 2 (by decide)
  · have h0 := nodup_up (h.up 0 (by decide))
    have h1 : ((q 1).take w).Nodup := (nodup_up (h.up 1 (by decide))).sublist (List.take_sublist _ _)
    have h2 := nodup_up (h.up 2 (by decide))
    have o := h.off
    refine List.nodup_append.mpr ⟨h0, List.nodup_append.mpr ⟨h1, h2, fun a ha c hc e => ?_⟩, fun a ha c hc e => ?_⟩
    · exact o 1 2 (by decide) (by decide) (by decide) a (List.mem_of_mem_take ha) (e ▸ hc)
    · rcases List.mem_append.mp hc with hc | hc
      · exact o 0 1 (by decide) (by decide) (by decide) a ha (e ▸ List.mem_of_mem_take hc)
      · exact o 0 2 (by decide) (by decide) (by decide) a ha (e ▸ hc)
theorem dgs_none {p : List Nat} (hp : p.Pairwise (· < ·)) (hp' : p.length ≤ 5) (hp'' : ∀ x ∈ p, x < 1000000000) : Dgs 8 [p, [], [], []] := by
  refine ⟨p, [], [], [], rfl, ?_, by simp⟩
  intro y hy
  simp only [List.mem_cons, List.not_mem_nil, or_false] at hy
  have hn : Sm 8 [] ∧ rising [] = true := ⟨⟨by simp, fun n hn => by cases hn⟩, rfl⟩
  rcases hy with e | e | e | e <;> subst e
  · exact ⟨⟨by omega, hp''⟩, rising_of hp⟩
  all_goals exact hn
theorem r__law_doings (n b : Nat) (m : Hm) (hb : BoxAt m b) : ∃ d m', callF T (n + 3) 0 15 [.ref b] m = .ok (dD d) m' ∧ Dgs 8 d ∧ St b m m' := by
  rw [call_of td__law_doings rfl]
  suffices h : ∃ d m', finish m (exSs (callF T (n + 2)) T.con b__law_doings [some (.ref b), none, none, none, none] m) = .ok (dD d) (gc m m' (dD d)) ∧ Dgs 8 d ∧ St b m m' by
    obtain ⟨r, m1, h1, h2, h5⟩ := h
    exact ⟨r, _, h1, h2, h5.gc hb⟩
  obtain ⟨r1, m1, t1, t2, t3, t4⟩ := r__law_take (n + 1) b 3 m hb (by decide) (by decide)
  obtain ⟨k1, rfl⟩ := Int.eq_ofNat_of_zero_le t2
  obtain ⟨most, hmost, hm0, hm1⟩ : ∃ most : Nat, (∀ m : Hm, ixA (.fl [.int 6, .int 60, .int 1000000000]) (.d (.int (k1 : Int))) m = .ok (.d (.int most)) m) ∧ 0 < most ∧ most ≤ 1000000000 := by
    have : k1 < 3 := by omega
    match k1, this with
    | 0, _ => exact ⟨6, fun m => ix_fl rfl, by decide, by decide⟩
    | 1, _ => exact ⟨60, fun m => ix_fl rfl, by decide, by decide⟩
    | 2, _ => exact ⟨1000000000, fun m => ix_fl rfl, by decide, by decide⟩
  obtain ⟨p, m2, u1, u2, u3, u4, u5⟩ := r__law_rising n b most 5 m1 t4.box hm0 (by omega) (by decide)
  have u1 : callF T (n + 2) 0 12 [.ref b, .int most, .int 5] m1 = .ok (dP p) m2 := u1
  obtain ⟨l0, hl0⟩ : ∃ l0, l0 = m2.length := ⟨_, rfl⟩
  obtain ⟨m3, hm3⟩ : ∃ m3, m3 = m2 ++ [.lst [], .lst [], .lst [], .lst [], .lst [.ref l0, .ref (l0 + 1), .ref (l0 + 2), .ref (l0 + 3)]] := ⟨_, rfl⟩
  have s2 : St b m m2 := t4.trans u5
  have s3 : St b m m3 := by rw [hm3]; exact s2.trans (St.app s2.box)
  have hbl : b < l0 := by rw [hl0]; exact s2.box.lt
  have hL3 : Lots m3 l0 0 (fun _ => []) := by
    refine ⟨fun j hj => ?_, ?_, fun _ _ => List.Pairwise.nil, fun _ _ x (hx : x ∈ []) => by simp at hx, fun _ _ => Nat.le_refl _, fun _ _ _ _ _ x (hx : x ∈ []) => by simp at hx⟩
    · rw [hm3, hl0, List.getElem?_append_right (by omega)]
      have : m2.length + j - m2.length = j := by omega
      rw [this]
      match j, hj with
      | 0, _ => rfl
      | 1, _ => rfl
      | 2, _ => rfl
      | 3, _ => rfl
    · rw [hm3, hl0, List.getElem?_append_right (by omega)]
      have : m2.length + 4 - m2.length = 4 := by omega
      rw [this]
      rfl
  have hml : m.length ≤ l0 := by rw [hl0]; exact s2.len
  let I : Nat → Rho → Hm → Prop := fun i ρ m' => ∃ q t, ρ = [some (.ref b), some (dP p), some (.ref (l0 + 4)), t, none] ∧ St b m m' ∧ Lots m' l0 i q
  have hloop := forD_cnt (f := lp (callF T (n + 2)) T.con (.nm 3) [.expr (.app (.ix (.var 2) (.call 11 [(.var 0), (.int 4)])) (.var 3))]) I (itv 0 8) 0 (ρ := [some (.ref b), some (dP p), some (.ref (l0 + 4)), none, none]) (m := m3) (by
    rintro i x hx ρ m' ⟨q, t, rfl, hs, hL⟩
    obtain ⟨r, m4, v1, v2, v3, v4⟩ := r__law_take (n + 1) b 4 m' hs.box (by decide) (by decide)
    obtain ⟨k, rfl⟩ := Int.eq_ofNat_of_zero_le v2
    have hk : k < 4 := by omega
    obtain ⟨hi, rfl⟩ := itv_at hx
    rw [Nat.zero_add] at hL
    have hL4 := hL.st v4 hbl
    have hix := ix_lots hL4.top hk
    have hat := hL4.at_ k hk
    have hlen := hL4.len k hk
    have hon := fun f : Nat → R A => onLst_at (f := f) hat
    have hap := app_at (d := dN i) hat (by simp; omega)
    have hN : D.int (0 + (i : Nat)) = dN i := by simp [dN]
    rw [hN]
    refine ⟨_, m4.set (l0 + k) (.lst ((q k).map dN ++ [dN i])), by unfold lp; simp [x_cons, v1, hix, hon, hap], fun j => if j = k then q j ++ [i] else q j, some (dN i), rfl, (hs.trans v4).set hb (by omega), by rw [Nat.zero_add]; exact hL4.put hk⟩) ⟨fun _ => [], none, rfl, s3, hL3⟩
  obtain ⟨ρ', m5, e5, q, t, rfl, hs5, hL5⟩ := hloop
  rw [itv_len, Nat.zero_add] at hL5
  obtain ⟨r, m6, v1, v2, v3, v4⟩ := r__law_take (n + 1) b 3 m5 hs5.box (by decide) (by decide)
  obtain ⟨w, rfl⟩ := Int.eq_ofNat_of_zero_le v2
  have hL6 := hL5.st v4 hbl
  have hp : ∀ x ∈ p, x < 1000000000 := fun x hx => by have := u4 x hx; omega
  have hr : ∀ m : Hm, itA .rng1 [.d (.int 8)] m = .ok (itv 0 8, []) m := fun m => it_rng1 (by decide)
  have q1 : ∀ m : Hm, binA .Pow (.d (.int 10)) (.d (.int 9)) m = .ok (.d (.int 1000000000)) m := fun m => bin_pow ⟨by decide, by decide, by decide⟩
  have hz3 : (3 : Nat) ≤ sizeLine := by decide
  have hz4 : (4 : Nat) ≤ sizeLine := by decide
  have hz0 : (0 : Nat) ≤ sizeLine := by decide
  have e3 : m2 ++ [.lst [], .lst [], .lst [], .lst [], .lst [.ref m2.length, .ref (m2.length + 1), .ref (m2.length + 2), .ref (m2.length + 3)]] = m3 := by rw [hm3, hl0]
  rw [hl0] at e5
  have x0 := ix_lots hL6.top (k := 0) (by decide)
  have x1 := ix_lots hL6.top (k := 1) (by decide)
  have x2 := ix_lots hL6.top (k := 2) (by decide)
  have y0 := bit_ref (hL6.at_ 0 (by decide))
  have y1 := slc_ref (lo := none) (hi := some (w : Int)) (hL6.at_ 1 (by decide))
  have y2 := bit_ref (hL6.at_ 2 (by decide))
  rw [cut_to] at y1
  rw [hl0] at x0 x1 x2 y0 y1 y2
  by_cases hw : w = 0
  · subst hw
    refine ⟨[p, [], [], []], m6, ?_, dgs_none u2 u3 hp, hs5.trans v4⟩
    unfold b__law_doings
    simp [x_cons, x_loop, t1, hmost, u1, q1, hr, hz3, hz4, hz0, e3, e5, v1]
    exact ⟨rfl, rfl⟩
  · refine ⟨[p, q 0, (q 1).take w, q 2], m6, ?_, hL6.dgs u2 u3 hp, hs5.trans v4⟩
    unfold b__law_doings
    have hw' : ¬ ((w : Int) = 0) := by omega
    have x0' : ixA (.d (.ref (m2.length + 4))) (.d (.int 0)) m6 = .ok (.d (.ref m2.length)) m6 := x0
    have x1' : ixA (.d (.ref (m2.length + 4))) (.d (.int 1)) m6 = .ok (.d (.ref (m2.length + 1))) m6 := x1
    have x2' : ixA (.d (.ref (m2.length + 4))) (.d (.int 2)) m6 = .ok (.d (.ref (m2.length + 2))) m6 := x2
    have y0' : biA .tuple [.d (.ref m2.length)] m6 = .ok (.d (dP (q 0))) m6 := y0
    have y2' : biA .tuple [.d (.ref (m2.length + 2))] m6 = .ok (.d (dP (q 2))) m6 := y2
    have y3 : D.tup (List.take w (List.map dN (q 1))) = dP ((q 1).take w) := by simp [dP, List.map_take]
    simp [x_cons, x_loop, t1, hmost, u1, q1, hr, hz3, hz4, hz0, e3, e5, v1, hw, x0', x1', x2', y0', y1, y2', y3]
    exact ⟨rfl, rfl⟩

end Mp
end
section
/-! the law of rows -/
namespace Mp
open PySem
theorem td_law : T.def_ 0 19 = some ⟨1, 11, b_law⟩ := rfl
/-- a comprehension whose elements draw -/
theorem compD_draw {b : Nat} {f : D → Hm → R (Option D)} (hf : ∀ x m, BoxAt m b → ∃ d m', f x m = .ok (some (dD d)) m' ∧ Dgs 8 d ∧ St b m m') : ∀ (xs : List D) (m : Hm), BoxAt m b → ∃ (r : List (List (List Nat))) (m' : Hm), compD [] f xs m = .ok (r.map dD) m' ∧ r.length = xs.length ∧ (∀ d ∈ r, Dgs 8 d) ∧ St b m m'
  | [], m, hb => ⟨[], m, by simp [compD], rfl, by simp, .refl hb⟩
  | x :: xs, m, hb => by
    obtain ⟨d, m1, e1, h1, s1⟩ := hf x m hb
    obtain ⟨r, m2, e2, h2, h3, s2⟩ := compD_draw hf xs m1 s1.box
    refine ⟨d :: r, m2, by simp [compD, e1, e2, consO], by simp [h2], ?_, s1.trans s2⟩
    intro y hy
    rcases List.mem_cons.mp hy with e | e
    · exact e ▸ h1
    · exact h3 y e
theorem Dgs.sm {d : List (List Nat)} (h : Dgs 8 d) : d.length ≤ 4 ∧ ∀ p ∈ d, Sm 8 p := by
  obtain ⟨a, b, c, e, rfl, h, _⟩ := h
  exact ⟨by simp, fun p hp => (h p hp).1⟩
theorem rp_dP {p : List Nat} (h : Sm 8 p) : Rp 1 91 (dP p) := by
  have := Rp.tup (n := 0) (k := 9) (xs := p.map dN) (by
    intro x hx
    obtain ⟨k, hk, rfl⟩ := List.mem_map.mp hx
    exact Rp.nat (by decide) (by decide) (h.2 k hk))
  rw [List.length_map] at this
  have h1 := h.1
  exact this.mono (Nat.le_refl _) (by omega)
theorem rp_dD {d : List (List Nat)} (h : d.length ≤ 4 ∧ ∀ p ∈ d, Sm 8 p) : Rp 2 375 (dD d) := by
  have := Rp.tup (n := 1) (k := 91) (xs := d.map dP) (by
    intro x hx
    obtain ⟨k, hk, rfl⟩ := List.mem_map.mp hx
    exact rp_dP (h.2 k hk))
  rw [List.length_map] at this
  have h1 := h.1
  exact this.mono (Nat.le_refl _) (by omega)
theorem rp_dR {r : List (List (List Nat))} (hl : r.length ≤ 400) (h : ∀ d ∈ r, Dgs 8 d) : Rp 3 150803 (dR r) := by
  have := Rp.tup (n := 2) (k := 375) (xs := r.map dD) (by
    intro x hx
    obtain ⟨k, hk, rfl⟩ := List.mem_map.mp hx
    exact rp_dD (h k hk).sm)
  rw [List.length_map] at this
  exact this.mono (Nat.le_refl _) (by omega)
theorem repr_row {r : List (List (List Nat))} (hl : r.length ≤ 400) (h : ∀ d ∈ r, Dgs 8 d) : ∃ x : Str, ∀ m : Hm, biA .repr [.d (dR r)] m = .ok (.d (.str x)) m := by
  obtain ⟨p, hp, _⟩ := bi_repr (m := []) (rp_dR hl h) (by decide) (by decide)
  refine ⟨p.shown, fun m => ?_⟩
  obtain ⟨p', hp', e⟩ := bi_repr (m := m) (rp_dR hl h) (by decide) (by decide)
  rw [show toPy (.tup (r.map dD)) = some p from hp] at hp'
  cases hp'
  exact e
theorem SmR.of {r : List (List (List Nat))} (h : ∀ d ∈ r, Dgs 8 d) : SmR r := fun d hd => (h d hd).sm
/-- what is shown is read -/
theorem r_read_shown (n : Nat) (r : List (List (List Nat))) (m : Hm) (hl : r.length ≤ 400) (h : ∀ d ∈ r, Dgs 8 d) : callF T (n + 5) 0 18 [.str (rT r)] m = .ok (dR r) m := by
  have hlen := rT_len (SmR.of h)
  rw [r_read_row n _ m (by omega) ?_, rowIn_rT h]
  intro w hw
  by_cases hr : r = []
  · subst hr
    have : Txt.split (rT []) " " = [("" : Str)] := by decide +kernel
    rw [this] at hw
    rw [List.mem_singleton.mp hw]
    decide +kernel
  · rw [split_row hr] at hw
    obtain ⟨d, hd, rfl⟩ := List.mem_map.mp hw
    have := dT_len (h d hd).sm.1 (h d hd).sm.2
    omega
theorem sjoin_app (s : Str) : ∀ (xs ys : List Str), xs ≠ [] → ys ≠ [] → Str.join s (xs ++ ys) = Str.join s xs ++ s ++ Str.join s ys
  | [], _, h, _ => absurd rfl h
  | [x], y :: ys, _, _ => rfl
  | x :: z :: xs, ys, _, hy => by
    have ih := sjoin_app s (z :: xs) ys (by simp) hy
    have e1 : Str.join s (x :: z :: xs ++ ys) = x ++ s ++ Str.join s (z :: xs ++ ys) := rfl
    have e2 : Str.join s (x :: z :: xs) = x ++ s ++ Str.join s (z :: xs) := rfl
    rw [e1, e2, ih]
    refine TL.ext_tl ?_
    simp only [TL.tl_append, List.append_assoc]
theorem rT_parts {r : List (List (List Nat))} (h : ∀ d ∈ r, Dgs 8 d) (k : Nat) : Txt.join " " ([rT (r.take k), rT (r.drop k)].filter fun x => !(x == "")) = rT r := by
  have hN : rT [] = "" := by decide +kernel
  have ht : ∀ d ∈ r.take k, Dgs 8 d := fun d hd => h d (List.mem_of_mem_take hd)
  have hd : ∀ d ∈ r.drop k, Dgs 8 d := fun d hd => h d (List.mem_of_mem_drop hd)
  have hone : ∀ x : Str, Txt.join " " [x] = x := fun x => by rw [TL.join_eq]; rfl
  have hnil : Txt.join " " [] = "" := by decide +kernel
  have hr := List.take_append_drop k r
  by_cases h1 : r.take k = []
  · rw [h1, List.nil_append] at hr
    rw [h1, hr, hN]
    by_cases h2 : r = []
    · subst h2
      rw [hN]
      simp [hnil]
    · have := rT_ne h2 h
      have hb : (rT r == ("" : Str)) = false := by simpa using this
      have hbe : (("" : Str) == ("" : Str)) = true := by simp
      simp only [List.filter_cons, hb, hbe, List.filter_nil, Bool.not_true, Bool.not_false, if_true, Bool.false_eq_true, if_false, hone]
  · have a1 := rT_ne h1 ht
    have b1 : (rT (r.take k) == ("" : Str)) = false := by simpa using a1
    by_cases h2 : r.drop k = []
    · rw [h2, List.append_nil] at hr
      rw [hr] at b1
      have hbe : (("" : Str) == ("" : Str)) = true := by simp
      rw [h2, hr, hN]
      simp only [List.filter_cons, b1, hbe, List.filter_nil, Bool.not_true, Bool.not_false, if_true, Bool.false_eq_true, if_false, hone]
    · have a2 := rT_ne h2 hd
      have b2 : (rT (r.drop k) == ("" : Str)) = false := by simpa using a2
      simp only [List.filter_cons, b1, b2, List.filter_nil, Bool.not_false, if_true]
      have hjoin : rT r = Txt.join " " ((r.take k).map dT ++ (r.drop k).map dT) := by
        unfold rT
        rw [← List.map_append, hr]
      rw [hjoin, TL.join_eq, TL.join_eq, sjoin_app _ _ _ (by simpa using h1) (by simpa using h2)]
      show rT (r.take k) ++ " " ++ rT (r.drop k) = _
      unfold rT
      rw [TL.join_eq, TL.join_eq]
end Mp
end
section
/-! the law of rows: a turn -/
namespace Mp
open PySem
theorem cut_dR_to {r : List (List (List Nat))} {k : Nat} {m : Hm} : slcA (.d (dR r)) none (some (k : Int)) m = .ok (.d (dR (r.take k))) m := by
  show R.ok (A.d (.tup (cutL (r.map dD) none (some (k : Int))))) m = _
  rw [cut_to, ← List.map_take]
  rfl
theorem cut_dR_from {r : List (List (List Nat))} {k : Nat} {m : Hm} : slcA (.d (dR r)) (some (k : Int)) none m = .ok (.d (dR (r.drop k))) m := by
  show R.ok (A.d (.tup (cutL (r.map dD) (some (k : Int)) none))) m = _
  rw [cut_from, ← List.map_drop]
  rfl
theorem len_dR {r : List (List (List Nat))} {m : Hm} : biA .len [.d (dR r)] m = .ok (.d (.int (r.length : Nat))) m := by
  show R.ok (A.d (.int ((r.map dD).length : Nat))) m = _
  rw [List.length_map]
theorem mul_dR {r : List (List (List Nat))} {m : Hm} (k : Nat) (hk : 2 ≤ k) (hk' : k ≤ 1000) (hr : r.length ≤ 1000) : binA .Mult (.d (dR r)) (.d (.int (k : Nat))) m = .ok (.d (dR (List.replicate k r).flatten)) m := by
  have e : (List.replicate k (r.map dD)).flatten = (List.replicate k r).flatten.map dD := by
    rw [List.map_flatten, List.map_replicate]
  show mulA (.d (dR r)) (.d (.int (k : Nat))) m = _
  unfold dR
  cases hx : r.map dD with
  | nil =>
    have : r = [] := by simpa using hx
    subst this
    have e' : (List.replicate k ([] : List (List (List Nat)))).flatten = [] := by simp
    rw [e']
    unfold mulA
    exact grd_pos (by omega)
  | cons x xs =>
    show grd (2 ≤ (k : Int) ∧ (k : Int) ≤ 1000 ∧ (x :: xs).length ≤ 1000) (R.ok (A.d (.tup (List.replicate (k : Int).toNat (x :: xs)).flatten)) m) = _
    rw [← hx, grd_pos, ← e]
    · simp
    · simp
      omega
/-- the numbers of a call's own space: eleven places, the script first -/
def Inv (ns : List Int) (ρ : Rho) : Prop := ∃ t1 t2 t3 t4 t5 t6 t7 t8 t9 t10, ρ = [some (.frl (ns.map .int)), t1, t2, t3, t4, t5, t6, t7, t8, t9, t10]
def law_body : List S := match b_law with
  | [.for_ _ _ _ body, _] => body
  | _ => []
theorem turn (n : Nat) (ns : List Int) (k : Nat) (hk : k ≤ 63) (ρ : Rho) (m : Hm) (h : Inv ns ρ) : ∃ ρ' m', lp (callF T (n + 6)) T.con (.nm 1) law_body (.int (k : Nat)) ρ m = .nx ρ' m' ∧ Inv ns ρ' := by
  obtain ⟨t1, t2, t3, t4, t5, t6, t7, t8, t9, t10, rfl⟩ := h
  unfold lp law_body b_law
  simp only [asgO_nm, List.set_cons_succ, List.set_cons_zero]
  -- the box
  obtain ⟨g, x, e1, hg, hx, hx'⟩ := r__law_box (n + 5) ns k m hk
  obtain ⟨b, hb⟩ : ∃ b, b = m.length := ⟨_, rfl⟩
  obtain ⟨m1, hm1⟩ : ∃ m1, m1 = m ++ [.lst [.int g, .int x, .int 0]] := ⟨_, rfl⟩
  rw [← hm1, ← hb] at e1
  have B1 : BoxAt m1 b := ⟨g, x, 0, by rw [hm1, hb]; exact at_end, hg, hx, hx'⟩
  -- how many at most
  obtain ⟨r2, m2, e2, r2a, r2b, S2⟩ := r__law_take (n + 5) b 8 m1 B1 (by decide) (by decide)
  obtain ⟨most, hmost, hmo⟩ : ∃ most : Nat, (∀ m : Hm, ixA (.fl [.int 13, .int 61]) (.d (.int (if (r2 == 7) = true then 1 else 0))) m = .ok (.d (.int most)) m) ∧ (most = 13 ∨ most = 61) := by
    by_cases h7 : (r2 == 7) = true
    · rw [if_pos h7]
      exact ⟨61, fun m => ix_fl rfl, .inr rfl⟩
    · rw [if_neg h7]
      exact ⟨13, fun m => ix_fl rfl, .inl rfl⟩
  -- the row
  obtain ⟨r3, m3, e3, r3a, r3b, S3⟩ := r__law_take (n + 5) b (most : Int) m2 S2.box (by omega) (by omega)
  obtain ⟨r, m4, e4, hlen, hr, S4⟩ := compD_draw (b := b) (f := elt1 (callF T (n + 6)) T.con [10] (.call 15 [(.var 2)]) (.nm 10) [] [some (.frl (ns.map .int)), some (.int (k : Nat)), some (.ref b), some (.int (most : Nat)), t4, t5, t6, t7, t8, t9, t10]) (fun d m hb => by
    obtain ⟨d', m', e, h1, h2⟩ := r__law_doings (n + 3) b m hb
    refine ⟨d', m', ?_, h1, h2⟩
    unfold elt1
    simp [asg, wipeD, e]) (itv 0 r3.toNat) m3 S3.box
  rw [itv_len] at hlen
  have hl60 : r.length ≤ 60 := by omega
  have hsm := SmR.of hr
  have it3 : itA .rng1 [.d (.int r3)] m3 = .ok (itv 0 r3.toNat, []) m3 := it_rng1 ⟨by omega, by show r3 ≤ 16777216; omega⟩
  have hT : D.tup (r.map dD) = dR r := rfl
  have show_ := fun m : Hm => r_show_row (n + 3) r m (by omega) hsm
  have text_ := fun m : Hm => r__law_text (n + 4) r m (by omega) hsm
  have read_ := fun m : Hm => r_read_shown (n + 1) r m (by omega) hr
  obtain ⟨rep, hrep⟩ := repr_row (by omega) hr
  -- the cut
  obtain ⟨r5, m5, e5, r5a, r5b, S5⟩ := r__law_take (n + 5) b ((r.length : Int) + 1) m4 S4.box (by omega) (by omega)
  obtain ⟨k5, rfl⟩ := Int.eq_ofNat_of_zero_le r5a
  have ht5 : ∀ d ∈ r.take k5, Dgs 8 d := fun d hd => hr d (List.mem_of_mem_take hd)
  have hd5 : ∀ d ∈ r.drop k5, Dgs 8 d := fun d hd => hr d (List.mem_of_mem_drop hd)
  have show_t := fun m : Hm => r_show_row (n + 3) (r.take k5) m (by rw [List.length_take]; omega) (SmR.of ht5)
  have show_d := fun m : Hm => r_show_row (n + 3) (r.drop k5) m (by rw [List.length_drop]; omega) (SmR.of hd5)
  obtain ⟨parts, hparts⟩ : ∃ parts : List Str, parts = [rT (r.take k5), rT (r.drop k5)].filter fun x : Str => !(x == ("" : Str)) := ⟨_, rfl⟩
  have hc7 : ∀ (ρ : Rho) (m : Hm), ρ.length = 11 → compD [] (elt1 (callF T (n + 6)) T.con [9] (.var 9) (.nm 9) [.cmp .NotEq (.var 9) (.str "")] ρ) [.str (rT (r.take k5)), .str (rT (r.drop k5))] m = .ok (parts.map .str) m := by
    intro ρ m hρ
    have := compD_pure (chk := []) (m := m) (f := elt1 (callF T (n + 6)) T.con [9] (.var 9) (.nm 9) [.cmp .NotEq (.var 9) (.str "")] ρ) (e := D.str) (h := fun x : Str => if !(x == "") then some (.str x) else none) (by simp) [rT (r.take k5), rT (r.drop k5)] (fun x _ => by
      unfold elt1
      match ρ, hρ with
      | [_, _, _, _, _, _, _, _, _, _, _], _ =>
        simp [asg, wipeD]
        by_cases hx : x = ""
        · simp [hx]
        · simp [hx])
    rw [List.map_cons, List.map_cons, List.map_nil] at this
    rw [this, hparts]
    congr 1
    generalize [rT (r.take k5), rT (r.drop k5)] = xs
    induction xs with
    | nil => rfl
    | cons x xs ih =>
      rw [List.filterMap_cons, List.filter_cons]
      by_cases hx : (!(x == "")) = true
      · simp only [hx, if_true, List.map_cons, ih]
      · simp only [hx, if_false, ih]
        rfl
  have hjoin : Txt.join " " parts = rT r := by rw [hparts]; exact rT_parts hr k5
  obtain ⟨m6, hm6⟩ : ∃ m6, m6 = m5 ++ [.lst (parts.map .str)] := ⟨_, rfl⟩
  have S6 : St b m5 m6 := by rw [hm6]; exact St.app S5.box
  have join7 : joinA " " (.d (.ref m5.length)) m6 = .ok (.d (.str (rT r))) m6 := by
    rw [← hjoin]
    refine join_ref' (by rw [hm6]; exact at_end) ?_
    have hl : ∀ x ∈ parts, x.length ≤ 20000 := by
      intro x hx
      rw [hparts] at hx
      have hx := (List.mem_filter.mp hx).1
      have a := rT_len (SmR.of ht5)
      have c := rT_len (SmR.of hd5)
      rw [List.length_take] at a
      rw [List.length_drop] at c
      simp only [List.mem_cons, List.not_mem_nil, or_false] at hx
      rcases hx with e | e <;> rw [e] <;> omega
    have hn : parts.length ≤ 2 := by
      rw [hparts]
      exact List.length_filter_le _ _
    have := sums_le (f := id) (k := 20000) (xs := parts) hl (Str.length " ")
    have e1 : Str.length (" " : Str) = 1 := by decide +kernel
    rw [e1] at this ⊢
    have e2 : parts.map (fun x => (id x).length) = parts.map (·.length) := rfl
    rw [e2] at this
    omega
  -- the long row
  obtain ⟨kk, hkk⟩ : ∃ kk : Nat, kk = 400 / max 1 r.length := ⟨_, rfl⟩
  have hmax : (if ((r.length : Int) > 1) then (r.length : Int) else 1) = ((max 1 r.length : Nat) : Int) := by
    split <;> omega
  have hkk2 : 2 ≤ kk ∧ kk ≤ 400 := by
    rw [hkk]
    have h1 : max 1 r.length ≤ 60 := by omega
    have h2 : 1 ≤ max 1 r.length := by omega
    constructor
    · exact (Nat.le_div_iff_mul_le (by omega)).mpr (by omega)
    · exact Nat.div_le_self _ _
  have hdiv : ∀ m : Hm, binA .FloorDiv (.d (.int 400)) (.d (.int (if ((r.length : Int) > 1) then (r.length : Int) else 1))) m = .ok (.d (.int (kk : Nat))) m := by
    intro m
    rw [hmax, bin_div ⟨by omega, by omega⟩, hkk]
    rfl
  obtain ⟨long, hlong⟩ : ∃ long, long = (List.replicate kk r).flatten := ⟨_, rfl⟩
  have hmul : ∀ m : Hm, binA .Mult (.d (dR r)) (.d (.int (kk : Nat))) m = .ok (.d (dR long)) m := fun m => by rw [hlong]; exact mul_dR kk hkk2.1 (by omega) (by omega)
  have hlr : ∀ d ∈ long, Dgs 8 d := by
    intro d hd
    rw [hlong] at hd
    obtain ⟨l, hl, hd⟩ := List.mem_flatten.mp hd
    rw [List.mem_replicate] at hl
    exact hr d (hl.2 ▸ hd)
  have hll : long.length ≤ 400 := by
    rw [hlong, List.length_flatten, List.map_replicate, List.sum_replicate_nat]
    have : kk * r.length ≤ kk * max 1 r.length := Nat.mul_le_mul_left _ (by omega)
    have h2 : kk * max 1 r.length ≤ 400 := by rw [hkk]; exact Nat.div_mul_le_self _ _
    omega
  have show_l := fun m : Hm => r_show_row (n + 3) long m hll (SmR.of hlr)
  have read_l := fun m : Hm => r_read_shown (n + 1) long m hll hlr
  obtain ⟨repl, hrepl⟩ := repr_row hll hlr
  obtain ⟨r7, m7, e7, r7a, r7b, S7⟩ := r__law_take (n + 5) b 8 m6 S6.box (by decide) (by decide)
  have hz2 : (2 : Nat) ≤ sizeLine := by decide
  rw [hm6] at join7 e7
  refine ⟨[some (.frl (ns.map .int)), some (.int (k : Nat)), some (.ref b), some (.int (most : Nat)), some (dR r), some (.str (rT r)), some (.int (k5 : Nat)), some (.ref m5.length), some (dR long), t9, t10], m7, ?_, _, _, _, _, _, _, _, _, _, _, rfl⟩
  simp only [beq_iff_eq] at hmost
  simp at hdiv
  by_cases h7 : r7 = 0
  · simp [x_cons, e1, e2, hmost, e3, it3, e4, hT, show_, text_, read_, hrep, e5, len_dR, cut_dR_to, cut_dR_from, show_t, show_d, hc7, join7, hdiv, hmul, show_l, read_l, hrepl, e7, h7, hz2]
  · simp [x_cons, e1, e2, hmost, e3, it3, e4, hT, show_, text_, read_, hrep, e5, len_dR, cut_dR_to, cut_dR_from, show_t, show_d, hc7, join7, hdiv, hmul, show_l, read_l, hrepl, e7, h7, hz2]
end Mp
end
section
/-! the law of rows is true -/
namespace Mp
open PySem
def law_end : C := .and [(.cmp .Eq (.call 16 [(.tup [])]) (.str "")), (.cmp .Eq (.call 18 [(.str "")]) (.tup [])), (.cmp .Eq (.call 16 [(.tup [(.tup [(.tup [(.int 0), (.int 3)]), (.tup []), (.tup [(.int 1)]), (.tup [])])])]) (.str "0.3/-/1/-"))]
theorem b_law_eq : b_law = [.for_ (.nm 1) .rng1 [(.bin .Add (.int 1) (.bi .min2 [(.int 12), (.bi .len [(.var 0)])]))] law_body, .ret law_end] := rfl
theorem law_true (ns : List Int) (h : ns.length ≤ 63) : ∃ m, callF T 30 0 19 [.frl (ns.map .int)] [] = .ok (.bl true) m := by
  rw [call_of td_law rfl]
  have hr : ∀ m : Hm, itA .rng1 [.d (.int (1 + (if ((ns.map D.int).length : Int) < 12 then ((ns.map D.int).length : Int) else 12)))] m = .ok (itv 0 ((1 + (if ((ns.map D.int).length : Int) < 12 then ((ns.map D.int).length : Int) else 12)) : Int).toNat, []) m := fun m => it_rng1 (by split <;> (constructor <;> first | omega | (show _ ≤ (16777216 : Int); omega)))
  obtain ⟨N, hN, hN'⟩ : ∃ N : Nat, ((1 + (if ((ns.map D.int).length : Int) < 12 then ((ns.map D.int).length : Int) else 12)) : Int).toNat = N ∧ N ≤ 63 := ⟨_, rfl, by split <;> omega⟩
  rw [hN] at hr
  obtain ⟨ρ', m', hl, hI⟩ := forD_inv (f := lp (callF T 29) T.con (.nm 1) law_body) (fun ρ _ => Inv ns ρ) (itv 0 N) (ρ := [some (.frl (ns.map .int)), none, none, none, none, none, none, none, none, none, none]) (m := []) (by
    intro x hx ρ m hI
    obtain ⟨i, hi⟩ := List.getElem?_of_mem hx
    obtain ⟨h1, h2⟩ := itv_at hi
    have e : x = .int (i : Nat) := by rw [h2]; simp
    subst e
    obtain ⟨ρ', m', e, h'⟩ := turn 23 ns i (by omega) ρ m hI
    exact ⟨ρ', m', e, h'⟩) ⟨none, none, none, none, none, none, none, none, none, none, rfl⟩
  refine ⟨gc [] m' (.bl true), ?_⟩
  have e0 : ∀ m : Hm, callF T 29 0 16 [.tup []] m = .ok (.str (rT [])) m := fun m => r_show_row 26 [] m (by decide) (fun d hd => by cases hd)
  have e1 : ∀ m : Hm, callF T 29 0 18 [.str ""] m = .ok (dR []) m := fun m => r_read_shown 24 [] m (by decide) (fun d hd => by cases hd)
  have e2 : ∀ m : Hm, callF T 29 0 16 [.tup [.tup [.tup [.int 0, .int 3], .tup [], .tup [.int 1], .tup []]]] m = .ok (.str (rT [[[0, 3], [], [1], []]])) m := fun m => r_show_row 26 [[[0, 3], [], [1], []]] m (by decide) (by
    intro d hd
    have := List.mem_singleton.mp hd
    subst this
    refine ⟨by decide, ?_⟩
    intro p hp
    simp only [List.mem_cons, List.not_mem_nil, or_false] at hp
    rcases hp with e | e | e | e <;> subst e <;> exact ⟨by decide, by decide⟩)
  have f0 : (rT [] == ("" : Str)) = true := by decide +kernel
  have f2 : (rT [[[0, 3], [], [1], []]] == ("0.3/-/1/-" : Str)) = true := by decide +kernel
  have f1 : ∀ m : Hm, cmpA .Eq (.d (dR [])) (.d (.tup [])) m = .ok true m := fun m => eq_nil (n := 0) (xs := []) (by decide) (by simp)
  show finish [] (exSs (callF T 29) T.con b_law [some (.frl (ns.map .int)), none, none, none, none, none, none, none, none, none, none] []) = _
  rw [b_law_eq]
  have hl' : ∀ m : Hm, biA .len [.d (.frl (ns.map .int))] m = .ok (.d (.int ((ns.map D.int).length : Nat))) m := fun m => rfl
  have hmin : ∀ (i : Int) (m : Hm), biA .min2 [.d (.int 12), .d (.int i)] m = .ok (.d (.int (if i < 12 then i else 12))) m := fun i m => rfl
  have hz : (1 : Nat) ≤ sizeLine ∧ (2 : Nat) ≤ sizeLine ∧ (4 : Nat) ≤ sizeLine ∧ (0 : Nat) ≤ sizeLine := by decide
  obtain ⟨hz1, hz2, hz4, hz0⟩ := hz
  obtain ⟨J, hJ⟩ : ∃ J : Int, J = 1 + (if ((ns.map D.int).length : Int) < 12 then ((ns.map D.int).length : Int) else 12) := ⟨_, rfl⟩
  have hev : evAs (callF T 29) T.con [(.bin .Add (.int 1) (.bi .min2 [(.int 12), (.bi .len [(.var 0)])]))] [some (.frl (ns.map .int)), none, none, none, none, none, none, none, none, none, none] [] = .ok [.d (.int J)] [] := by
    rw [hJ]
    simp
  rw [← hJ] at hr
  have hend : ∀ (ρ : Rho) (m : Hm), evA (callF T 29) T.con law_end ρ m = .ok (.d (.bl true)) m := by
    intro ρ m
    unfold law_end
    simp [e0, e1, e2, f0, f1, f2, hz0, hz1, hz2, hz4]
  rw [x_cons, x_loop, hev, toO_ok, hr, toO_ok, hl]
  simp [x_cons, hend]
end Mp
end
section
namespace Mp
open L2 PySem PySem.Spec PyProof.Rows
/-- what the top has left, from what k_is finds -/
theorem made {K : PySem.W.Frag} {h : Heap} {mg : Str → Option Value} (X : K.In h) (G : h.Ns mainGlobals mg)
    {f0 : Addr} {od0 an0 : Option Addr} {sl0 : Array (Option Value)} {oc0 kV0 dc0 pm0 cd0 ct0 : Value}
    {f1 : Addr} {od1 an1 : Option Addr} {sl1 : Array (Option Value)} {oc1 kV1 dc1 pm1 cd1 ct1 : Value}
    {f2 : Addr} {od2 an2 : Option Addr} {sl2 : Array (Option Value)} {oc2 kV2 dc2 pm2 cd2 ct2 : Value}
    {f3 : Addr} {od3 an3 : Option Addr} {sl3 : Array (Option Value)} {oc3 kV3 dc3 pm3 cd3 ct3 : Value}
    {f4 : Addr} {od4 an4 : Option Addr} {sl4 : Array (Option Value)} {oc4 kV4 dc4 pm4 cd4 ct4 : Value}
    {f5 : Addr} {od5 an5 : Option Addr} {sl5 : Array (Option Value)} {oc5 kV5 dc5 pm5 cd5 ct5 : Value}
    {f6 : Addr} {od6 an6 : Option Addr} {sl6 : Array (Option Value)} {oc6 kV6 dc6 pm6 cd6 ct6 : Value}
    {f7 : Addr} {od7 an7 : Option Addr} {sl7 : Array (Option Value)} {oc7 kV7 dc7 pm7 cd7 ct7 : Value}
    {f8 : Addr} {od8 an8 : Option Addr} {sl8 : Array (Option Value)} {oc8 kV8 dc8 pm8 cd8 ct8 : Value}
    {f9 : Addr} {od9 an9 : Option Addr} {sl9 : Array (Option Value)} {oc9 kV9 dc9 pm9 cd9 ct9 : Value}
    {f10 : Addr} {od10 an10 : Option Addr} {sl10 : Array (Option Value)} {oc10 kV10 dc10 pm10 cd10 ct10 : Value}
    {f11 : Addr} {od11 an11 : Option Addr} {sl11 : Array (Option Value)} {oc11 kV11 dc11 pm11 cd11 ct11 : Value}
    {f12 : Addr} {od12 an12 : Option Addr} {sl12 : Array (Option Value)} {oc12 kV12 dc12 pm12 cd12 ct12 : Value}
    {f13 : Addr} {od13 an13 : Option Addr} {sl13 : Array (Option Value)} {oc13 kV13 dc13 pm13 cd13 ct13 : Value}
    {f14 : Addr} {od14 an14 : Option Addr} {sl14 : Array (Option Value)} {oc14 kV14 dc14 pm14 cd14 ct14 : Value}
    (a0 : PySem.W.nsIn K mainGlobals "number_in" = some (some (.ref f0))) (l0 : K.lookup f0 = some ⟨oc0, od0, .func (PySem.W.fnOf "number_in" "number_in" (defArgs d_number_in.st) (defBody d_number_in.st) (defScope d_number_in.st) .none kV0 dc0 pm0 an0 cd0 ct0), sl0⟩) (c0 : PySem.W.codeIn K cd0 "number_in" = true) (k0 : PySem.W.keepIn K (.ref f0) = true)
    (a1 : PySem.W.nsIn K mainGlobals "numbers_in" = some (some (.ref f1))) (l1 : K.lookup f1 = some ⟨oc1, od1, .func (PySem.W.fnOf "numbers_in" "numbers_in" (defArgs d_numbers_in.st) (defBody d_numbers_in.st) (defScope d_numbers_in.st) .none kV1 dc1 pm1 an1 cd1 ct1), sl1⟩) (c1 : PySem.W.codeIn K cd1 "numbers_in" = true) (k1 : PySem.W.keepIn K (.ref f1) = true)
    (a2 : PySem.W.nsIn K mainGlobals "part_text" = some (some (.ref f2))) (l2 : K.lookup f2 = some ⟨oc2, od2, .func (PySem.W.fnOf "part_text" "part_text" (defArgs d_part_text.st) (defBody d_part_text.st) (defScope d_part_text.st) .none kV2 dc2 pm2 an2 cd2 ct2), sl2⟩) (c2 : PySem.W.codeIn K cd2 "part_text" = true) (k2 : PySem.W.keepIn K (.ref f2) = true)
    (a3 : PySem.W.nsIn K mainGlobals "doings_text" = some (some (.ref f3))) (l3 : K.lookup f3 = some ⟨oc3, od3, .func (PySem.W.fnOf "doings_text" "doings_text" (defArgs d_doings_text.st) (defBody d_doings_text.st) (defScope d_doings_text.st) .none kV3 dc3 pm3 an3 cd3 ct3), sl3⟩) (c3 : PySem.W.codeIn K cd3 "doings_text" = true) (k3 : PySem.W.keepIn K (.ref f3) = true)
    (a4 : PySem.W.nsIn K mainGlobals "show_row" = some (some (.ref f4))) (l4 : K.lookup f4 = some ⟨oc4, od4, .func (PySem.W.fnOf "show_row" "show_row" (defArgs d_show_row.st) (defBody d_show_row.st) (defScope d_show_row.st) .none kV4 dc4 pm4 an4 cd4 ct4), sl4⟩) (c4 : PySem.W.codeIn K cd4 "show_row" = true) (k4 : PySem.W.keepIn K (.ref f4) = true)
    (a5 : PySem.W.nsIn K mainGlobals "part_in" = some (some (.ref f5))) (l5 : K.lookup f5 = some ⟨oc5, od5, .func (PySem.W.fnOf "part_in" "part_in" (defArgs d_part_in.st) (defBody d_part_in.st) (defScope d_part_in.st) .none kV5 dc5 pm5 an5 cd5 ct5), sl5⟩) (c5 : PySem.W.codeIn K cd5 "part_in" = true) (k5 : PySem.W.keepIn K (.ref f5) = true)
    (a6 : PySem.W.nsIn K mainGlobals "doings_in" = some (some (.ref f6))) (l6 : K.lookup f6 = some ⟨oc6, od6, .func (PySem.W.fnOf "doings_in" "doings_in" (defArgs d_doings_in.st) (defBody d_doings_in.st) (defScope d_doings_in.st) .none kV6 dc6 pm6 an6 cd6 ct6), sl6⟩) (c6 : PySem.W.codeIn K cd6 "doings_in" = true) (k6 : PySem.W.keepIn K (.ref f6) = true)
    (a7 : PySem.W.nsIn K mainGlobals "read_row" = some (some (.ref f7))) (l7 : K.lookup f7 = some ⟨oc7, od7, .func (PySem.W.fnOf "read_row" "read_row" (defArgs d_read_row.st) (defBody d_read_row.st) (defScope d_read_row.st) .none kV7 dc7 pm7 an7 cd7 ct7), sl7⟩) (c7 : PySem.W.codeIn K cd7 "read_row" = true) (k7 : PySem.W.keepIn K (.ref f7) = true)
    (a8 : PySem.W.nsIn K mainGlobals "_law_box" = some (some (.ref f8))) (l8 : K.lookup f8 = some ⟨oc8, od8, .func (PySem.W.fnOf "_law_box" "_law_box" (defArgs d__law_box.st) (defBody d__law_box.st) (defScope d__law_box.st) .none kV8 dc8 pm8 an8 cd8 ct8), sl8⟩) (c8 : PySem.W.codeIn K cd8 "_law_box" = true) (k8 : PySem.W.keepIn K (.ref f8) = true)
    (a9 : PySem.W.nsIn K mainGlobals "_law_take" = some (some (.ref f9))) (l9 : K.lookup f9 = some ⟨oc9, od9, .func (PySem.W.fnOf "_law_take" "_law_take" (defArgs d__law_take.st) (defBody d__law_take.st) (defScope d__law_take.st) .none kV9 dc9 pm9 an9 cd9 ct9), sl9⟩) (c9 : PySem.W.codeIn K cd9 "_law_take" = true) (k9 : PySem.W.keepIn K (.ref f9) = true)
    (a10 : PySem.W.nsIn K mainGlobals "_law_rising" = some (some (.ref f10))) (l10 : K.lookup f10 = some ⟨oc10, od10, .func (PySem.W.fnOf "_law_rising" "_law_rising" (defArgs d__law_rising.st) (defBody d__law_rising.st) (defScope d__law_rising.st) .none kV10 dc10 pm10 an10 cd10 ct10), sl10⟩) (c10 : PySem.W.codeIn K cd10 "_law_rising" = true) (k10 : PySem.W.keepIn K (.ref f10) = true)
    (a11 : PySem.W.nsIn K mainGlobals "_law_doings" = some (some (.ref f11))) (l11 : K.lookup f11 = some ⟨oc11, od11, .func (PySem.W.fnOf "_law_doings" "_law_doings" (defArgs d__law_doings.st) (defBody d__law_doings.st) (defScope d__law_doings.st) .none kV11 dc11 pm11 an11 cd11 ct11), sl11⟩) (c11 : PySem.W.codeIn K cd11 "_law_doings" = true) (k11 : PySem.W.keepIn K (.ref f11) = true)
    (a12 : PySem.W.nsIn K mainGlobals "_law_part_text" = some (some (.ref f12))) (l12 : K.lookup f12 = some ⟨oc12, od12, .func (PySem.W.fnOf "_law_part_text" "_law_part_text" (defArgs d__law_part_text.st) (defBody d__law_part_text.st) (defScope d__law_part_text.st) .none kV12 dc12 pm12 an12 cd12 ct12), sl12⟩) (c12 : PySem.W.codeIn K cd12 "_law_part_text" = true) (k12 : PySem.W.keepIn K (.ref f12) = true)
    (a13 : PySem.W.nsIn K mainGlobals "_law_text" = some (some (.ref f13))) (l13 : K.lookup f13 = some ⟨oc13, od13, .func (PySem.W.fnOf "_law_text" "_law_text" (defArgs d__law_text.st) (defBody d__law_text.st) (defScope d__law_text.st) .none kV13 dc13 pm13 an13 cd13 ct13), sl13⟩) (c13 : PySem.W.codeIn K cd13 "_law_text" = true) (k13 : PySem.W.keepIn K (.ref f13) = true)
    (a14 : PySem.W.nsIn K mainGlobals "law" = some (some (.ref f14))) (l14 : K.lookup f14 = some ⟨oc14, od14, .func (PySem.W.fnOf "law" "law" (defArgs d_law.st) (defBody d_law.st) (defScope d_law.st) .none kV14 dc14 pm14 an14 cd14 ct14), sl14⟩) (c14 : PySem.W.codeIn K cd14 "law" = true) (k14 : PySem.W.keepIn K (.ref f14) = true)
    {C0 : Addr} (e0a : PySem.W.nsIn K mainGlobals "NoText" = some (some (.ref C0))) (e0b : PySem.W.excIn K C0 [.type "ValueError", .type "Exception", .type "BaseException", .type "object"] "ValueError.__new__" = true) (e0c : PySem.W.keepIn K (.ref C0) = true) (e0d : PySem.W.subIn K (.ref C0) (.type "BaseException") = some true) (e0e : PySem.W.typeIn K (.ref C0) = some (.type "type"))
    {u0 : Value} (v0 : PySem.W.nsIn K mainGlobals "FIGURES" = some (some u0)) (r0 : conOk K u0 (.str "0123456789") = true)
    {u1 : Value} (v1 : PySem.W.nsIn K mainGlobals "MOST_FIGURES" = some (some u1)) (r1 : conOk K u1 (.int 9) = true)
    {u2 : Value} (v2 : PySem.W.nsIn K mainGlobals "NOTHING" = some (some u2)) (r2 : conOk K u2 (.str "-") = true)
    (z0 : PySem.W.nsIn K mainGlobals "len" = some none)
    (z1 : PySem.W.nsIn K mainGlobals "tuple" = some none)
    (z2 : PySem.W.nsIn K mainGlobals "list" = some none)
    (z3 : PySem.W.nsIn K mainGlobals "str" = some none)
    (z4 : PySem.W.nsIn K mainGlobals "int" = some none)
    (z5 : PySem.W.nsIn K mainGlobals "abs" = some none)
    (z6 : PySem.W.nsIn K mainGlobals "max" = some none)
    (z7 : PySem.W.nsIn K mainGlobals "min" = some none)
    (z8 : PySem.W.nsIn K mainGlobals "all" = some none)
    (z9 : PySem.W.nsIn K mainGlobals "any" = some none)
    (z10 : PySem.W.nsIn K mainGlobals "sorted" = some none)
    (z11 : PySem.W.nsIn K mainGlobals "repr" = some none)
    (z12 : PySem.W.nsIn K mainGlobals "range" = some none)
    (z13 : PySem.W.nsIn K mainGlobals "zip" = some none)
    (z14 : PySem.W.nsIn K mainGlobals "enumerate" = some none)
    (z15 : PySem.W.nsIn K mainGlobals "isinstance" = some none)
    (z16 : PySem.W.nsIn K mainGlobals "bool" = some none)
    (z17 : PySem.W.nsIn K mainGlobals "set" = some none)
    (z18 : PySem.W.nsIn K mainGlobals "sum" = some none)
    (z19 : PySem.W.nsIn K mainGlobals "dict" = some none)
    : World0 prg ⟨K, mg, prg.nm⟩ := by
  refine ⟨rfl, ?_, ?_, ?_, ?_⟩
  · intro x hx
    simp only [boots, List.mem_cons, List.not_mem_nil, or_false] at hx
    rcases hx with rfl | rfl | rfl | rfl | rfl | rfl | rfl | rfl | rfl | rfl | rfl | rfl | rfl | rfl | rfl | rfl | rfl | rfl | rfl | rfl
    · exact PySem.W.mg_none_of X G z0
    · exact PySem.W.mg_none_of X G z1
    · exact PySem.W.mg_none_of X G z2
    · exact PySem.W.mg_none_of X G z3
    · exact PySem.W.mg_none_of X G z4
    · exact PySem.W.mg_none_of X G z5
    · exact PySem.W.mg_none_of X G z6
    · exact PySem.W.mg_none_of X G z7
    · exact PySem.W.mg_none_of X G z8
    · exact PySem.W.mg_none_of X G z9
    · exact PySem.W.mg_none_of X G z10
    · exact PySem.W.mg_none_of X G z11
    · exact PySem.W.mg_none_of X G z12
    · exact PySem.W.mg_none_of X G z13
    · exact PySem.W.mg_none_of X G z14
    · exact PySem.W.mg_none_of X G z15
    · exact PySem.W.mg_none_of X G z16
    · exact PySem.W.mg_none_of X G z17
    · exact PySem.W.mg_none_of X G z18
    · exact PySem.W.mg_none_of X G z19
  · exact con_all (L := conL) (by
      unfold conL AllP AllP AllP AllP
      exact ⟨con_mk (PySem.W.mg_of X G v0) r0, con_mk (PySem.W.mg_of X G v1) r1, con_mk (PySem.W.mg_of X G v2) r2, trivial⟩)
  · exact exc_all (L := excL) (by
      unfold excL AllP AllP
      exact ⟨⟨C0, PySem.W.mg_of X G e0a, e0b, e0c, e0d, e0e⟩, trivial⟩)
  · exact def_all (L := defL) (by
      unfold defL AllP AllP AllP AllP AllP AllP AllP AllP AllP AllP AllP AllP AllP AllP AllP AllP
      exact ⟨def_mk (PySem.W.mg_of X G a0) (fun_mk (st := d_number_in.st) l0 c0 k0) s_number_in ((fun_mk (st := d_number_in.st) l0 c0 k0).binds fun _ _ _ _ _ _ us hl => match us, hl with | [_], _ => rfl) c_number_in,
        def_mk (PySem.W.mg_of X G a1) (fun_mk (st := d_numbers_in.st) l1 c1 k1) s_numbers_in ((fun_mk (st := d_numbers_in.st) l1 c1 k1).binds fun _ _ _ _ _ _ us hl => match us, hl with | [_], _ => rfl) c_numbers_in,
        def_mk (PySem.W.mg_of X G a2) (fun_mk (st := d_part_text.st) l2 c2 k2) s_part_text ((fun_mk (st := d_part_text.st) l2 c2 k2).binds fun _ _ _ _ _ _ us hl => match us, hl with | [_], _ => rfl) c_part_text,
        def_mk (PySem.W.mg_of X G a3) (fun_mk (st := d_doings_text.st) l3 c3 k3) s_doings_text ((fun_mk (st := d_doings_text.st) l3 c3 k3).binds fun _ _ _ _ _ _ us hl => match us, hl with | [_], _ => rfl) c_doings_text,
        def_mk (PySem.W.mg_of X G a4) (fun_mk (st := d_show_row.st) l4 c4 k4) s_show_row ((fun_mk (st := d_show_row.st) l4 c4 k4).binds fun _ _ _ _ _ _ us hl => match us, hl with | [_], _ => rfl) c_show_row,
        def_mk (PySem.W.mg_of X G a5) (fun_mk (st := d_part_in.st) l5 c5 k5) s_part_in ((fun_mk (st := d_part_in.st) l5 c5 k5).binds fun _ _ _ _ _ _ us hl => match us, hl with | [_], _ => rfl) c_part_in,
        def_mk (PySem.W.mg_of X G a6) (fun_mk (st := d_doings_in.st) l6 c6 k6) s_doings_in ((fun_mk (st := d_doings_in.st) l6 c6 k6).binds fun _ _ _ _ _ _ us hl => match us, hl with | [_], _ => rfl) c_doings_in,
        def_mk (PySem.W.mg_of X G a7) (fun_mk (st := d_read_row.st) l7 c7 k7) s_read_row ((fun_mk (st := d_read_row.st) l7 c7 k7).binds fun _ _ _ _ _ _ us hl => match us, hl with | [_], _ => rfl) c_read_row,
        def_mk (PySem.W.mg_of X G a8) (fun_mk (st := d__law_box.st) l8 c8 k8) s__law_box ((fun_mk (st := d__law_box.st) l8 c8 k8).binds fun _ _ _ _ _ _ us hl => match us, hl with | [_, _], _ => rfl) c__law_box,
        def_mk (PySem.W.mg_of X G a9) (fun_mk (st := d__law_take.st) l9 c9 k9) s__law_take ((fun_mk (st := d__law_take.st) l9 c9 k9).binds fun _ _ _ _ _ _ us hl => match us, hl with | [_, _], _ => rfl) c__law_take,
        def_mk (PySem.W.mg_of X G a10) (fun_mk (st := d__law_rising.st) l10 c10 k10) s__law_rising ((fun_mk (st := d__law_rising.st) l10 c10 k10).binds fun _ _ _ _ _ _ us hl => match us, hl with | [_, _, _], _ => rfl) c__law_rising,
        def_mk (PySem.W.mg_of X G a11) (fun_mk (st := d__law_doings.st) l11 c11 k11) s__law_doings ((fun_mk (st := d__law_doings.st) l11 c11 k11).binds fun _ _ _ _ _ _ us hl => match us, hl with | [_], _ => rfl) c__law_doings,
        def_mk (PySem.W.mg_of X G a12) (fun_mk (st := d__law_part_text.st) l12 c12 k12) s__law_part_text ((fun_mk (st := d__law_part_text.st) l12 c12 k12).binds fun _ _ _ _ _ _ us hl => match us, hl with | [_], _ => rfl) c__law_part_text,
        def_mk (PySem.W.mg_of X G a13) (fun_mk (st := d__law_text.st) l13 c13 k13) s__law_text ((fun_mk (st := d__law_text.st) l13 c13 k13).binds fun _ _ _ _ _ _ us hl => match us, hl with | [_], _ => rfl) c__law_text,
        def_mk (PySem.W.mg_of X G a14) (fun_mk (st := d_law.st) l14 c14 k14) s_law ((fun_mk (st := d_law.st) l14 c14 k14).binds fun _ _ _ _ _ _ us hl => match us, hl with | [_], _ => rfl) c_law,
        trivial⟩)
end Mp
open PySem PySem.W PyProof.Rows
set_option maxRecDepth 100000 in
set_option maxHeartbeats 0 in
theorem PySem.Challenge.cw_hearsaybook_k74_rows_written_holds : PySem.Challenge.rw_hearsaybook_k74_rows_written.Holds := by
  w_on; o_law; k_head; (case hw => w_witness2)
  k_fill
  refine Mp.mp_walk (l := PySem.Challenge.rw_hearsaybook_k74_rows_written) (lev := 30) (x := "_law_script") Mp.prg 19 Mp.d_law rfl rfl ⟨rfl, by decide, by decide⟩ (fun w h Y => PySem.W.kIn_of Y) rfl rfl rfl ?F Mp.law_true
  case F =>
    intro w mg h KX G
    refine ⟨?all, Mp.s_law, fun fd f hF => ?bind⟩
    case bind =>
      obtain ⟨oc, od, kV, doc, pm, an, cdv, ct, osl, rfl, _, _⟩ := hF.ex
      exact fun s u => .of_eq rfl
    case all =>
      refine' Mp.made KX G ?a0 ?l0 ?c0 ?k0 ?a1 ?l1 ?c1 ?k1 ?a2 ?l2 ?c2 ?k2 ?a3 ?l3 ?c3 ?k3 ?a4 ?l4 ?c4 ?k4 ?a5 ?l5 ?c5 ?k5 ?a6 ?l6 ?c6 ?k6 ?a7 ?l7 ?c7 ?k7 ?a8 ?l8 ?c8 ?k8 ?a9 ?l9 ?c9 ?k9 ?a10 ?l10 ?c10 ?k10 ?a11 ?l11 ?c11 ?k11 ?a12 ?l12 ?c12 ?k12 ?a13 ?l13 ?c13 ?k13 ?a14 ?l14 ?c14 ?k14 ?e0a ?e0b ?e0c ?e0d ?e0e ?v0 ?r0 ?v1 ?r1 ?v2 ?r2 ?z0 ?z1 ?z2 ?z3 ?z4 ?z5 ?z6 ?z7 ?z8 ?z9 ?z10 ?z11 ?z12 ?z13 ?z14 ?z15 ?z16 ?z17 ?z18 ?z19
      (case a0 => k_is)
      (case l0 => k_is)
      (case c0 => k_is)
      (case k0 => k_is)
      (case a1 => k_is)
      (case l1 => k_is)
      (case c1 => k_is)
      (case k1 => k_is)
      (case a2 => k_is)
      (case l2 => k_is)
      (case c2 => k_is)
      (case k2 => k_is)
      (case a3 => k_is)
      (case l3 => k_is)
      (case c3 => k_is)
      (case k3 => k_is)
      (case a4 => k_is)
      (case l4 => k_is)
      (case c4 => k_is)
      (case k4 => k_is)
      (case a5 => k_is)
      (case l5 => k_is)
      (case c5 => k_is)
      (case k5 => k_is)
      (case a6 => k_is)
      (case l6 => k_is)
      (case c6 => k_is)
      (case k6 => k_is)
      (case a7 => k_is)
      (case l7 => k_is)
      (case c7 => k_is)
      (case k7 => k_is)
      (case a8 => k_is)
      (case l8 => k_is)
      (case c8 => k_is)
      (case k8 => k_is)
      (case a9 => k_is)
      (case l9 => k_is)
      (case c9 => k_is)
      (case k9 => k_is)
      (case a10 => k_is)
      (case l10 => k_is)
      (case c10 => k_is)
      (case k10 => k_is)
      (case a11 => k_is)
      (case l11 => k_is)
      (case c11 => k_is)
      (case k11 => k_is)
      (case a12 => k_is)
      (case l12 => k_is)
      (case c12 => k_is)
      (case k12 => k_is)
      (case a13 => k_is)
      (case l13 => k_is)
      (case c13 => k_is)
      (case k13 => k_is)
      (case a14 => k_is)
      (case l14 => k_is)
      (case c14 => k_is)
      (case k14 => k_is)
      (case e0a => k_is)
      (case e0b => k_exc)
      (case e0c => k_is)
      (case e0d => k_is)
      (case e0e => k_is)
      (case v0 => k_is)
      (case r0 => first | rfl | decide +kernel)
      (case v1 => k_is)
      (case r1 => first | rfl | decide +kernel)
      (case v2 => k_is)
      (case r2 => first | rfl | decide +kernel)
      (case z0 => k_is)
      (case z1 => k_is)
      (case z2 => k_is)
      (case z3 => k_is)
      (case z4 => k_is)
      (case z5 => k_is)
      (case z6 => k_is)
      (case z7 => k_is)
      (case z8 => k_is)
      (case z9 => k_is)
      (case z10 => k_is)
      (case z11 => k_is)
      (case z12 => k_is)
      (case z13 => k_is)
      (case z14 => k_is)
      (case z15 => k_is)
      (case z16 => k_is)
      (case z17 => k_is)
      (case z18 => k_is)
      (case z19 => k_is)
end
