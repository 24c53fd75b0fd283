import PyProof.Rows.All
import Wide.All
import OpenK.AllK
import Wide.FinOn
import HandS.ForExc
import HandS.Comp
import HandS.Wide
import HandS.TupAny
import HandS.TupMul
import HandS.Flow
import HandS.IsInst
import HandS.Zip
import PyProof.ReprRoads
import HandS.RaiseMore
import HandS.Style
import HandS.Zip0
import KE.KExcSuper
import HandS.ExcInit
import HandS.ExcSuper
import HandS.ExcField
import HandS.ExcIs
import HandS.TryMany
import HandS.Ends
import HandS.Head0
import HandS.Head1
import HandS.Head2
import HandS.HeadEnd
import HandS.HeadHook1
import HandS.HeadHook2
import KE.KStateDown
import PySem.Challenge.RW_drawnwrought_k30_whole_fractions
set_option Elab.async false
set_option linter.all false
section
set_option maxRecDepth 100000
set_option maxHeartbeats 4000000
/-! DI0: the data-level interpreter: data, small trees, what they do; no heap in sight. -/
namespace DI
open PySem PySem.Spec PyProof.Rows L2

/-- data -/
inductive D where
  | non | bl (b : Bool) | int (i : Int) | str (x : Str)
  | tup (ds : List D) | lst (ds : List D)
  | fn (f : Nat) | cell (n : Nat) | scr (ns : List Int)
  deriving Inhabited

mutual
/-- as plain data, where it is -/
def D.py : D → Option PyData
  | .non => some .none
  | .bl b => some (.bool b)
  | .int i => some (.int i)
  | .str x => some (.str x)
  | .tup ds => (D.pys ds).map PyData.tuple
  | .lst ds => (D.pys ds).map PyData.list
  | .fn _ => none
  | .cell _ => none
  | .scr _ => none
def D.pys : List D → Option (List PyData)
  | [] => some []
  | d :: r => (D.py d).bind fun p => (D.pys r).map fun q => p :: q
end
mutual
/-- no list (and no shared cell) in it -/
def D.plain : D → Bool
  | .tup ds => D.plains ds
  | .lst _ => false
  | .scr _ => false
  | .non => true
  | .bl _ => true
  | .int _ => true
  | .str _ => true
  | .fn _ => true
  | .cell _ => true
def D.plains : List D → Bool
  | [] => true
  | d :: r => D.plain d && D.plains r
end

inductive Bop where
  | add | sub | mul | fdiv | mod | pow
  deriving DecidableEq
inductive Cop where
  | eq | ne | lt | le | gt | ge | isN | notN | isIn | notIn
  deriving DecidableEq
inductive Ty where
  | int | bool | tuple | list | str
  deriving DecidableEq
/-- built-in calls -/
inductive Bi where
  | len | abs | int | tuple | list | all | any | repr | max2 | min2 | sum
  deriving DecidableEq
/-- targets: a name's slot, or a tuple of names' slots -/
inductive DT where
  | one (i : Nat)
  | many (is : List Nat)

mutual
inductive DE where
  | slot (i : Nat)
  | const (d : D)
  | glob (x : Str) (d : D)
  | bop (o : Bop) (a b : DE)
  | neg (a : DE)
  | cmp (o : Cop) (a b : DE)
  | chain (o p : Cop) (a b c : DE)
  | notE (a : DE)
  | bAnd (es : DEs)
  | bOr (es : DEs)
  | ife (c a b : DE)
  | tup (es : DEs)
  | lst (es : DEs)
  | idx (a b : DE)
  | slc (a : DE) (lo hi : DO)
  | slcR (a : DE) (lo : DO)
  | call (f : Nat) (es : DEs)
  | callD (g : DE) (es : DEs)
  | bi (b : Bi) (es : DEs)
  | isi (a : DE) (t : Ty)
  | lc (vs : List Nat) (t : DT) (src : DIt) (ifs : DO) (elt : DE)
inductive DEs where
  | nil
  | cons (e : DE) (es : DEs)
inductive DO where
  | none
  | some (e : DE)
inductive DIt where
  | seq (e : DE)
  | rng1 (a : DE)
  | rng2 (a b : DE)
  | zip (a b : DE)
end

/-- the store of shared lists -/
abbrev Sto := List (List D)
/-- an exception: its class's number, its fields -/
inductive Res (α : Type) where
  | ok (a : α) (S : Sto)
  | exc (c : Nat) (fs : List D) (S : Sto)
  | bad
def Res.bind {α β : Type} (r : Res α) (f : α → Sto → Res β) : Res β := match r with
  | .ok a S => f a S
  | .exc c fs S => .exc c fs S
  | .bad => .bad
def ofO {α : Type} (o : Option α) (S : Sto) : Res α := match o with
  | some a => .ok a S
  | none => .bad
/-- no exception may leave -/
def Res.quiet {α : Type} : Res α → Res α
  | .exc _ _ _ => .bad
  | r => r

inductive Slot where
  | no
  | val (d : D)
  | own (ds : List D)

/-! ### what operators do -/
def b2i (b : Bool) : Int := if b then 1 else 0
def mulOk (i j : Int) : Bool := (decide (-(2 ^ 64) < i) && decide (i < 2 ^ 64)) || ((decide (-(2 ^ 64) < j) && decide (j < 2 ^ 64)) || decide (i.natAbs.log2 + j.natAbs.log2 < 1000000))
def fits (n : Nat) : Bool := decide (n ≤ sizeLine)
def binop (o : Bop) (a b : D) : Option D := match o with
  | .add => (match a, b with
    | .int i, .int j => some (.int (i + j))
    | .str x, .str y => if fits (x.length + y.length) then some (.str (x ++ y)) else none
    | .tup xs, .tup ys => if fits (xs.length + ys.length) then some (.tup (xs ++ ys)) else none
    | .lst xs, .lst ys => if fits (xs.length + ys.length) then some (.lst (xs ++ ys)) else none
    | _, _ => none)
  | .sub => (match a, b with
    | .int i, .int j => some (.int (i - j))
    | .bl i, .bl j => some (.int (b2i i - b2i j))
    | _, _ => none)
  | .mul => (match a, b with
    | .int i, .int j => if mulOk i j then some (.int (i * j)) else none
    | .lst xs, .int k => if decide (0 ≤ k) && (decide (k < 1000000) && fits (xs.length * k.toNat)) then some (.lst (List.replicate k.toNat xs).flatten) else none
    | .tup xs, .int k => if !xs.isEmpty && (decide (2 ≤ k) && (decide (k ≤ 1000) && decide (xs.length ≤ 1000))) then some (.tup (List.replicate k.toNat xs).flatten) else none
    | _, _ => none)
  | .fdiv => (match a, b with
    | .int i, .int j => if decide (0 < j) && decide (j.natAbs.log2 < 9000) then some (.int (i / j)) else if decide (j < 0) && decide (j.natAbs.log2 < 9000) then some (.int (i.fdiv j)) else none
    | _, _ => none)
  | .mod => (match a, b with
    | .int i, .int j => if 0 < j then some (.int (i % j)) else if j < 0 then some (.int (i.fmod j)) else none
    | _, _ => none)
  | .pow => (match a, b with
    | .int i, .int j => if decide (0 ≤ j) && (decide (j ≤ 1000000) && decide (i.natAbs < 2 ^ 64)) then some (.int (i ^ j.toNat)) else none
    | _, _ => none)
def negD : D → Option D
  | .int i => some (.int (-i))
  | _ => none
def eqD (a b : D) : Option Bool := match a, b with
  | .str x, .str y => some (decide (x = y))
  | a, b => (match a.py, b.py with
    | some p, some q => if SeqAt.shaped p && SeqAt.shaped q then some (PyData.eqv p q) else none
    | _, _ => none)
def D.flat : D → Bool
  | .non => true
  | .bl _ => true
  | .int _ => true
  | .str _ => true
  | _ => false
/-- == of flat things -/
def eqF : D → D → Bool
  | .non, .non => true
  | .bl a, .bl b => a == b
  | .bl a, .int j => b2i a == j
  | .int i, .bl b => i == b2i b
  | .int i, .int j => i == j
  | .str x, .str y => x == y
  | _, _ => false
def inD (x c : D) : Option Bool := match c with
  | .tup xs => if x.flat && xs.all D.flat then some (xs.any fun y => eqF y x) else none
  | .lst xs => if x.flat && xs.all D.flat then some (xs.any fun y => eqF y x) else none
  | _ => none
def cmpD (o : Cop) (a b : D) : Option D := match o with
  | .eq => (eqD a b).map .bl
  | .ne => (eqD a b).map fun k => .bl (!k)
  | .lt => (match a, b with
    | .int i, .int j => some (.bl (decide (i < j)))
    | _, _ => none)
  | .le => (match a, b with
    | .int i, .int j => some (.bl (decide (i ≤ j)))
    | _, _ => none)
  | .gt => (match a, b with
    | .int i, .int j => some (.bl (decide (j < i)))
    | _, _ => none)
  | .ge => (match a, b with
    | .int i, .int j => some (.bl (decide (j ≤ i)))
    | _, _ => none)
  | .isN => (match b with
    | .non => some (.bl (match a with
      | .non => true
      | _ => false))
    | _ => none)
  | .notN => (match b with
    | .non => some (.bl (match a with
      | .non => false
      | _ => true))
    | _ => none)
  | .isIn => (inD a b).map .bl
  | .notIn => (inD a b).map fun k => .bl (!k)
/-- truth -/
def truth (a : D) : Option Bool := match a with
  | .non => some false
  | .bl b => some b
  | .int i => some (i != 0)
  | .str x => if fits x.length then some ((x.length : Int) != 0) else none
  | .tup xs => some (!xs.isEmpty)
  | .lst xs => some (!xs.isEmpty)
  | _ => none
def idxD (S : Sto) (a i : D) : Option D := match i with
  | .int k => (match a with
    | .tup xs => atI xs k
    | .lst xs => atI xs k
    | .cell n => (S[n]?).bind fun xs => atI xs k
    | .str x => if fits x.length then (atI x.cps.toList k).map fun c => .str ⟨#[c]⟩ else none
    | _ => none)
  | _ => none
def cutL {α : Type} (xs : List α) (lo hi : Option Int) : List α := (xs.drop (HT.sIx xs.length 0 lo)).take (HT.sIx xs.length xs.length hi - HT.sIx xs.length 0 lo)
def intO : Option D → Option (Option Int)
  | none => some none
  | some (.int i) => some (some i)
  | _ => none
def slcD (a : D) (lo hi : Option Int) : Option D := match a with
  | .tup xs => some (.tup (cutL xs lo hi))
  | .lst xs => some (.lst (cutL xs lo hi))
  | .scr ns => some (.lst ((cutL ns lo hi).map D.int))
  | _ => none
/-- where a walk backwards begins: how many items ahead of its end -/
def backIx (n : Nat) (lo : Option Int) : Nat := match lo with
  | none => n
  | some i => if i < 0 then (i + n + 1).toNat else min (i.toNat + 1) n
def slcRD (a : D) (lo : Option Int) : Option D := match a with
  | .tup xs => some (.tup ((xs.take (backIx xs.length lo)).reverse))
  | .lst xs => (match lo with
    | none => some (.lst xs.reverse)
    | some _ => none)
  | _ => none
def isTy (t : Ty) (a : D) : Option Bool := match a with
  | .non => some false
  | .bl _ => some (t == .bool || t == .int)
  | .int _ => some (t == .int)
  | .str _ => some (t == .str)
  | .tup _ => some (t == .tuple)
  | .lst _ => some (t == .list)
  | _ => none
def boolsD : List D → Option (List Bool)
  | [] => some []
  | .bl b :: r => (boolsD r).map (b :: ·)
  | _ :: _ => none
def intsD : List D → Option (List Int)
  | [] => some []
  | .int b :: r => (intsD r).map (b :: ·)
  | _ :: _ => none
def reprD (a : D) : Option D := match a with
  | .int i => if i.natAbs.log2 < 1920 then some (.str (toString i)) else none
  | .non => some (.str (PyData.shown .none))
  | .bl b => some (.str (PyData.shown (.bool b)))
  | .str x => if fits (reprText x).length then some (.str (reprText x)) else none
  | .tup _ => a.py.bind fun p => if p.showable && (decide (p.depth ≤ 60) && fits p.shown.length) then some (.str p.shown) else none
  | .lst _ => a.py.bind fun p => if p.showable && (decide (p.depth ≤ 60) && fits p.shown.length) then some (.str p.shown) else none
  | _ => none
def biD (b : Bi) (S : Sto) (as : List D) : Option D := match b, as with
  | .len, [.tup xs] => some (.int xs.length)
  | .len, [.lst xs] => some (.int xs.length)
  | .len, [.str x] => if fits x.length then some (.int x.length) else none
  | .abs, [.int i] => some (.int (if i < 0 then -i else i))
  | .int, [.int i] => some (.int i)
  | .int, [.bl k] => some (.int (if k then 1 else 0))
  | .tuple, [.tup xs] => some (.tup xs)
  | .tuple, [.lst xs] => some (.tup xs)
  | .list, [.tup xs] => some (.lst xs)
  | .list, [.lst xs] => some (.lst xs)
  | .all, [.lst xs] => (boolsD xs).map fun bs => .bl (bs.all id)
  | .any, [.lst xs] => (boolsD xs).map fun bs => .bl (bs.any id)
  | .repr, [a] => reprD a
  | .max2, [.int i, .int j] => some (.int (if j > i then j else i))
  | .min2, [.int i, .int j] => some (.int (if j < i then j else i))
  | .sum, [.lst xs] => (intsD xs).map fun ns => .int ns.sum
  | _, _ => none

/-- what is to be walked: items -/
def itemsD (a : D) : Option (List D) := match a with
  | .tup xs => some xs
  | .lst xs => some xs
  | _ => none
def smallI (i : Int) : Bool := decide (-(2 ^ 62) ≤ i) && decide (i < 2 ^ 62)
def rngL (lo : Int) (n : Nat) : List D := (List.range n).map fun (k : Nat) => D.int (lo + (k : Int))
def setSlot (σ : List Slot) (i : Nat) (d : D) : List Slot := σ.set i (.val d)
/-- a target takes an item -/
def setT (t : DT) (σ : List Slot) (d : D) : Option (List Slot) := match t with
  | .one i => some (setSlot σ i d)
  | .many is => (match d with
    | .tup ds => if ds.length = is.length then some ((is.zip ds).foldl (fun σ p => setSlot σ p.1 p.2) σ) else none
    | _ => none)
def wipeD (σ : List Slot) : List Nat → List Slot
  | [] => σ
  | v :: vs => (wipeD σ vs).set v .no

/-- calls, by the def's number -/
abbrev Calls := Nat → List D → Sto → Res D

/-- a comprehension's turns -/
def lcL (t : DT) (cond : List Slot → Sto → Res Bool) (elt : List Slot → Sto → Res D) (σ : List Slot) : List D → Sto → Res (List D)
  | [], S => .ok [] S
  | d :: r, S => (ofO (setT t σ d) S).bind fun σ1 S => (cond σ1 S).bind fun b S1 =>
    if b = true then (elt σ1 S1).bind fun x S2 => (lcL t cond elt σ r S2).bind fun xs S3 => .ok (x :: xs) S3 else lcL t cond elt σ r S1

section
variable (ρ : Calls)
mutual
def evE : DE → List Slot → Sto → Res D
  | .slot i, σ, S => (match σ[i]? with
    | some (.val d) => .ok d S
    | some (.own ds) => .ok (.lst ds) S
    | _ => .bad)
  | .const d, _, S => .ok d S
  | .glob _ d, _, S => .ok d S
  | .bop o a b, σ, S => (evE a σ S).bind fun x S1 => (evE b σ S1).bind fun y S2 => ofO (binop o x y) S2
  | .neg a, σ, S => (evE a σ S).bind fun x S1 => ofO (negD x) S1
  | .cmp o a b, σ, S => (evE a σ S).bind fun x S1 => (evE b σ S1).bind fun y S2 => ofO (cmpD o x y) S2
  | .chain o p a b c, σ, S => (evE a σ S).bind fun x S1 => (evE b σ S1).bind fun y S2 => (ofO (cmpD o x y) S2).bind fun k S3 => (match k with
    | .bl true => (evE c σ S3).bind fun z S4 => ofO (cmpD p y z) S4
    | .bl false => .ok (.bl false) S3
    | _ => .bad)
  | .notE a, σ, S => (evE a σ S).bind fun x S1 => (ofO (truth x) S1).bind fun k S2 => .ok (.bl (!k)) S2
  | .bAnd es, σ, S => evAnd es σ S
  | .bOr es, σ, S => evOr es σ S
  | .ife c a b, σ, S => (evE c σ S).bind fun x S1 => (ofO (truth x) S1).bind fun k S2 => if k = true then evE a σ S2 else evE b σ S2
  | .tup es, σ, S => (evEs es σ S).bind fun xs S1 => if fits xs.length then .ok (.tup xs) S1 else .bad
  | .lst es, σ, S => (evEs es σ S).bind fun xs S1 => if fits xs.length then .ok (.lst xs) S1 else .bad
  | .idx a b, σ, S => (evE a σ S).bind fun x S1 => (evE b σ S1).bind fun y S2 => ofO (idxD S2 x y) S2
  | .slc a lo hi, σ, S => (evE a σ S).bind fun x S1 => (evO lo σ S1).bind fun l S2 => (ofO (intO l) S2).bind fun l S2 => (evO hi σ S2).bind fun h S3 => (ofO (intO h) S3).bind fun h S3 => ofO (slcD x l h) S3
  | .slcR a lo, σ, S => (evE a σ S).bind fun x S1 => (evO lo σ S1).bind fun l S2 => (ofO (intO l) S2).bind fun l S2 => ofO (slcRD x l) S2
  | .call f es, σ, S => (evEs es σ S).bind fun xs S1 => ρ f xs S1
  | .callD g es, σ, S => (evE g σ S).bind fun x S1 => (match x with
    | .fn f => (evEs es σ S1).bind fun xs S2 => ρ f xs S2
    | _ => .bad)
  | .bi b es, σ, S => (evEs es σ S).bind fun xs S1 => ofO (biD b S1 xs) S1
  | .isi a t, σ, S => (evE a σ S).bind fun x S1 => ofO ((isTy t x).map .bl) S1
  | .lc vs t src ifs elt, σ, S => (evI src σ S).bind fun ds S1 => ((lcL t (fun σ S => (evO ifs σ S).bind fun o S => (match o with
      | none => .ok true S
      | some x => ofO (truth x) S)) (fun σ S => evE elt σ S) (wipeD σ vs) ds S1).quiet).bind fun xs S2 => if fits xs.length then .ok (.lst xs) S2 else .bad
def evEs : DEs → List Slot → Sto → Res (List D)
  | .nil, _, S => .ok [] S
  | .cons e es, σ, S => (evE e σ S).bind fun x S1 => (evEs es σ S1).bind fun xs S2 => .ok (x :: xs) S2
def evAnd : DEs → List Slot → Sto → Res D
  | .nil, _, _ => .bad
  | .cons e .nil, σ, S => evE e σ S
  | .cons e (.cons e2 es), σ, S => (evE e σ S).bind fun x S1 => (ofO (truth x) S1).bind fun k S2 => if k = true then evAnd (.cons e2 es) σ S2 else .ok x S2
def evOr : DEs → List Slot → Sto → Res D
  | .nil, _, _ => .bad
  | .cons e .nil, σ, S => evE e σ S
  | .cons e (.cons e2 es), σ, S => (evE e σ S).bind fun x S1 => (ofO (truth x) S1).bind fun k S2 => if k = true then .ok x S2 else evOr (.cons e2 es) σ S2
def evO : DO → List Slot → Sto → Res (Option D)
  | .none, _, S => .ok none S
  | .some e, σ, S => (evE e σ S).bind fun x S1 => .ok (some x) S1
def evI : DIt → List Slot → Sto → Res (List D)
  | .seq e, σ, S => (evE e σ S).bind fun x S1 => ofO (itemsD x) S1
  | .rng1 a, σ, S => (evE a σ S).bind fun x S1 => (match x with
    | .int j => if smallI j then .ok (rngL 0 j.toNat) S1 else .bad
    | _ => .bad)
  | .rng2 a b, σ, S => (evE a σ S).bind fun x S1 => (evE b σ S1).bind fun y S2 => (match x, y with
    | .int i, .int j => if smallI i && smallI j then .ok (rngL i (j - i).toNat) S2 else .bad
    | _, _ => .bad)
  | .zip a b, σ, S => (evE a σ S).bind fun x S1 => (evE b σ S1).bind fun y S2 => (match itemsD x, itemsD y with
    | some xs, some ys => .ok ((xs.zip ys).map fun p => .tup [p.1, p.2]) S2
    | _, _ => .bad)
end
end

/-! ### statements -/
/-- how a name is set: by value; a list of its own; a new shared list -/
inductive AM where
  | val | own | cell
  deriving DecidableEq
/-- what an except clause hands back: the error's fields are read by number -/
inductive HL where
  | const (d : D)
  | fld (n : Nat)
inductive HE where
  | one (l : HL)
  | tup (ls : List HL)
mutual
inductive DS where
  | pass
  | expr (e : DE)
  | app (i : Nat) (e : DE)
  | asg (i : Nat) (m : AM) (w : Bool) (e : DE)
  | asgT (is : List Nat) (w : Bool) (e : DE)
  | par (is : List Nat) (w : Bool) (es : DEs)
  | frz (i : Nat)
  | setAt (i : Nat) (ix e : DE)
  | aug (i : Nat) (o : Bop) (e : DE)
  | ifS (c : DE) (a b : DSs)
  | whl (c : DE) (b : DSs)
  | forS (t : DT) (src : DIt) (b : DSs)
  | ret (e : DE)
  | retN
  | raise (c : Nat) (es : DEs)
  | tryR (b : DSs) (hs : List (List Nat × HE))
inductive DSs where
  | nil
  | cons (s : DS) (r : DSs)
end
inductive Out where
  | next (σ : List Slot)
  | ret (d : D)

/-- a fresh object by its form -/
def DE.fresh : DE → Bool
  | .lst _ => true
  | .lc _ _ _ _ _ => true
  | .slc _ _ _ => true
  | .bi .list _ => true
  | .bop _ _ _ => true
  | _ => false
/-- what may be kept of a value that was read with own lists readable -/
def keeps (fr : Bool) (d : D) : Bool := d.plain || (match d with
  | .lst ds => fr && D.plains ds
  | _ => false)
def hlD (fs : List D) : HL → Option D
  | .const d => some d
  | .fld n => fs[n]?
def hlDs (fs : List D) : List HL → Option (List D)
  | [] => some []
  | l :: r => (hlD fs l).bind fun d => (hlDs fs r).map fun ds => d :: ds
def heD (fs : List D) : HE → Option D
  | .one l => hlD fs l
  | .tup ls => (hlDs fs ls).map .tup
/-- the first clause that takes class c -/
def handler (c : Nat) : List (List Nat × HE) → Option HE
  | [] => none
  | (cs, h) :: r => if cs.contains c then some h else handler c r
/-- a while loop's turns -/
def whlL (cond : List Slot → Sto → Res Bool) (body : List Slot → Sto → Res Out) : Nat → List Slot → Sto → Res Out
  | 0, _, _ => .bad
  | n + 1, σ, S => (cond σ S).bind fun k S1 => if k = true then (body σ S1).bind fun o S2 => (match o with
    | .next σ2 => whlL cond body n σ2 S2
    | .ret d => .ok (.ret d) S2) else .ok (.next σ) S1
def forL (t : DT) (body : List Slot → Sto → Res Out) : List D → List Slot → Sto → Res Out
  | [], σ, S => .ok (.next σ) S
  | d :: r, σ, S => (ofO (setT t σ d) S).bind fun σ1 S => (body σ1 S).bind fun o S2 => (match o with
    | .next σ2 => forL t body r σ2 S2
    | .ret d => .ok (.ret d) S2)
/-- the turns a while loop may take -/
def turns : Nat := 1000000
section
variable (ρ : Calls)
mutual
def exS : DS → List Slot → Sto → Res Out
  | .pass, σ, S => .ok (.next σ) S
  | .expr e, σ, S => (evE ρ e σ S).bind fun _ S1 => .ok (.next σ) S1
  | .app i e, σ, S => (match σ[i]? with
    | some (.own ds) => (evE ρ e σ S).bind fun x S1 => if x.plain && decide (ds.length < sizeLine) then .ok (.next (σ.set i (.own (ds ++ [x])))) S1 else .bad
    | _ => .bad)
  | .asg i m w e, σ, S => (evE ρ e σ S).bind fun x S1 => if w && !keeps e.fresh x then .bad else (match m with
    | .val => .ok (.next (setSlot σ i x)) S1
    | .own => (match x with
      | .lst ds => if decide (i < σ.length) && (e.fresh && D.plains ds) then .ok (.next (σ.set i (.own ds))) S1 else .bad
      | _ => .bad)
    | .cell => (match x with
      | .lst ds => if decide (i < σ.length) && (e.fresh && D.plains ds) then .ok (.next (setSlot σ i (.cell S1.length))) (S1 ++ [ds]) else .bad
      | _ => .bad))
  | .asgT is w e, σ, S => (evE ρ e σ S).bind fun x S1 => if w && !x.plain then .bad else (ofO (setT (.many is) σ x) S1).bind fun σ1 S2 => .ok (.next σ1) S2
  | .par is w es, σ, S => (evEs ρ es σ S).bind fun xs S1 => if w && !D.plains xs then .bad else if xs.length = is.length then .ok (.next ((is.zip xs).foldl (fun σ p => setSlot σ p.1 p.2) σ)) S1 else .bad
  | .frz i, σ, S => (match σ[i]? with
    | some (.own ds) => .ok (.next (setSlot σ i (.lst ds))) S
    | _ => .bad)
  | .setAt i ix e, σ, S => (evE ρ e σ S).bind fun x S1 => (match σ[i]? with
    | some (.val (.cell n)) => (evE ρ ix σ S1).bind fun k S2 => (match k, S2[n]? with
      | .int k, some ds => (match ixN ds.length k with
        | some j => if x.plain && D.plains (ds.set j x) then .ok (.next σ) (S2.set n (ds.set j x)) else .bad
        | none => .bad)
      | _, _ => .bad)
    | some (.own ds) => (evE ρ ix σ S1).bind fun k S2 => (match k with
      | .int k => (match ixN ds.length k with
        | some j => if x.plain && D.plains (ds.set j x) then .ok (.next (σ.set i (.own (ds.set j x)))) S2 else .bad
        | none => .bad)
      | _ => .bad)
    | _ => .bad)
  | .aug i o e, σ, S => (match σ[i]? with
    | some (.val (.int a)) => (evE ρ e σ S).bind fun y S1 => (match y with
      | .int b => (match o with
        | .add => .ok (.next (setSlot σ i (.int (a + b)))) S1
        | .sub => .ok (.next (setSlot σ i (.int (a - b)))) S1
        | .mul => if (decide (-(2 ^ 64) < a) && decide (a < 2 ^ 64)) || (decide (-(2 ^ 64) < b) && decide (b < 2 ^ 64)) then .ok (.next (setSlot σ i (.int (a * b)))) S1 else .bad
        | .fdiv => if decide (0 < b) && decide (b < 1073741824) then .ok (.next (setSlot σ i (.int (a / b)))) S1 else .bad
        | _ => .bad)
      | _ => .bad)
    | _ => .bad)
  | .ifS c a b, σ, S => (evE ρ c σ S).bind fun x S1 => (ofO (truth x) S1).bind fun k S2 => if k = true then exSs a σ S2 else exSs b σ S2
  | .whl c b, σ, S => whlL (fun σ S => (evE ρ c σ S).bind fun x S1 => ofO (truth x) S1) (fun σ S => exSs b σ S) turns σ S
  | .forS t src b, σ, S => (evI ρ src σ S).bind fun ds S1 => forL t (fun σ S => exSs b σ S) ds σ S1
  | .ret e, σ, S => (evE ρ e σ S).bind fun x S1 => .ok (.ret x) S1
  | .retN, _, S => .ok (.ret .non) S
  | .raise c es, σ, S => (evEs ρ es σ S).bind fun xs S1 => if D.plains xs then .exc c xs S1 else .bad
  | .tryR b hs, σ, S => (match exSs b σ S with
    | .exc c fs S1 => if decide (c < 16) then (match handler c hs with
      | some h => (ofO (heD fs h) S1).bind fun x S2 => .ok (.ret x) S2
      | none => .exc c fs S1) else .bad
    | r => r)
def exSs : DSs → List Slot → Sto → Res Out
  | .nil, σ, S => .ok (.next σ) S
  | .cons s r, σ, S => (exS s σ S).bind fun o S1 => (match o with
    | .next σ1 => exSs r σ1 S1
    | .ret d => .ok (.ret d) S1)
end
end

/-! ### defs and calls -/
structure Df where
  name : Str
  ps : Nat
  N : List Str
  body : DSs
mutual
/-- no shared list in it -/
def D.calm : D → Bool
  | .tup ds => D.calms ds
  | .lst ds => D.calms ds
  | .cell _ => false
  | _ => true
def D.calms : List D → Bool
  | [] => true
  | d :: r => D.calm d && D.calms r
end
/-- the end of a def: shared lists that it made are gone -/
def fin1 (S : Sto) (x : D) (S1 : Sto) : Res D := if S1.length = S.length then .ok x S1 else if D.calm x && (S1.take S.length).all D.calms then .ok x (S1.take S.length) else .bad
def finX (S : Sto) (c : Nat) (fs : List D) (S1 : Sto) : Res D := if S1.length = S.length then .exc c fs S1 else if D.calms fs && (S1.take S.length).all D.calms then .exc c fs (S1.take S.length) else .bad
/-- a def at its arguments -/
def runDf (ρ : Calls) (d : Df) (as : List D) (S : Sto) : Res D :=
  if as.length = d.ps then (match exSs ρ d.body (as.map Slot.val ++ List.replicate (d.N.length - as.length) .no) S with
    | .ok (.ret x) S1 => fin1 S x S1
    | .ok (.next _) S1 => fin1 S .non S1
    | .exc c fs S1 => finX S c fs S1
    | .bad => .bad) else .bad
def callK (T : List Df) : Nat → Calls
  | 0 => fun _ _ _ => .bad
  | k + 1 => fun f as S => (match T[f]? with
    | some d => runDf (callK T k) d as S
    | none => .bad)
end DI

end
section
set_option maxRecDepth 100000
set_option maxHeartbeats 4000000
/-! DI1: data and the abstract heap. -/
namespace DI
open PySem PySem.Spec PyProof.Rows L2

/-- a written tuple, a written list -/
def KTup (K : PySem.W.Frag) (a : Addr) (vs : List V) : Prop := ∃ (o : Obj) (its : Array Value) (n : Nat), K.lookup a = some o ∧ o.cls = .type "tuple" ∧ o.data = .seq its n ∧ its.size ≤ sizeLine ∧ Vals vs its.toList
def KLst (K : PySem.W.Frag) (a : Addr) (vs : List V) : Prop := ∃ (o : Obj) (its : Array Value) (n : Nat), K.lookup a = some o ∧ o.cls = .type "list" ∧ o.dict = none ∧ o.data = .seq its n ∧ its.size ≤ sizeLine ∧ Vals vs its.toList
/-- the written part, the defs' addresses -/
structure Wc where
  K : PySem.W.Frag
  fa : Nat → Addr
  nf : Nat
mutual
/-- d lies at v; ρ: the shared lists' addresses; B: what may be changed by others and is never read by value -/
inductive Rep (c : Wc) (ρ : List Addr) (B : Addr → Prop) (H : Hp) : D → V → Prop
  | non : Rep c ρ B H .non .non
  | bl (b : Bool) : Rep c ρ B H (.bl b) (.bl b)
  | int (i : Int) : Rep c ρ B H (.int i) (.int i)
  | str (x : Str) : Rep c ρ B H (.str x) (.str x)
  | tup {a : Addr} {ds : List D} {vs : List V} : ((H a = some (.tup vs) ∧ ¬ B a) ∨ KTup c.K a vs) → RepA c ρ B H ds vs → Rep c ρ B H (.tup ds) (.ref a)
  | lst {a : Addr} {ds : List D} {vs : List V} : H a = some (.lst vs) → ¬ B a → RepA c ρ B H ds vs → Rep c ρ B H (.lst ds) (.ref a)
  | fn {f : Nat} : f < c.nf → Rep c ρ B H (.fn f) (.ref (c.fa f))
  | cell {n : Nat} {a : Addr} : ρ[n]? = some a → Rep c ρ B H (.cell n) (.ref a)
  | scr {a : Addr} {ns : List Int} : ((Rd H a (.lst (ns.map V.int)) ∧ ¬ B a) ∨ KLst c.K a (ns.map V.int)) → Rep c ρ B H (.scr ns) (.ref a)
inductive RepA (c : Wc) (ρ : List Addr) (B : Addr → Prop) (H : Hp) : List D → List V → Prop
  | nil : RepA c ρ B H [] []
  | cons {d : D} {v : V} {ds : List D} {vs : List V} : Rep c ρ B H d v → RepA c ρ B H ds vs → RepA c ρ B H (d :: ds) (v :: vs)
end
section
variable {c : Wc} {ρ ρ' : List Addr} {B B' : Addr → Prop} {H H' : Hp}
mutual
theorem Rep.imp (h : ∀ a o, H a = some o → ¬ B a → H' a = some o ∧ ¬ B' a) (hr : ∀ (n : Nat) (a : Addr), ρ[n]? = some a → ρ'[n]? = some a) : ∀ (d : D) (v : V), Rep c ρ B H d v → Rep c ρ' B' H' d v
  | .non, _, r => by cases r; exact .non
  | .bl _, _, r => by cases r; exact .bl _
  | .int _, _, r => by cases r; exact .int _
  | .str _, _, r => by cases r; exact .str _
  | .tup ds, _, r => by
    cases r with
    | tup ha hs =>
      refine .tup ?_ (RepA.imp h hr ds _ hs)
      rcases ha with ⟨h1, h2⟩ | ha
      · exact .inl (h _ _ h1 h2)
      · exact .inr ha
  | .lst ds, _, r => by
    cases r with
    | lst h1 h2 hs =>
      obtain ⟨h3, h4⟩ := h _ _ h1 h2
      exact .lst h3 h4 (RepA.imp h hr ds _ hs)
  | .fn f, _, r => by
    cases r with
    | fn h => exact .fn h
  | .cell n, _, r => by
    cases r with
    | cell e => exact .cell (hr _ _ e)
  | .scr ns, _, r => by
    cases r with
    | scr ha =>
      refine .scr ?_
      rcases ha with ⟨h1 | ⟨o, h1⟩, h2⟩ | ha
      · exact .inl ⟨.inl (h _ _ h1 h2).1, (h _ _ h1 h2).2⟩
      · exact .inl ⟨.inr ⟨o, (h _ _ h1 h2).1⟩, (h _ _ h1 h2).2⟩
      · exact .inr ha
theorem RepA.imp (h : ∀ a o, H a = some o → ¬ B a → H' a = some o ∧ ¬ B' a) (hr : ∀ (n : Nat) (a : Addr), ρ[n]? = some a → ρ'[n]? = some a) : ∀ (ds : List D) (vs : List V), RepA c ρ B H ds vs → RepA c ρ' B' H' ds vs
  | [], _, r => by cases r; exact .nil
  | d :: ds, _, r => by
    cases r with
    | cons r1 r2 => exact .cons (Rep.imp h hr d _ r1) (RepA.imp h hr ds _ r2)
end
mutual
theorem Rep.plainly (h : ∀ a vs, H a = some (.tup vs) → ¬ B a → ¬ B' a) : ∀ (d : D) (v : V), d.plain = true → Rep c ρ B H d v → Rep c ρ B' H d v
  | .non, _, _, r => by cases r; exact .non
  | .bl _, _, _, r => by cases r; exact .bl _
  | .int _, _, _, r => by cases r; exact .int _
  | .str _, _, _, r => by cases r; exact .str _
  | .tup ds, _, p, r => by
    cases r with
    | tup ha hs =>
      refine .tup ?_ (RepA.plainly h ds _ (by simpa [D.plain] using p) hs)
      rcases ha with ⟨h1, h2⟩ | ha
      · exact .inl ⟨h1, h _ _ h1 h2⟩
      · exact .inr ha
  | .lst ds, _, p, r => by simp [D.plain] at p
  | .fn f, _, _, r => by
    cases r with
    | fn h => exact .fn h
  | .cell n, _, _, r => by
    cases r with
    | cell e => exact .cell e
  | .scr ns, _, p, r => by simp [D.plain] at p
theorem RepA.plainly (h : ∀ a vs, H a = some (.tup vs) → ¬ B a → ¬ B' a) : ∀ (ds : List D) (vs : List V), D.plains ds = true → RepA c ρ B H ds vs → RepA c ρ B' H ds vs
  | [], _, _, r => by cases r; exact .nil
  | d :: ds, _, p, r => by
    have p' : d.plain = true ∧ D.plains ds = true := by simpa [D.plains] using p
    cases r with
    | cons r1 r2 => exact .cons (Rep.plainly h d _ p'.1 r1) (RepA.plainly h ds _ p'.2 r2)
end
theorem Rep.weak (h : ∀ a, B' a → B a) {d : D} {v : V} (r : Rep c ρ B H d v) : Rep c ρ B' H d v := Rep.imp (fun a o e n => ⟨e, fun z => n (h a z)⟩) (fun _ _ e => e) d v r
theorem RepA.weak (h : ∀ a, B' a → B a) {d : List D} {v : List V} (r : RepA c ρ B H d v) : RepA c ρ B' H d v := RepA.imp (fun a o e n => ⟨e, fun z => n (h a z)⟩) (fun _ _ e => e) d v r
theorem RepA.length : ∀ {ds : List D} {vs : List V}, RepA c ρ B H ds vs → ds.length = vs.length
  | [], _, r => by cases r; rfl
  | d :: ds, _, r => by
    cases r with
    | cons r1 r2 => simp [RepA.length r2]
theorem RepA.get : ∀ {ds : List D} {vs : List V} {i : Nat} {d : D}, RepA c ρ B H ds vs → ds[i]? = some d → ∃ v, vs[i]? = some v ∧ Rep c ρ B H d v
  | [], _, _, _, r, e => by simp at e
  | x :: ds, _, 0, d, r, e => by
    cases r with
    | cons r1 r2 => simp at e; subst e; exact ⟨_, by simp, r1⟩
  | x :: ds, _, i + 1, d, r, e => by
    cases r with
    | cons r1 r2 =>
      obtain ⟨v, h1, h2⟩ := RepA.get (i := i) r2 (by simpa using e)
      exact ⟨v, by simpa using h1, h2⟩
theorem RepA.getV : ∀ {ds : List D} {vs : List V} {i : Nat} {v : V}, RepA c ρ B H ds vs → vs[i]? = some v → ∃ d, ds[i]? = some d ∧ Rep c ρ B H d v
  | [], _, _, _, r, e => by cases r; simp at e
  | x :: ds, _, 0, d, r, e => by
    cases r with
    | cons r1 r2 => simp at e; subst e; exact ⟨_, by simp, r1⟩
  | x :: ds, _, i + 1, d, r, e => by
    cases r with
    | cons r1 r2 =>
      obtain ⟨v, h1, h2⟩ := RepA.getV (i := i) r2 (by simpa using e)
      exact ⟨v, by simpa using h1, h2⟩
theorem RepA.append : ∀ {ds es : List D} {vs ws : List V}, RepA c ρ B H ds vs → RepA c ρ B H es ws → RepA c ρ B H (ds ++ es) (vs ++ ws)
  | [], _, _, _, r, s => by cases r; exact s
  | d :: ds, _, _, _, r, s => by
    cases r with
    | cons r1 r2 => exact .cons r1 (RepA.append r2 s)
theorem RepA.take : ∀ {ds : List D} {vs : List V} (n : Nat), RepA c ρ B H ds vs → RepA c ρ B H (ds.take n) (vs.take n)
  | _, _, 0, _ => by simp; exact .nil
  | [], _, n + 1, r => by cases r; simp; exact .nil
  | d :: ds, _, n + 1, r => by
    cases r with
    | cons r1 r2 => exact .cons r1 (RepA.take n r2)
theorem RepA.drop : ∀ {ds : List D} {vs : List V} (n : Nat), RepA c ρ B H ds vs → RepA c ρ B H (ds.drop n) (vs.drop n)
  | _, _, 0, r => by simpa using r
  | [], _, n + 1, r => by cases r; simp; exact .nil
  | d :: ds, _, n + 1, r => by
    cases r with
    | cons r1 r2 => simpa using RepA.drop n r2
theorem RepA.one {d : D} {v : V} (r : Rep c ρ B H d v) : RepA c ρ B H [d] [v] := .cons r .nil
theorem RepA.rev : ∀ {ds : List D} {vs : List V}, RepA c ρ B H ds vs → RepA c ρ B H ds.reverse vs.reverse
  | [], _, r => by cases r; exact .nil
  | d :: ds, _, r => by
    cases r with
    | cons r1 r2 => simp only [List.reverse_cons]; exact (RepA.rev r2).append (.one r1)
theorem RepA.rep {ds : List D} {vs : List V} (r : RepA c ρ B H ds vs) : ∀ k : Nat, RepA c ρ B H (List.replicate k ds).flatten (List.replicate k vs).flatten
  | 0 => .nil
  | k + 1 => by simp only [List.replicate_succ, List.flatten_cons]; exact r.append (RepA.rep r k)
theorem RepA.set : ∀ {ds : List D} {vs : List V} {d : D} {v : V} (i : Nat), RepA c ρ B H ds vs → Rep c ρ B H d v → RepA c ρ B H (ds.set i d) (vs.set i v)
  | [], _, _, _, _, r, _ => by cases r; exact .nil
  | x :: ds, _, _, _, 0, r, q => by
    cases r with
    | cons r1 r2 => exact .cons q r2
  | x :: ds, _, _, _, i + 1, r, q => by
    cases r with
    | cons r1 r2 => exact .cons r1 (RepA.set i r2 q)
theorem RepA.cut {ds : List D} {vs : List V} (r : RepA c ρ B H ds vs) (lo hi : Option Int) : RepA c ρ B H (cutL ds lo hi) (cutV vs lo hi) := by
  unfold cutL cutV
  rw [← r.length]
  exact (r.drop _).take _
theorem RepA.ints : ∀ ns : List Int, RepA c ρ B H (ns.map D.int) (ns.map V.int)
  | [] => .nil
  | n :: ns => .cons (.int n) (RepA.ints ns)
theorem RepA.atI {ds : List D} {vs : List V} {i : Int} {d : D} (r : RepA c ρ B H ds vs) (e : atI ds i = some d) : ∃ v, L2.atI vs i = some v ∧ Rep c ρ B H d v := by
  unfold L2.atI at e ⊢
  rw [← r.length]
  cases q : ixN ds.length i with
  | none => rw [q] at e; cases e
  | some j =>
    rw [q] at e
    exact r.get e
theorem RepA.nil_iff {ds : List D} {vs : List V} (r : RepA c ρ B H ds vs) : ds.isEmpty = vs.isEmpty := by cases r <;> rfl
theorem RepA.bools : ∀ {ds : List D} {vs : List V} {bs : List Bool}, RepA c ρ B H ds vs → boolsD ds = some bs → vs = bs.map V.bl
  | [], _, bs, r, e => by cases r; cases e; rfl
  | d :: ds, _, bs, r, e => by
    cases r with
    | cons r1 r2 =>
      cases d with
      | bl b =>
        simp only [boolsD, Option.map_eq_some_iff] at e
        obtain ⟨bs', e1, rfl⟩ := e
        cases r1
        rw [RepA.bools r2 e1]; rfl
      | _ => simp [boolsD] at e
theorem RepA.intsD : ∀ {ds : List D} {vs : List V} {bs : List Int}, RepA c ρ B H ds vs → DI.intsD ds = some bs → vs = bs.map V.int
  | [], _, bs, r, e => by cases r; cases e; rfl
  | d :: ds, _, bs, r, e => by
    cases r with
    | cons r1 r2 =>
      cases d with
      | int b =>
        simp only [DI.intsD, Option.map_eq_some_iff] at e
        obtain ⟨bs', e1, rfl⟩ := e
        cases r1
        rw [RepA.intsD r2 e1]; rfl
      | _ => simp [DI.intsD] at e
theorem sqT_of {a : Addr} {vs : List V} (h : (H a = some (.tup vs) ∧ ¬ B a) ∨ KTup c.K a vs) : SqT c.K H a vs := by
  rcases h with ⟨h, _⟩ | h
  · exact SqT.of h
  · exact .inr h
theorem sqL_scr {a : Addr} {vs : List V} (h : (Rd H a (.lst vs) ∧ ¬ B a) ∨ KLst c.K a vs) : SqL c.K H a vs := by
  rcases h with ⟨h, _⟩ | h
  · exact .inl h
  · exact .inr h
mutual
theorem Rep.dp : ∀ (d : D) (v : V) (p : PyData), Rep c ρ B H d v → d.py = some p → Dp c.K H v p
  | .non, _, _, r, e => by cases r; cases e; exact .non
  | .bl _, _, _, r, e => by cases r; cases e; exact .bl _
  | .int _, _, _, r, e => by cases r; cases e; exact .int _
  | .str _, _, _, r, e => by cases r; cases e; exact .str _
  | .tup ds, _, _, r, e => by
    simp only [D.py, Option.map_eq_some_iff] at e
    obtain ⟨ps, e, rfl⟩ := e
    cases r with
    | tup ha hs => exact .tup (sqT_of ha) (RepA.dp ds _ ps hs e)
  | .lst ds, _, _, r, e => by
    simp only [D.py, Option.map_eq_some_iff] at e
    obtain ⟨ps, e, rfl⟩ := e
    cases r with
    | lst h1 h2 hs => exact .lst (SqL.of h1) (RepA.dp ds _ ps hs e)
  | .fn _, _, _, _, e => by simp [D.py] at e
  | .cell _, _, _, _, e => by simp [D.py] at e
  | .scr _, _, _, _, e => by simp [D.py] at e
theorem RepA.dp : ∀ (ds : List D) (vs : List V) (ps : List PyData), RepA c ρ B H ds vs → D.pys ds = some ps → DpAll c.K H vs ps
  | [], _, _, r, e => by cases r; simp only [D.pys, Option.some.injEq] at e; subst e; exact .nil
  | d :: ds, _, _, r, e => by
    simp only [D.pys, Option.bind_eq_some_iff, Option.map_eq_some_iff] at e
    obtain ⟨p, e1, ps, e2, rfl⟩ := e
    cases r with
    | cons r1 r2 => exact .cons (Rep.dp d _ p r1 e1) (RepA.dp ds _ ps r2 e2)
end
theorem rep_flat {d : D} {v : V} (r : Rep c ρ B H d v) (f : d.flat = true) : flatV v = true := by
  cases r <;> first | rfl | (simp [D.flat] at f)
theorem rep_flats : ∀ {ds : List D} {vs : List V}, RepA c ρ B H ds vs → ds.all D.flat = true → vs.all flatV = true
  | [], _, r, _ => by cases r; rfl
  | d :: ds, _, r, f => by
    cases r with
    | cons r1 r2 =>
      simp only [List.all_cons, Bool.and_eq_true] at f ⊢
      exact ⟨rep_flat r1 f.1, rep_flats r2 f.2⟩
theorem rep_eqF {d e : D} {v w : V} (r : Rep c ρ B H d v) (q : Rep c ρ B H e w) (f : d.flat = true) (g : e.flat = true) : eqV v w = eqF d e := by
  cases r <;> cases q <;> first | rfl | (simp [D.flat] at f; done) | (simp [D.flat] at g; done)
theorem rep_any {e : D} {w : V} (q : Rep c ρ B H e w) (g : e.flat = true) : ∀ {ds : List D} {vs : List V}, RepA c ρ B H ds vs → ds.all D.flat = true → (vs.any fun y => eqV y w) = ds.any fun y => eqF y e
  | [], _, r, _ => by cases r; rfl
  | d :: ds, _, r, f => by
    cases r with
    | cons r1 r2 =>
      simp only [List.all_cons, Bool.and_eq_true] at f
      simp only [List.any_cons]
      rw [rep_eqF r1 q f.1 g, rep_any q g r2 f.2]
end

/-! ### what a piece of code leaves as it was -/
def Ext (ρ : List Addr) (H H' : Hp) : Prop := ∀ a o, H a = some o → a ∉ ρ → H' a = some o
theorem Ext.refl (ρ : List Addr) (H : Hp) : Ext ρ H H := fun _ _ h _ => h
theorem Ext.trans {ρ : List Addr} {H H1 H2 : Hp} (a : Ext ρ H H1) (b : Ext ρ H1 H2) : Ext ρ H H2 := fun x o h n => b x o (a x o h n) n
theorem Ext.new {ρ : List Addr} {H : Hp} {p : Addr} {o : HO} (n : H p = none) : Ext ρ H (upd H p o) := fun a u e _ => by
  rw [upd_ne (ne_of_none e n)]; exact e
/-- the shared lists -/
structure StoOk (c : Wc) (ρ : List Addr) (B : Addr → Prop) (H : Hp) (S : Sto) : Prop where
  len : S.length = ρ.length
  at_ : ∀ (n : Nat) (ds : List D), S[n]? = some ds → ∃ a vs, ρ[n]? = some a ∧ H a = some (.lst vs) ∧ RepA c ρ B H ds vs
  rB : ∀ a, a ∈ ρ → B a
  nd : ρ.Nodup
  bH : ∀ a, B a → H a ≠ none
  pl : ∀ (n : Nat) (ds : List D), S[n]? = some ds → D.plains ds = true
section
variable {c : Wc} {ρ : List Addr} {B B' : Addr → Prop} {H H' : Hp} {S : Sto}
theorem StoOk.has (s : StoOk c ρ B H S) {a : Addr} (h : a ∈ ρ) : ∃ o, H a = some o := by
  obtain ⟨n, e⟩ := List.getElem?_of_mem h
  have hn : n < S.length := by rw [s.len]; exact (List.getElem?_eq_some_iff.mp e).1
  obtain ⟨a', vs, h1, h2, _⟩ := s.at_ n _ (List.getElem?_eq_getElem hn)
  rw [e] at h1; cases h1
  exact ⟨_, h2⟩
theorem Rep.ext (s : StoOk c ρ B H S) (x : Ext ρ H H') {d : D} {v : V} (r : Rep c ρ B H d v) : Rep c ρ B H' d v :=
  Rep.imp (fun a o e n => ⟨x a o e fun z => n (s.rB a z), n⟩) (fun _ _ e => e) d v r
theorem RepA.ext (s : StoOk c ρ B H S) (x : Ext ρ H H') {d : List D} {v : List V} (r : RepA c ρ B H d v) : RepA c ρ B H' d v :=
  RepA.imp (fun a o e n => ⟨x a o e fun z => n (s.rB a z), n⟩) (fun _ _ e => e) d v r
/-- a new object beside -/
theorem StoOk.new (s : StoOk c ρ B H S) {p : Addr} {o : HO} (n : H p = none) : StoOk c ρ B (upd H p o) S := by
  refine ⟨s.len, fun k ds e => ?_, s.rB, s.nd, fun a b z => ?_, s.pl⟩
  · obtain ⟨a, vs, h1, h2, h3⟩ := s.at_ k ds e
    exact ⟨a, vs, h1, by rw [upd_ne (ne_of_none h2 n)]; exact h2, h3.ext s (Ext.new n)⟩
  · by_cases h : a = p
    · subst h; exact s.bH _ b n
    · rw [upd_ne h] at z; exact s.bH _ b z
theorem StoOk.notB (s : StoOk c ρ B H S) {p : Addr} (n : H p = none) : ¬ B p := fun b => s.bH p b n
end

/-! ### a frame -/
/-- R: the own lists that may be read as values -/
structure FrOk (c : Wc) (R : Nat → Prop) (ρ : List Addr) (B : Addr → Prop) (H : Hp) (σd : List Slot) (σ : L2.St) : Prop where
  len : σd.length = σ.length
  val : ∀ (i : Nat) (d : D), σd[i]? = some (.val d) → ∃ v, σ[i]? = some (some v) ∧ Rep c ρ B H d v
  own : ∀ (i : Nat) (ds : List D), σd[i]? = some (.own ds) → ∃ a vs, σ[i]? = some (some (.ref a)) ∧ a ∉ ρ ∧ (R i → ¬ B a) ∧ H a = some (.lst vs) ∧ RepA c ρ B H ds vs
section
variable {c : Wc} {R : Nat → Prop} {ρ : List Addr} {B B' : Addr → Prop} {H H' : Hp} {S S' : Sto} {σd : List Slot} {σ : L2.St}
theorem FrOk.ext (f : FrOk c R ρ B H σd σ) (s : StoOk c ρ B H S) (x : Ext ρ H H') : FrOk c R ρ B H' σd σ := by
  refine ⟨f.len, fun i d e => ?_, fun i ds e => ?_⟩
  · obtain ⟨v, h1, h2⟩ := f.val i d e
    exact ⟨v, h1, h2.ext s x⟩
  · obtain ⟨a, vs, h1, h2, h3, h4, h5⟩ := f.own i ds e
    exact ⟨a, vs, h1, h2, h3, x _ _ h4 h2, h5.ext s x⟩
end
end DI

end
section
set_option maxRecDepth 100000
set_option maxHeartbeats 4000000
/-! DI2: readings of expressions by the interpreter; operators. -/
namespace DI
open PySem PySem.Spec PyProof.Rows L2

/-! ### readings -/
def okR {α : Type} (r : Res α) (P : α → Sto → Prop) (E : Nat → List D → Sto → Prop) : Prop := match r with
  | .ok a S => P a S
  | .exc c fs S => E c fs S
  | .bad => False
theorem okR_bind {α β : Type} {r : Res α} {f : α → Sto → Res β} {P : β → Sto → Prop} {E : Nat → List D → Sto → Prop} : okR (r.bind f) P E ↔ okR r (fun a S => okR (f a S) P E) E := by
  cases r <;> exact Iff.rfl
theorem okR_mono {α : Type} {r : Res α} {P P' : α → Sto → Prop} {E E' : Nat → List D → Sto → Prop} (h : okR r P E) (hP : ∀ a S, P a S → P' a S) (hE : ∀ c fs S, E c fs S → E' c fs S) : okR r P' E' := by
  cases r with
  | ok a S => exact hP _ _ h
  | exc c fs S => exact hE _ _ _ h
  | bad => exact h
theorem okR_ofO {α : Type} {o : Option α} {S : Sto} {P : α → Sto → Prop} {E : Nat → List D → Sto → Prop} : okR (ofO o S) P E ↔ ∃ a, o = some a ∧ P a S := by
  cases o with
  | none => exact ⟨fun h => h.elim, fun ⟨_, h, _⟩ => nomatch h⟩
  | some a => exact ⟨fun h => ⟨a, rfl, h⟩, fun ⟨_, h, q⟩ => by cases h; exact q⟩
theorem okR_ite {α : Type} {b : Bool} {r : Res α} {P : α → Sto → Prop} {E : Nat → List D → Sto → Prop} : okR (if b = true then r else .bad) P E ↔ b = true ∧ okR r P E := by
  cases b with
  | true => exact ⟨fun h => ⟨rfl, h⟩, fun h => h.2⟩
  | false => exact ⟨fun h => h.elim, fun h => nomatch h.1⟩
theorem bind_ok {α β : Type} {r : Res α} {f : α → Sto → Res β} {b : β} {S : Sto} (h : r.bind f = .ok b S) : ∃ a S1, r = .ok a S1 ∧ f a S1 = .ok b S := by
  cases r with
  | ok a S1 => exact ⟨a, S1, rfl, h⟩
  | exc c fs S1 => cases h
  | bad => cases h
theorem ofO_ok {α : Type} {o : Option α} {S S1 : Sto} {a : α} (h : ofO o S = .ok a S1) : o = some a ∧ S1 = S := by
  cases o with
  | none => cases h
  | some b => cases h; exact ⟨rfl, rfl⟩

/-- classes of errors: addresses, fields' names -/
structure Xc where
  ca : Nat → Addr
  nm : Nat → List Str
def ExcAt (c : Wc) (x : Xc) (ρ : List Addr) (B : Addr → Prop) (H : Hp) (cl : Nat) (fs : List D) (dd : Addr) : Prop :=
  ∃ vs, H dd = some (.xd ((x.nm cl).zip vs)) ∧ (x.nm cl).length = vs.length ∧ RepA c ρ B H fs vs ∧ D.plains fs = true ∧ dd ∉ ρ
def ExcW (c : Wc) (x : Xc) (W : WX) (ρ : List Addr) (B : Addr → Prop) (H : Hp) (σ : L2.St) : Nat → List D → Sto → Prop :=
  fun cl fs S' => ∀ dd H', Ext ρ H H' → StoOk c ρ B H' S' → ExcAt c x ρ B H' cl fs dd → W (.ref (x.ca cl)) (some dd) σ H'
theorem ExcW.after {c : Wc} {x : Xc} {W : WX} {ρ : List Addr} {B : Addr → Prop} {H H1 : Hp} {σ : L2.St} (e : Ext ρ H H1) {cl : Nat} {fs : List D} {S : Sto} (h : ExcW c x W ρ B H σ cl fs S) : ExcW c x W ρ B H1 σ cl fs S :=
  fun dd H' e' s a => h dd H' (e.trans e') s a
def isLst (d : D) : Bool := match d with
  | .lst _ => true
  | _ => false
/-- a fresh list -/
def Fsh (fr : Bool) (H : Hp) (d : D) (v : V) : Prop := fr = true → isLst d = true → ∀ p, v = .ref p → H p = none

mutual
/-- the slots that are read -/
def DE.reads : DE → List Nat
  | .slot i => [i]
  | .const _ => []
  | .glob _ _ => []
  | .bop _ a b => a.reads ++ b.reads
  | .neg a => a.reads
  | .cmp _ a b => a.reads ++ b.reads
  | .chain _ _ a b c => a.reads ++ (b.reads ++ c.reads)
  | .notE a => a.reads
  | .bAnd es => es.reads
  | .bOr es => es.reads
  | .ife c a b => c.reads ++ (a.reads ++ b.reads)
  | .tup es => es.reads
  | .lst es => es.reads
  | .idx a b => a.reads ++ b.reads
  | .slc a lo hi => a.reads ++ (lo.reads ++ hi.reads)
  | .slcR a lo => a.reads ++ lo.reads
  | .call _ es => es.reads
  | .callD g es => g.reads ++ es.reads
  | .bi _ es => es.reads
  | .isi a _ => a.reads
  | .lc _ _ src ifs elt => src.reads ++ (ifs.reads ++ elt.reads)
def DEs.reads : DEs → List Nat
  | .nil => []
  | .cons e es => e.reads ++ es.reads
def DO.reads : DO → List Nat
  | .none => []
  | .some e => e.reads
def DIt.reads : DIt → List Nat
  | .seq e => e.reads
  | .rng1 a => a.reads
  | .rng2 a b => a.reads ++ b.reads
  | .zip a b => a.reads ++ b.reads
end

/-- the state that a piece of code sees -/
structure Sees (c : Wc) (R : Nat → Prop) (ρ : List Addr) (B : Addr → Prop) (H : Hp) (σd : List Slot) (σ : L2.St) (S : Sto) (rd : List Nat) : Prop where
  fr : FrOk c R ρ B H σd σ
  st : StoOk c ρ B H S
  rd : ∀ i, i ∈ rd → R i
theorem Sees.ext {c : Wc} {R : Nat → Prop} {ρ : List Addr} {B : Addr → Prop} {H H' : Hp} {σd : List Slot} {σ : L2.St} {S S' : Sto} {rd rd' : List Nat} (s : Sees c R ρ B H σd σ S rd) (x : Ext ρ H H') (t : StoOk c ρ B H' S') (h : ∀ i, i ∈ rd' → i ∈ rd) : Sees c R ρ B H' σd σ S' rd' :=
  ⟨s.fr.ext s.st x, t, fun i hi => s.rd i (h i hi)⟩
theorem Sees.less {c : Wc} {R : Nat → Prop} {ρ : List Addr} {B : Addr → Prop} {H : Hp} {σd : List Slot} {σ : L2.St} {S : Sto} {rd rd' : List Nat} (s : Sees c R ρ B H σd σ S rd) (h : ∀ i, i ∈ rd' → i ∈ rd) : Sees c R ρ B H σd σ S rd' :=
  ⟨s.fr, s.st, fun i hi => s.rd i (h i hi)⟩

section
variable (c : Wc) (x : Xc) (W : WX) (rc : Calls)
/-- any run that gives data -/
def tRun (r : List Slot → Sto → Res D) (rd : List Nat) (fr : Bool) : TE := fun σ H Q => ∃ R ρ B σd S, Sees c R ρ B H σd σ S rd ∧
  okR (r σd S) (fun a S' => ∀ v H', Ext ρ H H' → StoOk c ρ B H' S' → Rep c ρ B H' a v → Fsh fr H a v → Q v H') (ExcW c x W ρ B H σ)
abbrev tE (d : DE) : TE := tRun c x W (evE rc d) d.reads d.fresh
def tTst (r : List Slot → Sto → Res D) (rd : List Nat) : TT := fun σ H Q => ∃ R ρ B σd S, Sees c R ρ B H σd σ S rd ∧
  okR ((r σd S).bind fun a S1 => ofO (truth a) S1) (fun k S' => ∀ H', Ext ρ H H' → StoOk c ρ B H' S' → Q k H') (ExcW c x W ρ B H σ)
abbrev tT (d : DE) : TT := tTst c x W (evE rc d) d.reads
def tEs (ds : DEs) : TA := fun σ H Q => ∃ R ρ B σd S, Sees c R ρ B H σd σ S ds.reads ∧
  okR (evEs rc ds σd S) (fun as S' => ∀ vs H', Ext ρ H H' → StoOk c ρ B H' S' → RepA c ρ B H' as vs → Q vs H') (ExcW c x W ρ B H σ)
end

theorem pe_imp {X : Cx} {e : Expr} {t t' : TE} (h : PE X e t) (hi : ∀ σ H Q, t' σ H Q → t σ H Q) : PE X e t' := ⟨fun pins s σ H Q I q => h.run pins s σ H Q I (hi σ H Q q)⟩
theorem pt_imp {X : Cx} {e : Expr} {t t' : TT} (h : PT X e t) (hi : ∀ σ H Q, t' σ H Q → t σ H Q) : PT X e t' := ⟨fun pins s σ H Q I q => h.run pins s σ H Q I (hi σ H Q q)⟩
theorem pw_imp {X : Cx} {e : Expr} {t t' : TT} (h : PW X e t) (hi : ∀ σ H Q, t' σ H Q → t σ H Q) : PW X e t' := ⟨fun whole pins s σ H Q I q => h.run whole pins s σ H Q I (hi σ H Q q)⟩
theorem pa_imp {X : Cx} {e : List Expr} {t t' : TA} (h : PA X e t) (hi : ∀ σ H Q, t' σ H Q → t σ H Q) : PA X e t' := ⟨fun pos pins s σ H Q I q => h.run pos pins s σ H Q I (hi σ H Q q)⟩

/-! ### operators by values -/
/-- r serves f -/
def Bin (c : Wc) (f : Sto → D → D → Option D) (fr : Bool) (r : R2) : Prop := ∀ (ρ : List Addr) (B : Addr → Prop) (H : Hp) (S : Sto) (a b d : D) (v w : V) (Q : VK), StoOk c ρ B H S → Rep c ρ B H a v → Rep c ρ B H b w → f S a b = some d →
  (∀ u H', Ext ρ H H' → StoOk c ρ B H' S → Rep c ρ B H' d u → Fsh fr H d u → Q u H') → r v w H Q
section
variable {c : Wc} {x : Xc} {W : WX} {rc : Calls} {ρ : List Addr} {B : Addr → Prop} {H : Hp} {S : Sto}
theorem Bin.tOp {f : Sto → D → D → Option D} {fr : Bool} {r : R2} (h : Bin c f fr r) {ra rb : List Slot → Sto → Res D} {la lb : List Nat} {fa fb : Bool} {σ : L2.St} {H : Hp} {Q : VK}
    (q : tRun c x W (fun σ S => (ra σ S).bind fun a S1 => (rb σ S1).bind fun b S2 => ofO (f S2 a b) S2) (la ++ lb) fr σ H Q) : L2.tOp r (tRun c x W ra la fa) (tRun c x W rb lb fb) σ H Q := by
  obtain ⟨R, ρ, B, σd, S, see, ok⟩ := q
  refine ⟨R, ρ, B, σd, S, see.less fun i hi => List.mem_append_left _ hi, ?_⟩
  rw [okR_bind] at ok
  refine okR_mono ok (fun a S1 ok v H1 x1 s1 r1 _ => ?_) fun _ _ _ h => h
  refine ⟨R, ρ, B, σd, S1, see.ext x1 s1 fun i hi => List.mem_append_right _ hi, ?_⟩
  rw [okR_bind] at ok
  refine okR_mono ok (fun b S2 ok w H2 x2 s2 r2 _ => ?_) fun _ _ _ h => h.after x1
  rw [okR_ofO] at ok
  obtain ⟨d, e, q⟩ := ok
  exact h ρ B H2 S2 a b d v w Q s2 (r1.ext s1 x2) r2 e fun u H3 x3 s3 r3 f3 => q u H3 ((x1.trans x2).trans x3) s3 r3 fun k1 k2 p hp => by
    have z := f3 k1 k2 p hp
    cases e : H p with
    | none => rfl
    | some o =>
      by_cases hp : p ∈ ρ
      · have z2 := s2.bH p (s2.rB p hp)
        exact absurd z z2
      · rw [(x1.trans x2) p o e hp] at z; cases z
/-- data that is no object -/
theorem fsh_not {fr : Bool} {H : Hp} {d : D} {v : V} (h : isLst d = false) : Fsh fr H d v := fun _ k => by rw [h] at k; cases k
theorem fsh_new {fr : Bool} {H : Hp} {d : D} {p : Addr} (n : H p = none) : Fsh fr H d (.ref p) := fun _ _ q e => by cases e; exact n
theorem fits_le {n : Nat} (h : fits n = true) : n ≤ sizeLine := of_decide_eq_true h
/-- a new tuple, a new list -/
theorem newTup (s : StoOk c ρ B H S) {p : Addr} (n : H p = none) {ds : List D} {vs : List V} (r : RepA c ρ B H ds vs) : Rep c ρ B (upd H p (.tup vs)) (.tup ds) (.ref p) :=
  .tup (.inl ⟨upd_same, s.notB n⟩) (r.ext s (Ext.new n))
theorem newLst (s : StoOk c ρ B H S) {p : Addr} (n : H p = none) {ds : List D} {vs : List V} (r : RepA c ρ B H ds vs) : Rep c ρ B (upd H p (.lst vs)) (.lst ds) (.ref p) :=
  .lst upd_same (s.notB n) (r.ext s (Ext.new n))

def rAddD (K : PySem.W.Frag) : R2 := fun x y H Q => (rI0 (fun i j => .int (i + j)) x y H Q ∨ (∃ i j, x = .str i ∧ y = .str j ∧ i.length + j.length ≤ sizeLine ∧ Q (.str (i ++ j)) H)) ∨ (rCatA K x y H Q ∨ rCat x y H Q)
theorem op_addD {X : Cx} : OpR X (binaryOp .Add) (rAddD X.K) := (op_add.or op_add_str).or (op_catA.or op_cat)
theorem bin_add : Bin c (fun _ => binop .add) true (rAddD c.K) := by
  intro ρ B H S a b d v w Q s ra rb e q
  cases ra <;> cases rb <;> simp only [binop] at e <;> try (cases e; done)
  · cases e
    exact .inl (.inl ⟨_, _, rfl, rfl, q _ _ (Ext.refl _ _) s (.int _) (fsh_not rfl)⟩)
  · split at e
    · rename_i h
      cases e
      exact .inl (.inr ⟨_, _, rfl, rfl, fits_le h, q _ _ (Ext.refl _ _) s (.str _) (fsh_not rfl)⟩)
    · cases e
  · rename_i a1 xs us ha hx a2 ys ws hb hy
    split at e
    · rename_i h
      cases e
      have lx := hx.length
      have ly := hy.length
      refine .inr (.inl ⟨_, _, _, _, rfl, rfl, sqT_of ha, sqT_of hb, by have := fits_le h; omega, fun z => ?_, fun z z2 => ?_, fun z z2 p n => ?_⟩)
      · have : xs = [] := by cases hx with
          | nil => rfl
          | cons _ _ => cases z
        subst this
        exact q _ _ (Ext.refl _ _) s (.tup hb hy) (fsh_not rfl)
      · have : ys = [] := by cases hy with
          | nil => rfl
          | cons _ _ => cases z2
        subst this
        rw [List.append_nil] at q
        exact q _ _ (Ext.refl _ _) s (.tup ha hx) (fsh_not rfl)
      · exact q _ _ (Ext.new n) (s.new n) (newTup s n (hx.append hy)) (fsh_new n)
    · cases e
  · rename_i a1 xs us ha _ hx a2 ys ws hb _ hy
    split at e
    · rename_i h
      cases e
      have lx := hx.length
      have ly := hy.length
      exact .inr (.inr ⟨_, _, _, _, rfl, rfl, ha, hb, by have := fits_le h; omega, fun p n => q _ _ (Ext.new n) (s.new n) (newLst s n (hx.append hy)) (fsh_new n)⟩)
    · cases e

theorem int___sub___bool_bool_D (a b : Bool) : Gives (Builtin.«int.__sub__» ⟨[.bool a, .bool b], []⟩) (.int ((if a = true then (1 : Int) else 0) - (if b = true then (1 : Int) else 0))) :=
  .of_wp fun M A E s Q h => by obtain ⟨hp, g, d, tk, os⟩ := s; wp_walk; exact ⟨_, rfl, h⟩
theorem sub_bools {prog : Program} {w : World} {A : Around} {E : Value → Shared → Prop} {s : Shared} {a b : Bool} {Q : Value → Shared → Prop} (h : Q (.int ((if a = true then (1 : Int) else 0) - (if b = true then (1 : Int) else 0)) s.toks) { s with toks := s.toks + 1 }) : wpAny (model prog w) A (binaryOp .Sub (.bool a) (.bool b)) Q E s :=
  binaryOp_gives (op := .Sub) (T := "bool") rfl rfl F.fills_bool_sub F.slot_bool_sub F.entry_int_sub (F.args_int_sub_2 _ _) (int___sub___bool_bool_D a b) trivial h
def rSubD : R2 := fun x y H Q => rI0 (fun i j => .int (i - j)) x y H Q ∨ ∃ i j, x = .bl i ∧ y = .bl j ∧ Q (.int (b2i i - b2i j)) H
theorem op_subB {X : Cx} : OpR X (binaryOp .Sub) (fun x y H Q => ∃ i j, x = .bl i ∧ y = .bl j ∧ Q (.int (b2i i - b2i j)) H) := by
  intro pins s σ H x y v u Q I rx ry h
  obtain ⟨i, k, rfl, rfl, q⟩ := h
  cases rx
  cases ry
  exact sub_bools ⟨.int (b2i i - b2i k), H, I.tok _, ⟨_, rfl⟩, q⟩
theorem op_subD {X : Cx} : OpR X (binaryOp .Sub) rSubD := op_sub.or op_subB
theorem bin_sub : Bin c (fun _ => binop .sub) true rSubD := by
  intro ρ B H S a b d v w Q s ra rb e q
  cases ra <;> cases rb <;> simp only [binop] at e <;> try (cases e; done)
  · cases e
    exact .inr ⟨_, _, rfl, rfl, q _ _ (Ext.refl _ _) s (.int _) (fsh_not rfl)⟩
  · cases e
    exact .inl ⟨_, _, rfl, rfl, q _ _ (Ext.refl _ _) s (.int _) (fsh_not rfl)⟩

def rMulD (K : PySem.W.Frag) : R2 := fun x y H Q => (rI CMul (fun i j => .int (i * j)) x y H Q ∨ rI CMulW (fun i j => .int (i * j)) x y H Q) ∨ (rRep x y H Q ∨ rRepT K x y H Q)
theorem op_mulD {X : Cx} : OpR X (binaryOp .Mult) (rMulD X.K) := (op_mul.or op_mulW).or (op_rep.or op_repT)
theorem bin_mul : Bin c (fun _ => binop .mul) true (rMulD c.K) := by
  intro ρ B H S a b d v w Q s ra rb e q
  cases ra <;> cases rb <;> simp only [binop] at e <;> try (cases e; done)
  · split at e
    · rename_i h
      cases e
      have q' := q _ _ (Ext.refl _ _) s (.int _) (fsh_not rfl)
      simp only [mulOk, Bool.or_eq_true, Bool.and_eq_true, decide_eq_true_eq] at h
      rcases h with h | h | h
      · exact .inl (.inl ⟨_, _, rfl, rfl, .inl h, q'⟩)
      · exact .inl (.inl ⟨_, _, rfl, rfl, .inr h, q'⟩)
      · exact .inl (.inr ⟨_, _, rfl, rfl, h, q'⟩)
    · cases e
  · rename_i a1 xs us ha hx k
    split at e
    · rename_i h
      cases e
      simp only [Bool.and_eq_true, decide_eq_true_eq, Bool.not_eq_true'] at h
      obtain ⟨h0, h1, h2, h3⟩ := h
      have lx := hx.length
      refine .inr (.inr ⟨_, _, _, rfl, rfl, sqT_of ha, fun z => ?_, h1, h2, by omega, fun p n => q _ _ (Ext.new n) (s.new n) (newTup s n (hx.rep _)) (fsh_new n)⟩)
      rw [hx.nil_iff, z] at h0
      cases h0
    · cases e
  · rename_i a1 xs us ha _ hx k
    split at e
    · rename_i h
      cases e
      simp only [Bool.and_eq_true, decide_eq_true_eq] at h
      obtain ⟨h0, h1, h2⟩ := h
      have lx := hx.length
      have h3 := fits_le h2
      rw [lx] at h3
      exact .inr (.inl ⟨_, _, _, rfl, rfl, ha, by omega, by omega, h3, fun p n => q _ _ (Ext.new n) (s.new n) (newLst s n (hx.rep _)) (fsh_new n)⟩)
    · cases e

def CDivX (_ j : Int) : Prop := j ≠ 0 ∧ j.natAbs.log2 < 9000
theorem op_fdivX {X : Cx} : OpR X (binaryOp .FloorDiv) (rI CDivX fun i j => .int (i.fdiv j)) := opI fun _ _ _ _ _ _ _ hc q => floordiv_int hc.1 q (.inl (PyProof.noPylong_of_log2 hc.2))
def rDivD : R2 := fun x y H Q => rI CDivW (fun i j => .int (i / j)) x y H Q ∨ rI CDivX (fun i j => .int (i.fdiv j)) x y H Q
theorem op_divD {X : Cx} : OpR X (binaryOp .FloorDiv) rDivD := op_fdivW.or op_fdivX
theorem bin_div : Bin c (fun _ => binop .fdiv) true rDivD := by
  intro ρ B H S a b d v w Q s ra rb e q
  cases ra <;> cases rb <;> simp only [binop] at e <;> try (cases e; done)
  split at e
  · rename_i h
    cases e
    simp only [Bool.and_eq_true, decide_eq_true_eq] at h
    exact .inl ⟨_, _, rfl, rfl, h, q _ _ (Ext.refl _ _) s (.int _) (fsh_not rfl)⟩
  · split at e
    · rename_i h
      cases e
      simp only [Bool.and_eq_true, decide_eq_true_eq] at h
      exact .inr ⟨_, _, rfl, rfl, ⟨by omega, h.2⟩, q _ _ (Ext.refl _ _) s (.int _) (fsh_not rfl)⟩
    · cases e
def rModD : R2 := rI (fun _ j => j ≠ 0) fun i j => .int (i.fmod j)
theorem op_modD {X : Cx} : OpR X (binaryOp .Mod) rModD := op_modN
theorem bin_mod : Bin c (fun _ => binop .mod) true rModD := by
  intro ρ B H S a b d v w Q s ra rb e q
  cases ra <;> cases rb <;> simp only [binop] at e <;> try (cases e; done)
  rename_i i j
  split at e
  · rename_i h
    cases e
    refine ⟨_, _, rfl, rfl, by omega, ?_⟩
    show Q (.int (i.fmod j)) H
    rw [Int.fmod_eq_emod_of_nonneg i (show (0 : Int) ≤ j by omega)]
    exact q _ _ (Ext.refl _ _) s (.int _) (fsh_not rfl)
  · split at e
    · rename_i h
      cases e
      exact ⟨_, _, rfl, rfl, by omega, q _ _ (Ext.refl _ _) s (.int _) (fsh_not rfl)⟩
    · cases e
theorem bin_pow : Bin c (fun _ => binop .pow) true (rI CPow fun i j => .int (i ^ j.toNat)) := by
  intro ρ B H S a b d v w Q s ra rb e q
  cases ra <;> cases rb <;> simp only [binop] at e <;> try (cases e; done)
  split at e
  · rename_i h
    cases e
    simp only [Bool.and_eq_true, decide_eq_true_eq] at h
    exact ⟨_, _, rfl, rfl, h, q _ _ (Ext.refl _ _) s (.int _) (fsh_not rfl)⟩
  · cases e

/-! ### comparisons -/
def rEqX (K : PySem.W.Frag) : R2 := fun x y H Q => rEqD K x y H Q ∨ rEq x y H Q
def rNeX (K : PySem.W.Frag) : R2 := fun x y H Q => rNeD K x y H Q ∨ rNe x y H Q
theorem eqD_cases {a b : D} {k : Bool} (e : eqD a b = some k) : (∃ x y, a = .str x ∧ b = .str y ∧ k = decide (x = y)) ∨ ∃ p q, a.py = some p ∧ b.py = some q ∧ SeqAt.shaped p = true ∧ SeqAt.shaped q = true ∧ k = PyData.eqv p q := by
  unfold eqD at e
  split at e
  · cases e
    exact .inl ⟨_, _, rfl, rfl, rfl⟩
  · split at e
    · rename_i p q e1 e2
      split at e
      · rename_i h
        cases e
        rw [Bool.and_eq_true] at h
        exact .inr ⟨p, q, e1, e2, h.1, h.2, rfl⟩
      · cases e
    · cases e
theorem dec_strV {x y : Str} : decide (V.str x = V.str y) = decide (x = y) := by
  by_cases h : x = y
  · subst h; simp
  · rw [decide_eq_false h, decide_eq_false fun z => h (by cases z; rfl)]
theorem bin_eq : Bin c (fun _ => cmpD .eq) true (rEqX c.K) := by
  intro ρ B H S a b d v w Q s ra rb e q
  simp only [cmpD, Option.map_eq_some_iff] at e
  obtain ⟨k, e, rfl⟩ := e
  have q' := q _ _ (Ext.refl _ _) s (.bl k) (fsh_not rfl)
  rcases eqD_cases e with ⟨x, y, rfl, rfl, rfl⟩ | ⟨p, p', e1, e2, s1, s2, rfl⟩
  · cases ra
    cases rb
    exact .inr ⟨rfl, by rw [dec_strV]; exact q'⟩
  · exact .inl ⟨p, p', Rep.dp _ _ _ ra e1, Rep.dp _ _ _ rb e2, s1, s2, q'⟩
theorem bin_ne : Bin c (fun _ => cmpD .ne) true (rNeX c.K) := by
  intro ρ B H S a b d v w Q s ra rb e q
  simp only [cmpD, Option.map_eq_some_iff] at e
  obtain ⟨k, e, rfl⟩ := e
  have q' := q _ _ (Ext.refl _ _) s (.bl (!k)) (fsh_not rfl)
  rcases eqD_cases e with ⟨x, y, rfl, rfl, rfl⟩ | ⟨p, p', e1, e2, s1, s2, rfl⟩
  · cases ra
    cases rb
    exact .inr ⟨rfl, by rw [dec_strV]; exact q'⟩
  · exact .inl ⟨p, p', Rep.dp _ _ _ ra e1, Rep.dp _ _ _ rb e2, s1, s2, q'⟩
theorem bin_lt : Bin c (fun _ => cmpD .lt) true (rI0 fun i j => .bl (decide (i < j))) := by
  intro ρ B H S a b d v w Q s ra rb e q
  cases ra <;> cases rb <;> simp only [cmpD] at e <;> try (cases e; done)
  cases e
  exact ⟨_, _, rfl, rfl, q _ _ (Ext.refl _ _) s (.bl _) (fsh_not rfl)⟩
theorem bin_le : Bin c (fun _ => cmpD .le) true (rI0 fun i j => .bl (decide (i ≤ j))) := by
  intro ρ B H S a b d v w Q s ra rb e q
  cases ra <;> cases rb <;> simp only [cmpD] at e <;> try (cases e; done)
  cases e
  exact ⟨_, _, rfl, rfl, q _ _ (Ext.refl _ _) s (.bl _) (fsh_not rfl)⟩
theorem bin_gt : Bin c (fun _ => cmpD .gt) true (rI0 fun i j => .bl (decide (j < i))) := by
  intro ρ B H S a b d v w Q s ra rb e q
  cases ra <;> cases rb <;> simp only [cmpD] at e <;> try (cases e; done)
  cases e
  exact ⟨_, _, rfl, rfl, q _ _ (Ext.refl _ _) s (.bl _) (fsh_not rfl)⟩
theorem bin_ge : Bin c (fun _ => cmpD .ge) true (rI0 fun i j => .bl (decide (j ≤ i))) := by
  intro ρ B H S a b d v w Q s ra rb e q
  cases ra <;> cases rb <;> simp only [cmpD] at e <;> try (cases e; done)
  cases e
  exact ⟨_, _, rfl, rfl, q _ _ (Ext.refl _ _) s (.bl _) (fsh_not rfl)⟩
theorem bin_isN : Bin c (fun _ => cmpD .isN) true (fun x y H Q => y = .non ∧ Q (.bl (decide (x = .non))) H) := by
  intro ρ B H S a b d v w Q s ra rb e q
  cases rb <;> simp only [cmpD] at e <;> try (cases e; done)
  cases e
  refine ⟨rfl, ?_⟩
  cases ra <;> exact q _ _ (Ext.refl _ _) s (.bl _) (fsh_not rfl)
theorem bin_notN : Bin c (fun _ => cmpD .notN) true (fun x y H Q => y = .non ∧ Q (.bl (!decide (x = .non))) H) := by
  intro ρ B H S a b d v w Q s ra rb e q
  cases rb <;> simp only [cmpD] at e <;> try (cases e; done)
  cases e
  refine ⟨rfl, ?_⟩
  cases ra <;> exact q _ _ (Ext.refl _ _) s (.bl _) (fsh_not rfl)
theorem inD_ok (neg : Bool) {a b : D} {k : Bool} {v w : V} (s : StoOk c ρ B H S) (ra : Rep c ρ B H a v) (rb : Rep c ρ B H b w) (e : inD a b = some k) {Q : VK} (q : Q (.bl (if neg then !k else k)) H) : rIn c.K neg v w H Q := by
  cases rb <;> simp only [inD] at e <;> try (cases e; done)
  · rename_i a1 xs us ha hx
    split at e
    · rename_i h
      cases e
      rw [Bool.and_eq_true] at h
      refine ⟨_, _, rfl, .inr (sqT_of ha), rep_flat ra h.1, rep_flats hx h.2, ?_⟩
      unfold inV
      rw [rep_any ra h.1 hx h.2]
      exact q
    · cases e
  · rename_i a1 xs us ha _ hx
    split at e
    · rename_i h
      cases e
      rw [Bool.and_eq_true] at h
      refine ⟨_, _, rfl, .inl (SqL.of ha), rep_flat ra h.1, rep_flats hx h.2, ?_⟩
      unfold inV
      rw [rep_any ra h.1 hx h.2]
      exact q
    · cases e
theorem bin_in : Bin c (fun _ => cmpD .isIn) true (rIn c.K false) := by
  intro ρ B H S a b d v w Q s ra rb e q
  simp only [cmpD, Option.map_eq_some_iff] at e
  obtain ⟨k, e, rfl⟩ := e
  exact inD_ok false s ra rb e (q _ _ (Ext.refl _ _) s (.bl _) (fsh_not rfl))
theorem bin_notIn : Bin c (fun _ => cmpD .notIn) true (rIn c.K true) := by
  intro ρ B H S a b d v w Q s ra rb e q
  simp only [cmpD, Option.map_eq_some_iff] at e
  obtain ⟨k, e, rfl⟩ := e
  exact inD_ok true s ra rb e (q _ _ (Ext.refl _ _) s (.bl _) (fsh_not rfl))

/-! ### items -/
theorem bin_idx : Bin c idxD false (rIx c.K) := by
  intro ρ B H S a b d v w Q s ra rb e q
  cases rb <;> simp only [idxD] at e <;> try (cases e; done)
  rename_i k
  cases ra <;> simp only at e <;> try (cases e; done)
  · rename_i z
    split at e
    · rename_i h
      simp only [Option.map_eq_some_iff] at e
      obtain ⟨cc, e, rfl⟩ := e
      exact .inr (.inr ⟨_, _, _, rfl, rfl, fits_le h, e, q _ _ (Ext.refl _ _) s (.str _) (fsh_not rfl)⟩)
    · cases e
  · rename_i a1 xs us ha hx
    obtain ⟨u, e1, r1⟩ := hx.atI e
    exact .inr (.inl ⟨_, _, _, _, rfl, rfl, sqT_of ha, e1, q _ _ (Ext.refl _ _) s r1 fun z => nomatch z⟩)
  · rename_i a1 xs us ha _ hx
    obtain ⟨u, e1, r1⟩ := hx.atI e
    exact .inl ⟨_, _, _, _, rfl, rfl, SqL.of ha, e1, q _ _ (Ext.refl _ _) s r1 fun z => nomatch z⟩
  · rename_i n a1 hn
    simp only [Option.bind_eq_some_iff] at e
    obtain ⟨xs, e0, e⟩ := e
    obtain ⟨a2, us, h1, h2, hx⟩ := s.at_ n xs e0
    rw [hn] at h1; cases h1
    obtain ⟨u, e1, r1⟩ := hx.atI e
    exact .inl ⟨_, _, _, _, rfl, rfl, SqL.of h2, e1, q _ _ (Ext.refl _ _) s r1 fun z => nomatch z⟩
/-- truth -/
theorem truth_ok {a : D} {v : V} {k : Bool} (r : Rep c ρ B H a v) (e : truth a = some k) : TruV c.K v H k := by
  cases r <;> simp only [truth] at e <;> try (cases e; done)
  · cases e; rfl
  · cases e; rfl
  · cases e; rfl
  · split at e
    · rename_i h
      cases e
      exact ⟨fits_le h, rfl⟩
    · cases e
  · rename_i a1 xs us ha hx
    cases e
    exact .inr (.inl ⟨_, sqT_of ha, by rw [hx.nil_iff]⟩)
  · rename_i a1 xs us ha _ hx
    cases e
    exact .inl ⟨_, SqL.of ha, by rw [hx.nil_iff]⟩
end
end DI

end
section
set_option maxRecDepth 100000
set_option maxHeartbeats 4000000
/-! DI3: which small tree stands for which piece of text (a look by a function), and the contexts. -/
namespace DI
open PySem PySem.Spec PyProof.Rows L2

mutual
def D.same : D → D → Bool
  | .non, .non => true
  | .bl a, .bl b => a == b
  | .int a, .int b => a == b
  | .str a, .str b => decide (a = b)
  | .tup a, .tup b => D.sames a b
  | .lst a, .lst b => D.sames a b
  | .fn a, .fn b => a == b
  | .cell a, .cell b => a == b
  | _, _ => false
def D.sames : List D → List D → Bool
  | [], [] => true
  | a :: r, b :: t => D.same a b && D.sames r t
  | _, _ => false
end
mutual
theorem D.same_eq : ∀ (a b : D), D.same a b = true → a = b
  | .non, b, h => by cases b <;> first | rfl | (simp [D.same] at h)
  | .bl a, b, h => by cases b <;> first | (simp [D.same] at h; done) | (simp [D.same] at h; rw [h])
  | .int a, b, h => by cases b <;> first | (simp [D.same] at h; done) | (simp [D.same] at h; rw [h])
  | .str a, b, h => by cases b <;> first | (simp [D.same] at h; done) | (simp [D.same] at h; rw [h])
  | .tup a, b, h => by
    cases b <;> first | (simp [D.same] at h; done) | skip
    rename_i b
    rw [D.sames_eq a b (by simpa [D.same] using h)]
  | .lst a, b, h => by
    cases b <;> first | (simp [D.same] at h; done) | skip
    rename_i b
    rw [D.sames_eq a b (by simpa [D.same] using h)]
  | .fn a, b, h => by cases b <;> first | (simp [D.same] at h; done) | (simp [D.same] at h; rw [h])
  | .cell a, b, h => by cases b <;> first | (simp [D.same] at h; done) | (simp [D.same] at h; rw [h])
  | .scr a, b, h => by cases b <;> simp [D.same] at h
theorem D.sames_eq : ∀ (a b : List D), D.sames a b = true → a = b
  | [], [], _ => rfl
  | [], _ :: _, h => by simp [D.sames] at h
  | _ :: _, [], h => by simp [D.sames] at h
  | a :: r, b :: t, h => by
    simp only [D.sames, Bool.and_eq_true] at h
    rw [D.same_eq a b h.1, D.sames_eq r t h.2]
end

/-! ### a text's parts -/
def asName : Expr → Option Str
  | .Name x _ => some x
  | _ => none
def asConst : Expr → Option Const
  | .Constant k _ _ => some k
  | _ => none
def asBin : Expr → Option (Expr × Operator × Expr)
  | .BinOp a o b _ => some (a, o, b)
  | _ => none
def asUn : Expr → Option (UnaryOp × Expr)
  | .UnaryOp o a _ => some (o, a)
  | _ => none
def asCmp1 : Expr → Option (Expr × CmpOp × Expr)
  | .Compare a [o] [b] _ => some (a, o, b)
  | _ => none
def asCmp2 : Expr → Option (Expr × CmpOp × CmpOp × Expr × Expr)
  | .Compare a [o, p] [b, c] _ => some (a, o, p, b, c)
  | _ => none
def asBool : Expr → Option (BoolOp × List Expr)
  | .BoolOp o es _ => some (o, es)
  | _ => none
def asIf : Expr → Option (Expr × Expr × Expr)
  | .IfExp c a b _ => some (c, a, b)
  | _ => none
def asTup : Expr → Option (List Expr)
  | .Tuple es _ _ => some es
  | _ => none
def asLst : Expr → Option (List Expr)
  | .List es _ => some es
  | _ => none
def asSub : Expr → Option (Expr × Expr)
  | .Subscript a b _ => some (a, b)
  | _ => none
def asSlice : Expr → Option (Option Expr × Option Expr × Option Expr)
  | .Slice a b s _ => some (a, b, s)
  | _ => none
def asCall : Expr → Option (Expr × List Expr)
  | .Call f es [] _ => some (f, es)
  | _ => none
def asLC : Expr → Option (Expr × Expr × Expr × List Expr × Scope)
  | .ListComp e [⟨t, i, ifs, 0⟩] sc _ => some (e, t, i, ifs, sc)
  | _ => none
def isStarred : Expr → Bool
  | .Starred _ _ => true
  | _ => false
def isSlice : Expr → Bool
  | .Slice _ _ _ _ => true
  | _ => false
def isSet : Expr → Bool
  | .Set _ _ _ => true
  | _ => false
def isAttr : Expr → Bool
  | .Attribute _ _ _ => true
  | _ => false
/-- tests of these forms go through their parts -/
def specialTest : Expr → Bool
  | .UnaryOp .Not _ _ => true
  | .BoolOp _ _ _ => true
  | .IfExp _ _ _ _ => true
  | .Compare _ _ _ _ => true
  | _ => false
theorem asName_eq {e : Expr} {x : Str} (h : asName e = some x) : ∃ p, e = .Name x p := by
  cases e <;> simp only [asName] at h <;> first | (cases h; exact ⟨_, rfl⟩) | cases h
theorem asConst_eq {e : Expr} {k : Const} (h : asConst e = some k) : ∃ j p, e = .Constant k j p := by
  cases e <;> simp only [asConst] at h <;> first | (cases h; exact ⟨_, _, rfl⟩) | cases h
theorem asBin_eq {e a b : Expr} {o : Operator} (h : asBin e = some (a, o, b)) : ∃ p, e = .BinOp a o b p := by
  cases e <;> simp only [asBin] at h <;> first | (cases h; exact ⟨_, rfl⟩) | cases h
theorem asUn_eq {e a : Expr} {o : UnaryOp} (h : asUn e = some (o, a)) : ∃ p, e = .UnaryOp o a p := by
  cases e <;> simp only [asUn] at h <;> first | (cases h; exact ⟨_, rfl⟩) | cases h
theorem asCmp1_eq {e a b : Expr} {o : CmpOp} (h : asCmp1 e = some (a, o, b)) : ∃ p, e = .Compare a [o] [b] p := by
  unfold asCmp1 at h
  split at h
  · cases h; exact ⟨_, rfl⟩
  · cases h
theorem asCmp2_eq {e a b c : Expr} {o p : CmpOp} (h : asCmp2 e = some (a, o, p, b, c)) : ∃ ps, e = .Compare a [o, p] [b, c] ps := by
  unfold asCmp2 at h
  split at h
  · cases h; exact ⟨_, rfl⟩
  · cases h
theorem asBool_eq {e : Expr} {o : BoolOp} {es : List Expr} (h : asBool e = some (o, es)) : ∃ p, e = .BoolOp o es p := by
  cases e <;> simp only [asBool] at h <;> first | (cases h; exact ⟨_, rfl⟩) | cases h
theorem asIf_eq {e a b c : Expr} (h : asIf e = some (c, a, b)) : ∃ p, e = .IfExp c a b p := by
  cases e <;> simp only [asIf] at h <;> first | (cases h; exact ⟨_, rfl⟩) | cases h
theorem asTup_eq {e : Expr} {es : List Expr} (h : asTup e = some es) : ∃ k p, e = .Tuple es k p := by
  cases e <;> simp only [asTup] at h <;> first | (cases h; exact ⟨_, _, rfl⟩) | cases h
theorem asLst_eq {e : Expr} {es : List Expr} (h : asLst e = some es) : ∃ p, e = .List es p := by
  cases e <;> simp only [asLst] at h <;> first | (cases h; exact ⟨_, rfl⟩) | cases h
theorem asSub_eq {e a b : Expr} (h : asSub e = some (a, b)) : ∃ p, e = .Subscript a b p := by
  cases e <;> simp only [asSub] at h <;> first | (cases h; exact ⟨_, rfl⟩) | cases h
theorem asSlice_eq {e : Expr} {a b s : Option Expr} (h : asSlice e = some (a, b, s)) : ∃ p, e = .Slice a b s p := by
  cases e <;> simp only [asSlice] at h <;> first | (cases h; exact ⟨_, rfl⟩) | cases h
theorem asCall_eq {e f : Expr} {es : List Expr} (h : asCall e = some (f, es)) : ∃ p, e = .Call f es [] p := by
  unfold asCall at h
  split at h
  · cases h; exact ⟨_, rfl⟩
  · cases h
theorem asLC_eq {e elt t i : Expr} {ifs : List Expr} {sc : Scope} (h : asLC e = some (elt, t, i, ifs, sc)) : ∃ p, e = .ListComp elt [⟨t, i, ifs, 0⟩] sc p := by
  unfold asLC at h
  split at h
  · cases h; exact ⟨_, rfl⟩
  · cases h

/-! ### the look -/
structure Sc where
  sc : Scope
  N : List Str
  fn : Str → Bool
  F : List Str
  G : List (Str × D)
  /-- own errors' names, by number -/
  C : List Str
  /-- the names in except clauses: the classes that they take -/
  EX : List (Str × List Nat)
  /-- the errors' fields, by class -/
  FN : List (List Str)
def Sc.vis (s : Sc) (x : Str) (i : Nat) : Bool := decide (s.N[i]? = some x) && ((match s.sc.names.lookup x with
  | some .local => true
  | some .cell => true
  | some .free => true
  | _ => false) && (!(x == ("__debug__" : Str)) && !(x == ("__classdict__" : Str))))
def Sc.glb (s : Sc) (x : Str) : Bool := decide (s.sc.names.lookup x = some .globalImplicit) && (!(x == ("__debug__" : Str)) && !(x == ("__name__" : Str)))
/-- a name's slot may be stored to -/
def Sc.sto (s : Sc) (x : Str) (i : Nat) : Bool := decide (s.N[i]? = some x) && (decide (s.sc.names.lookup x = some .local) || (decide (s.sc.names.lookup x = some .cell) && s.fn x))
def opOf : Bop → Operator
  | .add => .Add
  | .sub => .Sub
  | .mul => .Mult
  | .fdiv => .FloorDiv
  | .mod => .Mod
  | .pow => .Pow
def cmpOf : Cop → CmpOp
  | .eq => .Eq
  | .ne => .NotEq
  | .lt => .Lt
  | .le => .LtE
  | .gt => .Gt
  | .ge => .GtE
  | .isN => .Is
  | .notN => .IsNot
  | .isIn => .In
  | .notIn => .NotIn
def biName : Bi → Str
  | .len => "len"
  | .abs => "abs"
  | .int => "int"
  | .tuple => "tuple"
  | .list => "list"
  | .all => "all"
  | .any => "any"
  | .repr => "repr"
  | .max2 => "max"
  | .min2 => "min"
  | .sum => "sum"
def tyName : Ty → String
  | .int => "int"
  | .bool => "bool"
  | .tuple => "tuple"
  | .list => "list"
  | .str => "str"
/-- the built-in names that are used -/
def bltNames : List Str := ["len", "abs", "int", "tuple", "list", "all", "any", "repr", "max", "min", "sum", "isinstance", "bool", "str", "range", "zip", "enumerate", "sorted", "reversed", "dict", "super", "ValueError"]
def constB : D → Const → Bool
  | .non, .none => true
  | .bl a, .bool b => a == b
  | .int a, .int b => a == b
  | .str a, .str b => decide (a = b)
  | _, _ => false
/-- the scope of a comprehension's block -/
def Sc.blk (s : Sc) (scope : Scope) : Sc := { s with sc := relS scope s.sc, fn := fun x => scope.names.lookup x == some .cell }
def ownOf (N : List Str) (scope : Scope) : List (Str × Nat) := scope.names.filterMap fun p => if p.2 == .local || p.2 == .cell then (N.idxOf? p.1).map fun i => (p.1, i) else none
def chkT (s : Sc) : DT → Expr → Bool
  | .one i, e => (match asName e with
    | some x => s.sto x i
    | none => false)
  | .many is, e => (match asTup e with
    | some es => decide (es.length = is.length) && (es.zip is).all fun p => (match asName p.1 with
      | some x => s.sto x p.2
      | none => false)
    | none => false)
mutual
def chkE (s : Sc) : DE → Expr → Bool
  | .slot i, e => (match asName e with
    | some x => s.vis x i
    | none => false)
  | .const d, e => (match d with
    | .fn f => (match asName e with
      | some x => s.glb x && decide (s.F[f]? = some x)
      | none => false)
    | d => (match asConst e with
      | some k => constB d k
      | none => false))
  | .glob x d, e => (match asName e with
    | some y => decide (x = y) && (s.glb x && s.G.any fun p => decide (p.1 = x) && D.same p.2 d)
    | none => false)
  | .bop o a b, e => (match asBin e with
    | some (l, p, r) => decide (p = opOf o) && (chkE s a l && chkE s b r)
    | none => false)
  | .neg a, e => (match asUn e with
    | some (p, l) => decide (p = .USub) && chkE s a l
    | none => false)
  | .cmp o a b, e => (match asCmp1 e with
    | some (l, p, r) => decide (p = cmpOf o) && (!isSet r && (chkE s a l && chkE s b r))
    | none => false)
  | .chain o q a b c, e => (match asCmp2 e with
    | some (l, p, p2, r, t) => decide (p = cmpOf o) && (decide (p2 = cmpOf q) && (!isSet t && (chkE s a l && (chkE s b r && chkE s c t))))
    | none => false)
  | .notE a, e => (match asUn e with
    | some (p, l) => decide (p = .Not) && chkE s a l
    | none => false)
  | .bAnd es, e => (match asBool e with
    | some (p, l) => decide (p = .And) && (!l.isEmpty && chkEs s es l)
    | none => false)
  | .bOr es, e => (match asBool e with
    | some (p, l) => decide (p = .Or) && (!l.isEmpty && chkEs s es l)
    | none => false)
  | .ife c a b, e => (match asIf e with
    | some (t, l, r) => chkE s c t && (chkE s a l && chkE s b r)
    | none => false)
  | .tup es, e => (match asTup e with
    | some l => chkEs s es l
    | none => false)
  | .lst es, e => (match asLst e with
    | some l => chkEs s es l
    | none => false)
  | .idx a b, e => (match asSub e with
    | some (l, r) => !isSlice r && (chkE s a l && chkE s b r)
    | none => false)
  | .slc a lo hi, e => (match asSub e with
    | some (l, r) => (match asSlice r with
      | some (x, y, z) => z.isNone && (chkE s a l && (chkO s lo x && chkO s hi y))
      | none => false)
    | none => false)
  | .slcR a lo, e => (match asSub e with
    | some (l, r) => (match asSlice r with
      | some (x, y, z) => y.isNone && ((match z with
        | some z => (match asUn z with
          | some (p, k) => decide (p = .USub) && decide (asConst k = some (.int 1))
          | none => false)
        | none => false) && (chkE s a l && chkO s lo x))
      | none => false)
    | none => false)
  | .call f es, e => (match asCall e with
    | some (g, l) => (match asName g with
      | some x => s.glb x && (decide (s.F[f]? = some x) && chkEs s es l)
      | none => false)
    | none => false)
  | .callD a es, e => (match asCall e with
    | some (g, l) => (asSub g).isSome && (!l.isEmpty && (chkE s a g && chkEs s es l))
    | none => false)
  | .bi b es, e => (match asCall e with
    | some (g, l) => (match asName g with
      | some x => s.glb x && (decide (x = biName b) && (!l.isEmpty && chkEs s es l))
      | none => false)
    | none => false)
  | .isi a t, e => (match asCall e with
    | some (g, l) => (match asName g, l with
      | some x, [y, z] => s.glb x && (decide (x = "isinstance") && (!isStarred y && (chkE s a y && (match asName z with
        | some n => s.glb n && decide (n = PySem.Str.ofString (tyName t))
        | none => false))))
      | _, _ => false)
    | none => false)
  | .lc vs t src ifs elt, e => (match asLC e with
    | some (el, tg, it, fs, scope) => blkC s.N s.sc scope (ownOf s.N scope) && (decide ((ownOf s.N scope).map (·.2) = vs) && (chkI s src tg it && (chkT (s.blk scope) t tg && ((match fs with
      | [] => chkO (s.blk scope) ifs none
      | [f] => chkO (s.blk scope) ifs (some f)
      | _ => false) && (chkE (s.blk scope) elt el && (match t with
        | .one i => vs.contains i
        | .many is => is.all vs.contains))))))
    | none => false)
def chkEs (s : Sc) : DEs → List Expr → Bool
  | .nil, l => l.isEmpty
  | .cons e es, l => (match l with
    | a :: r => !isStarred a && (chkE s e a && chkEs s es r)
    | [] => false)
def chkO (s : Sc) : DO → Option Expr → Bool
  | .none, o => o.isNone
  | .some e, o => (match o with
    | some a => chkE s e a
    | none => false)
/-- what is walked; the target is asked for zip alone -/
def chkI (s : Sc) : DIt → Expr → Expr → Bool
  | .seq e, _, i => !isSet i && chkE s e i
  | .rng1 a, _, i => (match asCall i with
    | some (g, l) => (match asName g, l with
      | some x, [y] => s.glb x && (decide (x = "range") && (!isStarred y && chkE s a y))
      | _, _ => false)
    | none => false)
  | .rng2 a b, _, i => (match asCall i with
    | some (g, l) => (match asName g, l with
      | some x, [y, z] => s.glb x && (decide (x = "range") && (!isStarred y && (!isStarred z && (chkE s a y && chkE s b z))))
      | _, _ => false)
    | none => false)
  | .zip a b, t, i => (match asCall i with
    | some (g, l) => (match asName g, l with
      | some x, [y, z] => (asTup t).isSome && (s.glb x && (decide (x = "zip") && (!isStarred y && (!isStarred z && (chkE s a y && chkE s b z)))))
      | _, _ => false)
    | none => false)
end

/-! ### calls, with the guards told -/
structure FnG (P : Program) (w : World) (K : PySem.W.Frag) (mg : Str → Option Value) (base : Heap) (k : Nat) (f : Addr) (sp : Sp) : Prop where
  run : ∀ (A : Around) (outer : List Env) (s : Shared) (H : Hp) (us : List Value) (vs : List V) (Q : VK) (E : XK), Room k A → A.guards = some [] → Env0 P w K mg base A outer s H → Vals vs us → sp vs H Q E →
    codeAny (model P w) A (.call (.ref f) ⟨us, []⟩) (CR (L2.CX P w) outer P w H s Q E) s
/-- what a def promises: what its run over data says -/
def spD (c : Wc) (x : Xc) (rc : List D → Sto → Res D) : Sp := fun vs H Q E => ∃ ρ B as S, StoOk c ρ B H S ∧ RepA c ρ B H as vs ∧
  okR (rc as S) (fun d S' => ∀ v H', Ext ρ H H' → StoOk c ρ B H' S' → Rep c ρ B H' d v → Q v H') (fun cl fs S' => ∀ dd H', Ext ρ H H' → StoOk c ρ B H' S' → ExcAt c x ρ B H' cl fs dd → E (.ref (x.ca cl)) (some dd) H')
theorem run_fnG {X : Cx} {W : WX} {k : Nat} {f : Addr} {sp : Sp} {pins : List (Addr × Obj)} {σ : L2.St} {H : Hp} {s : Shared} {Q : VK} {us : List Value} {vs : List V} (F : FnG X.prog X.w X.K X.mg X.base k f sp) (hr : Room k X.A) (hg : X.A.guards = some []) (tk : Takes X W)
    (I : Inv X pins σ H s) (r : Vals vs us) (h : sp vs H Q (WE W σ)) : wpAny (model X.prog X.w) X.A (call (.ref f) us) (EP X pins σ Q) X.xe s := by
  refine wpAny_call (codeAny_mono (F.run X.A X.stack s H us vs Q (WE W σ) hr hg I.env0 r h) fun r s' hq => ?_)
  cases r with
  | error e => exact passAt tk σ pins H s e s' I hq
  | ok fl =>
    cases fl with
    | ret u => exact I.after hq
    | next => exact False.elim hq
    | brk => exact False.elim hq
    | cont => exact False.elim hq

/-- the contexts in which the look is sound -/
structure Good (s : Sc) (c : Wc) (x : Xc) (W : WX) (rc : Calls) (k : Nat) (X : Cx) : Prop where
  sc : X.env.scope = s.sc
  N : X.N = s.N
  nd : s.N.Nodup
  fn : X.fn = s.fn
  K : X.K = c.K
  calm : X.calm = true
  room : Room k X.A
  gd : X.A.guards = some []
  tk : Takes X W
  fns : ∀ (f : Nat) (nm : Str), s.F[f]? = some nm → X.mg nm = some (.ref (c.fa f)) ∧ PySem.W.keepIn X.K (.ref (c.fa f)) = true ∧ FnG X.prog X.w X.K X.mg X.base k (c.fa f) (spD c x (rc f))
  nf : s.F.length = c.nf
  out : ∀ (f : Nat) (as : List D) (S : Sto), s.F[f]? = none → rc f as S = .bad
  con : ∀ (nm : Str) (d : D), (nm, d) ∈ s.G → ∃ v u, X.mg nm = some u ∧ RelV v u ∧ ∀ ρ B H, Rep c ρ B H d v
  blt : ∀ nm, nm ∈ bltNames → X.mg nm = none
section
variable {s : Sc} {c : Wc} {x : Xc} {W : WX} {rc : Calls} {k : Nat} {X : Cx}
theorem Good.hu (G : Good s c x W rc k X) : X.A.units + 64 < cLine := G.room.units
theorem Good.isVis (G : Good s c x W rc k X) {y : Str} {i : Nat} (h : s.vis y i = true) : X.N[i]? = some y ∧ Vis X.env.scope y ∧ (y == ("__debug__" : Str)) = false ∧ (y == ("__classdict__" : Str)) = false := by
  simp only [Sc.vis, Bool.and_eq_true, decide_eq_true_eq, Bool.not_eq_true'] at h
  obtain ⟨h1, h2, h3, h4⟩ := h
  refine ⟨by rw [G.N]; exact h1, ?_, h3, h4⟩
  unfold Vis
  rw [G.sc]
  split at h2 <;> first | (rename_i e; rw [e]; simp; done) | cases h2
theorem Good.isGlb (G : Good s c x W rc k X) {y : Str} (h : s.glb y = true) : Gl X y ∧ (y == ("__debug__" : Str)) = false ∧ y ≠ "__name__" := by
  simp only [Sc.glb, Bool.and_eq_true, decide_eq_true_eq, Bool.not_eq_true'] at h
  obtain ⟨h1, h3, h4⟩ := h
  refine ⟨?_, h3, fun z => by rw [z] at h4; simp at h4⟩
  show X.env.scope.names.lookup y = _
  rw [G.sc]; exact h1
theorem Good.isSto (G : Good s c x W rc k X) {y : Str} {i : Nat} (h : s.sto y i = true) : X.N[i]? = some y ∧ L2.Loc X.env.scope y ∧ (X.fn y = true ∨ X.env.scope.names.lookup y = some .local) := by
  simp only [Sc.sto, Bool.and_eq_true, Bool.or_eq_true, decide_eq_true_eq] at h
  obtain ⟨h1, h2⟩ := h
  refine ⟨by rw [G.N]; exact h1, ?_, ?_⟩
  · unfold L2.Loc
    rw [G.sc]
    rcases h2 with h2 | h2
    · exact .inl h2
    · exact .inr h2.1
  · rw [G.sc, G.fn]
    rcases h2 with h2 | h2
    · exact .inr h2
    · exact .inl h2.2
theorem star_off {a : Expr} (h : isStarred a = false) (r : List Expr) (env : Env) : starEach (a :: r) env = (false, eval a env) :: starEach r env := by
  cases a <;> first | rfl | (simp [isStarred] at h)
theorem test_plain {e : Expr} (h : specialTest e = false) (env : Env) (whole : Sem Value) : isTrue e env whole = (do let v ← whole; standAt e.pos; holding [v] (truthy v)) := by
  cases e <;> first | rfl | (simp [specialTest] at h; done) | skip
  rename_i o a p
  cases o <;> first | rfl | (simp [specialTest] at h)
theorem set_off {e : Expr} (h : isSet e = false) (env : Env) (v : Value) : foldedSetIterable e env v = pure v := by
  cases e <;> first | rfl | (simp [isSet] at h)
theorem mark_off {e : Expr} (h : isSet e = false) (op : CmpOp) : behindInMarks op e = false := by
  cases e <;> first | rfl | (simp [isSet] at h)
theorem ix_off {e : Expr} (h : isSlice e = false) : PlainIx e := fun o i => by
  cases e <;> first | rfl | (simp [isSlice] at h)
end
end DI

end
section
set_option maxRecDepth 100000
set_option maxHeartbeats 4000000
/-! DI4: rules for built-in calls, slices, walks, targets, comprehensions. -/
namespace DI
open PySem PySem.Spec PyProof.Rows L2

section
variable {c : Wc} {x : Xc} {W : WX} {rc : Calls} {ρ : List Addr} {B : Addr → Prop} {H : Hp} {S : Sto} {X : Cx}

/-! ### built-in calls -/
def biVal : Bi → Value
  | .len => .builtin "len"
  | .abs => .builtin "abs"
  | .int => .type "int"
  | .tuple => .type "tuple"
  | .list => .type "list"
  | .all => .builtin "all"
  | .any => .builtin "any"
  | .repr => .builtin "repr"
  | .max2 => .builtin "max"
  | .min2 => .builtin "min"
  | .sum => .builtin "sum"
/-- what a built-in call by data asks -/
def rBi (c : Wc) (b : Bi) (fr : Bool) : List V → Hp → VK → Prop := fun vs H Q => ∃ ρ B S as d, StoOk c ρ B H S ∧ RepA c ρ B H as vs ∧ biD b S as = some d ∧ ∀ v H', Ext ρ H H' → StoOk c ρ B H' S → Rep c ρ B H' d v → Fsh fr H d v → Q v H'
theorem callR_by {f : Value} {r r' : List V → Hp → VK → Prop} (h : CallR X f r) (hi : ∀ vs H Q, r' vs H Q → r vs H Q) : CallR X f r' := fun pins s σ H xs us Q I rv q => h pins s σ H xs us Q I rv (hi xs H Q q)
theorem call_reprD (hu : X.A.units + 64 < cLine) (hg : X.A.guards = some []) : CallR X (.builtin "repr") (fun vs H Q => ∃ v p, vs = [v] ∧ isDisplay p = true ∧ Dp X.K H v p ∧ p.showable = true ∧ p.hasDict = false ∧ p.depth ≤ 60 ∧ p.shown.length ≤ sizeLine ∧ Q (.str p.shown) H) := by
  intro pins s σ H xs us Q I rv h
  obtain ⟨v, p, rfl, hd, dp, hs, hnd, hdp, hsz, q⟩ := h
  obtain ⟨u, rfl, ru⟩ := vals1 rv
  obtain ⟨as, r1⟩ := Dp.reads I p v u dp ru
  obtain ⟨a, rfl⟩ := isRef_of_reads r1 hd
  exact repr_of_reads' r1 hs (PyData.noDict_hsm hnd) hg (by omega) (fun _ _ e => e) (fun h' u tk hk => ⟨.str _, H, I.kept (t' := tk) hk, ⟨_, rfl⟩, q⟩) hsz
theorem call_reprN : CallR X (.builtin "repr") (fun vs H Q => vs = [.non] ∧ Q (.str (PyData.shown .none)) H) := by
  intro pins s σ H xs us Q I rv h
  obtain ⟨rfl, q⟩ := h
  obtain ⟨u, rfl, ru⟩ := vals1 rv
  cases ru
  exact PySem.P.repr_of_none ⟨.str _, H, I.tok _, ⟨_, rfl⟩, q⟩
theorem call_reprB : CallR X (.builtin "repr") (fun vs H Q => ∃ b, vs = [.bl b] ∧ Q (.str (PyData.shown (.bool b))) H) := by
  intro pins s σ H xs us Q I rv h
  obtain ⟨b, rfl, q⟩ := h
  obtain ⟨u, rfl, ru⟩ := vals1 rv
  cases ru
  exact PySem.P.repr_of_bool ⟨.str _, H, I.tok _, ⟨_, rfl⟩, q⟩
theorem call_reprS : CallR X (.builtin "repr") (fun vs H Q => ∃ z, vs = [.str z] ∧ (reprText z).length ≤ sizeLine ∧ Q (.str (reprText z)) H) := by
  intro pins s σ H xs us Q I rv h
  obtain ⟨b, rfl, hz, q⟩ := h
  obtain ⟨u, rfl, t, rfl⟩ := vals1 rv
  exact PySem.P.repr_of_str ⟨.str _, H, I.tok _, ⟨_, rfl⟩, q⟩ hz
mutual
theorem py_nodict : ∀ (d : D) (p : PyData), d.py = some p → p.hasDict = false
  | .non, _, e => by cases e; rfl
  | .bl _, _, e => by cases e; rfl
  | .int _, _, e => by cases e; rfl
  | .str _, _, e => by cases e; rfl
  | .tup ds, _, e => by
    simp only [D.py, Option.map_eq_some_iff] at e
    obtain ⟨ps, e, rfl⟩ := e
    exact pys_nodict ds ps e
  | .lst ds, _, e => by
    simp only [D.py, Option.map_eq_some_iff] at e
    obtain ⟨ps, e, rfl⟩ := e
    exact pys_nodict ds ps e
  | .fn _, _, e => by simp [D.py] at e
  | .cell _, _, e => by simp [D.py] at e
  | .scr _, _, e => by simp [D.py] at e
theorem pys_nodict : ∀ (ds : List D) (ps : List PyData), D.pys ds = some ps → PyData.hasDictAll ps = false
  | [], _, e => by simp only [D.pys, Option.some.injEq] at e; subst e; rfl
  | d :: ds, _, e => by
    simp only [D.pys, Option.bind_eq_some_iff, Option.map_eq_some_iff] at e
    obtain ⟨p, e1, ps, e2, rfl⟩ := e
    show (PyData.hasDict p || PyData.hasDictAll ps) = false
    rw [py_nodict d p e1, pys_nodict ds ps e2]; rfl
end
theorem repr_seq (hu : X.A.units + 64 < cLine) (hg : X.A.guards = some []) (hK : X.K = c.K) {d : D} {v : V} {p : PyData} {H : Hp} (rv : Rep c ρ B H d v) (e : d.py = some p) (hd : isDisplay p = true) (h : (p.showable && (decide (p.depth ≤ 60) && fits p.shown.length)) = true) {Q : VK} (q : Q (.str p.shown) H) :
    ∃ v' p', [v] = [v'] ∧ isDisplay p' = true ∧ Dp X.K H v' p' ∧ p'.showable = true ∧ p'.hasDict = false ∧ p'.depth ≤ 60 ∧ p'.shown.length ≤ sizeLine ∧ Q (.str p'.shown) H := by
  simp only [Bool.and_eq_true, decide_eq_true_eq] at h
  exact ⟨v, p, rfl, hd, by rw [hK]; exact Rep.dp d v p rv e, h.1, py_nodict d p e, h.2.1, fits_le h.2.2, q⟩
theorem call_bi (hK : X.K = c.K) (hc : X.calm = true) (hu : X.A.units + 64 < cLine) (hg : X.A.guards = some []) : ∀ b, CallR X (biVal b) (rBi c b (b == .list))
  | .len => by
    refine callR_by (CallR.or call_len_seq call_len_str) fun vs H Q ⟨ρ, B, S, as, d, s, r, e, q⟩ => ?_
    unfold biD at e
    split at e <;> first | (cases ‹Bi.len = _›; done) | skip
    · cases r with
      | cons r rr =>
        cases rr
        cases e
        cases r with
        | tup ha hx => exact .inl ⟨_, _, rfl, .inr (by rw [hK]; exact sqT_of ha), by rw [← hx.length]; exact q _ _ (Ext.refl _ _) s (.int _) (fsh_not rfl)⟩
    · cases r with
      | cons r rr =>
        cases rr
        cases e
        cases r with
        | lst ha hb hx => exact .inl ⟨_, _, rfl, .inl (SqL.of ha), by rw [← hx.length]; exact q _ _ (Ext.refl _ _) s (.int _) (fsh_not rfl)⟩
    · split at e
      · rename_i h
        cases r with
        | cons r rr =>
          cases rr
          cases e
          cases r
          exact .inr ⟨_, rfl, fits_le h, q _ _ (Ext.refl _ _) s (.int _) (fsh_not rfl)⟩
      · cases e
    · cases e
  | .abs => by
    refine callR_by (call_abs) fun vs H Q ⟨ρ, B, S, as, d, s, r, e, q⟩ => ?_
    unfold biD at e
    split at e <;> first | (cases ‹Bi.abs = _›; done) | skip
    · cases e
      cases r with
      | cons r rr =>
        cases rr
        cases r
        exact ⟨_, rfl, q _ _ (Ext.refl _ _) s (.int _) (fsh_not rfl)⟩
    · cases e
  | .int => by
    refine callR_by (call_int1) fun vs H Q ⟨ρ, B, S, as, d, s, r, e, q⟩ => ?_
    unfold biD at e
    split at e <;> first | (cases ‹Bi.int = _›; done) | skip
    · cases e
      cases r with
      | cons r rr =>
        cases rr
        cases r
        exact .inl ⟨_, rfl, q _ _ (Ext.refl _ _) s (.int _) (fsh_not rfl)⟩
    · cases e
      cases r with
      | cons r rr =>
        cases rr
        cases r
        exact .inr ⟨_, rfl, q _ _ (Ext.refl _ _) s (.int _) (fsh_not rfl)⟩
    · cases e
  | .tuple => by
    refine callR_by (call_tuple_of) fun vs H Q ⟨ρ, B, S, as, d, s, r, e, q⟩ => ?_
    unfold biD at e
    split at e <;> first | (cases ‹Bi.tuple = _›; done) | skip
    · cases e
      cases r with
      | cons r rr =>
        cases rr
        cases r with
        | tup ha hx => exact ⟨_, _, rfl, .inr ⟨by rw [hK]; exact sqT_of ha, q _ _ (Ext.refl _ _) s (.tup ha hx) (fsh_not rfl)⟩⟩
    · cases e
      cases r with
      | cons r rr =>
        cases rr
        cases r with
        | lst ha hb hx => exact ⟨_, _, rfl, .inl ⟨SqL.of ha, fun l n => q _ _ (Ext.new n) (s.new n) (newTup s n hx) (fsh_new n)⟩⟩
    · cases e
  | .list => by
    refine callR_by (call_list_of) fun vs H Q ⟨ρ, B, S, as, d, s, r, e, q⟩ => ?_
    unfold biD at e
    split at e <;> first | (cases ‹Bi.list = _›; done) | skip
    · cases e
      cases r with
      | cons r rr =>
        cases rr
        cases r with
        | tup ha hx => exact ⟨_, _, rfl, .inr (by rw [hK]; exact sqT_of ha), fun l n => q _ _ (Ext.new n) (s.new n) (newLst s n hx) (fsh_new n)⟩
    · cases e
      cases r with
      | cons r rr =>
        cases rr
        cases r with
        | lst ha hb hx => exact ⟨_, _, rfl, .inl (SqL.of ha), fun l n => q _ _ (Ext.new n) (s.new n) (newLst s n hx) (fsh_new n)⟩
    · cases e
  | .all => by
    refine callR_by (cr_all hc) fun vs H Q ⟨ρ, B, S, as, d, s, r, e, q⟩ => ?_
    unfold biD at e
    split at e <;> first | (cases ‹Bi.all = _›; done) | skip
    · simp only [Option.map_eq_some_iff] at e
      obtain ⟨bs, e, rfl⟩ := e
      cases r with
      | cons r rr =>
        cases rr
        cases r with
        | lst ha hb hx => exact ⟨_, bs, rfl, by rw [← hx.bools e]; exact SqL.of ha, q _ _ (Ext.refl _ _) s (.bl _) (fsh_not rfl)⟩
    · cases e
  | .any => by
    refine callR_by (cr_any hc) fun vs H Q ⟨ρ, B, S, as, d, s, r, e, q⟩ => ?_
    unfold biD at e
    split at e <;> first | (cases ‹Bi.any = _›; done) | skip
    · simp only [Option.map_eq_some_iff] at e
      obtain ⟨bs, e, rfl⟩ := e
      cases r with
      | cons r rr =>
        cases rr
        cases r with
        | lst ha hb hx => exact ⟨_, bs, rfl, by rw [← hx.bools e]; exact SqL.of ha, q _ _ (Ext.refl _ _) s (.bl _) (fsh_not rfl)⟩
    · cases e
  | .sum => by
    refine callR_by (cr_sum hc) fun vs H Q ⟨ρ, B, S, as, d, s, r, e, q⟩ => ?_
    unfold biD at e
    split at e <;> first | (cases ‹Bi.sum = _›; done) | skip
    · simp only [Option.map_eq_some_iff] at e
      obtain ⟨bs, e, rfl⟩ := e
      cases r with
      | cons r rr =>
        cases rr
        cases r with
        | lst ha hb hx => exact ⟨_, bs, rfl, by rw [← hx.intsD e]; exact SqL.of ha, q _ _ (Ext.refl _ _) s (.int _) (fsh_not rfl)⟩
    · cases e
  | .max2 => by
    refine callR_by (call_max2 hc) fun vs H Q ⟨ρ, B, S, as, d, s, r, e, q⟩ => ?_
    unfold biD at e
    split at e <;> first | (cases ‹Bi.max2 = _›; done) | skip
    · cases e
      cases r with
      | cons r rr =>
        cases rr with
        | cons r' rr =>
          cases rr
          cases r
          cases r'
          exact ⟨_, _, rfl, q _ _ (Ext.refl _ _) s (.int _) (fsh_not rfl)⟩
    · cases e
  | .min2 => by
    refine callR_by (call_min2 hc) fun vs H Q ⟨ρ, B, S, as, d, s, r, e, q⟩ => ?_
    unfold biD at e
    split at e <;> first | (cases ‹Bi.min2 = _›; done) | skip
    · cases e
      cases r with
      | cons r rr =>
        cases rr with
        | cons r' rr =>
          cases rr
          cases r
          cases r'
          exact ⟨_, _, rfl, q _ _ (Ext.refl _ _) s (.int _) (fsh_not rfl)⟩
    · cases e
  | .repr => by
    refine callR_by (CallR.or (CallR.or SkE.call_repr_int call_reprN) (CallR.or (CallR.or call_reprB call_reprS) (call_reprD hu hg))) fun vs H Q ⟨ρ, B, S, as, d, s, r, e, q⟩ => ?_
    unfold biD at e
    split at e <;> first | (cases ‹Bi.repr = _›; done) | skip
    · rename_i a
      cases r with
      | cons r rr =>
        cases rr
        unfold reprD at e
        split at e
        · split at e
          · cases e
            cases r
            exact .inl (.inl ⟨_, rfl, ‹_›, q _ _ (Ext.refl _ _) s (.str _) (fsh_not rfl)⟩)
          · cases e
        · cases e
          cases r
          exact .inl (.inr ⟨rfl, q _ _ (Ext.refl _ _) s (.str _) (fsh_not rfl)⟩)
        · cases e
          cases r
          exact .inr (.inl (.inl ⟨_, rfl, q _ _ (Ext.refl _ _) s (.str _) (fsh_not rfl)⟩))
        · split at e
          · cases e
            cases r
            exact .inr (.inl (.inr ⟨_, rfl, fits_le ‹_›, q _ _ (Ext.refl _ _) s (.str _) (fsh_not rfl)⟩))
          · cases e
        · simp only [Option.bind_eq_some_iff] at e
          obtain ⟨p, e1, e⟩ := e
          split at e
          · cases e
            refine .inr (.inr (repr_seq hu hg hK r e1 ?_ ‹_› (q _ _ (Ext.refl _ _) s (.str _) (fsh_not rfl))))
            simp only [D.py, Option.map_eq_some_iff] at e1
            obtain ⟨_, _, rfl⟩ := e1
            rfl
          · cases e
        · simp only [Option.bind_eq_some_iff] at e
          obtain ⟨p, e1, e⟩ := e
          split at e
          · cases e
            refine .inr (.inr (repr_seq hu hg hK r e1 ?_ ‹_› (q _ _ (Ext.refl _ _) s (.str _) (fsh_not rfl))))
            simp only [D.py, Option.map_eq_some_iff] at e1
            obtain ⟨_, _, rfl⟩ := e1
            rfl
          · cases e
        · cases e
    · cases e
end
end DI

end
section
set_option maxRecDepth 100000
set_option maxHeartbeats 4000000
/-! DI5: slices, walks, targets, comprehensions. -/
namespace DI
open PySem PySem.Spec PyProof.Rows L2

section
variable {c : Wc} {x : Xc} {W : WX} {rc : Calls} {ρ : List Addr} {B : Addr → Prop} {H : Hp} {S : Sto} {X : Cx}

/-! ### slices -/
def rSlD (K : PySem.W.Frag) : V → Option Int → Option Int → Hp → VK → Prop := fun x lo hi H Q => rSlL K x lo hi H Q ∨ rSlA K x lo hi H Q
theorem sl_D : SlR X (rSlD X.K) := sl_list.or sl_tupA
theorem cutV_map (f : D → V) : True := trivial
theorem cutL_map {α β : Type} (f : α → β) (xs : List α) (lo hi : Option Int) : (cutL xs lo hi).map f = cutL (xs.map f) lo hi := by
  unfold cutL
  rw [List.map_take, List.map_drop, List.length_map]
theorem cutL_V (vs : List V) (lo hi : Option Int) : cutL vs lo hi = cutV vs lo hi := rfl
theorem cutL_whole {α : Type} {xs : List α} {lo hi : Option Int} (h : HT.sIx xs.length 0 lo = 0 ∧ HT.sIx xs.length xs.length hi = xs.length) : cutL xs lo hi = xs := by
  unfold cutL
  rw [h.1, h.2]
  simp
theorem slcD_ok {a d : D} {v : V} {lo hi : Option Int} {H : Hp} {Q : VK} (s : StoOk c ρ B H S) (r : Rep c ρ B H a v) (e : slcD a lo hi = some d)
    (q : ∀ u H', Ext ρ H H' → StoOk c ρ B H' S → Rep c ρ B H' d u → Fsh true H d u → Q u H') : rSlD c.K v lo hi H Q := by
  cases r <;> simp only [slcD] at e <;> try (cases e; done)
  · rename_i a1 xs us ha hx
    cases e
    refine .inr ⟨_, _, rfl, sqT_of ha, fun w => ?_, fun w p n => ?_⟩
    · rw [← hx.length] at w
      rw [cutL_whole w] at q
      exact q _ _ (Ext.refl _ _) s (.tup ha hx) (fsh_not rfl)
    · exact q _ _ (Ext.new n) (s.new n) (newTup s n (hx.cut lo hi)) (fsh_new n)
  · rename_i a1 xs us ha _ hx
    cases e
    exact .inl ⟨_, _, rfl, SqL.of ha, fun p n => q _ _ (Ext.new n) (s.new n) (newLst s n (hx.cut lo hi)) (fsh_new n)⟩
  · rename_i a1 ns ha
    cases e
    refine .inl ⟨_, _, rfl, sqL_scr ha, fun p n => q _ _ (Ext.new n) (s.new n) ?_ (fsh_new n)⟩
    rw [← cutL_V, ← cutL_map]
    exact newLst s n (RepA.ints _)
/-- a part of a slice -/
def tO (c : Wc) (x : Xc) (W : WX) (rc : Calls) (d : DO) : TO := fun σ H Q => ∃ R ρ B σd S, Sees c R ρ B H σd σ S d.reads ∧
  okR ((evO rc d σd S).bind fun o S1 => ofO (intO o) S1) (fun i S' => ∀ H', Ext ρ H H' → StoOk c ρ B H' S' → Q i H') (ExcW c x W ρ B H σ)
theorem po_imp {e : Option Expr} {t t' : TO} (h : PO X e t) (hi : ∀ σ H Q, t' σ H Q → t σ H Q) : PO X e t' := ⟨fun pins s σ H Q I q => h.run pins s σ H Q I (hi σ H Q q)⟩
theorem po_D_none : PO X none (tO c x W rc .none) := po_imp po_none fun σ H Q h => by
  obtain ⟨R, ρ, B, σd, S, see, ok⟩ := h
  exact ok H (Ext.refl _ _) see.st
theorem po_D_some {e : Expr} {d : DE} (h : PE X e (tE c x W rc d)) : PO X (some e) (tO c x W rc (.some d)) := po_imp (po_some h) fun σ H Q h => by
  obtain ⟨R, ρ, B, σd, S, see, ok⟩ := h
  refine ⟨R, ρ, B, σd, S, see, ?_⟩
  rw [evO, okR_bind, okR_bind] at ok
  refine okR_mono ok (fun a S1 ok v H1 x1 s1 r1 _ => ?_) fun _ _ _ h => h
  have ok : okR (ofO (intO (some a)) S1) (fun i S' => ∀ H', Ext ρ H H' → StoOk c ρ B H' S' → Q i H') (ExcW c x W ρ B H σ) := ok
  rw [okR_ofO] at ok
  obtain ⟨i, e, q⟩ := ok
  cases r1 <;> simp only [intO] at e <;> try (cases e; done)
  cases e
  exact ⟨_, rfl, q H1 x1 s1⟩
theorem pe_slcD {a : Expr} {lo hi : Option Expr} {da : DE} {dl dh : DO} {p2 pos : Pos} (hK : X.K = c.K) (ha : PE X a (tE c x W rc da)) (hl : PO X lo (tO c x W rc dl)) (hh : PO X hi (tO c x W rc dh)) :
    PE X (.Subscript a (.Slice lo hi none p2) pos) (tE c x W rc (.slc da dl dh)) := pe_imp (pe_slice sl_D ha hl hh) fun σ H Q h => by
  obtain ⟨R, ρ, B, σd, S, see, ok⟩ := h
  refine ⟨R, ρ, B, σd, S, see.less fun i hi => List.mem_append_left _ hi, ?_⟩
  rw [evE, okR_bind] at ok
  refine okR_mono ok (fun a1 S1 ok v H1 x1 s1 r1 _ => ?_) fun _ _ _ h => h
  refine ⟨R, ρ, B, σd, S1, see.ext x1 s1 fun i hi => List.mem_append_right _ (List.mem_append_left _ hi), ?_⟩
  rw [okR_bind] at ok ⊢
  refine okR_mono ok (fun l S2 ok => ?_) fun _ _ _ h => h.after x1
  rw [okR_bind] at ok
  refine okR_mono ok (fun l S2 ok H2 x2 s2 => ?_) fun _ _ _ h => h.after x1
  refine ⟨R, ρ, B, σd, S2, see.ext (x1.trans x2) s2 fun i hi => List.mem_append_right _ (List.mem_append_right _ hi), ?_⟩
  rw [okR_bind] at ok ⊢
  refine okR_mono ok (fun l S2 ok => ?_) fun _ _ _ h => h.after (x1.trans x2)
  rw [okR_bind] at ok
  refine okR_mono ok (fun h S3 ok H3 x3 s3 => ?_) fun _ _ _ h => h.after (x1.trans x2)
  rw [okR_ofO] at ok
  obtain ⟨d, e, q⟩ := ok
  rw [hK]
  have xx := (x1.trans x2).trans x3
  refine slcD_ok s3 (r1.ext s1 (x2.trans x3)) e fun u H4 x4 s4 r4 f4 => q u H4 (xx.trans x4) s4 r4 fun k1 k2 p hp => ?_
  have z := f4 k1 k2 p hp
  cases e : H p with
  | none => rfl
  | some o =>
    by_cases hp : p ∈ ρ
    · exact absurd z (s3.bH p (s3.rB p hp))
    · rw [xx p o e hp] at z; cases z

/-! ### walks -/
/-- J goes through ds -/
def ItOk (c : Wc) (ρ : List Addr) (B : Addr → Prop) (J : It) (ds : List D) (H0 : Hp) : Prop := ∀ (i : Nat) (H : Hp) (ρ' : List Addr) (B' : Addr → Prop), (∀ a o, H0 a = some o → ¬ B a → H a = some o ∧ ¬ B' a) → (∀ (n : Nat) (a : Addr), ρ[n]? = some a → ρ'[n]? = some a) →
  (i < ds.length → J.go i H ∧ ∀ v H', J.yld i H v H' → Same H H' ∧ ∃ d, ds[i]? = some d ∧ ∀ S, StoOk c ρ' B' H S → Rep c ρ' B' H' d v) ∧ (i = ds.length → J.stop i H)
theorem itOk_lst {a : Addr} {ds : List D} {vs : List V} (h : H a = some (.lst vs)) (n : ¬ B a) (r : RepA c ρ B H ds vs) : ItOk c ρ B (Itl c.K a) ds H := by
  intro i H' ρ' B' hk hr
  obtain ⟨h1, n1⟩ := hk a _ h n
  have r' := RepA.imp hk hr ds vs r
  have sq : SqL c.K H' a vs := SqL.of h1
  refine ⟨fun hi => ⟨⟨vs, vs[i]'(by rw [← r.length]; exact hi), sq, by simp⟩, fun v H2 y => ?_⟩, fun hi => ⟨vs, sq, by rw [← r.length, hi]; exact Nat.le_refl _⟩⟩
  obtain ⟨rfl, y⟩ := y
  obtain ⟨d, e, rd⟩ := r'.getV (y vs sq)
  exact ⟨Same.refl _, d, e, fun _ _ => rd⟩
theorem itOk_tup {a : Addr} {ds : List D} {vs : List V} (h : (H a = some (.tup vs) ∧ ¬ B a) ∨ KTup c.K a vs) (r : RepA c ρ B H ds vs) : ItOk c ρ B (Itt c.K a) ds H := by
  intro i H' ρ' B' hk hr
  have r' := RepA.imp hk hr ds vs r
  have sq : SqT c.K H' a vs := by
    rcases h with ⟨h, n⟩ | h
    · exact SqT.of (hk a _ h n).1
    · exact .inr h
  refine ⟨fun hi => ⟨⟨vs, vs[i]'(by rw [← r.length]; exact hi), sq, by simp⟩, fun v H2 y => ?_⟩, fun hi => ⟨vs, sq, by rw [← r.length, hi]; exact Nat.le_refl _⟩⟩
  obtain ⟨rfl, y⟩ := y
  obtain ⟨d, e, rd⟩ := r'.getV (y vs sq)
  exact ⟨Same.refl _, d, e, fun _ _ => rd⟩
theorem itOk_rng (lo : Int) (n : Nat) : ItOk c ρ B (Itr lo n) (rngL lo n) H := by
  intro i H' ρ' B' hk hr
  have hl : (rngL lo n).length = n := by simp [rngL]
  rw [hl]
  refine ⟨fun hi => ⟨hi, fun v H2 y => ?_⟩, fun hi => by show n ≤ i; omega⟩
  obtain ⟨rfl, rfl⟩ := y
  exact ⟨Same.refl _, .int (lo + (i : Int)), by simp [rngL, hi], fun _ _ => .int _⟩
/-- the walk of a piece of text -/
def tI (c : Wc) (x : Xc) (W : WX) (rc : Calls) (d : DIt) : TI := fun σ H R' => ∃ R ρ B σd S, Sees c R ρ B H σd σ S d.reads ∧
  okR (evI rc d σd S) (fun ds S' => ∀ J H', Ext ρ H H' → StoOk c ρ B H' S' → ItOk c ρ B J ds H' → R' J H') (ExcW c x W ρ B H σ)
theorem pi_imp {tg e : Expr} {t t' : TI} (h : PI X tg e t) (hi : ∀ σ H R, t' σ H R → t σ H R) : PI X tg e t' := ⟨fun pins s σ H R I q => h.run pins s σ H R I (hi σ H R q)⟩
theorem pi_either {tg l : Expr} {tl : TE} (hl : PE X l tl) : PI X tg l (fun σ H R => tl σ H fun x H1 => ∃ a, x = .ref a ∧ (((∃ xs, SqL X.K H1 a xs) ∧ R (Itl X.K a) H1) ∨ ((∃ xs, SqT X.K H1 a xs) ∧ R (Itt X.K a) H1))) := by
  refine ⟨fun pins s σ H R I h => ?_⟩
  refine thn (hl.run pins s σ H _ I h) fun v s1 ⟨x, H1, I1, r1, q1⟩ => ?_
  obtain ⟨a, rfl, q1⟩ := q1
  cases r1
  have fp : ∀ b ∈ [s1.heap.objs.size], FpOk X pins H1 b := fun b hb => by
    have e : b = s1.heap.objs.size := by simpa using hb
    subst e
    exact I1.fpOk (Nat.le_refl _) (I1.hok.fresh (Nat.le_refl _))
  rcases q1 with ⟨⟨xs, hq⟩, q⟩ | ⟨⟨xs, hq⟩, q⟩
  · obtain ⟨its, rv, p, hz⟩ := I1.list hq
    refine wpAny_pyIter_list p.isList ?_
    exact ⟨s1.heap.objs.size, [s1.heap.objs.size], _, _, H1, rfl, I1.kept (t' := s1.toks) fun b o e => Heap.get?_push_of_some _ e, turn_list a _, ⟨_, Heap.get?_push_size _ rfl, rfl, rfl⟩, fp, q⟩
  · obtain ⟨its, rv, p, hz⟩ := I1.tuple hq
    refine wpAny_pyIter_tuple (show s1.heap.IsTuple a its.toArray from p) ?_
    exact ⟨s1.heap.objs.size, [s1.heap.objs.size], _, _, H1, rfl, I1.kept (t' := s1.toks) fun b o e => Heap.get?_push_of_some _ e, turn_tuple a _, ⟨_, Heap.get?_push_size _ rfl, rfl, rfl⟩, fp, q⟩
theorem pi_seqD {tg e : Expr} {d : DE} (hK : X.K = c.K) (h : PE X e (tE c x W rc d)) : PI X tg e (tI c x W rc (.seq d)) := pi_imp (pi_either h) fun σ H R' q => by
  obtain ⟨R, ρ, B, σd, S, see, ok⟩ := q
  refine ⟨R, ρ, B, σd, S, see, ?_⟩
  rw [evI, okR_bind] at ok
  refine okR_mono ok (fun a S1 ok v H1 x1 s1 r1 _ => ?_) fun _ _ _ h => h
  rw [okR_ofO] at ok
  obtain ⟨ds, e, q⟩ := ok
  cases r1 <;> simp only [itemsD] at e <;> try (cases e; done)
  · cases e
    rename_i a1 us ha hx hf
    exact ⟨_, rfl, .inr ⟨⟨_, by rw [hK]; exact sqT_of ha⟩, by rw [hK]; exact q _ H1 x1 s1 (itOk_tup ha hx)⟩⟩
  · cases e
    rename_i a1 us ha hn hx hf
    exact ⟨_, rfl, .inl ⟨⟨_, SqL.of ha⟩, by rw [hK]; exact q _ H1 x1 s1 (itOk_lst ha hn hx)⟩⟩
theorem pi_rng1D {tg y : Expr} {a : DE} {p pos : Pos} (hg : Gl X "range") (hm : X.mg "range" = none) (hs : isStarred y = false) (h : PE X y (tE c x W rc a)) : PI X tg (.Call (.Name "range" p) [y] [] pos) (tI c x W rc (.rng1 a)) :=
  pi_imp (pi_range1 hg hm (pa_cons h pa_nil (star_off hs _ _)) (by rw [star_off hs]; rfl)) fun σ H R' q => by
  obtain ⟨R, ρ, B, σd, S, see, ok⟩ := q
  refine ⟨R, ρ, B, σd, S, see, ?_⟩
  rw [evI, okR_bind] at ok
  refine okR_mono ok (fun a S1 ok v H1 x1 s1 r1 _ => ?_) fun _ _ _ h => h
  cases r1 <;> try (exact False.elim ok)
  rename_i j hf
  obtain ⟨hj, ok⟩ := okR_ite.mp ok
  simp only [smallI, Bool.and_eq_true, decide_eq_true_eq] at hj
  exact ⟨j, rfl, hj.1, hj.2, ok _ H1 x1 s1 (itOk_rng 0 _)⟩
theorem pi_rng2D {tg y z : Expr} {a b : DE} {p pos : Pos} (hg : Gl X "range") (hm : X.mg "range" = none) (hs : isStarred y = false) (hs2 : isStarred z = false) (h : PE X y (tE c x W rc a)) (h2 : PE X z (tE c x W rc b)) : PI X tg (.Call (.Name "range" p) [y, z] [] pos) (tI c x W rc (.rng2 a b)) :=
  pi_imp (pi_range2 hg hm (pa_cons h (pa_cons h2 pa_nil (star_off hs2 _ _)) (star_off hs _ _)) (by rw [star_off hs, star_off hs2]; rfl) (by rw [star_off hs2]; rfl)) fun σ H R' q => by
  obtain ⟨R, ρ, B, σd, S, see, ok⟩ := q
  refine ⟨R, ρ, B, σd, S, see.less fun i hi => List.mem_append_left _ hi, ?_⟩
  rw [evI, okR_bind] at ok
  refine okR_mono ok (fun a S1 ok v H1 x1 s1 r1 _ => ?_) fun _ _ _ h => h
  refine ⟨R, ρ, B, σd, S1, see.ext x1 s1 fun i hi => List.mem_append_right _ hi, ?_⟩
  rw [okR_bind] at ok
  refine okR_mono ok (fun b S2 ok w H2 x2 s2 r2 _ => ?_) fun _ _ _ h => h.after x1
  cases r1 <;> cases r2 <;> try (exact False.elim ok)
  obtain ⟨hj, ok⟩ := okR_ite.mp ok
  simp only [smallI, Bool.and_eq_true, decide_eq_true_eq] at hj
  exact ⟨_, _, rfl, ⟨hj.1.1, hj.1.2, hj.2.1, hj.2.2⟩, ok _ H2 (x1.trans x2) s2 (itOk_rng _ _)⟩

/-! ### targets -/
/-- the slots behind a target -/
def setsV : List Nat → List V → L2.St → L2.St
  | i :: is, v :: vs, σ => setsV is vs (σ.set i (some v))
  | _, _, σ => σ
def tgV (K : PySem.W.Frag) (t : DT) : TG := match t with
  | .one i => gName i
  | .many is => fun v σ H Q => ∃ a vs, v = .ref a ∧ SqT K H a vs ∧ vs.length = is.length ∧ Q (setsV is vs σ) H
theorem pg_imp {e : Expr} {t t' : TG} (h : PG X e t) (hi : ∀ v σ H Q, t' v σ H Q → t v σ H Q) : PG X e t' := ⟨fun pins s σ H v u Q I r q => h.run pins s σ H v u Q I r (hi v σ H Q q)⟩
theorem pgs_imp {e : List Expr} {t t' : TGs} (h : PGs X e t) (hi : ∀ v σ H Q, t' v σ H Q → t v σ H Q) : PGs X e t' := ⟨fun pins s σ H v u Q I r q => h.run pins s σ H v u Q I r (hi v σ H Q q)⟩
/-- what the look says of targets, in a context -/
def ToOk (X : Cx) (y : Str) (i : Nat) : Prop := X.N[i]? = some y ∧ L2.Loc X.env.scope y ∧ (X.fn y = true ∨ X.env.scope.names.lookup y = some .local)
theorem pgs_names (hN : X.N.Nodup) : ∀ (es : List Expr) (is : List Nat), es.length = is.length → (∀ p ∈ es.zip is, ∃ y q, p.1 = .Name y q ∧ ToOk X y p.2) → PGs X es (fun vs σ H Q => vs.length = is.length ∧ Q (setsV is vs σ) H)
  | [], [], _, _ => pgs_imp pgs_nil fun v σ H Q ⟨h1, h2⟩ => by
    cases v with
    | nil => exact ⟨rfl, h2⟩
    | cons _ _ => simp at h1
  | [], _ :: _, h, _ => by simp at h
  | _ :: _, [], h, _ => by simp at h
  | e :: es, i :: is, h, hp => by
    obtain ⟨y, q, he, hy⟩ := hp (e, i) (by simp)
    simp only at he hy
    subst he
    refine pgs_imp (pgs_cons (pg_name hN hy.1 hy.2.1 hy.2.2) (pgs_names hN es is (by simpa using h) fun p hm => hp p (by simp [hm]))) fun v σ H Q ⟨h1, h2⟩ => ?_
    cases v with
    | nil => simp at h1
    | cons v vs => exact ⟨v, vs, rfl, by simpa using h1, h2⟩
end
end DI

end
section
set_option maxRecDepth 100000
set_option maxHeartbeats 4000000
/-! DI6: frames that change; comprehensions. -/
namespace DI
open PySem PySem.Spec PyProof.Rows L2

section
variable {c : Wc} {x : Xc} {W : WX} {rc : Calls} {R : Nat → Prop} {ρ : List Addr} {B : Addr → Prop} {H : Hp} {S : Sto} {X : Cx} {σd : List Slot} {σ : L2.St}
theorem get_set {α : Type} (l : List α) (i j : Nat) (a : α) : (l.set i a)[j]? = if i = j then (if i < l.length then some a else none) else l[j]? := by
  by_cases h : i = j
  · subst h
    rw [if_pos rfl]
    by_cases hl : i < l.length
    · rw [if_pos hl, List.getElem?_set_self hl]
    · rw [if_neg hl, List.getElem?_eq_none (by rw [List.length_set]; omega)]
  · rw [if_neg h, List.getElem?_set_ne h]
theorem FrOk.set (f : FrOk c R ρ B H σd σ) {d : D} {v : V} (r : Rep c ρ B H d v) (i : Nat) : FrOk c R ρ B H (setSlot σd i d) (σ.set i (some v)) := by
  unfold setSlot
  refine ⟨by simp [f.len], fun j e hj => ?_, fun j ds hj => ?_⟩
  · rw [get_set] at hj
    rw [get_set, ← f.len]
    by_cases h : i = j
    · rw [if_pos h] at hj ⊢
      by_cases hl : i < σd.length
      · rw [if_pos hl] at hj ⊢
        cases hj
        exact ⟨v, rfl, r⟩
      · rw [if_neg hl] at hj; cases hj
    · rw [if_neg h] at hj ⊢
      exact f.val j e hj
  · rw [get_set] at hj
    by_cases h : i = j
    · rw [if_pos h] at hj
      split at hj <;> cases hj
    · rw [if_neg h] at hj
      obtain ⟨a, vs, h1, h2⟩ := f.own j ds hj
      exact ⟨a, vs, by rw [get_set, if_neg h]; exact h1, h2⟩
theorem FrOk.sets : ∀ (is : List Nat) {ds : List D} {vs : List V} {σd : List Slot} {σ : L2.St}, FrOk c R ρ B H σd σ → RepA c ρ B H ds vs → FrOk c R ρ B H ((is.zip ds).foldl (fun σ p => setSlot σ p.1 p.2) σd) (setsV is vs σ)
  | [], ds, vs, _, _, f, r => by cases r <;> exact f
  | i :: is, _, _, _, _, f, .nil => f
  | i :: is, _, _, _, _, f, .cons r rr => FrOk.sets is (f.set r i) rr
theorem wipe_get (σ : L2.St) (j : Nat) : ∀ vs : List Nat, (wipe σ vs)[j]? = if j ∈ vs then (if j < σ.length then some none else none) else σ[j]?
  | [] => by simp [wipe]
  | v :: vs => by
    rw [wipe, get_set, wipe_get σ j vs, wipe_length]
    by_cases h : v = j
    · subst h; simp
    · rw [if_neg h]
      by_cases h2 : j ∈ vs
      · rw [if_pos h2, if_pos (List.mem_cons_of_mem _ h2)]
      · rw [if_neg h2, if_neg (by simp [h2, Ne.symm h])]
theorem wipeD_length (σ : List Slot) : ∀ vs : List Nat, (wipeD σ vs).length = σ.length
  | [] => rfl
  | v :: vs => by rw [wipeD, List.length_set, wipeD_length σ vs]
theorem wipeD_get (σ : List Slot) (j : Nat) : ∀ vs : List Nat, (wipeD σ vs)[j]? = if j ∈ vs then (if j < σ.length then some .no else none) else σ[j]?
  | [] => by simp [wipeD]
  | v :: vs => by
    rw [wipeD, get_set, wipeD_get σ j vs, wipeD_length]
    by_cases h : v = j
    · subst h; simp
    · rw [if_neg h]
      by_cases h2 : j ∈ vs
      · rw [if_pos h2, if_pos (List.mem_cons_of_mem _ h2)]
      · rw [if_neg h2, if_neg (by simp [h2, Ne.symm h])]
theorem FrOk.wipe (f : FrOk c R ρ B H σd σ) (vs : List Nat) : FrOk c R ρ B H (wipeD σd vs) (L2.wipe σ vs) := by
  refine ⟨by rw [wipeD_length, wipe_length, f.len], fun j e hj => ?_, fun j ds hj => ?_⟩
  · rw [wipeD_get] at hj
    rw [wipe_get]
    by_cases h : j ∈ vs
    · rw [if_pos h] at hj
      split at hj <;> cases hj
    · rw [if_neg h] at hj ⊢
      exact f.val j e hj
  · rw [wipeD_get] at hj
    by_cases h : j ∈ vs
    · rw [if_pos h] at hj
      split at hj <;> cases hj
    · rw [if_neg h] at hj
      obtain ⟨a, ws, h1, h2⟩ := f.own j ds hj
      exact ⟨a, ws, by rw [wipe_get, if_neg h]; exact h1, h2⟩
theorem wipe_set {i : Nat} {vs : List Nat} (h : i ∈ vs) (σ : L2.St) (v : Option V) : wipe (σ.set i v) vs = wipe σ vs := by
  apply List.ext_getElem?
  intro j
  rw [wipe_get, wipe_get, List.length_set, get_set]
  by_cases hj : j ∈ vs
  · rw [if_pos hj, if_pos hj]
  · rw [if_neg hj, if_neg hj, if_neg (fun e : i = j => hj (by rw [← e]; exact h))]
theorem wipe_sets {vs : List Nat} : ∀ (is : List Nat), (∀ i ∈ is, i ∈ vs) → ∀ (us : List V) (σ : L2.St), wipe (setsV is us σ) vs = wipe σ vs
  | [], _, us, σ => by unfold setsV; rfl
  | i :: is, h, [], σ => by unfold setsV; rfl
  | i :: is, h, u :: us, σ => by
    unfold setsV
    rw [wipe_sets is (fun j hj => h j (List.mem_cons_of_mem _ hj)), wipe_set (h i List.mem_cons_self)]
theorem wipe_wipe (σ : L2.St) (vs : List Nat) : wipe (wipe σ vs) vs = wipe σ vs := by
  apply List.ext_getElem?
  intro j
  rw [wipe_get, wipe_get, wipe_length]
  by_cases hj : j ∈ vs
  · rw [if_pos hj, if_pos hj]
  · rw [if_neg hj, if_neg hj]
/-- where all slots of a target are the block's own -/
def DT.within (t : DT) (vs : List Nat) : Prop := match t with
  | .one i => i ∈ vs
  | .many is => ∀ i ∈ is, i ∈ vs
/-- an item goes to a target -/
theorem tgt_ok {t : DT} {d : D} {v : V} {σd1 : List Slot} {Q : L2.St → Hp → Prop} (f : FrOk c R ρ B H σd σ) (s : StoOk c ρ B H S) (r : Rep c ρ B H d v) (e : setT t σd d = some σd1)
    (q : ∀ σ1, FrOk c R ρ B H σd1 σ1 → (∀ vs, t.within vs → wipe σ1 vs = wipe σ vs) → Q σ1 H) : tgV c.K t v σ H Q := by
  cases t with
  | one i =>
    cases e
    exact q _ (f.set r i) fun vs h => wipe_set h σ _
  | many is =>
    cases r <;> simp only [setT] at e <;> try (cases e; done)
    rename_i a ds us ha hx
    split at e
    · rename_i hl
      cases e
      exact ⟨_, _, rfl, sqT_of ha, by rw [← hx.length]; exact hl, q _ (f.sets is hx) fun vs h => wipe_sets is h us σ⟩
    · cases e

/-! ### a comprehension -/
def tIfs (c : Wc) (x : Xc) (W : WX) (rc : Calls) (d : DO) : TT := fun σ H Q => ∃ R ρ B σd S, Sees c R ρ B H σd σ S d.reads ∧
  okR ((evO rc d σd S).bind fun o S => (match o with
      | none => .ok true S
      | some x => ofO (truth x) S)) (fun k S' => ∀ H', Ext ρ H H' → StoOk c ρ B H' S' → Q k H') (ExcW c x W ρ B H σ)
theorem pts_D_none : PTs X [] (tIfs c x W rc .none) := ⟨fun pins s σ H Q I h => pts_nil.run pins s σ H Q I (by
  obtain ⟨R, ρ, B, σd, S, see, ok⟩ := h
  exact ok H (Ext.refl _ _) see.st)⟩
theorem pts_D_some {e : Expr} {d : DE} (h : PT X e (tT c x W rc d)) : PTs X [e] (tIfs c x W rc (.some d)) := ⟨fun pins s σ H Q I hq => (pts_one h).run pins s σ H Q I (by
  obtain ⟨R, ρ, B, σd, S, see, ok⟩ := hq
  refine ⟨R, ρ, B, σd, S, see, ?_⟩
  rw [evO, okR_bind, okR_bind] at ok
  rw [okR_bind]
  exact okR_mono ok (fun a S1 ok => ok) fun _ _ _ h => h)⟩
/-- no exception may leave a block -/
abbrev W0 : WX := fun _ _ _ _ => False
theorem keep_at {H H1 : Hp} {D : Addr} {o : HO} (x : Ext ρ H H1) (hD : H D = some o) (n : D ∉ ρ) : H1 D = some o := x D o hD n
/-- one more address that is not read by value -/
def orB (B : Addr → Prop) (p : Addr) : Addr → Prop := fun a => B a ∨ a = p
theorem ne_p {H : Hp} {p a : Addr} {o : HO} (n : H p = none) (e : H a = some o) : a ≠ p := fun z => by rw [z, n] at e; cases e
theorem RepA.orB {H1 : Hp} {p : Addr} {o : HO} (n : H p = none) {ds : List D} {vs : List V} (r : RepA c ρ B H ds vs) : RepA c ρ (orB B p) (upd H p o) ds vs :=
  RepA.imp (fun a u e nb => ⟨by rw [upd_ne (ne_p n e)]; exact e, fun z => z.elim nb (ne_p n e)⟩) (fun _ _ e => e) ds vs r
theorem Rep.orB {p : Addr} {o : HO} (n : H p = none) {d : D} {v : V} (r : Rep c ρ B H d v) : Rep c ρ (orB B p) (upd H p o) d v :=
  Rep.imp (fun a u e nb => ⟨by rw [upd_ne (ne_p n e)]; exact e, fun z => z.elim nb (ne_p n e)⟩) (fun _ _ e => e) d v r
theorem StoOk.orB (s : StoOk c ρ B H S) {p : Addr} {o : HO} (n : H p = none) : StoOk c ρ (orB B p) (upd H p o) S := by
  refine ⟨s.len, fun k ds e => ?_, fun a h => .inl (s.rB a h), s.nd, fun a b z => ?_, s.pl⟩
  · obtain ⟨a, vs, h1, h2, h3⟩ := s.at_ k ds e
    exact ⟨a, vs, h1, by rw [upd_ne (ne_p n h2)]; exact h2, RepA.orB (H1 := H) n h3⟩
  · by_cases h : a = p
    · subst h; rw [upd_same] at z; cases z
    · rw [upd_ne h] at z
      exact b.elim (fun b => s.bH a b z) h
theorem FrOk.orB (f : FrOk c R ρ B H σd σ) {p : Addr} {o : HO} (n : H p = none) : FrOk c R ρ (orB B p) (upd H p o) σd σ := by
  refine ⟨f.len, fun i d e => ?_, fun i ds e => ?_⟩
  · obtain ⟨v, h1, h2⟩ := f.val i d e
    exact ⟨v, h1, h2.orB n⟩
  · obtain ⟨a, vs, h1, h2, h3, h4, h5⟩ := f.own i ds e
    exact ⟨a, vs, h1, h2, fun r z => z.elim (h3 r) (ne_p n h4), by rw [upd_ne (ne_p n h4)]; exact h4, RepA.orB (H1 := H) n h5⟩
/-- a store at an address that is not read by value -/
theorem Rep.at_p {p : Addr} {o : HO} (b : B p) {d : D} {v : V} (r : Rep c ρ B H d v) : Rep c ρ B (upd H p o) d v :=
  Rep.imp (fun a u e nb => ⟨by rw [upd_ne (fun z => nb (by rw [z]; exact b))]; exact e, nb⟩) (fun _ _ e => e) d v r
theorem RepA.at_p {p : Addr} {o : HO} (b : B p) {d : List D} {v : List V} (r : RepA c ρ B H d v) : RepA c ρ B (upd H p o) d v :=
  RepA.imp (fun a u e nb => ⟨by rw [upd_ne (fun z => nb (by rw [z]; exact b))]; exact e, nb⟩) (fun _ _ e => e) d v r
theorem StoOk.at_p (s : StoOk c ρ B H S) {p : Addr} {o : HO} (b : B p) (n : p ∉ ρ) : StoOk c ρ B (upd H p o) S := by
  refine ⟨s.len, fun k ds e => ?_, s.rB, s.nd, fun a h z => ?_, s.pl⟩
  · obtain ⟨a, vs, h1, h2, h3⟩ := s.at_ k ds e
    exact ⟨a, vs, h1, by rw [upd_ne (fun z => n (by rw [← z]; exact List.mem_of_getElem? h1))]; exact h2, h3.at_p b⟩
  · by_cases q : a = p
    · subst q; rw [upd_same] at z; cases z
    · rw [upd_ne q] at z; exact s.bH a h z
theorem StoOk.weak {B' : Addr → Prop} (s : StoOk c ρ B H S) (h : ∀ a, B' a → B a) (hr : ∀ a, a ∈ ρ → B' a) : StoOk c ρ B' H S :=
  ⟨s.len, fun k ds e => by
    obtain ⟨a, vs, h1, h2, h3⟩ := s.at_ k ds e
    exact ⟨a, vs, h1, h2, h3.weak h⟩, hr, s.nd, fun a b => s.bH a (h a b), s.pl⟩
theorem StoOk.same {H' : Hp} (s : StoOk c ρ B H S) (sm : Same H H') : StoOk c ρ B H' S :=
  ⟨s.len, fun n ds e => by
    obtain ⟨a, ws, h1, h2, h3⟩ := s.at_ n ds e
    exact ⟨a, ws, h1, sm _ _ h2, h3.ext s fun a o e _ => sm a o e⟩, s.rB, s.nd, fun a b z => (by
    cases e : H a with
    | none => exact s.bH a b e
    | some o => rw [sm a o e] at z; cases z), s.pl⟩
theorem tLc_ok {t : DT} {src : DIt} {ifs : DO} {elt : DE} {vs : List Nat} (hw : t.within vs) {Q : VK} (q : tE c x W rc (.lc vs t src ifs elt) σ H Q) :
    tLc (tI c x W rc src) (tgV c.K t) (tIfs c x W0 rc ifs) (tE c x W0 rc elt) vs σ H Q := by
  obtain ⟨R, ρ, B, σd, S, see, ok⟩ := q
  refine ⟨R, ρ, B, σd, S, see.less fun i hi => List.mem_append_left _ hi, ?_⟩
  rw [evE, okR_bind] at ok
  refine okR_mono ok (fun ds S1 ok J H1 x1 s1 it Dn hD => ?_) fun _ _ _ h => h
  have nB : ¬ B Dn := s1.notB hD
  have nρ : Dn ∉ ρ := fun z => nB (s1.rB _ z)
  have hDs : H Dn = none := by
    cases e : H Dn with
    | none => rfl
    | some o => rw [x1 _ o e nρ] at hD; cases hD
  generalize hcond : (fun (σ : List Slot) (S : Sto) => (evO rc ifs σ S).bind fun o S => (match o with
      | none => Res.ok true S
      | some x => ofO (truth x) S)) = cond at ok
  generalize helt : (fun (σ : List Slot) (S : Sto) => evE rc elt σ S) = el at ok
  obtain ⟨xs, S2, hrun, hfit, hq⟩ : ∃ xs S2, lcL t cond el (wipeD σd vs) ds S1 = .ok xs S2 ∧ fits xs.length = true ∧ ∀ v H', Ext ρ H H' → StoOk c ρ B H' S2 → Rep c ρ B H' (.lst xs) v → Fsh true H (.lst xs) v → Q v H' := by
    cases e : lcL t cond el (wipeD σd vs) ds S1 with
    | bad => rw [e] at ok; exact ok.elim
    | exc _ _ _ => rw [e] at ok; exact ok.elim
    | ok xs S2 =>
      rw [e] at ok
      obtain ⟨h1, h2⟩ := okR_ite.mp ok
      exact ⟨xs, S2, rfl, h1, h2⟩
  -- the frame ahead of the loop, the new list out of reach
  have fr1 : FrOk c R ρ (orB B Dn) (upd H1 Dn (.lst [])) σd σ := (see.fr.ext see.st x1).orB hD
  refine ⟨fun i m H' => m = ds.length - i ∧ i ≤ ds.length ∧ Ext ρ H1 H' ∧ ∃ S' acc vacc ys, StoOk c ρ (orB B Dn) H' S' ∧ FrOk c R ρ (orB B Dn) H' σd σ ∧ H' Dn = some (.lst vacc) ∧ RepA c ρ (orB B Dn) H' acc vacc ∧ lcL t cond el (wipeD σd vs) (ds.drop i) S' = .ok ys S2 ∧ acc ++ ys = xs,
    ⟨ds.length, by simp, Nat.zero_le _, Ext.new hD, S1, [], [], xs, s1.orB hD, fr1, upd_same, .nil, by simpa using hrun, rfl⟩, ?_⟩
  rintro i m H' ⟨rfl, hi, ex, S', acc, vacc, ys, sk, fk, hacc, racc, hr, happ⟩
  have hk := it i H' ρ (orB B Dn) (fun a o e n => ⟨ex a o e fun z => n (s1.rB a z), fun z => z.elim n (ne_p hD e)⟩) (fun _ _ e => e)
  by_cases hlt : i < ds.length
  · obtain ⟨hgo, hy⟩ := hk.1 hlt
    refine .inr ⟨hgo, fun H'' => Ext ρ H1 H'' ∧ ∃ S' acc vacc ys, StoOk c ρ (orB B Dn) H'' S' ∧ FrOk c R ρ (orB B Dn) H'' σd σ ∧ H'' Dn = some (.lst vacc) ∧ RepA c ρ (orB B Dn) H'' acc vacc ∧ lcL t cond el (wipeD σd vs) (ds.drop (i + 1)) S' = .ok ys S2 ∧ acc ++ ys = xs, fun H'' ⟨a1, a2⟩ => ⟨ds.length - (i + 1), by omega, rfl, hlt, a1, a2⟩, fun v H2 y => ?_⟩
    obtain ⟨sm, d, hd, rd⟩ := hy v H2 y
    have rd := rd S' sk
    rw [List.drop_eq_getElem_cons hlt] at hr
    have hd' : ds[i] = d := by rw [List.getElem?_eq_getElem hlt] at hd; exact Option.some.inj hd
    rw [hd'] at hr
    unfold lcL at hr
    obtain ⟨σ1, S3, e1, hr1⟩ := bind_ok hr
    clear hr
    obtain ⟨e1x, hS⟩ := ofO_ok e1
    clear e1
    subst hS
    obtain ⟨b, S4, e2, hr⟩ := bind_ok hr1
    clear hr1
    have x2 : Ext ρ H' H2 := fun a o e _ => sm a o e
    have s2 := sk.same sm
    have f2 := fk.ext sk x2
    refine tgt_ok (f2.wipe vs) s2 rd e1x fun σ2 f3 hws => ⟨by rw [hws vs hw, wipe_wipe], ?_⟩
    refine ⟨R, ρ, orB B Dn, σ1, S3, ⟨f3, s2, fun j hj => see.rd j (List.mem_append_right _ (List.mem_append_left _ hj))⟩, ?_⟩
    have e2' : cond σ1 S3 = .ok b S4 := e2
    rw [← hcond] at e2'
    dsimp only at e2'
    rw [e2']
    intro H3 x3 s3
    cases b with
    | false =>
      rw [if_neg Bool.false_ne_true] at hr ⊢
      exact ⟨(ex.trans x2).trans x3, S4, acc, vacc, ys, s3, f2.ext s2 x3, keep_at (x2.trans x3) hacc nρ, racc.ext sk (x2.trans x3), hr, happ⟩
    | true =>
      rw [if_pos rfl] at hr ⊢
      obtain ⟨z, S5, e3, hr⟩ := bind_ok hr
      obtain ⟨zs, S6, e4, hr⟩ := bind_ok hr
      cases hr
      refine ⟨R, ρ, orB B Dn, σ1, S4, ⟨f3.ext s2 x3, s3, fun j hj => see.rd j (List.mem_append_right _ (List.mem_append_right _ hj))⟩, ?_⟩
      have e3' : evE rc elt σ1 S4 = .ok z S5 := by rw [← helt] at e3; exact e3
      rw [e3']
      intro w H4 x4 s4 r4 _
      have xx := (x2.trans x3).trans x4
      have h4 := keep_at xx hacc nρ
      have racc4 := racc.ext sk xx
      have lacc := racc.length
      have lf := fits_le hfit
      rw [← happ, List.length_append, List.length_cons] at lf
      have bD : orB B Dn Dn := .inr rfl
      have f4 := fk.ext sk xx
      refine ⟨vacc, h4, by omega, fun a o e na => ?_, S5, acc ++ [z], vacc ++ [w], zs, s4.at_p bD nρ, ?_, upd_same, (racc4.append (.one r4)).at_p bD, e4, by rw [List.append_assoc]; exact happ⟩
      · rw [upd_ne (ne_p hD e)]
        exact (ex.trans xx) a o e na
      · refine ⟨f4.len, fun i d e => ?_, fun i ds e => ?_⟩
        · obtain ⟨v, h1, h2⟩ := f4.val i d e
          exact ⟨v, h1, h2.at_p bD⟩
        · obtain ⟨a, vs, h1, h2, h3, h4', h5⟩ := f4.own i ds e
          obtain ⟨a', vs', g1, g2, g3, g4, g5⟩ := see.fr.own i ds e
          rw [h1] at g1; cases g1
          have ha := x1 _ _ g4 g2
          refine ⟨a, vs, h1, h2, h3, ?_, h5.at_p bD⟩
          rw [upd_ne (ne_p hD ha)]; exact h4'
  · have e : i = ds.length := by omega
    refine .inl ⟨hk.2 e, ?_⟩
    subst e
    rw [List.drop_length] at hr
    unfold lcL at hr
    cases hr
    rw [List.append_nil] at happ
    subst happ
    exact hq _ H' (x1.trans ex) (sk.weak (fun a h => .inl h) s1.rB) (.lst hacc nB (racc.weak fun a h => .inl h)) (fsh_new hDs)
end
end DI

end
section
set_option maxRecDepth 100000
set_option maxHeartbeats 4000000
/-! DI7: slices backwards; isinstance; calls of what an expression gives. -/
namespace DI
open PySem PySem.Spec PyProof.Rows L2

/-! ### backwards -/
theorem adjust_back (lo : Option Int) (n : Nat) : Builtin.Slice.sliceAdjust lo none (-1) (n : Int) = ((backIx n lo : Int) - 1, -1) := by
  unfold Builtin.Slice.sliceAdjust backIx
  have h1 : ((-1 : Int) < 0) := by decide
  cases lo with
  | none => simp only [h1, if_true]
  | some i =>
    simp only [h1, if_true, Prod.mk.injEq, and_true]
    by_cases h : i < 0
    · rw [if_pos h, if_pos h]; omega
    · rw [if_neg h, if_neg h]; omega
theorem places_back (k : Nat) : Builtin.Slice.slicePlaces ((k : Int) - 1) (-1) (-1) = k := by
  unfold Builtin.Slice.slicePlaces
  have h1 : ¬ ((-1 : Int) > 0) := by decide
  rw [if_neg h1]
  by_cases h : (k : Int) - 1 > -1
  · rw [if_pos h]
    show (((k : Int) - 1 - -1 - 1) / (- -1) + 1).toNat = k
    have : (- -1 : Int) = 1 := by decide
    rw [this, Int.ediv_one]; omega
  · rw [if_neg h]; omega
theorem backIx_le' (n : Nat) (lo : Option Int) : backIx n lo ≤ n := by
  unfold backIx
  cases lo with
  | none => exact Nat.le_refl _
  | some i =>
    by_cases h : i < 0
    · show (if i < 0 then _ else _) ≤ n
      rw [if_pos h]; omega
    · show (if i < 0 then _ else _) ≤ n
      rw [if_neg h]; exact Nat.min_le_right _ _
theorem filterMap_back (xs : List Value) : ∀ k, k ≤ xs.length → (List.range k).filterMap (fun m => xs[k - 1 - m]?) = (xs.take k).reverse := by
  intro k hk
  apply List.ext_getElem?
  intro j
  have hall : ∀ m ∈ List.range k, (fun m => xs[k - 1 - m]?) m = some ((fun m => xs.getD (k - 1 - m) .none) m) := by
    intro m hm
    have hm := List.mem_range.mp hm
    show xs[k - 1 - m]? = some (xs.getD (k - 1 - m) .none)
    rw [List.getElem?_eq_getElem (by omega), List.getD_eq_getElem?_getD, List.getElem?_eq_getElem (by omega)]; rfl
  have e : (List.range k).filterMap (fun m => xs[k - 1 - m]?) = (List.range k).map (fun m => xs.getD (k - 1 - m) .none) := by
    clear hk
    revert hall
    generalize List.range k = l
    intro hall
    induction l with
    | nil => rfl
    | cons a l ih =>
      have h0 : xs[k - 1 - a]? = some (xs.getD (k - 1 - a) .none) := hall a List.mem_cons_self
      rw [List.filterMap_cons, h0]
      show _ :: _ = _ :: _
      rw [ih fun m hm => hall m (List.mem_cons_of_mem _ hm)]
  rw [e]
  by_cases hj : j < k
  · rw [List.getElem?_map, List.getElem?_range hj, List.getElem?_reverse (by rw [List.length_take]; omega), List.length_take, Nat.min_eq_left hk, List.getElem?_take_of_lt (by omega)]
    show some (xs.getD (k - 1 - j) .none) = _
    rw [List.getD_eq_getElem?_getD, List.getElem?_eq_getElem (by omega)]; rfl
  · rw [List.getElem?_eq_none (by simp; omega), List.getElem?_eq_none (by simp; omega)]
theorem pick_back (xs : Array Value) (k : Nat) (hk : k ≤ xs.size) : ((List.range k).filterMap fun (m : Nat) => xs[((k : Int) - 1 + (m : Int) * -1).toNat]?).toArray = ((xs.toList.take k).reverse).toArray := by
  rw [← filterMap_back xs.toList k (by simpa using hk)]
  congr 1
  have : ∀ l : List Nat, (∀ m ∈ l, m < k) → l.filterMap (fun (m : Nat) => xs[((k : Int) - 1 + (m : Int) * -1).toNat]?) = l.filterMap fun m => xs.toList[k - 1 - m]? := by
    intro l hl
    induction l with
    | nil => rfl
    | cons a l ih =>
      have ha := hl a List.mem_cons_self
      rw [List.filterMap_cons, List.filterMap_cons, ih fun m hm => hl m (List.mem_cons_of_mem _ hm)]
      have e : ((k : Int) - 1 + (a : Int) * -1).toNat = k - 1 - a := by omega
      rw [e, Array.getElem?_toList]
  exact this _ fun m hm => List.mem_range.mp hm
section
variable {prog : Program} {w : World} {A : Around} {E : Value → Shared → Prop} {s : Shared}
theorem applied_back {sl : Addr} {vl vs : Value} {lo : Option Int} {n : Nat} {Q : Int × Int × Nat → Shared → Prop} (hs : s.heap.IsSliceOf sl vl .none vs) (pl : IsPart vl lo) (ps : IsPart vs (some (-1)))
    (h : Q ((backIx n lo : Int) - 1, -1, backIx n lo) s) : wpAny (model prog w) A (Builtin.Slice.sliceApplied (.ref sl) (pure (n : Int))) Q E s := by
  obtain ⟨os, hos, hcs, hds⟩ := id hs
  unfold Builtin.Slice.sliceApplied Builtin.Slice.sliceFields
  refine wpAny_bind (wpAny_bind (wpAny_field hos hds (x := vl) rfl (wpAny_bind (wpAny_field hos hds (x := .none) rfl (wpAny_bind (wpAny_field hos hds (x := vs) rfl (wpAny_pure ?_)))))))
  refine wpAny_bind (HT.slicePart_ ps ?_)
  show wpAny _ _ (if ((-1 : Int) == 0) = true then _ else _) _ _ s
  rw [if_neg (by decide)]
  refine wpAny_bind (HT.slicePart_ pl (wpAny_bind (slicePart_none (wpAny_bind (wpAny_pure ?_)))))
  show wpAny _ _ (match Builtin.Slice.sliceAdjust lo none (-1) (n : Int) with | (lo, hi) => pure (lo, (-1 : Int), Builtin.Slice.slicePlaces lo hi (-1))) _ _ s
  rw [adjust_back lo n]
  show wpAny _ _ (pure ((backIx n lo : Int) - 1, (-1 : Int), Builtin.Slice.slicePlaces ((backIx n lo : Int) - 1) (-1) (-1))) _ _ s
  rw [places_back]
  exact wpAny_pure h
theorem getItem_tuple_back {t sl : Addr} {items : Array Value} {vl vs : Value} {lo : Option Int} {Q : Value → Shared → Prop} (ht : IsTup s.heap t items) (hs : s.heap.IsSliceOf sl vl .none vs) (pl : IsPart vl lo) (ps : IsPart vs (some (-1)))
    (h : Q (.ref s.heap.objs.size) { s with heap := s.heap.push { cls := .type "tuple", data := .seq ((items.toList.take (backIx items.size lo)).reverse).toArray } })
    (hsz : items.size ≤ sizeLine) : wpAny (model prog w) A (getItem (.ref t) (.ref sl)) Q E s := by
  have htake : sizeOk (.seq ((items.toList.take (backIx items.size lo)).reverse).toArray) := by
    show ((items.toList.take (backIx items.size lo)).reverse).toArray.size ≤ sizeLine
    rw [List.size_toArray, List.length_reverse, List.length_take, Array.length_toList]
    omega
  have hTs : s.TypeIs (.ref sl) "slice" := by
    obtain ⟨os, hos, hcs, _⟩ := hs
    exact ⟨os, hos, hcs⟩
  unfold getItem
  try with_reducible refine wpAny_holding ?_
  first | refine wpAny_bind (wpAny_pure ?_) | skip
  refine wpAny_bind (wpAny_sequenceKey ht.typeIs (by decide) ?_)
  refine wpAny_bind (wpAny_callSpecial?_slot (name := Str.ofString "__getitem__") ht.typeIs PyProof.Rows.slot_tuple_getitem
    (wpAny_call_entry PyProof.Rows.slot_tuple_getitem ht.typeIs entry_tuple_getitem ?_ (args_tuple_getitem _ _)))
  show wpAny _ _ (Builtin.Tuple.tupleItemsOf (.ref t) >>= _) _ _ s
  refine wpAny_bind (tupleItemsOf_ ht ?_)
  refine wpAny_bind (wpAny_typeOf hTs ?_)
  rw [if_pos (by decide)]
  refine wpAny_bind (applied_back hs pl ps ?_)
  have hno : ¬ ((((backIx items.size lo : Int) - 1) == 0 && (-1 : Int) == 1 && (backIx items.size lo) == items.size) = true) := by
    intro q
    rw [Bool.and_eq_true, Bool.and_eq_true] at q
    have q1 : ((-1 : Int) == 1) = true := q.1.2
    exact absurd q1 (by decide)
  show wpAny _ _ (if (((backIx items.size lo : Int) - 1) == 0 && (-1 : Int) == 1 && (backIx items.size lo) == items.size) = true then _ else _) _ _ s
  rw [if_neg hno, pick_back _ _ (backIx_le' _ _)]
  first
    | exact wpAny_bind (m := Builtin.Tuple.tupleExact _) (wpAny_newObj_type (wpAny_pure ⟨_, rfl, wpAny_pure h⟩) htake)
    | exact wpAny_bind (m := Builtin.Tuple.tupleExact _) (wpAny_newObj_type (wpAny_bind (wpAny_pure (wpAny_pure ⟨_, rfl, wpAny_pure h⟩))) htake)
    | exact wpAny_bind (wpAny_bind (m := Builtin.Tuple.tupleExact _) (wpAny_newObj_type (wpAny_pure (wpAny_pure ⟨_, rfl, wpAny_pure h⟩)) htake))
    | exact wpAny_bind (wpAny_bind (m := Builtin.Tuple.tupleExact _) (wpAny_newObj_type (wpAny_pure ⟨_, rfl, wpAny_pure h⟩) htake))
end
section
variable {X : Cx} {pos p1 p2 p3 : Pos}
/-- a[lo::-1] -/
def tBack (K : PySem.W.Frag) (te : TE) (tl : TO) : TE := fun σ H Q => te σ H fun x H1 => tl σ H1 fun lo H2 => ∃ a xs, x = .ref a ∧
  ((SqT K H2 a xs ∧ ∀ p, H2 p = none → Q (.ref p) (upd H2 p (.tup ((xs.take (backIx xs.length lo)).reverse)))) ∨ (lo = none ∧ SqL K H2 a xs ∧ ∀ p, H2 p = none → Q (.ref p) (upd H2 p (.lst xs.reverse))))
theorem pe_back {e : Expr} {lo : Option Expr} {k : Nat} {te : TE} {tl : TO} (he : PE X e te) (hl : PO X lo tl) : PE X (.Subscript e (.Slice lo none (some (.UnaryOp .USub (.Constant (.int 1) k p1) p2)) p3) pos) (tBack X.K te tl) := by
  refine ⟨fun pins s σ H Q I h => ?_⟩
  refine Subscript_ (thn (he.run pins s σ H _ I h) fun v s1 ⟨x, H1, I1, r1, q1⟩ => ?_)
  have hst : PO X (some (.UnaryOp .USub (.Constant (.int 1) k p1) p2)) (tPart (tUn (rU fun i => .int (-i)) (tC (.int 1)))) := po_some (pe_un un_neg pe_int)
  refine wpAny_Slice (thn (hl.run pins s1 σ H1 _ I1 q1) fun vl s2 ⟨lo', H2, I2, pl, a, xs, ex, q⟩ => ?_)
  subst ex
  cases r1
  refine thn (po_none.run pins s2 σ H2 (fun o H3 => o = none ∧ H3 = H2) I2 ⟨rfl, rfl⟩) fun vu s3 ⟨u, H3, I3, pu, eu, e3⟩ => ?_
  subst eu e3
  cases pu
  refine thn (hst.run pins s3 σ H3 (fun o H4 => o = some (-1) ∧ H4 = H3) I3 ⟨1, rfl, -1, rfl, rfl, rfl⟩) fun vs s4 ⟨o, H4, I4, ps, eo, e4⟩ => ?_
  subst eo e4
  have I5 : Inv X pins σ H4 { s4 with heap := s4.heap.push { cls := .type "slice", data := .fields #[vl, .none, vs] } } := I4.kept (t' := s4.toks) fun b ob q => Heap.get?_push_of_some _ q
  rcases q with ⟨hx, q⟩ | ⟨rfl, hx, q⟩
  · obtain ⟨its, r, ht, hz⟩ := I5.tuple hx
    have hlen := r.length
    have hsz : its.toArray.size = xs.length := by rw [List.size_toArray]; exact hlen.symm
    show wpAny (model X.prog X.w) X.A (subscriptTail e (.Slice lo none (some (.UnaryOp .USub (.Constant (.int 1) k p1) p2)) p3) (.ref a) (.ref s4.heap.objs.size)) (EP X pins σ Q) X.xe { s4 with heap := s4.heap.push { cls := .type "slice", data := .fields #[vl, .none, vs] } }
    refine tail_any (ops := [.ref a, .ref s4.heap.objs.size]) ht.typeIs (PyProof.Rows.slot_tuple_getitem.lookup) ?_ (by with_unfolding_all rfl)
    refine getItem_tuple_back ht (Heap.IsSliceOf.new _ vl .none vs) pl ps ?_ (by rw [hsz]; exact hz)
    rw [hsz]
    refine ⟨.ref _, _, I5.laid (t' := s4.toks) (o := .tup ((xs.take (backIx xs.length lo')).reverse)) (fun b ob q => Heap.get?_push_of_some _ q) (Nat.le_refl _) ?_, rfl, q _ (I5.hok.fresh (Nat.le_refl _))⟩
    refine ⟨by rw [List.length_reverse, List.length_take]; omega, (its.take (backIx xs.length lo')).reverse, (r.take _).reverse, ?_⟩
    exact IsTup.new _ _
  · obtain ⟨its, r, ht, hz⟩ := I5.list hx
    have hlen := r.length
    cases pl
    show wpAny (model X.prog X.w) X.A (subscriptTail e (.Slice lo none (some (.UnaryOp .USub (.Constant (.int 1) k p1) p2)) p3) (.ref a) (.ref s4.heap.objs.size)) (EP X pins σ Q) X.xe { s4 with heap := s4.heap.push { cls := .type "slice", data := .fields #[.none, .none, vs] } }
    refine tail_any (ops := [.ref a, .ref s4.heap.objs.size]) ht.isList.typeIs (PySem.slot_list_getitem.lookup) ?_ (by with_unfolding_all rfl)
    refine wpAny_getItem_list_slice ht.isList (Heap.IsSliceOf.new _ .none .none vs) .none .none ps (by decide) ?_ (by rw [List.size_toArray]; omega)
    rw [PySem.W.krv_pick]
    refine ⟨.ref _, _, I5.laid (t' := s4.toks) (o := .lst xs.reverse) (fun b ob q => Heap.get?_push_of_some _ q) (Nat.le_refl _) ?_, rfl, q _ (I5.hok.fresh (Nat.le_refl _))⟩
    exact ⟨by rw [List.length_reverse]; exact hz, _, 0, r.reverse, Heap.get?_push_size _ rfl⟩
end
section
variable {c : Wc} {x : Xc} {W : WX} {rc : Calls} {R : Nat → Prop} {ρ : List Addr} {B : Addr → Prop} {H : Hp} {S : Sto} {X : Cx} {σd : List Slot} {σ : L2.St}
theorem pe_slcRD {a : Expr} {lo : Option Expr} {da : DE} {dl : DO} {k : Nat} {p1 p2 p3 pos : Pos} (hK : X.K = c.K) (ha : PE X a (tE c x W rc da)) (hl : PO X lo (tO c x W rc dl)) :
    PE X (.Subscript a (.Slice lo none (some (.UnaryOp .USub (.Constant (.int 1) k p1) p2)) p3) pos) (tE c x W rc (.slcR da dl)) := pe_imp (pe_back ha hl) fun σ H Q h => by
  obtain ⟨R, ρ, B, σd, S, see, ok⟩ := h
  refine ⟨R, ρ, B, σd, S, see.less fun i hi => List.mem_append_left _ hi, ?_⟩
  rw [evE, okR_bind] at ok
  refine okR_mono ok (fun a1 S1 ok v H1 x1 s1 r1 _ => ?_) fun _ _ _ h => h
  refine ⟨R, ρ, B, σd, S1, see.ext x1 s1 fun i hi => List.mem_append_right _ hi, ?_⟩
  rw [okR_bind] at ok ⊢
  refine okR_mono ok (fun l S2 ok => ?_) fun _ _ _ h => h.after x1
  rw [okR_bind] at ok
  refine okR_mono ok (fun l S2 ok H2 x2 s2 => ?_) fun _ _ _ h => h.after x1
  rw [okR_ofO] at ok
  obtain ⟨d, e, q⟩ := ok
  have r2 := r1.ext s1 x2
  rw [hK]
  clear r1
  cases r2 with
  | tup ha hx =>
    cases e
    refine ⟨_, _, rfl, .inl ⟨sqT_of ha, fun p n => q _ _ ((x1.trans x2).trans (Ext.new n)) (s2.new n) ?_ (fsh_not rfl)⟩⟩
    rw [← hx.length]
    exact newTup s2 n (hx.take _).rev
  | lst ha hn hx =>
    cases l with
    | some _ => cases e
    | none =>
      cases e
      exact ⟨_, _, rfl, .inr ⟨rfl, SqL.of ha, fun p n => q _ _ ((x1.trans x2).trans (Ext.new n)) (s2.new n) (newLst s2 n hx.rev) fun k => nomatch k⟩⟩
  | _ => cases e

/-! ### isinstance -/
theorem tyx_of {a : D} {v : V} (r : Rep c ρ B H a v) {t : Ty} {k : Bool} (e : isTy t a = some k) : ∃ T, TyX c.K H v (.type T) ∧ PySem.W.kitOne c.K (.type T) (.type (tyName t)) = some k := by
  cases r <;> simp only [isTy] at e <;> try (cases e; done)
  · cases e
    refine ⟨"NoneType", .base .non, ?_⟩
    cases t <;> exact kit_ty (by decide +kernel)
  · cases e
    refine ⟨"bool", .base (.bl _), ?_⟩
    cases t <;> exact kit_ty (by decide +kernel)
  · cases e
    refine ⟨"int", .base (.int _), ?_⟩
    cases t <;> exact kit_ty (by decide +kernel)
  · cases e
    refine ⟨"str", .base (.str _), ?_⟩
    cases t <;> exact kit_ty (by decide +kernel)
  · cases e
    rename_i a1 ds us ha hx
    refine ⟨"tuple", ?_, ?_⟩
    · rcases ha with ⟨ha, _⟩ | ⟨o, its, n, h1, h2, _⟩
      · exact .base (.tup ha)
      · exact .kTuple h1 h2
    · cases t <;> exact kit_ty (by decide +kernel)
  · cases e
    rename_i a1 ds us ha hn hx
    refine ⟨"list", .base (.lst ha), ?_⟩
    cases t <;> exact kit_ty (by decide +kernel)
end
end DI

end
section
set_option maxRecDepth 100000
set_option maxHeartbeats 4000000
/-! DZ: zip of lists and tuples, mixed. -/
namespace DI
open PySem PySem.Spec PyProof.Rows L2 RZ
open PySem.Sem (wp)

/-- a list's or a tuple's iterator; a list, a tuple -/
def IterS (t : Bool) (h : Heap) (it l : Addr) (i : Nat) : Prop := if t = true then h.IsTupleIter it l i else h.IsListIter it l i
def SeqS (t : Bool) (h : Heap) (l : Addr) (items : Array Value) : Prop := if t = true then h.IsTuple l items else h.IsList l items
def itCls (t : Bool) : String := if t = true then "tuple_iterator" else "list_iterator"
theorem IterS.extBut {t : Bool} {h h' : Heap} {a b l : Addr} {i : Nat} (x : IterS t h a l i) (hs : Heap.ExtBut b h h') (hab : a ≠ b) : IterS t h' a l i := by
  cases t with
  | true => exact Heap.IsTupleIter.extBut (show h.IsTupleIter a l i from x) hs hab
  | false => exact Heap.IsListIter.extBut (show h.IsListIter a l i from x) hs hab
theorem SeqS.extBut {t : Bool} {h h' : Heap} {a b : Addr} {xs : Array Value} (x : SeqS t h a xs) (hs : Heap.ExtBut b h h') (hab : a ≠ b) : SeqS t h' a xs := by
  cases t with
  | true => exact Heap.IsTuple.extBut (show h.IsTuple a xs from x) hs hab
  | false => exact Heap.IsList.extBut (show h.IsList a xs from x) hs hab
theorem IterS.at {t : Bool} {h h' : Heap} {a l : Addr} {i : Nat} (x : IterS t h a l i) (e : ∀ o, h.get? a = some o → h'.get? a = some o) : IterS t h' a l i := by
  cases t with
  | true => exact Heap.IsTupleIter.at (show h.IsTupleIter a l i from x) e
  | false => exact Heap.IsListIter.at (show h.IsListIter a l i from x) e
theorem IterS.lt {t : Bool} {h : Heap} {a l : Addr} {i : Nat} (x : IterS t h a l i) : a < h.objs.size := by
  cases t with
  | true =>
    obtain ⟨_, e, _⟩ := (show h.IsTupleIter a l i from x)
    exact Heap.lt_size e
  | false =>
    obtain ⟨_, e, _⟩ := (show h.IsListIter a l i from x)
    exact Heap.lt_size e
theorem IterS.obj {t : Bool} {h : Heap} {a l : Addr} {i : Nat} (x : IterS t h a l i) : ∃ o, h.get? a = some o ∧ ∀ v, o.data ≠ .cell v := by
  cases t with
  | true =>
    obtain ⟨o, e, _, d⟩ := (show h.IsTupleIter a l i from x)
    exact ⟨o, e, fun v q => by rw [d] at q; cases q⟩
  | false =>
    obtain ⟨o, e, _, d⟩ := (show h.IsListIter a l i from x)
    exact ⟨o, e, fun v q => by rw [d] at q; cases q⟩
theorem SeqS.lt {t : Bool} {h : Heap} {a : Addr} {xs : Array Value} (x : SeqS t h a xs) : a < h.objs.size := by
  cases t with
  | true =>
    obtain ⟨_, e, _⟩ := (show h.IsTuple a xs from x)
    exact Heap.lt_size e
  | false =>
    obtain ⟨_, e, _⟩ := (show h.IsList a xs from x)
    exact Heap.lt_size e
theorem IterS.new {t : Bool} {h : Heap} {a l : Addr} (e : h.get? a = some { cls := .type (itCls t), data := .fields #[.ref l, .int 0 0] }) : IterS t h a l 0 := by
  cases t with
  | true => exact (⟨_, e, rfl, rfl⟩ : h.IsTupleIter a l 0)
  | false => exact (⟨_, e, rfl, rfl⟩ : h.IsListIter a l 0)
section
variable {prog : Program} {w : World} {A : Around} {E : Value → Shared → Prop} {s : Shared}
theorem next_itemS {t : Bool} {it l : Addr} {i : Nat} {items} {x : Value} {Q : Value → Shared → Prop} (hit : IterS t s.heap it l i)
    (hl : SeqS t s.heap l items) (hx : items[i]? = some x)
    (hQ : ∀ h', IterS t h' it l (i + 1) → Heap.SameBut it s.heap h' → Q x { s with heap := h' }) :
    wpAny (model prog w) A (Builtin.SmallTypes.nextOf (.ref it)) Q E s := by
  cases t with
  | true => exact nextOf_tuple_item hit hl hx hQ
  | false => exact wpAny_nextOf_list_item hit hl hx hQ
theorem next_endS {t : Bool} {it l : Addr} {i : Nat} {items} {Q : Value → Shared → Prop} (hh : A.handled = none)
    (hit : IterS t s.heap it l i) (hl : SeqS t s.heap l items) (hx : items[i]? = none)
    (hE : ∀ h' e, Heap.ExtBut it s.heap h' → (∃ o, h'.get? e = some o ∧ o.cls = .type "StopIteration") → E (.ref e) { s with heap := h' }) :
    wpAny (model prog w) A (Builtin.SmallTypes.nextOf (.ref it)) Q E s := by
  cases t with
  | true => exact nextOf_tuple_end hh hit hl hx hE
  | false => exact wpAny_nextOf_list_end hh hit hl hx hE
theorem zipS_next_item {t1 t2 : Bool} {z TI TO i1 i2 l1 l2 : Addr} {k1 k2 : Nat} {xs ys : Array Value} {x y a b : Value} {Q : Value → Shared → Prop} (D : ZipApart z TI TO i1 i2 l1 l2)
    (hz : IsZip s.heap z TI TO .none) (hTI : IsPair s.heap TI (.ref i1) (.ref i2)) (hTO : IsPair s.heap TO a b)
    (h1 : IterS t1 s.heap i1 l1 k1) (h2 : IterS t2 s.heap i2 l2 k2) (hl1 : SeqS t1 s.heap l1 xs) (hl2 : SeqS t2 s.heap l2 ys) (hx : xs[k1]? = some x) (hy : ys[k2]? = some y)
    (hQ : ∀ h', IsZip h' z TI TO (rawInt s.heap.objs.size) → IsPair h' TO x y → IterS t1 h' i1 l1 (k1 + 1) → IterS t2 h' i2 l2 (k2 + 1) → IsPair h' s.heap.objs.size x y → h'.objs.size = s.heap.objs.size + 1 →
      (∀ c o, c ≠ z → c ≠ TO → c ≠ i1 → c ≠ i2 → s.heap.get? c = some o → h'.get? c = some o) → Q (.ref s.heap.objs.size) { s with heap := h' }) :
    wpAny (model prog w) A (Builtin.«zip.__next__» ⟨[.ref z], []⟩) (fun fin s' => ∃ v, fin = .done (.ret v) ∧ Q v s') E s := by
  show wpAny _ _ (field (.ref z) 2 >>= _) _ _ _
  refine wpAny_bind (wpAny_field hz rfl (x := .bool false) rfl ?_)
  show wpAny _ _ (field (.ref z) 3 >>= _) _ _ _
  refine wpAny_bind (wpAny_field hz rfl (x := .ref TI) rfl ?_)
  refine wpAny_bind (wpAny_seqItems hTI rfl ?_)
  show wpAny _ _ (Builtin.SmallTypes.ownedTupleIsFree (.ref z) >>= _) _ _ _
  refine wpAny_bind ?_
  unfold Builtin.SmallTypes.ownedTupleIsFree
  refine wpAny_bind (wpAny_field hz rfl (x := .none) rfl (wpAny_pure ?_))
  simp only [if_true]
  refine wpAny_bind (wpAny_rule ?_)
  refine wpAny_bind (wpAny_field hz rfl (x := .ref TO) rfl ?_)
  refine wpAny_bind (wpAny_setField_rec hz (by simp) fun h₁ hz₁ hs₁ => ?_)
  replace hz₁ : IsZip h₁ z TI TO .ellipsis := hz₁
  refine wpAny_bind ?_
  simp only [List.zipIdx_cons, List.zipIdx_nil, List.forIn_cons, List.forIn_nil]

  refine wpAny_bind (wpAny_bind (wpAny_onRaise ?_))
  show wpAny _ _ (Builtin.SmallTypes.nextOf (.ref i1) >>= _) _ _ _
  refine wpAny_bind (next_itemS (h1.extBut hs₁.extBut D.i1z) (hl1.extBut hs₁.extBut D.l1z) hx fun h₂ h1₂ hs₂ => wpAny_pure ?_)
  have hTO₂ : IsPair h₂ TO a b := hs₂.extBut _ _ D.TOi1 (hs₁.extBut _ _ D.TOz hTO)
  refine wpAny_bind (wpAny_seqItems hTO₂ rfl ?_)
  refine wpAny_bind (wpAny_updateSeq_pair hTO₂ fun h₃ hTO₃ hs₃ => ?_)
  replace hTO₃ : IsPair h₃ TO x b := hTO₃
  refine wpAny_bind (wpAny_letGo (wpAny_pure ?_))

  refine wpAny_bind (wpAny_bind (wpAny_onRaise ?_))
  show wpAny _ _ (Builtin.SmallTypes.nextOf (.ref i2) >>= _) _ _ _
  refine wpAny_bind (next_itemS (((h2.extBut hs₁.extBut D.i2z).extBut hs₂.extBut D.i12.symm).extBut hs₃.extBut D.TOi2.symm)
    (((hl2.extBut hs₁.extBut D.l2z).extBut hs₂.extBut D.l2i1).extBut hs₃.extBut D.l2TO) hy fun h₄ h2₄ hs₄ => wpAny_pure ?_)
  have hTO₄ : IsPair h₄ TO x b := hs₄.extBut _ _ D.TOi2 hTO₃
  refine wpAny_bind (wpAny_seqItems hTO₄ rfl ?_)
  refine wpAny_bind (wpAny_updateSeq_pair hTO₄ fun h₅ hTO₅ hs₅ => ?_)
  replace hTO₅ : IsPair h₅ TO x y := hTO₅
  refine wpAny_bind (wpAny_letGo (wpAny_pure (wpAny_pure ?_)))

  refine wpAny_bind (wpAny_seqItems hTO₅ rfl ?_)
  refine wpAny_bind (wpAny_newTuple ?_)
  have hsz : h₅.objs.size = s.heap.objs.size := by rw [hs₅.1, hs₄.1, hs₃.1, hs₂.1, hs₁.1]
  have hz₅ : IsZip h₅ z TI TO .ellipsis := hs₅.extBut _ _ D.TOz.symm (hs₄.extBut _ _ D.i2z.symm (hs₃.extBut _ _ D.TOz.symm (hs₂.extBut _ _ D.i1z.symm hz₁)))
  have hk₅ : ∀ c o, c ≠ z → c ≠ TO → c ≠ i1 → c ≠ i2 → s.heap.get? c = some o → h₅.get? c = some o := fun c o c1 c2 c3 c4 e =>
    hs₅.extBut _ _ c2 (hs₄.extBut _ _ c4 (hs₃.extBut _ _ c2 (hs₂.extBut _ _ c3 (hs₁.extBut _ _ c1 e))))
  have h1₅ : IterS t1 h₅ i1 l1 (k1 + 1) := ((h1₂.extBut hs₃.extBut D.TOi1.symm).extBut hs₄.extBut D.i12).extBut hs₅.extBut D.TOi1.symm
  have h2₅ : IterS t2 h₅ i2 l2 (k2 + 1) := h2₄.extBut hs₅.extBut D.TOi2.symm
  have hzlt : z < h₅.objs.size := Heap.lt_size hz₅
  have hTOlt : TO < h₅.objs.size := Heap.lt_size hTO₅
  have hi1lt : i1 < h₅.objs.size := by exact h1₅.lt
  have hi2lt : i2 < h₅.objs.size := by exact h2₅.lt
  show wpAny _ _ (Builtin.SmallTypes.ownedTupleHandOut (.ref z) (.ref h₅.objs.size) >>= _) _ _ _
  refine wpAny_bind ?_
  unfold Builtin.SmallTypes.ownedTupleHandOut
  have hz₆ : IsZip (h₅.push { cls := .type "tuple", data := .seq #[x, y] }) z TI TO .ellipsis := Heap.get?_push_of_some _ hz₅
  refine wpAny_bind (wpAny_setField_rec hz₆ (by simp) fun h₇ hz₇ hs₇ => ?_)
  replace hz₇ : IsZip h₇ z TI TO (rawInt h₅.objs.size) := hz₇
  refine wpAny_setField_rec hz₇ (by simp) fun h₈ hz₈ hs₈ => ?_
  replace hz₈ : IsZip h₈ z TI TO (rawInt h₅.objs.size) := hz₈
  have up : ∀ c o, c ≠ z → h₅.get? c = some o → h₈.get? c = some o := fun c o c1 e => hs₈.extBut _ _ c1 (hs₇.extBut _ _ c1 (Heap.get?_push_of_some _ e))
  have hT₈ : IsPair h₈ h₅.objs.size x y := hs₈.extBut _ _ (Nat.ne_of_gt hzlt) (hs₇.extBut _ _ (Nat.ne_of_gt hzlt) (Heap.get?_push_size _ rfl))
  have hz8 : h₈.objs.size = h₅.objs.size + 1 := by rw [hs₈.1, hs₇.1, Heap.size_push]
  rw [hsz] at hz₈ hT₈ hz8
  refine wpAny_pure ⟨_, rfl, ?_⟩
  show Q (.ref h₅.objs.size) _
  rw [hsz]
  exact hQ h₈ hz₈ (up _ _ D.TOz hTO₅) (h1₅.at fun o e => up _ o D.i1z e) (h2₅.at fun o e => up _ o D.i2z e) hT₈ hz8 fun c o c1 c2 c3 c4 e => up c o c1 (hk₅ c o c1 c2 c3 c4 e)

theorem zipS_next_end {t1 t2 : Bool} {z TI TO i1 i2 l1 l2 : Addr} {k1 k2 : Nat} {xs ys : Array Value} {a b : Value} {Q : Fin → Shared → Prop} (hh : A.handled = none) (D : ZipApart z TI TO i1 i2 l1 l2)
    (hz : IsZip s.heap z TI TO .none) (hTI : IsPair s.heap TI (.ref i1) (.ref i2)) (hTO : IsPair s.heap TO a b)
    (h1 : IterS t1 s.heap i1 l1 k1) (h2 : IterS t2 s.heap i2 l2 k2) (hl1 : SeqS t1 s.heap l1 xs) (hl2 : SeqS t2 s.heap l2 ys) (hend : xs[k1]? = none ∨ ys[k2]? = none)
    (hE : ∀ h' e, (∀ c o, c ≠ z → c ≠ TO → c ≠ i1 → c ≠ i2 → s.heap.get? c = some o → h'.get? c = some o) → (∃ o, h'.get? e = some o ∧ o.cls = .type "StopIteration") → E (.ref e) { s with heap := h' }) :
    wpAny (model prog w) A (Builtin.«zip.__next__» ⟨[.ref z], []⟩) Q E s := by
  show wpAny _ _ (field (.ref z) 2 >>= _) _ _ _
  refine wpAny_bind (wpAny_field hz rfl (x := .bool false) rfl ?_)
  show wpAny _ _ (field (.ref z) 3 >>= _) _ _ _
  refine wpAny_bind (wpAny_field hz rfl (x := .ref TI) rfl ?_)
  refine wpAny_bind (wpAny_seqItems hTI rfl ?_)
  show wpAny _ _ (Builtin.SmallTypes.ownedTupleIsFree (.ref z) >>= _) _ _ _
  refine wpAny_bind ?_
  unfold Builtin.SmallTypes.ownedTupleIsFree
  refine wpAny_bind (wpAny_field hz rfl (x := .none) rfl (wpAny_pure ?_))
  simp only [if_true]
  refine wpAny_bind (wpAny_rule ?_)
  refine wpAny_bind (wpAny_field hz rfl (x := .ref TO) rfl ?_)
  refine wpAny_bind (wpAny_setField_rec hz (by simp) fun h₁ hz₁ hs₁ => ?_)
  replace hz₁ : IsZip h₁ z TI TO .ellipsis := hz₁
  refine wpAny_bind ?_
  simp only [List.zipIdx_cons, List.zipIdx_nil, List.forIn_cons, List.forIn_nil]
  refine wpAny_bind (wpAny_bind (wpAny_onRaise ?_))
  show wpAny _ _ (Builtin.SmallTypes.nextOf (.ref i1) >>= _) _ _ _
  cases hx : xs[k1]? with
  | none =>
    refine wpAny_bind (next_endS hh (h1.extBut hs₁.extBut D.i1z) (hl1.extBut hs₁.extBut D.l1z) hx fun h₂ e hs₂ he => ?_)
    obtain ⟨oe, hoe, hce⟩ := he
    have hz₂ : IsZip h₂ z TI TO .ellipsis := hs₂ _ _ D.i1z.symm hz₁
    have hez : e ≠ z := fun x => by subst x; rw [hz₂] at hoe; cases hoe; simp at hce
    refine wpAny_setField_rec hz₂ (by simp) fun h₃ _ hs₃ => hE h₃ e (fun c o c1 _ c3 _ x => hs₃.extBut _ _ c1 (hs₂ _ _ c3 (hs₁.extBut _ _ c1 x))) ⟨oe, hs₃.extBut _ _ hez hoe, hce⟩
  | some x =>
    have hy : ys[k2]? = none := by rcases hend with h | h; rw [hx] at h; cases h; exact h
    refine wpAny_bind (next_itemS (h1.extBut hs₁.extBut D.i1z) (hl1.extBut hs₁.extBut D.l1z) hx fun h₂ h1₂ hs₂ => wpAny_pure ?_)
    have hTO₂ : IsPair h₂ TO a b := hs₂.extBut _ _ D.TOi1 (hs₁.extBut _ _ D.TOz hTO)
    refine wpAny_bind (wpAny_seqItems hTO₂ rfl ?_)
    refine wpAny_bind (wpAny_updateSeq_pair hTO₂ fun h₃ hTO₃ hs₃ => ?_)
    refine wpAny_bind (wpAny_letGo (wpAny_pure ?_))
    refine wpAny_bind (wpAny_bind (wpAny_onRaise ?_))
    show wpAny _ _ (Builtin.SmallTypes.nextOf (.ref i2) >>= _) _ _ _
    refine wpAny_bind (next_endS hh (((h2.extBut hs₁.extBut D.i2z).extBut hs₂.extBut D.i12.symm).extBut hs₃.extBut D.TOi2.symm)
      (((hl2.extBut hs₁.extBut D.l2z).extBut hs₂.extBut D.l2i1).extBut hs₃.extBut D.l2TO) hy fun h₄ e hs₄ he => ?_)
    obtain ⟨oe, hoe, hce⟩ := he
    have hz₄ : IsZip h₄ z TI TO .ellipsis := hs₄ _ _ D.i2z.symm (hs₃.extBut _ _ D.TOz.symm (hs₂.extBut _ _ D.i1z.symm hz₁))
    have hez : e ≠ z := fun x => by subst x; rw [hz₄] at hoe; cases hoe; simp at hce
    refine wpAny_setField_rec hz₄ (by simp) fun h₅ _ hs₅ => hE h₅ e (fun c o c1 c2 c3 c4 x => hs₅.extBut _ _ c1 (hs₄ _ _ c4 (hs₃.extBut _ _ c2 (hs₂.extBut _ _ c3 (hs₁.extBut _ _ c1 x))))) ⟨oe, hs₅.extBut _ _ hez hoe, hce⟩

theorem pyNext_zipS_item {t1 t2 : Bool} {z TI TO i1 i2 l1 l2 : Addr} {k1 k2 : Nat} {xs ys : Array Value} {x y a b : Value} {Q : Option Value → Shared → Prop} (D : ZipApart z TI TO i1 i2 l1 l2)
    (hz : IsZip s.heap z TI TO .none) (hTI : IsPair s.heap TI (.ref i1) (.ref i2)) (hTO : IsPair s.heap TO a b)
    (h1 : IterS t1 s.heap i1 l1 k1) (h2 : IterS t2 s.heap i2 l2 k2) (hl1 : SeqS t1 s.heap l1 xs) (hl2 : SeqS t2 s.heap l2 ys) (hx : xs[k1]? = some x) (hy : ys[k2]? = some y)
    (hQ : ∀ h', IsZip h' z TI TO (rawInt s.heap.objs.size) → IsPair h' TO x y → IterS t1 h' i1 l1 (k1 + 1) → IterS t2 h' i2 l2 (k2 + 1) → IsPair h' s.heap.objs.size x y → h'.objs.size = s.heap.objs.size + 1 →
      (∀ c o, c ≠ z → c ≠ TO → c ≠ i1 → c ≠ i2 → s.heap.get? c = some o → h'.get? c = some o) → Q (some (.ref s.heap.objs.size)) { s with heap := h' }) :
    wpAny (model prog w) A (pyNext (.ref z)) Q E s := by
  have hT : s.TypeIs (.ref z) "zip" := ⟨_, hz, rfl⟩
  unfold pyNext
  exact wpAny_bind (wpAny_attempt (wpAny_callSpecial?_slot (name := Str.ofString "__next__") hT F.slot_zip_next
    (wpAny_call_entry F.slot_zip_next hT F.entry_zip_next
      (zipS_next_item D hz hTI hTO h1 h2 hl1 hl2 hx hy fun h' a1 a2 a3 a4 a5 a6 a7 => wpAny_pure (hQ h' a1 a2 a3 a4 a5 a6 a7)) (F.args_zip_next_1 _))))

theorem pyNext_zipS_end {t1 t2 : Bool} {z TI TO i1 i2 l1 l2 : Addr} {k1 k2 : Nat} {xs ys : Array Value} {a b : Value} {Q : Option Value → Shared → Prop} (hh : A.handled = none) (D : ZipApart z TI TO i1 i2 l1 l2)
    (hz : IsZip s.heap z TI TO .none) (hTI : IsPair s.heap TI (.ref i1) (.ref i2)) (hTO : IsPair s.heap TO a b)
    (h1 : IterS t1 s.heap i1 l1 k1) (h2 : IterS t2 s.heap i2 l2 k2) (hl1 : SeqS t1 s.heap l1 xs) (hl2 : SeqS t2 s.heap l2 ys) (hend : xs[k1]? = none ∨ ys[k2]? = none)
    (hQ : ∀ h', (∀ c o, c ≠ z → c ≠ TO → c ≠ i1 → c ≠ i2 → s.heap.get? c = some o → h'.get? c = some o) → Q none { s with heap := h' }) : wpAny (model prog w) A (pyNext (.ref z)) Q E s := by
  have hT : s.TypeIs (.ref z) "zip" := ⟨_, hz, rfl⟩
  unfold pyNext
  refine wpAny_bind (wpAny_attempt (wpAny_callSpecial?_slot (name := Str.ofString "__next__") hT F.slot_zip_next
    (wpAny_call_entry F.slot_zip_next hT F.entry_zip_next (zipS_next_end hh D hz hTI hTO h1 h2 hl1 hl2 hend fun h' e hk he => ?_) (F.args_zip_next_1 _))))
  obtain ⟨o, ho, hc⟩ := he
  refine wpAny_bind (wpAny_isInstance (T := "StopIteration") (b := true) ⟨o, ho, hc⟩ isSubtype_stop ?_)
  exact wpAny_pure (hQ _ hk)
end

abbrev zipSH1 (t u : Bool) (h : Heap) (l1 : Addr) : Heap := h.push { cls := .type (itCls t), data := .fields #[.ref l1, .int 0 0] }
abbrev zipSH2 (t u : Bool) (h : Heap) (l1 l2 : Addr) : Heap := (zipSH1 t u h l1).push { cls := .type (itCls u), data := .fields #[.ref l2, .int 0 0] }
abbrev zipSH3 (t u : Bool) (h : Heap) (l1 l2 : Addr) : Heap := (zipSH2 t u h l1 l2).push { cls := .type "tuple", data := .seq #[.ref h.objs.size, .ref (zipSH1 t u h l1).objs.size] }
abbrev zipSH4 (t u : Bool) (h : Heap) (l1 l2 : Addr) : Heap := (zipSH3 t u h l1 l2).push { cls := .type "tuple", data := .seq #[.none, .none] }
abbrev zipSH5 (t u : Bool) (h : Heap) (l1 l2 : Addr) : Heap := (zipSH4 t u h l1 l2).push { cls := .type "zip", data := .fields #[.none, .bool false, .bool false, .ref (zipSH2 t u h l1 l2).objs.size, .ref (zipSH3 t u h l1 l2).objs.size] }
theorem meets_zipS_new (t u : Bool) (l1 l2 : Addr) (xs ys : Array Value) :
    Meets (Builtin.«zip.__new__» ⟨[.type "zip", .ref l1, .ref l2], []⟩) (fun _ R s => SeqS t s.heap l1 xs ∧ SeqS u s.heap l2 ys ∧
      R (.ok (.ret (.ref (zipSH4 t u s.heap l1 l2).objs.size))) { s with heap := zipSH5 t u s.heap l1 l2 }) :=
  .of_wp fun prog w A R s h => by
    obtain ⟨hp, g, d, tk, os⟩ := s; obtain ⟨hl1, hl2, h⟩ := h
    have hsub := sub_zip
    cases t with
    | true =>
      have hL1 : Heap.IsTuple (Shared.heap ⟨hp, g, d, tk, os⟩) l1 xs := hl1
      cases u with
      | true =>
        have hL2 : Heap.IsTuple (Shared.heap ⟨hp.push { cls := .type "tuple_iterator", data := .fields #[.ref l1, .int 0 0] }, g, d, tk, os⟩) l2 ys := Heap.IsTuple.push hl2 _
        wp_walk using wpAny_pyIter_tuple hL1, wpAny_pyIter_tuple hL2
        exact ⟨_, rfl, h⟩
      | false =>
        have hL2 : Heap.IsList (Shared.heap ⟨hp.push { cls := .type "tuple_iterator", data := .fields #[.ref l1, .int 0 0] }, g, d, tk, os⟩) l2 ys := Heap.IsList.push hl2 _
        wp_walk using wpAny_pyIter_tuple hL1, wpAny_pyIter_list hL2
        exact ⟨_, rfl, h⟩
    | false =>
      have hL1 : Heap.IsList (Shared.heap ⟨hp, g, d, tk, os⟩) l1 xs := hl1
      cases u with
      | true =>
        have hL2 : Heap.IsTuple (Shared.heap ⟨hp.push { cls := .type "list_iterator", data := .fields #[.ref l1, .int 0 0] }, g, d, tk, os⟩) l2 ys := Heap.IsTuple.push hl2 _
        wp_walk using wpAny_pyIter_list hL1, wpAny_pyIter_tuple hL2
        exact ⟨_, rfl, h⟩
      | false =>
        have hL2 : Heap.IsList (Shared.heap ⟨hp.push { cls := .type "list_iterator", data := .fields #[.ref l1, .int 0 0] }, g, d, tk, os⟩) l2 ys := Heap.IsList.push hl2 _
        wp_walk using wpAny_pyIter_list hL1, wpAny_pyIter_list hL2
        exact ⟨_, rfl, h⟩
section
variable {prog : Program} {w : World} {A : Around} {E : Value → Shared → Prop} {s : Shared}
theorem call_zipS {t1 t2 : Bool} {l1 l2 : Addr} {xs ys : Array Value} {Q : Value → Shared → Prop} (hl1 : SeqS t1 s.heap l1 xs) (hl2 : SeqS t2 s.heap l2 ys)
    (h : ∀ h', IsZip h' (s.heap.objs.size + 4) (s.heap.objs.size + 2) (s.heap.objs.size + 3) .none → IsPair h' (s.heap.objs.size + 2) (.ref s.heap.objs.size) (.ref (s.heap.objs.size + 1)) →
      IsPair h' (s.heap.objs.size + 3) .none .none → IterS t1 h' s.heap.objs.size l1 0 → IterS t2 h' (s.heap.objs.size + 1) l2 0 → h'.objs.size = s.heap.objs.size + 5 →
      (∀ c o, s.heap.get? c = some o → h'.get? c = some o) → Q (.ref (s.heap.objs.size + 4)) { s with heap := h' }) :
    wpAny (model prog w) A (call (.type "zip") [.ref l1, .ref l2]) Q E s := by
  refine callType_new F.called_zip (by decide) (F.typeCall_zip_2 _ _) (F.newCall_zip_2 _ _) (fun obj => F.args_object_init_3 obj _ _) F.entry_zip_new
    (meets_zipS_new t1 t2 l1 l2 xs ys) ⟨hl1, hl2, ?_⟩
  have z1 : (zipSH1 t1 t2 s.heap l1).objs.size = s.heap.objs.size + 1 := Heap.size_push ..
  have z2 : (zipSH2 t1 t2 s.heap l1 l2).objs.size = s.heap.objs.size + 2 := by rw [Heap.size_push, z1]
  have z3 : (zipSH3 t1 t2 s.heap l1 l2).objs.size = s.heap.objs.size + 3 := by rw [Heap.size_push, z2]
  have z4 : (zipSH4 t1 t2 s.heap l1 l2).objs.size = s.heap.objs.size + 4 := by rw [Heap.size_push, z3]
  have z5 : (zipSH5 t1 t2 s.heap l1 l2).objs.size = s.heap.objs.size + 5 := by rw [Heap.size_push, z4]
  have g5 : (zipSH5 t1 t2 s.heap l1 l2).get? (zipSH4 t1 t2 s.heap l1 l2).objs.size = some _ := Heap.get?_push_size _ rfl
  have g4 : (zipSH5 t1 t2 s.heap l1 l2).get? (zipSH3 t1 t2 s.heap l1 l2).objs.size = some _ := Heap.get?_push_of_some _ (Heap.get?_push_size _ rfl)
  have g3 : (zipSH5 t1 t2 s.heap l1 l2).get? (zipSH2 t1 t2 s.heap l1 l2).objs.size = some _ := Heap.get?_push_of_some _ (Heap.get?_push_of_some _ (Heap.get?_push_size _ rfl))
  have g2 : (zipSH5 t1 t2 s.heap l1 l2).get? (zipSH1 t1 t2 s.heap l1).objs.size = some _ := Heap.get?_push_of_some _ (Heap.get?_push_of_some _ (Heap.get?_push_of_some _ (Heap.get?_push_size _ rfl)))
  have g1 : (zipSH5 t1 t2 s.heap l1 l2).get? s.heap.objs.size = some _ := Heap.get?_push_of_some _ (Heap.get?_push_of_some _ (Heap.get?_push_of_some _ (Heap.get?_push_of_some _ (Heap.get?_push_size _ rfl))))
  show _ ∧ _
  rw [z2, z3, z4] at g5
  rw [z1, z2] at g3
  rw [z3] at g4
  rw [z1] at g2
  rw [z4]
  exact ⟨⟨_, g5, rfl⟩, h _ g5 g3 g4 (IterS.new g1) (IterS.new g2) z5 fun c o x =>
    Heap.get?_push_of_some _ (Heap.get?_push_of_some _ (Heap.get?_push_of_some _ (Heap.get?_push_of_some _ (Heap.get?_push_of_some _ x))))⟩
end
/-! ### zip of lists and tuples, mixed -/
/-- a list or a tuple -/
def SqS (t : Bool) (K : PySem.W.Frag) (H : Hp) (a : Addr) (xs : List V) : Prop := if t = true then SqT K H a xs else SqL K H a xs
def ItzS (t u : Bool) (K : PySem.W.Frag) (a b : Addr) : It :=
  ⟨fun i H => ∃ (xs ys : List V) (x y : V), SqS t K H a xs ∧ SqS u K H b ys ∧ xs[i]? = some x ∧ ys[i]? = some y,
    fun i H v H' => ∃ T x y, v = .ref T ∧ H T = none ∧ H' = upd H T (.tup [x, y]) ∧ (∀ xs, SqS t K H a xs → xs[i]? = some x) ∧ ∀ ys, SqS u K H b ys → ys[i]? = some y,
    fun i H => ∃ xs ys : List V, SqS t K H a xs ∧ SqS u K H b ys ∧ (xs.length ≤ i ∨ ys.length ≤ i)⟩
theorem seqS_of {X : Cx} {pins : List (Addr × Obj)} {σ : L2.St} {H : Hp} {s : Shared} {t : Bool} {a : Addr} {xs : List V} (I : Inv X pins σ H s) (h : SqS t X.K H a xs) : ∃ its : List Value, Vals xs its ∧ SeqS t s.heap a its.toArray := by
  cases t with
  | true =>
    obtain ⟨its, rv, p, _⟩ := I.tuple (show SqT X.K H a xs from h)
    exact ⟨its, rv, p⟩
  | false =>
    obtain ⟨its, rv, p, _⟩ := I.list (show SqL X.K H a xs from h)
    exact ⟨its, rv, p.isList⟩
theorem seqS_inj {X : Cx} {pins : List (Addr × Obj)} {σ : L2.St} {H : Hp} {s : Shared} {t : Bool} {a : Addr} {xs ys : List V} (I : Inv X pins σ H s) (h : SqS t X.K H a xs) (h2 : SqS t X.K H a ys) : xs = ys := by
  cases t with
  | true => exact I.tuple_inj h h2
  | false => exact I.list_inj h h2
theorem turn_zipS {t u : Bool} {P : Program} {w : World} {K : PySem.W.Frag} {elts : List Expr} {kk : Nat} {tpos : Pos} {a b z TI TO i1 i2 : Addr} (D : ZipApart z TI TO i1 i2 a b) :
    Turn P w K (.Tuple elts kk tpos) (ItzS t u K a b) [z, TI, TO, i1, i2] z (fun i h => IsZip h z TI TO .none ∧ IsPair h TI (.ref i1) (.ref i2) ∧ (∃ x y, IsPair h TO x y) ∧ IterS t h i1 a i ∧ IterS u h i2 b i) where
  mem := by simp
  obj := fun i h st c hc => by
    obtain ⟨hz, hTI, ⟨x, y, hTO⟩, h1, h2⟩ := st
    have e' : c = z ∨ c = TI ∨ c = TO ∨ c = i1 ∨ c = i2 := by simpa using hc
    rcases e' with q | q | q | q | q
    · rw [q]; exact ⟨_, hz, fun v q => nomatch q⟩
    · rw [q]; exact ⟨_, hTI, fun v q => nomatch q⟩
    · rw [q]; exact ⟨_, hTO, fun v q => nomatch q⟩
    · rw [q]; exact h1.obj
    · rw [q]; exact h2.obj
  keep := fun i h h' st k => by
    obtain ⟨hz, hTI, ⟨x, y, hTO⟩, h1, h2⟩ := st
    exact ⟨k z (by simp) _ hz, k TI (by simp) _ hTI, ⟨x, y, k TO (by simp) _ hTO⟩, h1.at fun o q => k i1 (by simp) o q, h2.at fun o q => k i2 (by simp) o q⟩
  item := by
    intro X hP hw hK hc i pins s σ H E I hf st hg
    subst hP hw hK
    obtain ⟨hz, hTI, ⟨x0, y0, hTO⟩, h1, h2⟩ := st
    obtain ⟨xs, ys, x, y, hqx, hqy, hx, hy⟩ := hg
    obtain ⟨its, rv, p⟩ := seqS_of I hqx
    obtain ⟨its2, rv2, p2⟩ := seqS_of I hqy
    obtain ⟨u, hu, ru⟩ := rv.get hx
    obtain ⟨u2, hu2, ru2⟩ := rv2.get hy
    have hzl : z < s.heap.objs.size := Heap.lt_size hz
    refine pyNext_zipS_item D hz hTI hTO h1 h2 p p2 (x := u) (y := u2) (by simpa using hu) (by simpa using hu2) fun h' z' TO' h1' h2' hT hsz hk => ?_
    refine ⟨_, rfl, wpAny_letOwnedTupleGo_zip (s := { s with heap := h' }) z' fun h'' z'' sb => ?_⟩
    have hT2 : h''.get? s.heap.objs.size = some { cls := .type "tuple", data := .seq #[u, u2] } := (sb.2 _ (Nat.ne_of_gt hzl)).trans hT
    have new : ObjOk X.prog X.w (upd H s.heap.objs.size (.tup [x, y])) h'' s.heap.objs.size (.tup [x, y]) :=
      ⟨by show 2 ≤ sizeLine; decide, [u, u2], .cons ru (.cons ru2 .nil), ⟨_, hT2, rfl, _, rfl⟩⟩
    have I1 : Inv X pins σ (upd H s.heap.objs.size (.tup [x, y])) { s with heap := h'' } :=
      I.turnedNew (t' := s.toks) (ch := [z, TI, TO, i1, i2]) (fun c o hb q => (sb.2 c (fun q' => hb (by simp [q']))).trans (hk c o (fun q' => hb (by simp [q'])) (fun q' => hb (by simp [q'])) (fun q' => hb (by simp [q'])) (fun q' => hb (by simp [q'])) q)) hf (Nat.le_refl _) new
    refine ⟨.ref s.heap.objs.size, _, I1, rfl, ⟨_, x, y, rfl, I.hok.fresh (Nat.le_refl _), rfl, fun l hl => by rw [seqS_inj I hl hqx]; exact hx, fun l hl => by rw [seqS_inj I hl hqy]; exact hy⟩, ⟨z'', ?_, ⟨u, u2, ?_⟩, ?_, ?_⟩, fun c hcm => ?_⟩
    · exact (sb.2 _ D.TIz).trans (hk _ _ D.TIz D.TITO D.TIi1 D.TIi2 hTI)
    · exact (sb.2 _ D.TOz).trans TO'
    · exact h1'.at fun o q => (sb.2 _ D.i1z).trans q
    · exact h2'.at fun o q => (sb.2 _ D.i2z).trans q
    · have hlt : c < s.heap.objs.size := by
        have e' : c = z ∨ c = TI ∨ c = TO ∨ c = i1 ∨ c = i2 := by simpa using hcm
        rcases e' with q | q | q | q | q
        · rw [q]; exact hzl
        · rw [q]; exact Heap.lt_size hTI
        · rw [q]; exact Heap.lt_size hTO
        · rw [q]; exact h1.lt
        · rw [q]; exact h2.lt
      rw [upd_ne (Nat.ne_of_lt hlt)]
      exact (hf c hcm).1
  done := by
    intro X hP hw hK hc i pins s σ H E I hf st hg
    subst hP hw hK
    obtain ⟨hz, hTI, ⟨x0, y0, hTO⟩, h1, h2⟩ := st
    obtain ⟨xs, ys, hqx, hqy, hend⟩ := hg
    obtain ⟨its, rv, p⟩ := seqS_of I hqx
    obtain ⟨its2, rv2, p2⟩ := seqS_of I hqy
    have l1 := rv.length
    have l2 := rv2.length
    have he : its.toArray[i]? = none ∨ its2.toArray[i]? = none := by
      rcases hend with q | q
      · exact .inl (by simp; omega)
      · exact .inr (by simp; omega)
    exact pyNext_zipS_end (I.ok.hd hc) D hz hTI hTO h1 h2 p p2 he fun h' hk => ⟨rfl, I.turnedL (t' := s.toks) (ch := [z, TI, TO, i1, i2]) (fun c o hb q =>
      hk c o (fun q' => hb (by simp [q'])) (fun q' => hb (by simp [q'])) (fun q' => hb (by simp [q'])) (fun q' => hb (by simp [q'])) q) hf⟩
  self := fun A i s Q E st h => wpAny_pyIter_zip st.1 h

theorem pi_zipS {X : Cx} {e e2 : Expr} {ta : TA} {p pos tpos : Pos} {elts : List Expr} {kk : Nat} (hg : Gl X "zip") (hm : X.mg "zip" = none) (ha : PA X [e, e2] ta)
    (hs : starEach [e, e2] X.env = (false, eval e X.env) :: starEach [e2] X.env) (hpl : (backTo pos (starEach [e2] X.env)).any (·.1) = false) :
    PI X (.Tuple elts kk tpos) (.Call (.Name "zip" p) [e, e2] [] pos) (fun σ H R => ta σ H fun vs H1 => ∃ a b t u xs ys, vs = [.ref a, .ref b] ∧ SqS t X.K H1 a xs ∧ SqS u X.K H1 b ys ∧ R (ItzS t u X.K a b) H1) := by
  refine ⟨fun pins s σ H R I h => ?_⟩
  refine Call_ (ld_blt I hg hm PyProof.Rows.boot_zip (PyProof.Rows.callWith_type1 (thn (ha.run pos pins s σ H _ I h) fun us s1 ⟨vs, H1, I1, r1, q1⟩ => ?_) hs hpl))
  obtain ⟨a, b, t, u, xs, ys, rfl, hqx, hqy, q⟩ := q1
  obtain ⟨u1, u2, rfl, ra, rb⟩ := r1.two
  cases ra
  cases rb
  obtain ⟨its, rv, p1⟩ := seqS_of I1 hqx
  obtain ⟨its2, rv2, p2⟩ := seqS_of I1 hqy
  refine call_zipS p1 p2 fun h' hz hTI hTO h1 h2 hsz hk => wpAny_pyIter_zip hz ?_
  have I2 : Inv X pins σ H1 { s1 with heap := h' } := I1.kept (t' := s1.toks) hk
  refine ⟨s1.heap.objs.size + 4, [s1.heap.objs.size + 4, s1.heap.objs.size + 2, s1.heap.objs.size + 3, s1.heap.objs.size, s1.heap.objs.size + 1], _, _, H1, rfl, I2, turn_zipS (PySem.W.ktu_apart s1.heap.objs.size a b p1.lt p2.lt), ⟨hz, hTI, ⟨_, _, hTO⟩, h1, h2⟩, fun c hc => ?_, q⟩
  have hle : s1.heap.objs.size ≤ c := by
    simp only [List.mem_cons, List.not_mem_nil, or_false] at hc
    rcases hc with z | z | z | z | z <;> rw [z] <;> first | exact Nat.le_refl _ | exact Nat.le_add_right _ _
  exact I1.fpOk hle (I1.hok.fresh hle)
end DI

end
section
set_option maxRecDepth 100000
set_option maxHeartbeats 4000000
/-! DI8: the look is sound for expressions. -/
namespace DI
open PySem PySem.Spec PyProof.Rows L2

section
variable {c : Wc} {x : Xc} {W : WX} {rc : Calls} {k : Nat} {R : Nat → Prop} {ρ : List Addr} {B : Addr → Prop} {H : Hp} {S : Sto} {X : Cx} {σd : List Slot} {σ : L2.St}

theorem itOk_seqS {t : Bool} {a : Addr} {ds : List D} {vs : List V} {d : D} (r : Rep c ρ B H d (.ref a)) (e : itemsD d = some ds) : ∃ t vs, RepA c ρ B H ds vs ∧ ∀ H' (B' : Addr → Prop), (∀ a o, H a = some o → ¬ B a → H' a = some o ∧ ¬ B' a) → SqS t c.K H' a vs := by
  cases r with
  | tup ha hx =>
    cases e
    refine ⟨true, _, hx, fun H' B' h => ?_⟩
    rcases ha with ⟨h1, h2⟩ | ha
    · exact SqT.of (h _ _ h1 h2).1
    · exact .inr ha
  | lst h1 h2 hx =>
    cases e
    exact ⟨false, _, hx, fun H' B' h => SqL.of (h _ _ h1 h2).1⟩
  | _ => cases e
theorem itOk_zip {a b : Addr} {t u : Bool} {ds es : List D} {vs ws : List V} (r1 : RepA c ρ B H ds vs) (r2 : RepA c ρ B H es ws)
    (h1 : ∀ H' (B' : Addr → Prop), (∀ a o, H a = some o → ¬ B a → H' a = some o ∧ ¬ B' a) → SqS t c.K H' a vs) (h2 : ∀ H' (B' : Addr → Prop), (∀ a o, H a = some o → ¬ B a → H' a = some o ∧ ¬ B' a) → SqS u c.K H' b ws) :
    ItOk c ρ B (ItzS t u c.K a b) ((ds.zip es).map fun p => .tup [p.1, p.2]) H := by
  intro i H' ρ' B' hk hr
  have q1 := RepA.imp hk hr ds vs r1
  have q2 := RepA.imp hk hr es ws r2
  have s1 := h1 H' B' hk
  have s2 := h2 H' B' hk
  have l1 := r1.length
  have l2 := r2.length
  rw [List.length_map, List.length_zip]
  refine ⟨fun hi => ⟨⟨vs, ws, vs[i]'(by omega), ws[i]'(by omega), s1, s2, by simp, by simp⟩, fun v H2 y => ?_⟩, fun hi => ⟨vs, ws, s1, s2, by omega⟩⟩
  obtain ⟨T, z, z2, rfl, n, rfl, y1, y2⟩ := y
  obtain ⟨d, e1, rd⟩ := q1.getV (y1 vs s1)
  obtain ⟨d2, e2, rd2⟩ := q2.getV (y2 ws s2)
  refine ⟨fun b o e => by rw [upd_ne (ne_of_none e n)]; exact e, .tup [d, d2], ?_, fun S st => newTup st n (.cons rd (.cons rd2 .nil))⟩
  rw [List.getElem?_map, (List.getElem?_zip_eq_some (z := (d, d2))).mpr ⟨e1, e2⟩]
  rfl
theorem pi_zipD {e e2 : Expr} {da db : DE} {p pos tpos : Pos} {elts : List Expr} {kk : Nat} (hK : X.K = c.K) (hg : Gl X "zip") (hm : X.mg "zip" = none) (hs : isStarred e = false) (hs2 : isStarred e2 = false) (h : PE X e (tE c x W rc da)) (h2 : PE X e2 (tE c x W rc db)) :
    PI X (.Tuple elts kk tpos) (.Call (.Name "zip" p) [e, e2] [] pos) (tI c x W rc (.zip da db)) :=
  pi_imp (pi_zipS hg hm (pa_cons h (pa_cons h2 pa_nil (star_off hs2 _ _)) (star_off hs _ _)) (star_off hs _ _) (by rw [star_off hs2]; rfl)) fun σ H R' q => by
  obtain ⟨R, ρ, B, σd, S, see, ok⟩ := q
  refine ⟨R, ρ, B, σd, S, see.less fun i hi => List.mem_append_left _ hi, ?_⟩
  rw [evI, okR_bind] at ok
  refine okR_mono ok (fun a S1 ok v H1 x1 s1 r1 _ => ?_) fun _ _ _ h => h
  refine ⟨R, ρ, B, σd, S1, see.ext x1 s1 fun i hi => List.mem_append_right _ hi, ?_⟩
  rw [okR_bind] at ok
  refine okR_mono ok (fun b S2 ok w H2 x2 s2 r2 _ => ?_) fun _ _ _ h => h.after x1
  split at ok
  · rename_i xs ys e1 e2
    have r1' := r1.ext s1 x2
    have hv : ∃ p, v = .ref p := by
      cases r1' <;> first | exact ⟨_, rfl⟩ | cases e1
    have hw : ∃ p, w = .ref p := by
      cases r2 <;> first | exact ⟨_, rfl⟩ | cases e2
    obtain ⟨p, rfl⟩ := hv
    obtain ⟨q, rfl⟩ := hw
    obtain ⟨t, vs, g1, g2⟩ := itOk_seqS (t := true) (ds := xs) (vs := []) r1' e1
    obtain ⟨u, ws, g3, g4⟩ := itOk_seqS (t := true) (ds := ys) (vs := []) r2 e2
    have idk : ∀ a o, H2 a = some o → ¬ B a → H2 a = some o ∧ ¬ B a := fun _ _ e n => ⟨e, n⟩
    refine ⟨p, q, t, u, vs, ws, rfl, by rw [hK]; exact g2 H2 B idk, by rw [hK]; exact g4 H2 B idk, ?_⟩
    rw [hK]
    exact ok _ H2 (x1.trans x2) s2 (itOk_zip g1 g3 g2 g4)
  · exact ok.elim

/-! ### tests -/
/-- a test by the value -/
theorem pt_of {e : Expr} {d : DE} (hK : X.K = c.K) (h : PE X e (tE c x W rc d)) (hs : specialTest e = false) : PT X e (tT c x W rc d) :=
  pt_imp (pt_truth h (test_plain hs X.env)) fun σ H Q q => by
  obtain ⟨R, ρ, B, σd, S, see, ok⟩ := q
  refine ⟨R, ρ, B, σd, S, see, ?_⟩
  rw [okR_bind] at ok
  refine okR_mono ok (fun a S1 ok v H1 x1 s1 r1 _ => ?_) fun _ _ _ h => h
  rw [okR_ofO] at ok
  obtain ⟨b, e, q⟩ := ok
  exact ⟨b, by rw [hK]; exact truth_ok r1 e, q H1 x1 s1⟩
/-- a comparison's test -/
theorem cmpD_bl {o : Cop} {a b d : D} (e : cmpD o a b = some d) : ∃ k, d = .bl k := by
  cases o <;> simp only [cmpD, Option.map_eq_some_iff] at e
  · obtain ⟨k, _, rfl⟩ := e; exact ⟨_, rfl⟩
  · obtain ⟨k, _, rfl⟩ := e; exact ⟨_, rfl⟩
  all_goals first
    | (obtain ⟨k, _, rfl⟩ := e; exact ⟨_, rfl⟩)
    | (split at e <;> first | (cases e; exact ⟨_, rfl⟩) | cases e)
theorem tTest_of {t : TE} {r : List Slot → Sto → Res D} {rd : List Nat} {Q : Bool → Hp → Prop} (ht : ∀ (Q : VK), tRun c x W r rd true σ H Q → t σ H Q) (hb : ∀ σd S a S', r σd S = .ok a S' → ∃ k, a = .bl k) (q : tTst c x W r rd σ H Q) : tTest t σ H Q := by
  refine ht _ ?_
  obtain ⟨R, ρ, B, σd, S, see, ok⟩ := q
  refine ⟨R, ρ, B, σd, S, see, ?_⟩
  rw [okR_bind] at ok
  cases e : r σd S with
  | bad => rw [e] at ok; exact ok
  | exc _ _ _ => rw [e] at ok; exact ok
  | ok a S1 =>
    rw [e] at ok
    obtain ⟨kk, rfl⟩ := hb _ _ _ _ e
    intro v H1 x1 s1 r1 _
    cases r1
    exact ⟨kk, rfl, ok H1 x1 s1⟩

/-! ### operators by the tree -/
theorem pe_bopD {o : Bop} {a b : Expr} {da db : DE} {pos : Pos} (hK : X.K = c.K) (ha : PE X a (tE c x W rc da)) (hb : PE X b (tE c x W rc db)) : PE X (.BinOp a (opOf o) b pos) (tE c x W rc (.bop o da db)) := by
  have go : ∀ {r : R2}, Bin c (fun _ => binop o) true r → OpR X (binaryOp (opOf o)) r → PE X (.BinOp a (opOf o) b pos) (tE c x W rc (.bop o da db)) := fun h1 h2 =>
    pe_imp (pe_op h2 ha hb) fun σ H Q q => h1.tOp (by
      have q2 := q
      simp only [tE, tRun, DE.reads, DE.fresh, evE] at q2
      exact q2)
  cases o
  · exact go bin_add (by rw [← hK]; exact op_addD)
  · exact go bin_sub op_subD
  · exact go bin_mul (by rw [← hK]; exact op_mulD)
  · exact go bin_div op_divD
  · exact go bin_mod op_modD
  · exact go bin_pow op_pow
/-- the rule of a comparison -/
theorem cmp_rule (hK : X.K = c.K) (hu : X.A.units + 64 < cLine) (o : Cop) : ∃ r, Bin c (fun _ => cmpD o) true r ∧ OpR X (compareOp (cmpOf o)) r := by
  cases o
  · exact ⟨_, bin_eq, by rw [← hK]; exact (op_eqD hu).or op_eq⟩
  · exact ⟨_, bin_ne, by rw [← hK]; exact (op_neD hu).or op_ne⟩
  · exact ⟨_, bin_lt, op_lt⟩
  · exact ⟨_, bin_le, op_le⟩
  · exact ⟨_, bin_gt, op_gt⟩
  · exact ⟨_, bin_ge, op_ge⟩
  · exact ⟨_, bin_isN, op_isN⟩
  · exact ⟨_, bin_notN, op_notN⟩
  · exact ⟨_, bin_in, by rw [← hK]; exact op_in_seq⟩
  · exact ⟨_, bin_notIn, by rw [← hK]; exact op_notIn_seq⟩
theorem pe_cmpD {o : Cop} {a b : Expr} {da db : DE} {pos : Pos} (hK : X.K = c.K) (hu : X.A.units + 64 < cLine) (hs : isSet b = false) (ha : PE X a (tE c x W rc da)) (hb : PE X b (tE c x W rc db)) :
    PE X (.Compare a [cmpOf o] [b] pos) (tE c x W rc (.cmp o da db)) ∧ PT X (.Compare a [cmpOf o] [b] pos) (tT c x W rc (.cmp o da db)) := by
  obtain ⟨r, h1, h2⟩ := cmp_rule hK hu o
  have key : ∀ σ H Q, tRun c x W (evE rc (.cmp o da db)) (da.reads ++ db.reads) true σ H Q → tOp r (tE c x W rc da) (tE c x W rc db) σ H Q := fun σ H Q q => h1.tOp (by
    have q2 := q
    simp only [tRun, evE] at q2
    exact q2)
  refine ⟨pe_imp (pe_cmpR h2 ha hb (mark_off hs _)) fun σ H Q q => key σ H Q ?_, pt_imp (pt_cmpR h2 ha hb (mark_off hs _)) fun σ H Q q => tTest_of (key σ H) (fun σd S a S' e => ?_) q⟩
  · obtain ⟨R, ρ, B, σd, S, see, ok⟩ := q
    exact ⟨R, ρ, B, σd, S, see, okR_mono ok (fun a S' q v H' h1 h2 h3 h4 => q v H' h1 h2 h3 fun z => nomatch z) fun _ _ _ h => h⟩
  · rw [evE] at e
    obtain ⟨_, _, _, e⟩ := bind_ok e
    obtain ⟨_, _, _, e⟩ := bind_ok e
    exact cmpD_bl (ofO_ok e).1
theorem pe_chainD {o p : Cop} {a b e : Expr} {da db de : DE} {pos : Pos} (hK : X.K = c.K) (hu : X.A.units + 64 < cLine) (hs : isSet e = false) (ha : PE X a (tE c x W rc da)) (hb : PE X b (tE c x W rc db)) (he : PE X e (tE c x W rc de)) :
    PE X (.Compare a [cmpOf o, cmpOf p] [b, e] pos) (tE c x W rc (.chain o p da db de)) ∧ PT X (.Compare a [cmpOf o, cmpOf p] [b, e] pos) (tT c x W rc (.chain o p da db de)) := by
  obtain ⟨r, h1, h2⟩ := cmp_rule hK hu o
  obtain ⟨r', g1, g2⟩ := cmp_rule hK hu p
  have key : ∀ σ H Q, tRun c x W (evE rc (.chain o p da db de)) (da.reads ++ (db.reads ++ de.reads)) true σ H Q → tChain r r' (tE c x W rc da) (tE c x W rc db) (tE c x W rc de) σ H Q := fun σ H Q q => by
    obtain ⟨R, ρ, B, σd, S, see, ok⟩ := q
    refine ⟨R, ρ, B, σd, S, see.less fun i hi => List.mem_append_left _ hi, ?_⟩
    rw [evE, okR_bind] at ok
    refine okR_mono ok (fun a S1 ok v H1 x1 s1 r1 _ => ?_) fun _ _ _ h => h
    refine ⟨R, ρ, B, σd, S1, see.ext x1 s1 fun i hi => List.mem_append_right _ (List.mem_append_left _ hi), ?_⟩
    rw [okR_bind] at ok
    refine okR_mono ok (fun b S2 ok w H2 x2 s2 r2 _ => ?_) fun _ _ _ h => h.after x1
    rw [okR_bind, okR_ofO] at ok
    obtain ⟨d, e1, ok⟩ := ok
    refine h1 ρ B H2 S2 a b d v w _ s2 (r1.ext s1 x2) r2 e1 fun u H3 x3 s3 r3 _ => ?_
    obtain ⟨kk, rfl⟩ := cmpD_bl e1
    cases r3
    refine ⟨kk, rfl, ?_⟩
    cases kk with
    | false => exact ok _ H3 ((x1.trans x2).trans x3) s3 (.bl _) (fsh_not rfl)
    | true =>
      simp only [if_true] at ok ⊢
      refine ⟨R, ρ, B, σd, S2, see.ext ((x1.trans x2).trans x3) s3 fun i hi => List.mem_append_right _ (List.mem_append_right _ hi), ?_⟩
      rw [okR_bind] at ok
      refine okR_mono ok (fun z S4 ok y H4 x4 s4 r4 _ => ?_) fun _ _ _ h => h.after ((x1.trans x2).trans x3)
      rw [okR_ofO] at ok
      obtain ⟨d, e2, q⟩ := ok
      obtain ⟨kk, rfl⟩ := cmpD_bl e2
      exact g1 ρ B H4 S4 b z _ w y _ s4 ((r2.ext s2 x3).ext s3 x4) r4 e2 fun u H5 x5 s5 r5 _ => by
        cases r5
        exact q _ H5 ((((x1.trans x2).trans x3).trans x4).trans x5) s5 (.bl _) (fsh_not rfl)
  refine ⟨pe_imp (pe_chain h2 g2 ha hb he (mark_off hs _)) fun σ H Q q => key σ H Q ?_, pt_imp (pt_chain h2 g2 ha hb he (mark_off hs _)) fun σ H Q q => tTest_of (key σ H) (fun σd S a S' e => ?_) q⟩
  · obtain ⟨R, ρ, B, σd, S, see, ok⟩ := q
    exact ⟨R, ρ, B, σd, S, see, okR_mono ok (fun a S' q v H' h1 h2 h3 h4 => q v H' h1 h2 h3 fun z => nomatch z) fun _ _ _ h => h⟩
  · rw [evE] at e
    obtain ⟨_, _, _, e⟩ := bind_ok e
    obtain ⟨_, _, _, e⟩ := bind_ok e
    obtain ⟨_, _, e0, e⟩ := bind_ok e
    obtain ⟨kk, rfl⟩ := cmpD_bl (ofO_ok e0).1
    cases kk with
    | false => cases e; exact ⟨_, rfl⟩
    | true =>
      obtain ⟨_, _, _, e⟩ := bind_ok e
      exact cmpD_bl (ofO_ok e).1
end
end DI

end
section
set_option maxRecDepth 100000
set_option maxHeartbeats 8000000
/-! DI9: the look is sound for expressions: the theorem. -/
namespace DI
open PySem PySem.Spec PyProof.Rows L2

section
variable {c : Wc} {x : Xc} {W : WX} {rc : Calls} {k : Nat} {R : Nat → Prop} {ρ : List Addr} {B : Addr → Prop} {H : Hp} {S : Sto} {X : Cx} {σd : List Slot} {σ : L2.St} {s : Sc}

/-! ### argument lists, and, or -/
theorem tEs_nil : PA X [] (tEs c x W rc .nil) := pa_imp pa_nil fun σ H Q h => by
  obtain ⟨R, ρ, B, σd, S, see, ok⟩ := h
  exact ok [] H (Ext.refl _ _) see.st .nil
theorem tEs_cons {e : Expr} {es : List Expr} {d : DE} {ds : DEs} (hs : isStarred e = false) (h : PE X e (tE c x W rc d)) (h2 : PA X es (tEs c x W rc ds)) : PA X (e :: es) (tEs c x W rc (.cons d ds)) :=
  pa_imp (pa_cons h h2 (star_off hs _ _)) fun σ H Q h => by
  obtain ⟨R, ρ, B, σd, S, see, ok⟩ := h
  refine ⟨R, ρ, B, σd, S, see.less fun i hi => List.mem_append_left _ hi, ?_⟩
  rw [evEs, okR_bind] at ok
  refine okR_mono ok (fun a S1 ok v H1 x1 s1 r1 _ => ?_) fun _ _ _ h => h
  refine ⟨R, ρ, B, σd, S1, see.ext x1 s1 fun i hi => List.mem_append_right _ hi, ?_⟩
  rw [okR_bind] at ok
  exact okR_mono ok (fun as S2 ok vs H2 x2 s2 r2 => ok (v :: vs) H2 (x1.trans x2) s2 (.cons (r1.ext s1 x2) r2)) fun _ _ _ h => h.after x1
abbrev tAndE (c : Wc) (x : Xc) (W : WX) (rc : Calls) (ds : DEs) : TE := tRun c x W (evAnd rc ds) ds.reads false
abbrev tOrE (c : Wc) (x : Xc) (W : WX) (rc : Calls) (ds : DEs) : TE := tRun c x W (evOr rc ds) ds.reads false
abbrev tAndTst (c : Wc) (x : Xc) (W : WX) (rc : Calls) (ds : DEs) : TT := tTst c x W (evAnd rc ds) ds.reads
abbrev tOrTst (c : Wc) (x : Xc) (W : WX) (rc : Calls) (ds : DEs) : TT := tTst c x W (evOr rc ds) ds.reads
structure BoolsOk (c : Wc) (x : Xc) (W : WX) (rc : Calls) (X : Cx) (ds : DEs) (es : List Expr) : Prop where
  pa : PA X es (tEs c x W rc ds)
  an : ∀ pos, es ≠ [] → PE X (.BoolOp .And es pos) (tAndE c x W rc ds)
  or_ : ∀ pos, es ≠ [] → PE X (.BoolOp .Or es pos) (tOrE c x W rc ds)
  anT : ∀ pos, es ≠ [] → PW X (.BoolOp .And es pos) (tAndTst c x W rc ds)
  orT : ∀ pos, es ≠ [] → PW X (.BoolOp .Or es pos) (tOrTst c x W rc ds)
theorem noFsh {d : DE} {r : List Slot → Sto → Res D} {Q : VK} (hr : ∀ σ S, r σ S = evE rc d σ S) (q : tRun c x W r d.reads false σ H Q) : tE c x W rc d σ H Q := by
  obtain ⟨R, ρ, B, σd, S, see, ok⟩ := q
  refine ⟨R, ρ, B, σd, S, see, ?_⟩
  rw [hr] at ok
  exact okR_mono ok (fun a S' q v H' h1 h2 h3 h4 => q v H' h1 h2 h3 fun z => nomatch z) fun _ _ _ h => h
theorem bools_one {e : Expr} {d : DE} (hs : isStarred e = false) (h : PE X e (tE c x W rc d)) (h2 : PT X e (tT c x W rc d)) : BoolsOk c x W rc X (.cons d .nil) [e] := by
  have rd : ∀ i, i ∈ d.reads → i ∈ (DEs.cons d .nil).reads := fun i hi => List.mem_append_left _ hi
  have key : ∀ {r : List Slot → Sto → Res D} {σ H} {Q : VK}, (∀ σ S, r σ S = evE rc d σ S) → tRun c x W r (DEs.cons d .nil).reads false σ H Q → tE c x W rc d σ H Q := fun hr q => noFsh hr (by
    obtain ⟨R, ρ, B, σd, S, see, ok⟩ := q
    exact ⟨R, ρ, B, σd, S, see.less rd, ok⟩)
  have keyT : ∀ {r : List Slot → Sto → Res D} {σ H} {Q : Bool → Hp → Prop}, (∀ σ S, r σ S = evE rc d σ S) → tTst c x W r (DEs.cons d .nil).reads σ H Q → tT c x W rc d σ H Q := fun hr q => by
    obtain ⟨R, ρ, B, σd, S, see, ok⟩ := q
    refine ⟨R, ρ, B, σd, S, see.less rd, ?_⟩
    rw [hr] at ok
    exact ok
  exact ⟨tEs_cons hs h tEs_nil, fun pos _ => pe_imp (pe_one h) fun σ H Q q => key (fun σ S => by rw [evAnd]) q, fun pos _ => pe_imp (pe_one h) fun σ H Q q => key (fun σ S => by rw [evOr]) q,
    fun pos _ => pw_imp (pw_and1 h2) fun σ H Q q => keyT (fun σ S => by rw [evAnd]) q, fun pos _ => pw_imp (pw_or1 h2) fun σ H Q q => keyT (fun σ S => by rw [evOr]) q⟩
theorem bools_cons {e e2 : Expr} {es : List Expr} {d d2 : DE} {ds : DEs} (hK : X.K = c.K) (hs : isStarred e = false) (h : PE X e (tE c x W rc d)) (h2 : PT X e (tT c x W rc d)) (b : BoolsOk c x W rc X (.cons d2 ds) (e2 :: es)) : BoolsOk c x W rc X (.cons d (.cons d2 ds)) (e :: e2 :: es) := by
  have ne : e2 :: es ≠ [] := List.cons_ne_nil _ _
  refine ⟨tEs_cons hs h b.pa, fun pos _ => pe_imp (pe_andT h (b.an pos ne)) fun σ H Q q => ?_, fun pos _ => pe_imp (pe_orT h (b.or_ pos ne)) fun σ H Q q => ?_, fun pos _ => pw_imp (pw_and h2 (b.anT pos ne)) fun σ H Q q => ?_, fun pos _ => pw_imp (pw_or h2 (b.orT pos ne)) fun σ H Q q => ?_⟩
  · obtain ⟨R, ρ, B, σd, S, see, ok⟩ := q
    refine ⟨R, ρ, B, σd, S, see.less fun i hi => List.mem_append_left _ hi, ?_⟩
    rw [evAnd, okR_bind] at ok
    refine okR_mono ok (fun a S1 ok v H1 x1 s1 r1 _ => ?_) fun _ _ _ h => h
    rw [okR_bind, okR_ofO] at ok
    obtain ⟨kk, e1, ok⟩ := ok
    refine ⟨kk, by rw [hK]; exact truth_ok r1 e1, ?_⟩
    cases kk with
    | true =>
      rw [if_pos rfl] at ok ⊢
      exact ⟨R, ρ, B, σd, S1, see.ext x1 s1 fun i hi => List.mem_append_right _ hi, okR_mono ok (fun a S' q v H' h1 h2 h3 h4 => q v H' (x1.trans h1) h2 h3 fun z => nomatch z) fun _ _ _ h => h.after x1⟩
    | false =>
      rw [if_neg Bool.false_ne_true] at ok ⊢
      exact ok v H1 x1 s1 r1 fun z => nomatch z
  · obtain ⟨R, ρ, B, σd, S, see, ok⟩ := q
    refine ⟨R, ρ, B, σd, S, see.less fun i hi => List.mem_append_left _ hi, ?_⟩
    rw [evOr, okR_bind] at ok
    refine okR_mono ok (fun a S1 ok v H1 x1 s1 r1 _ => ?_) fun _ _ _ h => h
    rw [okR_bind, okR_ofO] at ok
    obtain ⟨kk, e1, ok⟩ := ok
    refine ⟨kk, by rw [hK]; exact truth_ok r1 e1, ?_⟩
    cases kk with
    | false =>
      rw [if_neg Bool.false_ne_true] at ok ⊢
      exact ⟨R, ρ, B, σd, S1, see.ext x1 s1 fun i hi => List.mem_append_right _ hi, okR_mono ok (fun a S' q v H' h1 h2 h3 h4 => q v H' (x1.trans h1) h2 h3 fun z => nomatch z) fun _ _ _ h => h.after x1⟩
    | true =>
      rw [if_pos rfl] at ok ⊢
      exact ok v H1 x1 s1 r1 fun z => nomatch z
  · obtain ⟨R, ρ, B, σd, S, see, ok⟩ := q
    refine ⟨R, ρ, B, σd, S, see.less fun i hi => List.mem_append_left _ hi, ?_⟩
    rw [evAnd, okR_bind, okR_bind] at ok
    rw [okR_bind]
    refine okR_mono ok (fun a S1 ok => ?_) fun _ _ _ h => h
    rw [okR_bind, okR_ofO] at ok
    obtain ⟨kk, e1, ok⟩ := ok
    rw [okR_ofO]
    refine ⟨kk, e1, fun H1 x1 s1 => ?_⟩
    cases kk with
    | true =>
      rw [if_pos rfl] at ok ⊢
      refine ⟨R, ρ, B, σd, S1, see.ext x1 s1 fun i hi => List.mem_append_right _ hi, ?_⟩
      rw [okR_bind]
      refine okR_mono ok (fun a S2 ok => okR_mono ok (fun k S3 q H2 x2 s2 => q H2 (x1.trans x2) s2) fun _ _ _ h => h.after x1) fun _ _ _ h => h.after x1
    | false =>
      rw [if_neg Bool.false_ne_true] at ok ⊢
      have ok : okR (ofO (truth a) S1) (fun k S' => ∀ H', Ext ρ H H' → StoOk c ρ B H' S' → Q k H') (ExcW c x W ρ B H σ) := ok
      rw [okR_ofO] at ok
      obtain ⟨k2, e2, q⟩ := ok
      rw [e1] at e2; cases e2
      exact q H1 x1 s1
  · obtain ⟨R, ρ, B, σd, S, see, ok⟩ := q
    refine ⟨R, ρ, B, σd, S, see.less fun i hi => List.mem_append_left _ hi, ?_⟩
    rw [evOr, okR_bind, okR_bind] at ok
    rw [okR_bind]
    refine okR_mono ok (fun a S1 ok => ?_) fun _ _ _ h => h
    rw [okR_bind, okR_ofO] at ok
    obtain ⟨kk, e1, ok⟩ := ok
    rw [okR_ofO]
    refine ⟨kk, e1, fun H1 x1 s1 => ?_⟩
    cases kk with
    | false =>
      rw [if_neg Bool.false_ne_true] at ok ⊢
      refine ⟨R, ρ, B, σd, S1, see.ext x1 s1 fun i hi => List.mem_append_right _ hi, ?_⟩
      rw [okR_bind]
      refine okR_mono ok (fun a S2 ok => okR_mono ok (fun k S3 q H2 x2 s2 => q H2 (x1.trans x2) s2) fun _ _ _ h => h.after x1) fun _ _ _ h => h.after x1
    | true =>
      rw [if_pos rfl] at ok ⊢
      have ok : okR (ofO (truth a) S1) (fun k S' => ∀ H', Ext ρ H H' → StoOk c ρ B H' S' → Q k H') (ExcW c x W ρ B H σ) := ok
      rw [okR_ofO] at ok
      obtain ⟨k2, e2, q⟩ := ok
      rw [e1] at e2; cases e2
      exact q H1 x1 s1

/-! ### calls -/
theorem call_D (G : Good s c x W rc k X) {pins : List (Addr × Obj)} {st : Shared} {Q : VK} {us : List Value} {vs : List V} {as : List D} {f : Nat} (I : Inv X pins σ H st) (rv : Vals vs us) (t : StoOk c ρ B H S) (ra : RepA c ρ B H as vs)
    (ok : okR (rc f as S) (fun d S' => ∀ v H', Ext ρ H H' → StoOk c ρ B H' S' → Rep c ρ B H' d v → Q v H') (ExcW c x W ρ B H σ)) : wpAny (model X.prog X.w) X.A (call (.ref (c.fa f)) us) (EP X pins σ Q) X.xe st := by
  cases e : s.F[f]? with
  | none => rw [G.out f as S e] at ok; exact ok.elim
  | some nm =>
    obtain ⟨_, _, F⟩ := G.fns f nm e
    exact run_fnG F G.room G.gd G.tk I rv ⟨ρ, B, as, S, t, ra, ok⟩
theorem back_off (pos : Pos) (env : Env) : ∀ es : List Expr, es.all (fun e => !isStarred e) = true → (backTo pos (starEach es env)).any (·.1) = false
  | [], _ => rfl
  | e :: es, h => by
    simp only [List.all_cons, Bool.and_eq_true, Bool.not_eq_true'] at h
    rw [star_off h.1]
    show (false || (backTo pos (starEach es env)).any (·.1)) = false
    rw [back_off pos env es h.2]; rfl
theorem pe_callD0 (G : Good s c x W rc k X) {f : Nat} {y : Str} {p pos : Pos} (hg : s.glb y = true) (hf : s.F[f]? = some y) : PE X (.Call (.Name y p) [] [] pos) (tE c x W rc (.call f .nil)) := by
  refine ⟨fun pins st σ H Q I q => ?_⟩
  obtain ⟨R, ρ, B, σd, S, see, ok⟩ := q
  obtain ⟨g1, g2, g3⟩ := G.isGlb hg
  obtain ⟨m1, m2, F⟩ := G.fns f y hf
  rw [evE, okR_bind] at ok
  refine wpAny_Call_Name_kw (ld_glob I g1 m1 ?_ g2)
  refine PySem.W.callWith_K0 I.kIn m2 ?_
  exact call_D G (us := []) I .nil see.st .nil (okR_mono ok (fun a S' q v H' h1 h2 h3 => q v H' h1 h2 h3 fun z => nomatch z) fun _ _ _ h => h)
theorem args_D (G : Good s c x W rc k X) {pins : List (Addr × Obj)} {st : Shared} {Q : VK} {es : List Expr} {ds : DEs} {f : Nat} {pos : Pos} {H0 : Hp} (h : PA X es (tEs c x W rc ds)) (I : Inv X pins σ H st) (see : Sees c R ρ B H σd σ S ds.reads) (x0 : Ext ρ H0 H)
    (ok : okR ((evEs rc ds σd S).bind fun xs S1 => rc f xs S1) (fun a S' => ∀ v H', Ext ρ H0 H' → StoOk c ρ B H' S' → Rep c ρ B H' a v → Q v H') (ExcW c x W ρ B H0 σ)) :
    wpAny (model X.prog X.w) X.A (spliced (backTo pos (starEach es X.env))) (fun us s1 => X.K.In s1.heap ∧ wpAny (model X.prog X.w) X.A (call (.ref (c.fa f)) us) (EP X pins σ Q) X.xe s1) X.xe st := by
  rw [okR_bind] at ok
  refine thn (h.run pos pins st σ H (fun vs H1 => ∃ as S1, Ext ρ H H1 ∧ StoOk c ρ B H1 S1 ∧ RepA c ρ B H1 as vs ∧ okR (rc f as S1) (fun a S' => ∀ v H', Ext ρ H0 H' → StoOk c ρ B H' S' → Rep c ρ B H' a v → Q v H') (ExcW c x W ρ B H0 σ)) I ⟨R, ρ, B, σd, S, see, ?_⟩) fun us s1 ⟨vs, H1, I1, rv, as, S1, x1, t1, ra, ok⟩ => ⟨I1.kIn, ?_⟩
  · exact okR_mono ok (fun as S1 ok vs H1 x1 s1 r1 => ⟨as, S1, x1, s1, r1, ok⟩) fun _ _ _ h => h.after x0
  · exact call_D G I1 rv t1 ra (okR_mono ok (fun a S' q v H' h1 h2 h3 => q v H' ((x0.trans x1).trans h1) h2 h3) fun _ _ _ h => h.after (x0.trans x1))
theorem pe_callDf (G : Good s c x W rc k X) {f : Nat} {y : Str} {e : Expr} {es : List Expr} {ds : DEs} {p pos : Pos} (hg : s.glb y = true) (hf : s.F[f]? = some y) (hst : (e :: es).all (fun e => !isStarred e) = true) (h : PA X (e :: es) (tEs c x W rc ds)) : PE X (.Call (.Name y p) (e :: es) [] pos) (tE c x W rc (.call f ds)) := by
  refine ⟨fun pins st σ H Q I q => ?_⟩
  obtain ⟨R, ρ, B, σd, S, see, ok⟩ := q
  obtain ⟨g1, g2, g3⟩ := G.isGlb hg
  obtain ⟨m1, m2, F⟩ := G.fns f y hf
  rw [evE] at ok
  refine wpAny_Call_Name_kw (ld_glob I g1 m1 ?_ g2)
  have h1 : isStarred e = false ∧ es.all (fun e => !isStarred e) = true := by
    simpa only [List.all_cons, Bool.and_eq_true, Bool.not_eq_true'] using hst
  refine PySem.W.callWith_K (h₀ := X.base) I.ok.mod.kin m2 ?_ (star_off h1.1 _ _) (back_off pos X.env es h1.2)
  exact args_D G h I see (Ext.refl _ _) (okR_mono ok (fun a S' q v H' h1 h2 h3 => q v H' h1 h2 h3 fun z => nomatch z) fun _ _ _ h => h)
/-- a call of what an item gives -/
theorem pe_callDv (G : Good s c x W rc k X) {v0 v1 : Expr} {e : Expr} {es : List Expr} {d : DE} {ds : DEs} {p pos : Pos} (hst : (e :: es).all (fun e => !isStarred e) = true) (h0 : PE X (.Subscript v0 v1 p) (tE c x W rc d)) (h : PA X (e :: es) (tEs c x W rc ds)) :
    PE X (.Call (.Subscript v0 v1 p) (e :: es) [] pos) (tE c x W rc (.callD d ds)) := by
  refine ⟨fun pins st σ H Q I q => ?_⟩
  obtain ⟨R, ρ, B, σd, S, see, ok⟩ := q
  rw [evE, okR_bind] at ok
  refine Call_ (thn (h0.run pins st σ H (fun v H1 => ∃ a S1, Ext ρ H H1 ∧ StoOk c ρ B H1 S1 ∧ Rep c ρ B H1 a v ∧ okR (match a with
    | .fn f => (evEs rc ds σd S1).bind fun xs S2 => rc f xs S2
    | _ => .bad) (fun a S' => ∀ v H', Ext ρ H H' → StoOk c ρ B H' S' → Rep c ρ B H' a v → Fsh (DE.callD d ds).fresh H a v → Q v H') (ExcW c x W ρ B H σ)) I ⟨R, ρ, B, σd, S, see.less fun i hi => List.mem_append_left _ hi, ?_⟩) fun u s1 ⟨v, H1, I1, rv, a, S1, x1, t1, ra, ok⟩ => ?_)
  · exact okR_mono ok (fun a S1 ok v H1 x1 s1 r1 _ => ⟨a, S1, x1, s1, r1, ok⟩) fun _ _ _ h => h
  · cases ra <;> try (exact False.elim ok)
    rename_i f hlt
    cases rv
    cases e1 : s.F[f]? with
    | none =>
      have := List.getElem?_eq_none_iff.mp e1
      rw [G.nf] at this
      omega
    | some nm =>
      obtain ⟨m1, m2, F⟩ := G.fns f nm e1
      have h1 : isStarred e = false ∧ es.all (fun e => !isStarred e) = true := by
        simpa only [List.all_cons, Bool.and_eq_true, Bool.not_eq_true'] using hst
      refine PySem.W.callWith_K (h₀ := X.base) I1.ok.mod.kin m2 ?_ (star_off h1.1 _ _) (back_off pos X.env es h1.2)
      exact args_D G h I1 (see.ext x1 t1 fun i hi => List.mem_append_right _ hi) x1 (okR_mono ok (fun a S' q v H' h1 h2 h3 => q v H' h1 h2 h3 fun z => nomatch z) fun _ _ _ h => h)
end
end DI

end
section
set_option maxRecDepth 100000
set_option maxHeartbeats 8000000
/-! DI10: the look is sound for expressions: the theorem. -/
namespace DI
open PySem PySem.Spec PyProof.Rows L2

section
variable {c : Wc} {x : Xc} {W : WX} {rc : Calls} {k : Nat} {R : Nat → Prop} {ρ : List Addr} {B : Addr → Prop} {H : Hp} {S : Sto} {X : Cx} {σd : List Slot} {σ : L2.St} {s : Sc}

theorem boot_ty (t : Ty) : bootBuiltins (PySem.Str.ofString (tyName t)) = some (.type (tyName t)) := by cases t <;> decide +kernel
theorem ty_blt (t : Ty) : PySem.Str.ofString (tyName t) ∈ bltNames := by cases t <;> decide +kernel
theorem pe_isiD (G : Good s c x W rc k X) {e : Expr} {d : DE} {t : Ty} {p p2 pos : Pos} (hg : s.glb "isinstance" = true) (hg2 : s.glb (PySem.Str.ofString (tyName t)) = true) (hs : isStarred e = false) (h : PE X e (tE c x W rc d)) :
    PE X (.Call (.Name "isinstance" p) [e, .Name (PySem.Str.ofString (tyName t)) p2] [] pos) (tE c x W rc (.isi d t)) := by
  obtain ⟨g1, g2, g3⟩ := G.isGlb hg
  obtain ⟨f1, f2, f3⟩ := G.isGlb hg2
  have hm : X.mg "isinstance" = none := G.blt _ (by decide +kernel)
  have hm2 := G.blt _ (ty_blt t)
  refine pe_imp (pe_callB call_isi g1 hm boot_isinstance (pa_cons h (pa_cons (pe_bltn (v := .ty (tyName t)) f1 hm2 (boot_ty t) rfl f3 f2) pa_nil) (star_off hs _ _)) g3 g2 (star_off hs _ _) rfl) fun σ H Q q => ?_
  obtain ⟨R, ρ, B, σd, S, see, ok⟩ := q
  refine ⟨R, ρ, B, σd, S, see, ?_⟩
  rw [evE, okR_bind] at ok
  refine okR_mono ok (fun a S1 ok v H1 x1 s1 r1 _ => ?_) fun _ _ _ h => h
  rw [okR_ofO] at ok
  obtain ⟨b, e1, q⟩ := ok
  simp only [Option.map_eq_some_iff] at e1
  obtain ⟨kk, e1, rfl⟩ := e1
  obtain ⟨T, t1, t2⟩ := tyx_of r1 e1
  exact ⟨v, .ty (tyName t), _, _, kk, rfl, .ty _, by rw [G.K]; exact t1, by rw [G.K]; exact t2, q _ H1 x1 s1 (.bl _) (fsh_not rfl)⟩
theorem bi_boot (b : Bi) : bootBuiltins (biName b) = some (biVal b) := by cases b <;> decide +kernel
theorem bi_blt (b : Bi) : biName b ∈ bltNames := by cases b <;> decide +kernel
theorem pe_biD (G : Good s c x W rc k X) {b : Bi} {e : Expr} {es : List Expr} {ds : DEs} {p pos : Pos} (hg : s.glb (biName b) = true) (hst : (e :: es).all (fun e => !isStarred e) = true) (h : PA X (e :: es) (tEs c x W rc ds)) :
    PE X (.Call (.Name (biName b) p) (e :: es) [] pos) (tE c x W rc (.bi b ds)) := by
  obtain ⟨g1, g2, g3⟩ := G.isGlb hg
  have hm := G.blt _ (bi_blt b)
  have h1 : isStarred e = false ∧ es.all (fun e => !isStarred e) = true := by
    simpa only [List.all_cons, Bool.and_eq_true, Bool.not_eq_true'] using hst
  have cb := call_bi G.K G.calm G.hu G.gd b
  have fr : (DE.bi b ds).fresh = (b == .list) := by cases b <;> rfl
  have key : ∀ σ H Q, tE c x W rc (.bi b ds) σ H Q → tCB (rBi c b (b == .list)) (tEs c x W rc ds) σ H Q := fun σ H Q q => by
    obtain ⟨R, ρ, B, σd, S, see, ok⟩ := q
    rw [fr] at ok
    refine ⟨R, ρ, B, σd, S, see, ?_⟩
    rw [evE, okR_bind] at ok
    refine okR_mono ok (fun as S1 ok vs H1 x1 s1 r1 => ?_) fun _ _ _ h => h
    rw [okR_ofO] at ok
    obtain ⟨d, e1, q⟩ := ok
    refine ⟨ρ, B, S1, as, d, s1, r1, e1, fun v H2 x2 s2 r2 f2 => q v H2 (x1.trans x2) s2 r2 fun k1 k2 p hp => ?_⟩
    have z := f2 k1 k2 p hp
    cases e : H p with
    | none => rfl
    | some o =>
      by_cases hp : p ∈ ρ
      · exact absurd z (s1.bH p (s1.rB p hp))
      · rw [x1 p o e hp] at z; cases z
  have bb := bi_boot b
  cases b
  · exact pe_imp (pe_callB cb g1 hm bb h g3 g2 (star_off h1.1 _ _) (back_off pos X.env es h1.2)) key
  · exact pe_imp (pe_callB cb g1 hm bb h g3 g2 (star_off h1.1 _ _) (back_off pos X.env es h1.2)) key
  · exact pe_imp (pe_callTy cb g1 hm bb h g3 g2 (star_off h1.1 _ _) (back_off pos X.env es h1.2)) key
  · exact pe_imp (pe_callTy cb g1 hm bb h g3 g2 (star_off h1.1 _ _) (back_off pos X.env es h1.2)) key
  · exact pe_imp (pe_callTy cb g1 hm bb h g3 g2 (star_off h1.1 _ _) (back_off pos X.env es h1.2)) key
  · exact pe_imp (pe_callB cb g1 hm bb h g3 g2 (star_off h1.1 _ _) (back_off pos X.env es h1.2)) key
  · exact pe_imp (pe_callB cb g1 hm bb h g3 g2 (star_off h1.1 _ _) (back_off pos X.env es h1.2)) key
  · exact pe_imp (pe_callB cb g1 hm bb h g3 g2 (star_off h1.1 _ _) (back_off pos X.env es h1.2)) key
  · exact pe_imp (pe_callB cb g1 hm bb h g3 g2 (star_off h1.1 _ _) (back_off pos X.env es h1.2)) key
  · exact pe_imp (pe_callB cb g1 hm bb h g3 g2 (star_off h1.1 _ _) (back_off pos X.env es h1.2)) key
  · exact pe_imp (pe_callB cb g1 hm bb h g3 g2 (star_off h1.1 _ _) (back_off pos X.env es h1.2)) key

/-! ### small ones -/
theorem pe_slotD (G : Good s c x W rc k X) {i : Nat} {y : Str} {p : Pos} (h : s.vis y i = true) : PE X (.Name y p) (tE c x W rc (.slot i)) := by
  obtain ⟨h1, h2, h3, h4⟩ := G.isVis h
  refine pe_imp (pe_var h1 h2 h3 h4) fun σ H Q q => ?_
  obtain ⟨R, ρ, B, σd, S, see, ok⟩ := q
  rw [evE] at ok
  cases e : σd[i]? with
  | none => rw [e] at ok; exact ok.elim
  | some z =>
    rw [e] at ok
    cases z with
    | no => exact ok.elim
    | val d =>
      obtain ⟨v, e1, r1⟩ := see.fr.val i d e
      exact ⟨v, e1, ok v H (Ext.refl _ _) see.st r1 fun z => nomatch z⟩
    | own ds =>
      obtain ⟨a, vs, e1, e2, e3, e4, e5⟩ := see.fr.own i ds e
      exact ⟨.ref a, e1, ok _ H (Ext.refl _ _) see.st (.lst e4 (e3 (see.rd i (List.mem_singleton.mpr rfl))) e5) fun z => nomatch z⟩
theorem pe_constD {d : DE} {z : D} {v : V} {e : Expr} (h : PE X e (tC v)) (hd : ∀ ρ B H, Rep c ρ B H z v) (hv : ∀ σd S, evE rc d σd S = .ok z S) (hl : isLst z = false) : PE X e (tE c x W rc d) := pe_imp h fun σ H Q q => by
  obtain ⟨R, ρ, B, σd, S, see, ok⟩ := q
  rw [hv] at ok
  exact ok v H (Ext.refl _ _) see.st (hd _ _ _) (fsh_not hl)
theorem con_rep {d : D} {cst : Const} {j : Nat} {p : Pos} (h : constB d cst = true) : PE X (.Constant cst j p) (tE c x W rc (.const d)) := by
  cases d <;> cases cst <;> simp only [constB] at h <;> try (cases h; done)
  · exact pe_constD pe_non (fun _ _ _ => .non) (fun _ _ => by rw [evE]) rfl
  · rw [beq_iff_eq] at h; subst h
    exact pe_constD pe_bl (fun _ _ _ => .bl _) (fun _ _ => by rw [evE]) rfl
  · rw [beq_iff_eq] at h; subst h
    exact pe_constD pe_int (fun _ _ _ => .int _) (fun _ _ => by rw [evE]) rfl
  · have h := of_decide_eq_true h; subst h
    exact pe_constD pe_str (fun _ _ _ => .str _) (fun _ _ => by rw [evE]) rfl
theorem pe_negD {a : Expr} {d : DE} {p : Pos} (h : PE X a (tE c x W rc d)) : PE X (.UnaryOp .USub a p) (tE c x W rc (.neg d)) := pe_imp (pe_un un_neg h) fun σ H Q q => by
  obtain ⟨R, ρ, B, σd, S, see, ok⟩ := q
  refine ⟨R, ρ, B, σd, S, see, ?_⟩
  rw [evE, okR_bind] at ok
  refine okR_mono ok (fun a S1 ok v H1 x1 s1 r1 _ => ?_) fun _ _ _ h => h
  rw [okR_ofO] at ok
  obtain ⟨z, e1, q⟩ := ok
  cases r1 <;> simp only [negD] at e1 <;> try (cases e1; done)
  cases e1
  exact ⟨_, rfl, q _ H1 x1 s1 (.int _) (fsh_not rfl)⟩
theorem pe_notD (hK : X.K = c.K) {a : Expr} {d : DE} {p : Pos} (h : PE X a (tE c x W rc d)) (h2 : PT X a (tT c x W rc d)) : PE X (.UnaryOp .Not a p) (tE c x W rc (.notE d)) ∧ PT X (.UnaryOp .Not a p) (tT c x W rc (.notE d)) := by
  refine ⟨pe_imp (pe_notT h) fun σ H Q q => ?_, pt_imp (pt_not h2) fun σ H Q q => ?_⟩
  · obtain ⟨R, ρ, B, σd, S, see, ok⟩ := q
    refine ⟨R, ρ, B, σd, S, see, ?_⟩
    rw [evE, okR_bind] at ok
    refine okR_mono ok (fun a S1 ok v H1 x1 s1 r1 _ => ?_) fun _ _ _ h => h
    rw [okR_bind, okR_ofO] at ok
    obtain ⟨z, e1, q⟩ := ok
    exact ⟨z, by rw [hK]; exact truth_ok r1 e1, q _ H1 x1 s1 (.bl _) (fsh_not rfl)⟩
  · obtain ⟨R, ρ, B, σd, S, see, ok⟩ := q
    refine ⟨R, ρ, B, σd, S, see, ?_⟩
    rw [evE, okR_bind, okR_bind] at ok
    rw [okR_bind]
    refine okR_mono ok (fun a S1 ok => ?_) fun _ _ _ h => h
    rw [okR_bind, okR_ofO] at ok
    obtain ⟨z, e1, ok⟩ := ok
    rw [okR_ofO]
    refine ⟨z, e1, fun H1 x1 s1 => ?_⟩
    have ok : okR (ofO (truth (.bl (!z))) S1) (fun k S' => ∀ H', Ext ρ H H' → StoOk c ρ B H' S' → Q k H') (ExcW c x W ρ B H σ) := ok
    rw [okR_ofO] at ok
    obtain ⟨z2, e2, q⟩ := ok
    cases e2
    exact q H1 x1 s1
theorem pe_ifeD {t a b : Expr} {dt da db : DE} {p : Pos} (ht : PT X t (tT c x W rc dt)) (ha : PE X a (tE c x W rc da)) (ha2 : PT X a (tT c x W rc da)) (hb : PE X b (tE c x W rc db)) (hb2 : PT X b (tT c x W rc db)) :
    PE X (.IfExp t a b p) (tE c x W rc (.ife dt da db)) ∧ PT X (.IfExp t a b p) (tT c x W rc (.ife dt da db)) := by
  constructor
  · refine pe_imp (pe_ifExp ht ha hb) fun σ H Q q => ?_
    obtain ⟨R, ρ, B, σd, S, see, ok⟩ := q
    refine ⟨R, ρ, B, σd, S, see.less fun i hi => List.mem_append_left _ hi, ?_⟩
    rw [evE, okR_bind] at ok
    rw [okR_bind]
    refine okR_mono ok (fun z S1 ok => ?_) fun _ _ _ h => h
    rw [okR_bind] at ok
    refine okR_mono ok (fun z S1 ok H1 x1 s1 => ?_) fun _ _ _ h => h
    cases z with
    | true =>
      rw [if_pos rfl] at ok ⊢
      exact ⟨R, ρ, B, σd, S1, see.ext x1 s1 fun i hi => List.mem_append_right _ (List.mem_append_left _ hi), okR_mono ok (fun a S2 q v H2 x2 s2 r2 _ => q v H2 (x1.trans x2) s2 r2 fun z => nomatch z) fun _ _ _ h => h.after x1⟩
    | false =>
      rw [if_neg Bool.false_ne_true] at ok ⊢
      exact ⟨R, ρ, B, σd, S1, see.ext x1 s1 fun i hi => List.mem_append_right _ (List.mem_append_right _ hi), okR_mono ok (fun a S2 q v H2 x2 s2 r2 _ => q v H2 (x1.trans x2) s2 r2 fun z => nomatch z) fun _ _ _ h => h.after x1⟩
  · refine ⟨fun pins st σ H Q I q => ?_⟩
    obtain ⟨R, ρ, B, σd, S, see, ok⟩ := q
    refine isTrue_IfExp (thn (ht.run pins st σ H (fun z H1 => if z = true then tT c x W rc da σ H1 Q else tT c x W rc db σ H1 Q) I ⟨R, ρ, B, σd, S, see.less fun i hi => List.mem_append_left _ hi, ?_⟩) fun z s1 ⟨H1, I1, q1⟩ => ?_)
    · rw [evE, okR_bind, okR_bind] at ok
      rw [okR_bind]
      refine okR_mono ok (fun z S1 ok => ?_) fun _ _ _ h => h
      rw [okR_bind] at ok
      refine okR_mono ok (fun z S1 ok H1 x1 s1 => ?_) fun _ _ _ h => h
      cases z with
      | true =>
        rw [if_pos rfl] at ok ⊢
        refine ⟨R, ρ, B, σd, S1, see.ext x1 s1 fun i hi => List.mem_append_right _ (List.mem_append_left _ hi), ?_⟩
        rw [okR_bind]
        exact okR_mono ok (fun a S2 ok => okR_mono ok (fun a S2 q H2 x2 s2 => q H2 (x1.trans x2) s2) fun _ _ _ h => h.after x1) fun _ _ _ h => h.after x1
      | false =>
        rw [if_neg Bool.false_ne_true] at ok ⊢
        refine ⟨R, ρ, B, σd, S1, see.ext x1 s1 fun i hi => List.mem_append_right _ (List.mem_append_right _ hi), ?_⟩
        rw [okR_bind]
        exact okR_mono ok (fun a S2 ok => okR_mono ok (fun a S2 q H2 x2 s2 => q H2 (x1.trans x2) s2) fun _ _ _ h => h.after x1) fun _ _ _ h => h.after x1
    · cases z with
      | true => rw [if_pos rfl] at q1 ⊢; exact ha2.run pins s1 σ H1 Q I1 q1
      | false => rw [if_neg Bool.false_ne_true] at q1 ⊢; exact hb2.run pins s1 σ H1 Q I1 q1
theorem pe_tupD {es : List Expr} {ds : DEs} {j : Nat} {p : Pos} (h : PA X es (tEs c x W rc ds)) : PE X (.Tuple es j p) (tE c x W rc (.tup ds)) := pe_imp (pe_tup h) fun σ H Q q => by
  obtain ⟨R, ρ, B, σd, S, see, ok⟩ := q
  refine ⟨R, ρ, B, σd, S, see, ?_⟩
  rw [evE, okR_bind] at ok
  refine okR_mono ok (fun as S1 ok vs H1 x1 s1 r1 => ?_) fun _ _ _ h => h
  obtain ⟨hf, q⟩ := okR_ite.mp ok
  have := fits_le hf
  exact ⟨by rw [← r1.length]; exact this, fun p n => q _ _ (x1.trans (Ext.new n)) (s1.new n) (newTup s1 n r1) (fsh_not rfl)⟩
theorem pe_lstD {es : List Expr} {ds : DEs} {p : Pos} (h : PA X es (tEs c x W rc ds)) : PE X (.List es p) (tE c x W rc (.lst ds)) := pe_imp (pe_lst h) fun σ H Q q => by
  obtain ⟨R, ρ, B, σd, S, see, ok⟩ := q
  refine ⟨R, ρ, B, σd, S, see, ?_⟩
  rw [evE, okR_bind] at ok
  refine okR_mono ok (fun as S1 ok vs H1 x1 s1 r1 => ?_) fun _ _ _ h => h
  obtain ⟨hf, q⟩ := okR_ite.mp ok
  have := fits_le hf
  refine ⟨by rw [← r1.length]; exact this, fun p n => q _ _ (x1.trans (Ext.new n)) (s1.new n) (newLst s1 n r1) fun _ _ p' hp => ?_⟩
  cases hp
  cases e : H p with
  | none => rfl
  | some o =>
    by_cases hp : p ∈ ρ
    · exact absurd n (s1.bH p (s1.rB p hp))
    · rw [x1 p o e hp] at n; cases n
theorem pe_idxD (hK : X.K = c.K) {a b : Expr} {da db : DE} {p : Pos} (hs : isSlice b = false) (ha : PE X a (tE c x W rc da)) (hb : PE X b (tE c x W rc db)) : PE X (.Subscript a b p) (tE c x W rc (.idx da db)) :=
  pe_imp (pe_ix (by rw [← hK]; exact ix_seq) ha hb (ix_off hs)) fun σ H Q q => bin_idx.tOp (by
    have q2 := q
    simp only [tE, tRun, DE.reads, DE.fresh, evE] at q2
    exact q2)
end
end DI

end
section
set_option maxRecDepth 100000
set_option maxHeartbeats 8000000
/-! DI11: the look is sound for expressions. -/
namespace DI
open PySem PySem.Spec PyProof.Rows L2

section
variable {c : Wc} {x : Xc} {rc : Calls} {k : Nat}

theorem Good.block {W : WX} {X : Cx} {s : Sc} (G : Good s c x W rc k X) (st : Shared) (H : Hp) (scope : Scope) (C : Addr) (cl : List (Str × Addr)) (fp : List Addr) :
    Good (s.blk scope) c x W0 rc k (X.blk st H scope (compEnvC scope cl C X.env) fp) := by
  refine ⟨?_, G.N, G.nd, rfl, G.K, G.calm, G.room, G.gd, takes0, G.fns, G.nf, G.out, G.con, G.blt⟩
  show relS scope X.env.scope = relS scope s.sc
  rw [G.sc]
theorem Good.toOk {W : WX} {X : Cx} {s : Sc} (G : Good s c x W rc k X) {y : Str} {i : Nat} (h : s.sto y i = true) : ToOk X y i := G.isSto h
theorem pg_D {W : WX} {X : Cx} {s : Sc} (G : Good s c x W rc k X) {t : DT} {e : Expr} (h : chkT s t e = true) : PG X e (tgV c.K t) := by
  have hN : X.N.Nodup := by rw [G.N]; exact G.nd
  cases t with
  | one i =>
    simp only [chkT] at h
    split at h
    · rename_i y e1
      obtain ⟨p, rfl⟩ := asName_eq e1
      obtain ⟨h1, h2, h3⟩ := G.isSto h
      exact pg_name hN h1 h2 h3
    · cases h
  | many is =>
    simp only [chkT] at h
    split at h
    · rename_i es e1
      obtain ⟨j, p, rfl⟩ := asTup_eq e1
      simp only [Bool.and_eq_true, decide_eq_true_eq] at h
      have hz : ∀ q ∈ es.zip is, ∃ y r, q.1 = .Name y r ∧ ToOk X y q.2 := fun q hq => by
        have h2 := List.all_eq_true.mp h.2 q hq
        split at h2
        · rename_i y e2
          obtain ⟨r, e3⟩ := asName_eq e2
          exact ⟨y, r, e3, G.isSto h2⟩
        · cases h2
      have hnm : ∀ (es : List Expr) (is : List Nat), es.length = is.length → (∀ q ∈ es.zip is, ∃ y r, q.1 = .Name y r ∧ ToOk X y q.2) → (assignEach es X.env).length = es.length ∧ (assignEach es X.env).findIdx? (·.1) = none := by
        intro es
        induction es with
        | nil => intro is _ _; exact ⟨rfl, rfl⟩
        | cons e es ih =>
          intro is hl hq
          cases is with
          | nil => simp at hl
          | cons i is =>
            obtain ⟨y, r, e3, _⟩ := hq (e, i) (by simp)
            simp only at e3
            subst e3
            obtain ⟨i1, i2⟩ := ih is (by simpa using hl) fun q hm => hq q (by simp [hm])
            have e4 : assignEach (.Name y r :: es) X.env = (false, assign (.Name y r) X.env) :: assignEach es X.env := rfl
            rw [e4]
            refine ⟨by simp [i1], ?_⟩
            rw [List.findIdx?_cons, i2]; rfl
      obtain ⟨n1, n2⟩ := hnm es is h.1 hz
      refine pg_imp (pg_tup (n := es.length) G.calm (pgs_names hN es is h.1 hz) n1 n2) fun v σ H Q ⟨a, vs, e2, e3, e4, q⟩ => ⟨a, vs, e2, by rw [G.K]; exact e3, by rw [e4, h.1], e4, q⟩
    · cases h
theorem allStar {es : List Expr} {ds : DEs} {s : Sc} (h : chkEs s ds es = true) : es.all (fun e => !isStarred e) = true := by
  induction es generalizing ds with
  | nil => rfl
  | cons e es ih =>
    cases ds with
    | nil => simp [chkEs] at h
    | cons d ds =>
      simp only [chkEs, Bool.and_eq_true, Bool.not_eq_true'] at h
      simp only [List.all_cons, Bool.and_eq_true, Bool.not_eq_true']
      exact ⟨h.1, ih h.2.2⟩
theorem lc_D {W : WX} {X : Cx} {s : Sc} (G : Good s c x W rc k X) {vs : List Nat} {t : DT} {src : DIt} {ifs : DO} {elt : DE} {el tg it : Expr} {fs : List Expr} {scope : Scope} {p : Pos}
    (hb : blkC s.N s.sc scope (ownOf s.N scope) = true) (hv : (ownOf s.N scope).map (·.2) = vs) (hw : t.within vs) (hns : isSet it = false)
    (hi : PI X tg it (tI c x W rc src)) (ht : ∀ X', Good (s.blk scope) c x W0 rc k X' → PG X' tg (tgV c.K t)) (hf : ∀ X', Good (s.blk scope) c x W0 rc k X' → PTs X' fs (tIfs c x W0 rc ifs)) (he : ∀ X', Good (s.blk scope) c x W0 rc k X' → PE X' el (tE c x W0 rc elt)) :
    PE X (.ListComp el [⟨tg, it, fs, 0⟩] scope p) (tE c x W rc (.lc vs t src ifs elt)) := by
  have hN : X.N.Nodup := by rw [G.N]; exact G.nd
  have ok : BlkOk X.N X.env.scope scope (ownOf s.N scope) := by rw [G.N, G.sc]; exact blkOk_by hb
  refine pe_imp (pe_lc (own := ownOf s.N scope) G.calm hN hi ok (fun st H C cl fp => ht _ (G.block st H scope C cl fp)) (fun st H C cl fp => hf _ (G.block st H scope C cl fp)) (fun st H C cl fp => he _ (G.block st H scope C cl fp)) (fun v => set_off hns _ v)) fun σ H Q q => ?_
  rw [hv]
  exact tLc_ok hw q
theorem chkI_set {s : Sc} {d : DIt} {t e : Expr} (h : chkI s d t e = true) : isSet e = false := by
  cases d with
  | seq a =>
    simp only [chkI, Bool.and_eq_true, Bool.not_eq_true'] at h
    exact h.1
  | rng1 a =>
    simp only [chkI] at h
    split at h
    · rename_i g l e1
      obtain ⟨p, rfl⟩ := asCall_eq e1
      rfl
    · cases h
  | rng2 a b =>
    simp only [chkI] at h
    split at h
    · rename_i g l e1
      obtain ⟨p, rfl⟩ := asCall_eq e1
      rfl
    · cases h
  | zip a b =>
    simp only [chkI] at h
    split at h
    · rename_i g l e1
      obtain ⟨p, rfl⟩ := asCall_eq e1
      rfl
    · cases h
theorem noFshB {W : WX} {X : Cx} {o : BoolOp} {l : List Expr} {r : List Slot → Sto → Res D} {d : DE} (h : ∀ pos, l ≠ [] → PE X (.BoolOp o l pos) (tRun c x W r d.reads false)) (ne : l ≠ []) (pos : Pos) (hr : ∀ σ S, evE rc d σ S = r σ S) (hf : d.fresh = false := by rfl) : PE X (.BoolOp o l pos) (tE c x W rc d) :=
  pe_imp (h pos ne) fun σ H Q q => by
  obtain ⟨R, ρ, B, σd, S, see, ok⟩ := q
  rw [hr, hf] at ok
  exact ⟨R, ρ, B, σd, S, see, ok⟩
theorem ptB {W : WX} {X : Cx} {e : Expr} {r : List Slot → Sto → Res D} {d : DE} (h : PW X e (tTst c x W r d.reads)) (hr : ∀ σ S, evE rc d σ S = r σ S) : PT X e (tT c x W rc d) :=
  pt_imp h.pt fun σ H Q q => by
  obtain ⟨R, ρ, B, σd, S, see, ok⟩ := q
  rw [hr] at ok
  exact ⟨R, ρ, B, σd, S, see, ok⟩
mutual
theorem sE : ∀ (d : DE) (W : WX) (X : Cx) (s : Sc) (e : Expr), Good s c x W rc k X → chkE s d e = true → PE X e (tE c x W rc d) ∧ PT X e (tT c x W rc d)
  | .slot i, W, X, s, e, G, h => by
    simp only [chkE] at h
    split at h
    · rename_i y e1
      obtain ⟨p, rfl⟩ := asName_eq e1
      exact ⟨pe_slotD G h, pt_of G.K (pe_slotD G h) rfl⟩
    · cases h
  | .const d, W, X, s, e, G, h => by
    have old : ∀ {cst : Const}, asConst e = some cst → constB d cst = true → PE X e (tE c x W rc (.const d)) ∧ PT X e (tT c x W rc (.const d)) := fun e1 hcb => by
      obtain ⟨j, p, e2⟩ := asConst_eq e1
      rw [e2]
      exact ⟨con_rep hcb, pt_of G.K (con_rep hcb) rfl⟩
    cases d with
    | fn f =>
      simp only [chkE] at h
      split at h
      · rename_i y e1
        obtain ⟨p, rfl⟩ := asName_eq e1
        simp only [Bool.and_eq_true, decide_eq_true_eq] at h
        obtain ⟨g1, g2, g3⟩ := G.isGlb h.1
        obtain ⟨m1, m2, _⟩ := G.fns f y h.2
        have hlt : f < c.nf := by rw [← G.nf]; exact (List.getElem?_eq_some_iff.mp h.2).1
        have hp : PE X (.Name y p) (tE c x W rc (.const (.fn f))) := pe_constD (pe_glob (v := .ref (c.fa f)) g1 m1 rfl g2) (fun _ _ _ => .fn hlt) (fun _ _ => by rw [evE]) rfl
        exact ⟨hp, pt_of G.K hp rfl⟩
      · cases h
    | _ =>
      simp only [chkE] at h
      split at h
      · exact old ‹_› h
      · cases h
  | .glob y d, W, X, s, e, G, h => by
    simp only [chkE] at h
    split at h
    · rename_i z e1
      obtain ⟨p, rfl⟩ := asName_eq e1
      simp only [Bool.and_eq_true, decide_eq_true_eq, List.any_eq_true] at h
      obtain ⟨rfl, h1, q, hq, h2, h3⟩ := h
      obtain ⟨g1, g2, g3⟩ := G.isGlb h1
      have e2 := D.same_eq _ _ h3
      obtain ⟨v, u, m1, m2, m3⟩ := G.con q.1 q.2 hq
      rw [h2] at m1
      rw [e2] at m3
      have hp : PE X (.Name y p) (tE c x W rc (.glob y d)) := pe_imp (pe_glob g1 m1 m2 g2) fun σ H Q q => by
        obtain ⟨R, ρ, B, σd, S, see, ok⟩ := q
        rw [evE] at ok
        exact ok v H (Ext.refl _ _) see.st (m3 _ _ _) fun z => nomatch z
      exact ⟨hp, pt_of G.K hp rfl⟩
    · cases h
  | .bop o a b, W, X, s, e, G, h => by
    simp only [chkE] at h
    split at h
    · rename_i l p r e1
      obtain ⟨ps, rfl⟩ := asBin_eq e1
      simp only [Bool.and_eq_true, decide_eq_true_eq] at h
      obtain ⟨rfl, h1, h2⟩ := h
      have hp := pe_bopD (o := o) (pos := ps) G.K (sE a W X s l G h1).1 (sE b W X s r G h2).1
      exact ⟨hp, pt_of G.K hp rfl⟩
    · cases h
  | .neg a, W, X, s, e, G, h => by
    simp only [chkE] at h
    split at h
    · rename_i p l e1
      obtain ⟨ps, rfl⟩ := asUn_eq e1
      simp only [Bool.and_eq_true, decide_eq_true_eq] at h
      obtain ⟨rfl, h1⟩ := h
      have hp := pe_negD (p := ps) (sE a W X s l G h1).1
      exact ⟨hp, pt_of G.K hp rfl⟩
    · cases h
  | .cmp o a b, W, X, s, e, G, h => by
    simp only [chkE] at h
    split at h
    · rename_i l p r e1
      obtain ⟨ps, rfl⟩ := asCmp1_eq e1
      simp only [Bool.and_eq_true, decide_eq_true_eq, Bool.not_eq_true'] at h
      obtain ⟨rfl, h0, h1, h2⟩ := h
      exact pe_cmpD G.K G.hu h0 (sE a W X s l G h1).1 (sE b W X s r G h2).1
    · cases h
  | .chain o q a b e', W, X, s, e, G, h => by
    simp only [chkE] at h
    split at h
    · rename_i l p p2 r t e1
      obtain ⟨ps, rfl⟩ := asCmp2_eq e1
      simp only [Bool.and_eq_true, decide_eq_true_eq, Bool.not_eq_true'] at h
      obtain ⟨rfl, rfl, h0, h1, h2, h3⟩ := h
      exact pe_chainD G.K G.hu h0 (sE a W X s l G h1).1 (sE b W X s r G h2).1 (sE e' W X s t G h3).1
    · cases h
  | .notE a, W, X, s, e, G, h => by
    simp only [chkE] at h
    split at h
    · rename_i p l e1
      obtain ⟨ps, rfl⟩ := asUn_eq e1
      simp only [Bool.and_eq_true, decide_eq_true_eq] at h
      obtain ⟨rfl, h1⟩ := h
      exact pe_notD G.K (sE a W X s l G h1).1 (sE a W X s l G h1).2
    · cases h
  | .bAnd ds, W, X, s, e, G, h => by
    simp only [chkE] at h
    split at h
    · rename_i p l e1
      obtain ⟨ps, rfl⟩ := asBool_eq e1
      simp only [Bool.and_eq_true, decide_eq_true_eq] at h
      obtain ⟨rfl, h1⟩ := h
      obtain ⟨h0, h1⟩ := h1
      have ne : l ≠ [] := fun z => by rw [z] at h0; cases h0
      have b := (sEs ds W X s l G h1).2 ne
      refine ⟨noFshB b.an ne ps (fun σ S => by rw [evE]), ptB (b.anT ps ne) fun σ S => by rw [evE]⟩
    · cases h
  | .bOr ds, W, X, s, e, G, h => by
    simp only [chkE] at h
    split at h
    · rename_i p l e1
      obtain ⟨ps, rfl⟩ := asBool_eq e1
      simp only [Bool.and_eq_true, decide_eq_true_eq] at h
      obtain ⟨rfl, h1⟩ := h
      obtain ⟨h0, h1⟩ := h1
      have ne : l ≠ [] := fun z => by rw [z] at h0; cases h0
      have b := (sEs ds W X s l G h1).2 ne
      refine ⟨noFshB b.or_ ne ps (fun σ S => by rw [evE]), ptB (b.orT ps ne) fun σ S => by rw [evE]⟩
    · cases h
  | .ife cc a b, W, X, s, e, G, h => by
    simp only [chkE] at h
    split at h
    · rename_i t l r e1
      obtain ⟨ps, rfl⟩ := asIf_eq e1
      simp only [Bool.and_eq_true] at h
      obtain ⟨h0, h1, h2⟩ := h
      exact pe_ifeD (sE cc W X s t G h0).2 (sE a W X s l G h1).1 (sE a W X s l G h1).2 (sE b W X s r G h2).1 (sE b W X s r G h2).2
    · cases h
  | .tup ds, W, X, s, e, G, h => by
    simp only [chkE] at h
    split at h
    · rename_i l e1
      obtain ⟨j, ps, rfl⟩ := asTup_eq e1
      have hp := pe_tupD (j := j) (p := ps) (sEs ds W X s l G h).1
      exact ⟨hp, pt_of G.K hp rfl⟩
    · cases h
  | .lst ds, W, X, s, e, G, h => by
    simp only [chkE] at h
    split at h
    · rename_i l e1
      obtain ⟨ps, rfl⟩ := asLst_eq e1
      have hp := pe_lstD (p := ps) (sEs ds W X s l G h).1
      exact ⟨hp, pt_of G.K hp rfl⟩
    · cases h
  | .idx a b, W, X, s, e, G, h => by
    simp only [chkE] at h
    split at h
    · rename_i l r e1
      obtain ⟨ps, rfl⟩ := asSub_eq e1
      simp only [Bool.and_eq_true, Bool.not_eq_true'] at h
      obtain ⟨h0, h1, h2⟩ := h
      have hp := pe_idxD (p := ps) G.K h0 (sE a W X s l G h1).1 (sE b W X s r G h2).1
      exact ⟨hp, pt_of G.K hp rfl⟩
    · cases h
  | .slc a lo hi, W, X, s, e, G, h => by
    simp only [chkE] at h
    split at h
    · rename_i l r e1
      obtain ⟨ps, rfl⟩ := asSub_eq e1
      split at h
      · rename_i y z t e2
        obtain ⟨p2, rfl⟩ := asSlice_eq e2
        simp only [Bool.and_eq_true, Option.isNone_iff_eq_none] at h
        obtain ⟨rfl, h1, h2, h3⟩ := h
        have hp := pe_slcD (p2 := p2) (pos := ps) G.K (sE a W X s l G h1).1 (sO lo W X s y G h2).1 (sO hi W X s z G h3).1
        exact ⟨hp, pt_of G.K hp rfl⟩
      · cases h
    · cases h
  | .slcR a lo, W, X, s, e, G, h => by
    simp only [chkE] at h
    split at h
    · rename_i l r e1
      obtain ⟨ps, rfl⟩ := asSub_eq e1
      split at h
      · rename_i y z t e2
        obtain ⟨p2, rfl⟩ := asSlice_eq e2
        simp only [Bool.and_eq_true, Option.isNone_iff_eq_none] at h
        obtain ⟨rfl, h0, h1, h2⟩ := h
        split at h0
        · rename_i zz
          split at h0
          · rename_i p kk e3
            obtain ⟨p3, rfl⟩ := asUn_eq e3
            simp only [Bool.and_eq_true, decide_eq_true_eq] at h0
            obtain ⟨rfl, h4⟩ := h0
            obtain ⟨j, p4, rfl⟩ := asConst_eq h4
            have hp := pe_slcRD (k := j) (p1 := p4) (p2 := p3) (p3 := p2) (pos := ps) G.K (sE a W X s l G h1).1 (sO lo W X s y G h2).1
            exact ⟨hp, pt_of G.K hp rfl⟩
          · cases h0
        · cases h0
      · cases h
    · cases h
  | .call f ds, W, X, s, e, G, h => by
    simp only [chkE] at h
    split at h
    · rename_i g l e1
      obtain ⟨ps, rfl⟩ := asCall_eq e1
      split at h
      · rename_i y e2
        obtain ⟨p, rfl⟩ := asName_eq e2
        simp only [Bool.and_eq_true, decide_eq_true_eq] at h
        obtain ⟨h0, h1, h2⟩ := h
        have hs := allStar h2
        have b := (sEs ds W X s l G h2).1
        have hp : PE X (.Call (.Name y p) l [] ps) (tE c x W rc (.call f ds)) := by
          cases l with
          | nil =>
            cases ds with
            | nil => exact pe_callD0 G h0 h1
            | cons _ _ => simp [chkEs] at h2
          | cons e es => exact pe_callDf G h0 h1 hs b
        exact ⟨hp, pt_of G.K hp rfl⟩
      · cases h
    · cases h
  | .callD a ds, W, X, s, e, G, h => by
    simp only [chkE] at h
    split at h
    · rename_i g l e1
      obtain ⟨ps, rfl⟩ := asCall_eq e1
      simp only [Bool.and_eq_true] at h
      obtain ⟨h0, h1, h2, h3⟩ := h
      have hs := allStar h3
      have b := (sEs ds W X s l G h3).1
      cases e2 : asSub g with
      | none => rw [e2] at h0; cases h0
      | some vv =>
        obtain ⟨v0, v1⟩ := vv
        obtain ⟨p, rfl⟩ := asSub_eq e2
        cases l with
        | nil => simp at h1
        | cons e es =>
          have hp := pe_callDv (p := p) (pos := ps) G hs (sE a W X s _ G h2).1 b
          exact ⟨hp, pt_of G.K hp rfl⟩
    · cases h
  | .bi b ds, W, X, s, e, G, h => by
    simp only [chkE] at h
    split at h
    · rename_i g l e1
      obtain ⟨ps, rfl⟩ := asCall_eq e1
      split at h
      · rename_i y e2
        obtain ⟨p, rfl⟩ := asName_eq e2
        simp only [Bool.and_eq_true, decide_eq_true_eq, Bool.not_eq_true'] at h
        obtain ⟨h0, rfl, h1, h2⟩ := h
        have hs := allStar h2
        have bb := (sEs ds W X s l G h2).1
        cases l with
        | nil => simp at h1
        | cons e es =>
          have hp := pe_biD (b := b) (p := p) (pos := ps) G h0 hs bb
          exact ⟨hp, pt_of G.K hp rfl⟩
      · cases h
    · cases h
  | .isi a t, W, X, s, e, G, h => by
    simp only [chkE] at h
    split at h
    · rename_i g l e1
      obtain ⟨ps, rfl⟩ := asCall_eq e1
      split at h
      · rename_i y z u e2
        obtain ⟨p, rfl⟩ := asName_eq e2
        simp only [Bool.and_eq_true, decide_eq_true_eq, Bool.not_eq_true'] at h
        obtain ⟨h0, rfl, h2, h3, h1⟩ := h
        split at h1
        · rename_i n e3
          obtain ⟨p2, rfl⟩ := asName_eq e3
          simp only [Bool.and_eq_true, decide_eq_true_eq] at h1
          obtain ⟨h4, rfl⟩ := h1
          have hp := pe_isiD (t := t) (p := p) (p2 := p2) (pos := ps) G h0 h4 h2 (sE a W X s _ G h3).1
          exact ⟨hp, pt_of G.K hp rfl⟩
        · cases h1
      · cases h
    · cases h
  | .lc vs t src ifs elt, W, X, s, e, G, h => by
    simp only [chkE] at h
    split at h
    · rename_i el tg it fs scope e1
      obtain ⟨ps, rfl⟩ := asLC_eq e1
      simp only [Bool.and_eq_true, decide_eq_true_eq] at h
      obtain ⟨h0, h1, h2, h3, h4, h5, h6⟩ := h
      have hw : t.within vs := by
        cases t with
        | one i => exact List.contains_iff_mem.mp h6
        | many is =>
          intro i hi
          have := List.all_eq_true.mp h6 i hi
          exact List.contains_iff_mem.mp this
      have hf : ∀ X', Good (s.blk scope) c x W0 rc k X' → PTs X' fs (tIfs c x W0 rc ifs) := fun X' G' => by
        split at h4
        · exact (sO ifs W0 X' (s.blk scope) none G' h4).2.1 rfl
        · rename_i f
          exact (sO ifs W0 X' (s.blk scope) (some f) G' h4).2.2 f rfl
        · cases h4
      have hp := lc_D (p := ps) G h0 h1 hw (chkI_set h2) (sI src W X s tg it G h2) (fun X' G' => pg_D G' h3) hf (fun X' G' => (sE elt W0 X' (s.blk scope) el G' h5).1)
      exact ⟨hp, pt_of G.K hp rfl⟩
    · cases h
theorem sEs : ∀ (ds : DEs) (W : WX) (X : Cx) (s : Sc) (es : List Expr), Good s c x W rc k X → chkEs s ds es = true → PA X es (tEs c x W rc ds) ∧ (es ≠ [] → BoolsOk c x W rc X ds es)
  | .nil, W, X, s, es, G, h => by
    simp only [chkEs, List.isEmpty_iff] at h
    subst h
    exact ⟨tEs_nil, fun z => absurd rfl z⟩
  | .cons d ds, W, X, s, es, G, h => by
    simp only [chkEs] at h
    split at h
    · rename_i a r
      simp only [Bool.and_eq_true, Bool.not_eq_true'] at h
      obtain ⟨h0, h1, h2⟩ := h
      obtain ⟨p1, p2⟩ := sE d W X s a G h1
      obtain ⟨q1, q2⟩ := sEs ds W X s r G h2
      refine ⟨tEs_cons h0 p1 q1, fun _ => ?_⟩
      cases ds with
      | nil =>
        simp only [chkEs, List.isEmpty_iff] at h2
        subst h2
        exact bools_one h0 p1 p2
      | cons d2 ds2 =>
        cases r with
        | nil => simp [chkEs] at h2
        | cons a2 r2 => exact bools_cons G.K h0 p1 p2 (q2 (List.cons_ne_nil _ _))
    · cases h
theorem sO : ∀ (d : DO) (W : WX) (X : Cx) (s : Sc) (e : Option Expr), Good s c x W rc k X → chkO s d e = true → PO X e (tO c x W rc d) ∧ ((e = none → PTs X [] (tIfs c x W rc d)) ∧ ∀ f, e = some f → PTs X [f] (tIfs c x W rc d))
  | .none, W, X, s, e, G, h => by
    simp only [chkO, Option.isNone_iff_eq_none] at h
    subst h
    exact ⟨po_D_none, fun _ => pts_D_none, fun _ z => nomatch z⟩
  | .some d, W, X, s, e, G, h => by
    simp only [chkO] at h
    split at h
    · rename_i a
      obtain ⟨p1, p2⟩ := sE d W X s a G h
      exact ⟨po_D_some p1, fun z => (nomatch z), fun f z => by cases z; exact pts_D_some p2⟩
    · cases h
theorem sI : ∀ (d : DIt) (W : WX) (X : Cx) (s : Sc) (tg e : Expr), Good s c x W rc k X → chkI s d tg e = true → PI X tg e (tI c x W rc d)
  | .seq a, W, X, s, tg, e, G, h => by
    simp only [chkI, Bool.and_eq_true, Bool.not_eq_true'] at h
    exact pi_seqD G.K (sE a W X s e G h.2).1
  | .rng1 a, W, X, s, tg, e, G, h => by
    simp only [chkI] at h
    split at h
    · rename_i g l e1
      obtain ⟨ps, rfl⟩ := asCall_eq e1
      split at h
      · rename_i y z e2
        obtain ⟨p, rfl⟩ := asName_eq e2
        simp only [Bool.and_eq_true, decide_eq_true_eq, Bool.not_eq_true'] at h
        obtain ⟨h0, rfl, h1, h2⟩ := h
        exact pi_rng1D (G.isGlb h0).1 (G.blt _ (by decide +kernel)) h1 (sE a W X s _ G h2).1
      · cases h
    · cases h
  | .rng2 a b, W, X, s, tg, e, G, h => by
    simp only [chkI] at h
    split at h
    · rename_i g l e1
      obtain ⟨ps, rfl⟩ := asCall_eq e1
      split at h
      · rename_i y z t e2
        obtain ⟨p, rfl⟩ := asName_eq e2
        simp only [Bool.and_eq_true, decide_eq_true_eq, Bool.not_eq_true'] at h
        obtain ⟨h0, rfl, h1, h2, h3, h4⟩ := h
        exact pi_rng2D (G.isGlb h0).1 (G.blt _ (by decide +kernel)) h1 h2 (sE a W X s _ G h3).1 (sE b W X s _ G h4).1
      · cases h
    · cases h
  | .zip a b, W, X, s, tg, e, G, h => by
    simp only [chkI] at h
    split at h
    · rename_i g l e1
      obtain ⟨ps, rfl⟩ := asCall_eq e1
      split at h
      · rename_i y z t e2
        obtain ⟨p, rfl⟩ := asName_eq e2
        simp only [Bool.and_eq_true, decide_eq_true_eq, Bool.not_eq_true'] at h
        obtain ⟨h5, h0, rfl, h1, h2, h3, h4⟩ := h
        cases e3 : asTup tg with
        | none => rw [e3] at h5; cases h5
        | some elts =>
          obtain ⟨j, p2, rfl⟩ := asTup_eq e3
          exact pi_zipD G.K (G.isGlb h0).1 (G.blt _ (by decide +kernel)) h1 h2 (sE a W X s _ G h3).1 (sE b W X s _ G h4).1
      · cases h
    · cases h
end
end
end DI

end
section
set_option maxRecDepth 100000
set_option maxHeartbeats 4000000
/-! DI12: the state in which a def's statements run. -/
namespace DI
open PySem PySem.Spec PyProof.Rows L2

/-- how a def was entered -/
structure Ent where
  ρ : List Addr
  B : Addr → Prop
  H : Hp
  n : Nat
structure Lv (c : Wc) (E : Ent) (own : List Nat) (ρ : List Addr) (G : Addr → Prop) (H : Hp) (σd : List Slot) (σ : L2.St) (S : Sto) : Prop where
  fr : FrOk c (fun i => i ∉ own) ρ G H σd σ
  st : StoOk c ρ G H S
  ow : ∀ (i : Nat) (ds : List D), σd[i]? = some (.own ds) → i ∈ own ∧ D.plains ds = true ∧ ∀ a, σ[i]? = some (some (.ref a)) → G a ∧ E.H a = none
  inj : ∀ (i j : Nat) (ds es : List D) (a : Addr), σd[i]? = some (.own ds) → σd[j]? = some (.own es) → σ[i]? = some (some (.ref a)) → σ[j]? = some (some (.ref a)) → i = j
  ext : Ext E.ρ E.H H
  pre : ∀ (n : Nat) (a : Addr), E.ρ[n]? = some a → ρ[n]? = some a
  low : ∀ a, E.B a → G a
  old : ∀ a, E.B a → E.H a ≠ none
  new : ∀ a, a ∈ ρ → a ∈ E.ρ ∨ E.H a = none
  eH : ∀ a, a ∈ E.ρ → E.H a ≠ none
  ln : σ.length = E.n
/-- what outlasts a piece of code -/
structure Keep (ρ : List Addr) (G : Addr → Prop) (H : Hp) (ρ' : List Addr) (G' : Addr → Prop) (H' : Hp) : Prop where
  pre : ∀ (n : Nat) (a : Addr), ρ[n]? = some a → ρ'[n]? = some a
  obj : ∀ a o, H a = some o → ¬ G a → H' a = some o ∧ ¬ G' a
theorem Keep.refl (ρ : List Addr) (G : Addr → Prop) (H : Hp) : Keep ρ G H ρ G H := ⟨fun _ _ e => e, fun _ _ e n => ⟨e, n⟩⟩
theorem Keep.trans {ρ ρ1 ρ2 : List Addr} {G G1 G2 : Addr → Prop} {H H1 H2 : Hp} (a : Keep ρ G H ρ1 G1 H1) (b : Keep ρ1 G1 H1 ρ2 G2 H2) : Keep ρ G H ρ2 G2 H2 :=
  ⟨fun n x e => b.pre n x (a.pre n x e), fun x o e n => by
    obtain ⟨e1, n1⟩ := a.obj x o e n
    exact b.obj x o e1 n1⟩
section
variable {c : Wc} {x : Xc} {W : WX} {E : Ent} {own : List Nat} {ρ : List Addr} {G : Addr → Prop} {H H1 : Hp} {σd : List Slot} {σ : L2.St} {S S1 : Sto}
/-- the own lists' places -/
def OwnAt (σd : List Slot) (σ : L2.St) (a : Addr) : Prop := ∃ (i : Nat) (ds : List D), σd[i]? = some (Slot.own ds) ∧ σ[i]? = some (some (V.ref a))
structure Md (c : Wc) (E : Ent) (ρ : List Addr) (G : Addr → Prop) (H : Hp) (σd : List Slot) (σ : L2.St) (S : Sto) (rd : List Nat) (w : Bool) (R : Nat → Prop) (B : Addr → Prop) : Prop where
  see : Sees c R ρ B H σd σ S rd
  lo : ∀ a, E.B a → B a
  up : ∀ a, B a → G a
  rh : ∀ a, a ∈ ρ → B a
  sto : ∀ H1 S1, Ext ρ H H1 → StoOk c ρ B H1 S1 → StoOk c ρ G H1 S1
  pln : ∀ H1 d v, Ext ρ H H1 → d.plain = true → Rep c ρ B H1 d v → Rep c ρ G H1 d v
  plns : ∀ H1 d v, Ext ρ H H1 → D.plains d = true → RepA c ρ B H1 d v → RepA c ρ G H1 d v
  str : w = false → B = G
theorem bH_ext {B : Addr → Prop} (s : StoOk c ρ G H S) (x : Ext ρ H H1) (t : StoOk c ρ B H1 S1) (a : Addr) (g : G a) : H1 a ≠ none := by
  by_cases h : a ∈ ρ
  · obtain ⟨o, e⟩ := t.has h
    rw [e]; intro z; cases z
  · cases e : H a with
    | none => exact absurd e (s.bH a g)
    | some o => rw [x a o e h]; intro z; cases z
theorem Lv.mode (L : Lv c E own ρ G H σd σ S) (w : Bool) (rd : List Nat) (hw : w = false → ∀ i ∈ rd, i ∉ own) : ∃ R B, Md c E ρ G H σd σ S rd w R B := by
  cases w with
  | false =>
    exact ⟨fun i => i ∉ own, G, ⟨L.fr, L.st, hw rfl⟩, L.low, fun _ h => h, L.st.rB, fun _ _ _ s => s, fun _ _ _ _ _ r => r, fun _ _ _ _ _ r => r, fun _ => rfl⟩
  | true =>
    have tup : ∀ H1, Ext ρ H H1 → ∀ a vs, H1 a = some (.tup vs) → ¬ (G a ∧ ¬ OwnAt σd σ a) → ¬ G a := fun H1 x1 a vs e n g => by
      refine n ⟨g, fun ⟨i, ds, h1, h2⟩ => ?_⟩
      obtain ⟨a', us, g1, g2, _, g4, _⟩ := L.fr.own i ds h1
      rw [h2] at g1; cases g1
      rw [x1 _ _ g4 g2] at e; cases e
    have pl : ∀ H1 d v, Ext ρ H H1 → d.plain = true → Rep c ρ (fun a => G a ∧ ¬ OwnAt σd σ a) H1 d v → Rep c ρ G H1 d v := fun H1 d v x1 p r => Rep.plainly (tup H1 x1) d v p r
    have pls : ∀ H1 d v, Ext ρ H H1 → D.plains d = true → RepA c ρ (fun a => G a ∧ ¬ OwnAt σd σ a) H1 d v → RepA c ρ G H1 d v := fun H1 d v x1 p r => RepA.plainly (tup H1 x1) d v p r
    have rh : ∀ a, a ∈ ρ → G a ∧ ¬ OwnAt σd σ a := fun a h => ⟨L.st.rB a h, fun ⟨i, ds, h1, h2⟩ => by
      obtain ⟨a', us, g1, g2, _⟩ := L.fr.own i ds h1
      rw [h2] at g1; cases g1
      exact g2 h⟩
    refine ⟨fun _ => True, fun a => G a ∧ ¬ OwnAt σd σ a, ⟨⟨L.fr.len, fun i d e => ?_, fun i ds e => ?_⟩, ?_, fun _ _ => trivial⟩, fun a h => ⟨L.low a h, fun ⟨i, ds, h1, h2⟩ => L.old a h ((L.ow i ds h1).2.2 a h2).2⟩, fun a h => h.1, rh, fun H1 S1 x1 s1 => ?_, pl, pls, fun h => nomatch h⟩
    · obtain ⟨v, h1, h2⟩ := L.fr.val i d e
      exact ⟨v, h1, h2.weak fun a h => h.1⟩
    · obtain ⟨a, vs, h1, h2, _, h4, h5⟩ := L.fr.own i ds e
      exact ⟨a, vs, h1, h2, fun _ z => z.2 ⟨i, ds, e, h1⟩, h4, h5.weak fun a h => h.1⟩
    · exact L.st.weak (fun a h => h.1) rh
    · refine ⟨s1.len, fun n ds e => ?_, L.st.rB, s1.nd, bH_ext L.st x1 s1, s1.pl⟩
      obtain ⟨a, vs, h1, h2, h3⟩ := s1.at_ n ds e
      exact ⟨a, vs, h1, h2, pls H1 ds vs x1 (s1.pl n ds e) h3⟩
theorem Lv.after (L : Lv c E own ρ G H σd σ S) (x1 : Ext ρ H H1) (s1 : StoOk c ρ G H1 S1) : Lv c E own ρ G H1 σd σ S1 :=
  ⟨L.fr.ext L.st x1, s1, L.ow, L.inj, fun a o e n => by
    have e1 := L.ext a o e n
    exact x1 a o e1 fun h => (L.new a h).elim n (fun z => by rw [e] at z; cases z), L.pre, L.low, L.old, L.new, L.eH, by first | exact L.ln | (simp only [List.length_set]; exact L.ln)⟩
theorem Lv.kept (L : Lv c E own ρ G H σd σ S) (x1 : Ext ρ H H1) : Keep ρ G H ρ G H1 := ⟨fun _ _ e => e, fun a o e n => ⟨x1 a o e fun h => n (L.st.rB a h), n⟩⟩
/-- a new address is no old one -/
theorem Lv.fresh0 (L : Lv c E own ρ G H σd σ S) {p : Addr} (n : H p = none) : E.H p = none ∧ ¬ G p ∧ p ∉ ρ := by
  refine ⟨?_, L.st.notB n, fun h => L.st.notB n (L.st.rB p h)⟩
  cases e : E.H p with
  | none => rfl
  | some o =>
    by_cases h : p ∈ E.ρ
    · obtain ⟨k, ek⟩ := List.getElem?_of_mem h
      obtain ⟨o', e'⟩ := L.st.has (List.mem_of_getElem? (L.pre k p ek))
      rw [n] at e'; cases e'
    · have := L.ext p o e h
      rw [n] at this; cases this
/-- what is kept of a value -/
theorem Md.keep {rd : List Nat} {w : Bool} {R : Nat → Prop} {B : Addr → Prop} {fr : Bool} {d : D} {v : V} (M : Md c E ρ G H σd σ S rd w R B) (L : Lv c E own ρ G H σd σ S) (x1 : Ext ρ H H1) (hk : w = true → keeps fr d = true) (r : Rep c ρ B H1 d v) (f : Fsh fr H d v) : Rep c ρ G H1 d v := by
  cases w with
  | false => rw [← M.str rfl]; exact r
  | true =>
    have hk := hk rfl
    unfold keeps at hk
    rw [Bool.or_eq_true] at hk
    rcases hk with hk | hk
    · exact M.pln H1 d v x1 hk r
    · cases r with
      | lst h1 h2 h3 =>
        rw [Bool.and_eq_true] at hk
        exact .lst h1 (L.st.notB (f hk.1 rfl _ rfl)) (M.plns H1 _ _ x1 hk.2 h3)
      | _ => cases hk
/-- a name is set to a value -/
theorem Lv.setVal (L : Lv c E own ρ G H σd σ S) {d : D} {v : V} (r : Rep c ρ G H d v) (i : Nat) : Lv c E own ρ G H (setSlot σd i d) (σ.set i (some v)) S := by
  refine ⟨L.fr.set r i, L.st, fun j ds e => ?_, fun j k ds es a e1 e2 e3 e4 => ?_, L.ext, L.pre, L.low, L.old, L.new, L.eH, by first | exact L.ln | (simp only [List.length_set]; exact L.ln)⟩
  · unfold setSlot at e
    rw [get_set] at e
    by_cases h : i = j
    · rw [if_pos h] at e; split at e <;> cases e
    · rw [if_neg h] at e
      obtain ⟨h1, h2, h3⟩ := L.ow j ds e
      exact ⟨h1, h2, fun a ea => h3 a (by rw [get_set, if_neg h] at ea; exact ea)⟩
  · unfold setSlot at e1 e2
    rw [get_set] at e1 e2 e3 e4
    by_cases h : i = j
    · rw [if_pos h] at e1; split at e1 <;> cases e1
    · by_cases h' : i = k
      · rw [if_pos h'] at e2; split at e2 <;> cases e2
      · rw [if_neg h] at e1 e3
        rw [if_neg h'] at e2 e4
        exact L.inj j k ds es a e1 e2 e3 e4
theorem Lv.sets : ∀ (is : List Nat) {ds : List D} {vs : List V} {σd : List Slot} {σ : L2.St}, Lv c E own ρ G H σd σ S → RepA c ρ G H ds vs → Lv c E own ρ G H ((is.zip ds).foldl (fun σ p => setSlot σ p.1 p.2) σd) (setsV is vs σ) S
  | [], ds, vs, _, _, L, r => by cases r <;> exact L
  | i :: is, _, _, _, _, L, .nil => L
  | i :: is, _, _, _, _, L, .cons r rr => Lv.sets is (L.setVal r i) rr
theorem Lv.tgt (L : Lv c E own ρ G H σd σ S) {t : DT} {d : D} {v : V} {σd1 : List Slot} {Q : L2.St → Hp → Prop} (r : Rep c ρ G H d v) (e : setT t σd d = some σd1)
    (q : ∀ σ1, Lv c E own ρ G H σd1 σ1 S → Q σ1 H) : tgV c.K t v σ H Q := by
  cases t with
  | one i =>
    cases e
    exact q _ (L.setVal r i)
  | many is =>
    cases r <;> simp only [setT] at e <;> try (cases e; done)
    rename_i a ds us ha hx
    split at e
    · rename_i hl
      cases e
      exact ⟨_, _, rfl, sqT_of ha, by rw [← hx.length]; exact hl, q _ (L.sets is hx)⟩
    · cases e
/-- more may be own -/
theorem Lv.wide {own' : List Nat} (L : Lv c E own ρ G H σd σ S) (h : ∀ i ∈ own, i ∈ own') : Lv c E own' ρ G H σd σ S :=
  ⟨⟨L.fr.len, L.fr.val, fun i ds e => by
    obtain ⟨a, vs, h1, h2, h3, h4, h5⟩ := L.fr.own i ds e
    exact ⟨a, vs, h1, h2, fun z => absurd (h i (L.ow i ds e).1) z, h4, h5⟩⟩, L.st, fun i ds e => ⟨h i (L.ow i ds e).1, (L.ow i ds e).2⟩, L.inj, L.ext, L.pre, L.low, L.old, L.new, L.eH, by first | exact L.ln | (simp only [List.length_set]; exact L.ln)⟩
/-- one more place that is not read by value: all stays -/
theorem Lv.hide (L : Lv c E own ρ G H σd σ S) {p : Addr} (n : H p = none) (x1 : Ext ρ H H1) (s1 : StoOk c ρ G H1 S1) (he : ∃ vs, H1 p = some (.lst vs)) : StoOk c ρ (orB G p) H1 S1 ∧ FrOk c (fun i => i ∉ own) ρ (orB G p) H1 σd σ := by
  have go : ∀ a o, H a = some o → ¬ G a → H1 a = some o ∧ ¬ orB G p a := fun a o e g => ⟨x1 a o e fun h => g (L.st.rB a h), fun z => z.elim g (ne_p n e)⟩
  obtain ⟨us, he⟩ := he
  refine ⟨⟨s1.len, fun k ds e => ?_, fun a h => .inl (s1.rB a h), s1.nd, fun a b => ?_, s1.pl⟩, L.fr.len, fun i d e => ?_, fun i ds e => ?_⟩
  · obtain ⟨a, vs, h1, h2, h3⟩ := s1.at_ k ds e
    refine ⟨a, vs, h1, h2, RepA.plainly (fun b ws eb g z => z.elim g fun z => ?_) ds vs (s1.pl k ds e) h3⟩
    rw [z, he] at eb; cases eb
  · rcases b with b | b
    · exact s1.bH a b
    · rw [b, he]; intro z; cases z
  · obtain ⟨v, h1, h2⟩ := L.fr.val i d e
    exact ⟨v, h1, Rep.imp go (fun _ _ e => e) d v h2⟩
  · obtain ⟨a, vs, h1, h2, h3, h4, h5⟩ := L.fr.own i ds e
    exact ⟨a, vs, h1, h2, fun z => absurd (L.ow i ds e).1 z, x1 a _ h4 h2, RepA.imp go (fun _ _ e => e) ds vs h5⟩
/-- a name is set to a new list of its own -/
theorem Lv.setOwn (L : Lv c E own ρ G H σd σ S) {ds : List D} {vs : List V} {p : Addr} {i : Nat} (hi : i < σd.length) (n : H p = none) (x1 : Ext ρ H H1) (s1 : StoOk c ρ G H1 S1) (he : H1 p = some (.lst vs)) (r : RepA c ρ G H1 ds vs) (pl : D.plains ds = true) :
    Lv c E (i :: own) ρ (orB G p) H1 (σd.set i (.own ds)) (σ.set i (some (.ref p))) S1 ∧ Keep ρ G H ρ (orB G p) H1 := by
  obtain ⟨f0, f1, f2⟩ := L.fresh0 n
  obtain ⟨st, fr⟩ := L.hide n x1 s1 ⟨vs, he⟩
  have L1 := L.after x1 s1
  have hi' : i < σ.length := by rw [← L.fr.len]; exact hi
  have r' : RepA c ρ (orB G p) H1 ds vs := RepA.plainly (fun b ws eb g z => z.elim g fun z => by rw [z, he] at eb; cases eb) ds vs pl r
  have notp : ∀ (j : Nat) (es : List D), σd[j]? = some (.own es) → σ[j]? ≠ some (some (.ref p)) := fun j es e z => by
    obtain ⟨a, us, g1, _, _, g4, _⟩ := L.fr.own j es e
    rw [z] at g1; cases g1
    rw [n] at g4; cases g4
  refine ⟨⟨⟨by simp [fr.len], fun j d e => ?_, fun j es e => ?_⟩, st, fun j es e => ?_, fun j k es fs a e1 e2 e3 e4 => ?_, L1.ext, L.pre, fun a h => .inl (L.low a h), L.old, L.new, L.eH, by first | exact L.ln | (simp only [List.length_set]; exact L.ln)⟩, fun _ _ e => e, fun a o e g => ⟨x1 a o e fun h => g (L.st.rB a h), fun z => z.elim g (ne_p n e)⟩⟩
  · rw [get_set] at e
    by_cases h : i = j
    · rw [if_pos h] at e; split at e <;> cases e
    · rw [if_neg h] at e
      obtain ⟨v, h1, h2⟩ := fr.val j d e
      exact ⟨v, by rw [get_set, if_neg h]; exact h1, h2⟩
  · rw [get_set] at e
    by_cases h : i = j
    · subst h
      rw [if_pos rfl, if_pos hi] at e
      cases e
      exact ⟨p, vs, by rw [get_set, if_pos rfl, if_pos hi'], f2, fun z => absurd List.mem_cons_self z, he, r'⟩
    · rw [if_neg h] at e
      obtain ⟨a, us, h1, h2, h3, h4, h5⟩ := fr.own j es e
      exact ⟨a, us, by rw [get_set, if_neg h]; exact h1, h2, fun z => absurd (List.mem_cons_of_mem i (L.ow j es e).1) z, h4, h5⟩
  · rw [get_set] at e
    by_cases h : i = j
    · subst h
      rw [if_pos rfl, if_pos hi] at e
      cases e
      refine ⟨List.mem_cons_self, pl, fun a ea => ?_⟩
      rw [get_set, if_pos rfl, if_pos hi'] at ea
      cases ea
      exact ⟨.inr rfl, f0⟩
    · rw [if_neg h] at e
      obtain ⟨h1, h2, h3⟩ := L.ow j es e
      exact ⟨List.mem_cons_of_mem _ h1, h2, fun a ea => by
        rw [get_set, if_neg h] at ea
        exact ⟨.inl (h3 a ea).1, (h3 a ea).2⟩⟩
  · rw [get_set] at e1 e2 e3 e4
    by_cases h : i = j
    · by_cases h' : i = k
      · rw [← h, ← h']
      · rw [if_pos h, if_pos hi'] at e3
        rw [if_neg h'] at e2 e4
        cases e3
        exact absurd e4 (notp k fs e2)
    · by_cases h' : i = k
      · rw [if_pos h', if_pos hi'] at e4
        rw [if_neg h] at e1 e3
        cases e4
        exact absurd e3 (notp j es e1)
      · rw [if_neg h] at e1 e3
        rw [if_neg h'] at e2 e4
        exact L.inj j k es fs a e1 e2 e3 e4
/-- a new shared list -/
theorem Lv.setCell (L : Lv c E own ρ G H σd σ S) {ds : List D} {vs : List V} {p : Addr} {i : Nat} (n : H p = none) (x1 : Ext ρ H H1) (s1 : StoOk c ρ G H1 S1) (he : H1 p = some (.lst vs)) (r : RepA c ρ G H1 ds vs) (pl : D.plains ds = true) :
    Lv c E own (ρ ++ [p]) (orB G p) H1 (setSlot σd i (.cell S1.length)) (σ.set i (some (.ref p))) (S1 ++ [ds]) ∧ Keep ρ G H (ρ ++ [p]) (orB G p) H1 := by
  obtain ⟨f0, f1, f2⟩ := L.fresh0 n
  obtain ⟨st, fr⟩ := L.hide n x1 s1 ⟨vs, he⟩
  have L1 := L.after x1 s1
  have pre : ∀ (k : Nat) (a : Addr), ρ[k]? = some a → (ρ ++ [p])[k]? = some a := fun k a e => by
    rw [List.getElem?_append_left (List.getElem?_eq_some_iff.mp e).1]; exact e
  have up : ∀ d v, Rep c ρ (orB G p) H1 d v → Rep c (ρ ++ [p]) (orB G p) H1 d v := fun d v r => Rep.imp (fun _ _ e g => ⟨e, g⟩) pre d v r
  have ups : ∀ d v, RepA c ρ (orB G p) H1 d v → RepA c (ρ ++ [p]) (orB G p) H1 d v := fun d v r => RepA.imp (fun _ _ e g => ⟨e, g⟩) pre d v r
  have r' : RepA c (ρ ++ [p]) (orB G p) H1 ds vs := ups _ _ (RepA.plainly (fun b ws eb g z => z.elim g fun z => by rw [z, he] at eb; cases eb) ds vs pl r)
  have L2 : Lv c E own (ρ ++ [p]) (orB G p) H1 σd σ (S1 ++ [ds]) := by
    refine ⟨⟨fr.len, fun j d e => ?_, fun j es e => ?_⟩, ⟨by simp [s1.len], fun k es e => ?_, fun a h => ?_, ?_, st.bH, fun k es e => ?_⟩, fun j es e => ?_, L.inj, L1.ext, fun k a e => pre k a (L.pre k a e), fun a h => .inl (L.low a h), L.old, fun a h => ?_, L.eH, by first | exact L.ln | (simp only [List.length_set]; exact L.ln)⟩
    · obtain ⟨v, h1, h2⟩ := fr.val j d e
      exact ⟨v, h1, up d v h2⟩
    · obtain ⟨a, us, h1, h2, h3, h4, h5⟩ := fr.own j es e
      refine ⟨a, us, h1, fun z => ?_, h3, h4, ups _ _ h5⟩
      rcases List.mem_append.mp z with z | z
      · exact h2 z
      · rw [List.mem_singleton] at z
        obtain ⟨b, ws, g1, _, _, g4, _⟩ := L.fr.own j es e
        rw [h1] at g1; cases g1
        rw [z, n] at g4; cases g4
    · by_cases hk : k < S1.length
      · rw [List.getElem?_append_left hk] at e
        obtain ⟨a, us, h1, h2, h3⟩ := st.at_ k es e
        exact ⟨a, us, pre k a h1, h2, ups _ _ h3⟩
      · have hk2 : k = S1.length := by
          have := (List.getElem?_eq_some_iff.mp e).1
          rw [List.length_append, List.length_singleton] at this
          omega
        subst hk2
        rw [List.getElem?_concat_length] at e
        cases e
        exact ⟨p, vs, by rw [s1.len, List.getElem?_concat_length], he, r'⟩
    · rcases List.mem_append.mp h with z | z
      · exact .inl (L.st.rB a z)
      · exact .inr (List.mem_singleton.mp z)
    · rw [List.nodup_append]
      exact ⟨s1.nd, by simp, fun a ha b hb => by rw [List.mem_singleton] at hb; rw [hb]; exact fun z => f2 (by rw [← z]; exact ha)⟩
    · by_cases hk : k < S1.length
      · rw [List.getElem?_append_left hk] at e
        exact s1.pl k es e
      · have hk2 : k = S1.length := by
          have := (List.getElem?_eq_some_iff.mp e).1
          rw [List.length_append, List.length_singleton] at this
          omega
        subst hk2
        rw [List.getElem?_concat_length] at e
        cases e
        exact pl
    · obtain ⟨h1, h2, h3⟩ := L.ow j es e
      exact ⟨h1, h2, fun a ea => ⟨.inl (h3 a ea).1, (h3 a ea).2⟩⟩
    · rcases List.mem_append.mp h with z | z
      · exact L.new a z
      · rw [List.mem_singleton] at z
        exact .inr (by rw [z]; exact f0)
  refine ⟨L2.setVal (.cell ?_) i, pre, fun a o e g => ⟨x1 a o e fun h => g (L.st.rB a h), fun z => z.elim g (ne_p n e)⟩⟩
  rw [s1.len, List.getElem?_concat_length]
/-- an own list is rewritten -/
theorem Lv.reown (L : Lv c E own ρ G H σd σ S) {i : Nat} {ds es : List D} {a : Addr} {ws : List V} (e : σd[i]? = some (.own ds)) (ea : σ[i]? = some (some (.ref a))) (r : RepA c ρ G H es ws) (pl : D.plains es = true) :
    Lv c E own ρ G (upd H a (.lst ws)) (σd.set i (.own es)) σ S ∧ Keep ρ G H ρ G (upd H a (.lst ws)) := by
  obtain ⟨o1, o2, o3⟩ := L.ow i ds e
  obtain ⟨ga, e0⟩ := o3 a ea
  obtain ⟨a', vs, g1, g2, g3, g4, g5⟩ := L.fr.own i ds e
  rw [ea] at g1; cases g1
  have hi : i < σd.length := (List.getElem?_eq_some_iff.mp e).1
  refine ⟨⟨⟨by simp [L.fr.len], fun j d ej => ?_, fun j fs ej => ?_⟩, L.st.at_p ga g2, fun j fs ej => ?_, fun j k fs gs b e1 e2 e3 e4 => ?_, fun b o eb n => ?_, L.pre, L.low, L.old, L.new, L.eH, by first | exact L.ln | (simp only [List.length_set]; exact L.ln)⟩, fun _ _ e => e, fun b o eb g => ⟨?_, g⟩⟩
  · rw [get_set] at ej
    by_cases h : i = j
    · rw [if_pos h, if_pos hi] at ej; cases ej
    · rw [if_neg h] at ej
      obtain ⟨v, h1, h2⟩ := L.fr.val j d ej
      exact ⟨v, h1, h2.at_p ga⟩
  · rw [get_set] at ej
    by_cases h : i = j
    · subst h
      rw [if_pos rfl, if_pos hi] at ej; cases ej
      exact ⟨a, ws, ea, g2, g3, upd_same, r.at_p ga⟩
    · rw [if_neg h] at ej
      obtain ⟨b, us, h1, h2, h3, h4, h5⟩ := L.fr.own j fs ej
      have hb : b ≠ a := fun z => h (L.inj i j ds fs a e ej ea (by rw [← z]; exact h1))
      exact ⟨b, us, h1, h2, h3, by rw [upd_ne hb]; exact h4, h5.at_p ga⟩
  · rw [get_set] at ej
    by_cases h : i = j
    · subst h
      rw [if_pos rfl, if_pos hi] at ej; cases ej
      exact ⟨o1, pl, o3⟩
    · rw [if_neg h] at ej
      exact L.ow j fs ej
  · have old : ∀ (k : Nat) (fs : List D), (σd.set i (.own es))[k]? = some (.own fs) → ∃ hs, σd[k]? = some (.own hs) := fun k fs ek => by
      rw [get_set] at ek
      by_cases h : i = k
      · exact ⟨ds, by rw [← h]; exact e⟩
      · rw [if_neg h] at ek; exact ⟨fs, ek⟩
    obtain ⟨f1, e1⟩ := old j fs e1
    obtain ⟨f2, e2⟩ := old k gs e2
    exact L.inj j k f1 f2 b e1 e2 e3 e4
  · have h1 := L.ext b o eb n
    rw [upd_ne (fun z => by rw [z, e0] at eb; cases eb)]
    exact h1
  · rw [upd_ne (fun z => g (by rw [z]; exact ga))]; exact eb
/-- a shared list is rewritten -/
theorem Lv.recell (L : Lv c E own ρ G H σd σ S) {n : Nat} {ds es : List D} {a : Addr} {ws : List V} (e : S[n]? = some ds) (ea : ρ[n]? = some a) (r : RepA c ρ G H es ws) (pl : D.plains es = true) :
    Lv c E own ρ G (upd H a (.lst ws)) σd σ (S.set n es) ∧ Keep ρ G H ρ G (upd H a (.lst ws)) := by
  have ha : a ∈ ρ := List.mem_of_getElem? ea
  have ga : G a := L.st.rB a ha
  have hn : n < S.length := (List.getElem?_eq_some_iff.mp e).1
  refine ⟨⟨⟨L.fr.len, fun j d ej => ?_, fun j fs ej => ?_⟩, ⟨by simp [L.st.len], fun k fs ek => ?_, L.st.rB, L.st.nd, fun b g => ?_, fun k fs ek => ?_⟩, L.ow, L.inj, fun b o eb nb => ?_, L.pre, L.low, L.old, L.new, L.eH, by first | exact L.ln | (simp only [List.length_set]; exact L.ln)⟩, fun _ _ e => e, fun b o eb g => ⟨?_, g⟩⟩
  · obtain ⟨v, h1, h2⟩ := L.fr.val j d ej
    exact ⟨v, h1, h2.at_p ga⟩
  · obtain ⟨b, us, h1, h2, h3, h4, h5⟩ := L.fr.own j fs ej
    exact ⟨b, us, h1, h2, h3, by rw [upd_ne (fun z => h2 (by rw [z]; exact ha))]; exact h4, h5.at_p ga⟩
  · rw [get_set] at ek
    by_cases h : n = k
    · subst h
      rw [if_pos rfl, if_pos hn] at ek; cases ek
      exact ⟨a, ws, ea, upd_same, r.at_p ga⟩
    · rw [if_neg h] at ek
      obtain ⟨b, us, h1, h2, h3⟩ := L.st.at_ k fs ek
      have hb : b ≠ a := fun z => h (by
        subst z
        exact (List.getElem?_inj (List.getElem?_eq_some_iff.mp ea).1 L.st.nd).mp (by rw [ea, h1]))
      exact ⟨b, us, h1, by rw [upd_ne hb]; exact h2, h3.at_p ga⟩
  · by_cases h : b = a
    · rw [h, upd_same]; intro z; cases z
    · rw [upd_ne h]; exact L.st.bH b g
  · rw [get_set] at ek
    by_cases h : n = k
    · subst h
      rw [if_pos rfl, if_pos hn] at ek; cases ek
      exact pl
    · rw [if_neg h] at ek
      exact L.st.pl k fs ek
  · have h1 := L.ext b o eb nb
    have hb : b ≠ a := fun z => by
      rcases L.new a ha with h | h
      · exact nb (by rw [z]; exact h)
      · rw [z, h] at eb; cases eb
    rw [upd_ne hb]; exact h1
  · rw [upd_ne (fun z => g (by rw [z]; exact ga))]; exact eb
/-- an own list becomes a value -/
theorem Lv.freeze (L : Lv c E own ρ G H σd σ S) {i : Nat} {ds : List D} (e : σd[i]? = some (.own ds)) : ∃ G', Lv c E (own.filter (· != i)) ρ G' H (setSlot σd i (.lst ds)) σ S ∧ Keep ρ G H ρ G' H := by
  obtain ⟨o1, o2, o3⟩ := L.ow i ds e
  obtain ⟨a, vs, g1, g2, g3, g4, g5⟩ := L.fr.own i ds e
  obtain ⟨ga, e0⟩ := o3 a g1
  have hi : i < σd.length := (List.getElem?_eq_some_iff.mp e).1
  have up : ∀ d v, Rep c ρ G H d v → Rep c ρ (fun b => G b ∧ b ≠ a) H d v := fun d v r => r.weak fun b h => h.1
  have ups : ∀ d v, RepA c ρ G H d v → RepA c ρ (fun b => G b ∧ b ≠ a) H d v := fun d v r => r.weak fun b h => h.1
  have noi : ∀ (j : Nat) (fs : List D), (setSlot σd i (.lst ds))[j]? = some (.own fs) → j ≠ i ∧ σd[j]? = some (.own fs) := fun j fs ej => by
    unfold setSlot at ej
    rw [get_set] at ej
    by_cases h : i = j
    · rw [if_pos h, if_pos hi] at ej; cases ej
    · rw [if_neg h] at ej; exact ⟨fun z => h z.symm, ej⟩
  refine ⟨fun b => G b ∧ b ≠ a, ⟨⟨by simp [setSlot, L.fr.len], fun j d ej => ?_, fun j fs ej => ?_⟩, L.st.weak (fun b h => h.1) fun b h => ⟨L.st.rB b h, fun z => g2 (by rw [← z]; exact h)⟩, fun j fs ej => ?_, fun j k fs gs b e1 e2 e3 e4 => ?_, L.ext, L.pre, fun b h => ⟨L.low b h, fun z => L.old b h (by rw [z]; exact e0)⟩, L.old, L.new, L.eH, by first | exact L.ln | (simp only [List.length_set]; exact L.ln)⟩, fun _ _ e => e, fun b o eb g => ⟨eb, fun z => g z.1⟩⟩
  · unfold setSlot at ej
    rw [get_set] at ej
    by_cases h : i = j
    · subst h
      rw [if_pos rfl, if_pos hi] at ej; cases ej
      exact ⟨.ref a, g1, .lst g4 (fun z => z.2 rfl) (ups _ _ g5)⟩
    · rw [if_neg h] at ej
      obtain ⟨v, h1, h2⟩ := L.fr.val j d ej
      exact ⟨v, h1, up d v h2⟩
  · obtain ⟨nj, ej⟩ := noi j fs ej
    obtain ⟨b, us, h1, h2, h3, h4, h5⟩ := L.fr.own j fs ej
    refine ⟨b, us, h1, h2, fun z => absurd ?_ z, h4, ups _ _ h5⟩
    rw [List.mem_filter]
    exact ⟨(L.ow j fs ej).1, by simpa using nj⟩
  · obtain ⟨nj, ej⟩ := noi j fs ej
    obtain ⟨h1, h2, h3⟩ := L.ow j fs ej
    refine ⟨?_, h2, fun b eb => ⟨⟨(h3 b eb).1, fun z => ?_⟩, (h3 b eb).2⟩⟩
    · rw [List.mem_filter]
      exact ⟨h1, by simpa using nj⟩
    · subst z
      exact nj (L.inj j i fs ds b ej e eb g1)
  · obtain ⟨_, e1⟩ := noi j fs e1
    obtain ⟨_, e2⟩ := noi k gs e2
    exact L.inj j k fs gs b e1 e2 e3 e4
end
end DI

end
section
set_option maxRecDepth 100000
set_option maxHeartbeats 4000000
/-! DI13: readings of statements by the interpreter; the rules, one by one. -/
namespace DI
open PySem PySem.Spec PyProof.Rows L2

/-- behind a return -/
def RetOk (c : Wc) (E : Ent) (d : D) (v : V) (H : Hp) (S : Sto) : Prop :=
  ∃ ρ B, Ext E.ρ E.H H ∧ (∀ (n : Nat) (a : Addr), E.ρ[n]? = some a → ρ[n]? = some a) ∧ (∀ a, E.B a → B a) ∧ StoOk c ρ B H S ∧ Rep c ρ B H d v
/-- behind a raise -/
def ExOk (c : Wc) (x : Xc) (E : Ent) (cl : Nat) (fs : List D) (S : Sto) (dd : Addr) (H : Hp) : Prop :=
  ∃ ρ B, Ext E.ρ E.H H ∧ (∀ (n : Nat) (a : Addr), E.ρ[n]? = some a → ρ[n]? = some a) ∧ (∀ a, E.B a → B a) ∧ StoOk c ρ B H S ∧ ExcAt c x ρ B H cl fs dd
def ExW (c : Wc) (x : Xc) (W : WX) (E : Ent) : Nat → List D → Sto → Prop := fun cl fs S' => ∀ dd σ' H', σ'.length = E.n → ExOk c x E cl fs S' dd H' → W (.ref (x.ca cl)) (some dd) σ' H'
def OutOk (c : Wc) (E : Ent) (own : List Nat) (ρ : List Addr) (G : Addr → Prop) (H : Hp) (D : Ends) : Out → Sto → Prop := fun o S' => match o with
  | .next σd' => ∀ ρ' G' σ' H', Keep ρ G H ρ' G' H' → Lv c E own ρ' G' H' σd' σ' S' → D.nx σ' H'
  | .ret d => ∀ v H', RetOk c E d v H' S' → D.rt v H'
def tS (c : Wc) (x : Xc) (W : WX) (own own' : List Nat) (r : List Slot → Sto → Res Out) : TS := fun D σ H => ∃ E ρ G σd S, Lv c E own ρ G H σd σ S ∧ okR (r σd S) (OutOk c E own' ρ G H D) (ExW c x W E)
theorem ps_imp {X : Cx} {e : Stmt} {t t' : TS} (h : PS X e t) (hi : ∀ D σ H, t' D σ H → t D σ H) : PS X e t' := ⟨fun pins s σ H D I q => h.run pins s σ H D I (hi D σ H q)⟩
theorem pss_imp {X : Cx} {e : List Stmt} {t t' : TS} (h : PSs X e t) (hi : ∀ D σ H, t' D σ H → t D σ H) : PSs X e t' := ⟨fun pins s σ H D I q => h.run pins s σ H D I (hi D σ H q)⟩
section
variable {c : Wc} {x : Xc} {W : WX} {rc : Calls} {E : Ent} {own own' : List Nat} {ρ ρ1 : List Addr} {G G1 : Addr → Prop} {H H1 : Hp} {σd σd1 : List Slot} {σ σ1 : L2.St} {S S1 : Sto} {X : Cx} {k : Nat} {D : Ends}
theorem OutOk.before {o : Out} (k : Keep ρ G H ρ1 G1 H1) (h : OutOk c E own ρ G H D o S) : OutOk c E own ρ1 G1 H1 D o S := by
  cases o with
  | next σd => exact fun ρ' G' σ' H' k' L => h ρ' G' σ' H' (k.trans k') L
  | ret d => exact h
theorem OutOk.wide {o : Out} (w : ∀ i ∈ own, i ∈ own') (h : OutOk c E own' ρ G H D o S) : OutOk c E own ρ G H D o S := by
  cases o with
  | next σd => exact fun ρ' G' σ' H' k' L => h ρ' G' σ' H' k' (L.wide w)
  | ret d => exact h
/-- an exception in an expression -/
theorem Md.exc {rd : List Nat} {w : Bool} {R : Nat → Prop} {B : Addr → Prop} (M : Md c E ρ G H σd σ S rd w R B) (L : Lv c E own ρ G H σd σ S) {cl : Nat} {fs : List DI.D} {S1 : Sto} (h : ExW c x W E cl fs S1) : ExcW c x W ρ B H σ cl fs S1 :=
  fun dd H' x1 s1 a => h dd σ H' L.ln ⟨ρ, B, fun b o e n => by
    have e1 := L.ext b o e n
    exact x1 b o e1 fun h => (L.new b h).elim n (fun z => by rw [e] at z; cases z), L.pre, M.lo, s1, a⟩
theorem Md.ret {rd : List Nat} {w : Bool} {R : Nat → Prop} {B : Addr → Prop} (M : Md c E ρ G H σd σ S rd w R B) (L : Lv c E own ρ G H σd σ S) {d : DI.D} {v : V} (x1 : Ext ρ H H1) (s1 : StoOk c ρ B H1 S1) (r : Rep c ρ B H1 d v) : RetOk c E d v H1 S1 :=
  ⟨ρ, B, fun b o e n => by
    have e1 := L.ext b o e n
    exact x1 b o e1 fun h => (L.new b h).elim n (fun z => by rw [e] at z; cases z), L.pre, M.lo, s1, r⟩

/-! ### sequences -/
theorem pss_nilD : PSs X [] (tS c x W own own (exSs rc .nil)) := pss_imp pss_nil fun D σ H h => by
  obtain ⟨E, ρ, G, σd, S, L, ok⟩ := h
  rw [exSs] at ok
  exact ok ρ G σ H (Keep.refl _ _ _) L
theorem pss_consD {own1 own2 : List Nat} {st : Stmt} {rest : List Stmt} {d : DS} {ds : DSs} (h1 : PS X st (tS c x W own own1 (exS rc d))) (h2 : PSs X rest (tS c x W own1 own2 (exSs rc ds))) : PSs X (st :: rest) (tS c x W own own2 (exSs rc (.cons d ds))) :=
  pss_imp (pss_cons h1 h2) fun D σ H h => by
  obtain ⟨E, ρ, G, σd, S, L, ok⟩ := h
  refine ⟨E, ρ, G, σd, S, L, ?_⟩
  rw [exSs, okR_bind] at ok
  refine okR_mono ok (fun o S1 ok => ?_) fun _ _ _ h => h
  cases o with
  | next σd1 =>
    intro ρ' G' σ' H' k' L'
    exact ⟨E, ρ', G', σd1, S1, L', okR_mono ok (fun o S2 h => h.before k') fun _ _ _ h => h⟩
  | ret d => exact ok
theorem pss_frzD {own2 : List Nat} {rest : List Stmt} {i : Nat} {ds : DSs} (h2 : PSs X rest (tS c x W (own.filter (· != i)) own2 (exSs rc ds))) : PSs X rest (tS c x W own own2 (exSs rc (.cons (.frz i) ds))) :=
  pss_imp h2 fun D σ H h => by
  obtain ⟨E, ρ, G, σd, S, L, ok⟩ := h
  rw [exSs, okR_bind, exS] at ok
  split at ok
  · rename_i ds' e
    obtain ⟨G', L', k'⟩ := L.freeze e
    exact ⟨E, ρ, G', _, S, L', okR_mono ok (fun o S2 h => h.before k') fun _ _ _ h => h⟩
  · exact ok.elim
theorem ps_passD {pos : Pos} : PS X (.Pass pos) (tS c x W own own (exS rc .pass)) := ps_imp ps_pass fun D σ H h => by
  obtain ⟨E, ρ, G, σd, S, L, ok⟩ := h
  rw [exS] at ok
  exact ok ρ G σ H (Keep.refl _ _ _) L
theorem ps_docD {y : Str} {j : Nat} {p1 p2 : Pos} (h : PS X (.Expr (.Constant (.str y) j p1) p2) tNext) : PS X (.Expr (.Constant (.str y) j p1) p2) (tS c x W own own (exS rc .pass)) := ps_imp h fun D σ H h => by
  obtain ⟨E, ρ, G, σd, S, L, ok⟩ := h
  rw [exS] at ok
  exact ok ρ G σ H (Keep.refl _ _ _) L

/-! ### expressions -/
theorem ps_exprD {f : Expr} {es : List Expr} {kw : List Keyword} {p pos : Pos} {e : DE} (he : PE X (.Call f es kw p) (tE c x W rc e)) : PS X (.Expr (.Call f es kw p) pos) (tS c x W own own (exS rc (.expr e))) :=
  ps_imp (ps_expr he) fun D σ H h => by
  obtain ⟨E, ρ, G, σd, S, L, ok⟩ := h
  obtain ⟨R, B, M⟩ := L.mode true e.reads fun z => nomatch z
  refine ⟨R, ρ, B, σd, S, M.see, ?_⟩
  rw [exS, okR_bind] at ok
  refine okR_mono ok (fun a S1 ok v H1 x1 s1 r1 _ => ?_) fun _ _ _ h => M.exc L h
  exact ok ρ G σ H1 (L.kept x1) (L.after x1 (M.sto H1 S1 x1 s1))
theorem ps_retD {v : Expr} {pos : Pos} {e : DE} (he : PE X v (tE c x W rc e)) : PS X (.Return (some v) pos) (tS c x W own own (exS rc (.ret e))) :=
  ps_imp (ps_ret he) fun D σ H h => by
  obtain ⟨E, ρ, G, σd, S, L, ok⟩ := h
  obtain ⟨R, B, M⟩ := L.mode true e.reads fun z => nomatch z
  refine ⟨R, ρ, B, σd, S, M.see, ?_⟩
  rw [exS, okR_bind] at ok
  refine okR_mono ok (fun a S1 ok v H1 x1 s1 r1 _ => ?_) fun _ _ _ h => M.exc L h
  exact ok v H1 (M.ret L x1 s1 r1)
theorem ps_retND {pos : Pos} : PS X (.Return none pos) (tS c x W own own (exS rc .retN)) :=
  ps_imp ps_retN fun D σ H h => by
  obtain ⟨E, ρ, G, σd, S, L, ok⟩ := h
  rw [exS] at ok
  exact ok .non H ⟨ρ, G, L.ext, L.pre, L.low, L.st, .non⟩
/-- what an assignment to a name does, by values -/
theorem asg_ok {i : Nat} {m : AM} {w : Bool} {e : DE} (hw : w = false → ∀ j ∈ e.reads, j ∉ own) {D : Ends} {σ : L2.St} {H : Hp} (h : tS c x W own (if m = .own then i :: own else own) (exS rc (.asg i m w e)) D σ H) :
    tE c x W rc e σ H fun v H1 => D.nx (σ.set i (some v)) H1 := by
  obtain ⟨E, ρ, G, σd, S, L, ok⟩ := h
  obtain ⟨R, B, M⟩ := L.mode w e.reads hw
  refine ⟨R, ρ, B, σd, S, M.see, ?_⟩
  rw [exS, okR_bind] at ok
  refine okR_mono ok (fun a S1 ok v H1 x1 s1 r1 f1 => ?_) fun _ _ _ h => M.exc L h
  have s2 := M.sto H1 S1 x1 s1
  have L1 := L.after x1 s2
  split at ok
  · exact ok.elim
  · rename_i hk
    have hk' : w = true → keeps e.fresh a = true := fun z => by
      subst z
      simpa using hk
    cases m with
    | val =>
      have r2 := M.keep L x1 hk' r1 f1
      exact ok ρ G _ H1 (L.kept x1) (L1.setVal r2 i)
    | own =>
      cases r1 <;> try (exact False.elim ok)
      rename_i p ds vs h1 h2 h3
      dsimp only at ok
      split at ok
      · rename_i hc
        simp only [Bool.and_eq_true, decide_eq_true_eq] at hc
        obtain ⟨c1, c2, c3⟩ := hc
        have n := f1 c2 rfl p rfl
        obtain ⟨L2, k2⟩ := L.setOwn c1 n x1 s2 h1 (M.plns H1 _ vs x1 c3 h3) c3
        exact ok ρ _ _ H1 k2 L2
      · exact ok.elim
    | cell =>
      cases r1 <;> try (exact False.elim ok)
      rename_i p ds vs h1 h2 h3
      dsimp only at ok
      split at ok
      · rename_i hc
        simp only [Bool.and_eq_true, decide_eq_true_eq] at hc
        obtain ⟨c1, c2, c3⟩ := hc
        have n := f1 c2 rfl p rfl
        obtain ⟨L2, k2⟩ := L.setCell (i := i) n x1 s2 h1 (M.plns H1 _ vs x1 c3 h3) c3
        exact ok _ _ _ H1 k2 L2
      · exact ok.elim
theorem ps_asgD {i : Nat} {m : AM} {w : Bool} {e : DE} {y : Str} {v : Expr} {pos pos' : Pos} (hN : X.N.Nodup) (hy : ToOk X y i) (he : PE X v (tE c x W rc e)) (hs : swapsWith v (some (.Name y pos')) pos.line X.env = pure false) (hw : w = false → ∀ j ∈ e.reads, j ∉ own) :
    PS X (.Assign [.Name y pos'] v pos) (tS c x W own (if m = .own then i :: own else own) (exS rc (.asg i m w e))) :=
  ps_imp (ps_set hN hy.1 hy.2.1 he hs hy.2.2) fun D σ H h => asg_ok hw h
theorem ps_asgTD {is : List Nat} {w : Bool} {e : DE} {tg v : Expr} {pos : Pos} (hK : X.K = c.K) (hg : PG X tg (tgV c.K (.many is))) (he : PE X v (tE c x W rc e)) (hs : swapsWithSole [tg] v pos.line X.env = pure false) (hsw : swappedStores [tg] v X.env = pure none) (h1 : (assignEach [tg] X.env).map (·.2) = [assign tg X.env])
    (hw : w = false → ∀ j ∈ e.reads, j ∉ own) : PS X (.Assign [tg] v pos) (tS c x W own own (exS rc (.asgT is w e))) :=
  ps_imp (ps_asg he hg hs hsw h1) fun D σ H h => by
  obtain ⟨E, ρ, G, σd, S, L, ok⟩ := h
  obtain ⟨R, B, M⟩ := L.mode w e.reads hw
  refine ⟨R, ρ, B, σd, S, M.see, ?_⟩
  rw [exS, okR_bind] at ok
  refine okR_mono ok (fun a S1 ok v H1 x1 s1 r1 f1 => ?_) fun _ _ _ h => M.exc L h
  have L1 := L.after x1 (M.sto H1 S1 x1 s1)
  split at ok
  · exact ok.elim
  · rename_i hk
    have r2 : Rep c ρ G H1 a v := by
      cases w with
      | false => rw [← M.str rfl]; exact r1
      | true => exact M.pln H1 a v x1 (by simpa using hk) r1
    rw [okR_bind, okR_ofO] at ok
    obtain ⟨σ1, e1, ok⟩ := ok
    exact L1.tgt (t := .many is) r2 e1 fun σ2 L2 => ok ρ G σ2 H1 (L.kept x1) L2
/-- side by side -/
theorem ps_parN {ts : List Expr} {vs : List Expr} {names : List Str} {is : List Nat} {ta : TA} {kt k2 : Nat} {pt pt2 pos : Pos} (hc : X.calm = true) (hN : X.N.Nodup) (hl : names.length = is.length) (hn : is.Nodup)
    (hi : ∀ p ∈ names.zip is, X.N[p.2]? = some p.1 ∧ X.env.scope.names.lookup p.1 = some .local) (ha : PA X vs ta) (h30 : is.length ≤ sizeLine)
    (hw : swappedStores [.Tuple ts kt pt] (.Tuple vs k2 pt2) X.env = pure (some names)) :
    PS X (.Assign [.Tuple ts kt pt] (.Tuple vs k2 pt2) pos) (fun D σ H => ta σ H fun us H1 => us.length = is.length ∧ D.nx (setsV is us σ) H1) := by
  refine ⟨fun pins s σ H D I h => ?_⟩
  rw [exec_Assign_arm]
  refine wpAny_bind (wpAny_standAt ?_)
  have hs : swapsWithSole [.Tuple ts kt pt] (.Tuple vs k2 pt2) pos.line X.env = pure false := rfl
  rw [hs]
  refine wpAny_bind (wpAny_pure ?_)
  rw [if_neg (by decide)]
  refine wpAny_bind (Tuple_ (thn (ha.run _ pins s σ H _ I h) fun us s1 ⟨ws, H1, I1, r1, hlen, q1⟩ => ?_))
  have hus : us.length = is.length := by rw [← r1.length, hlen]
  refine wpAny_newObj_type ?_ (by show us.toArray.size ≤ sizeLine; rw [List.size_toArray, hus]; exact h30)
  have I2 : Inv X pins σ H1 { s1 with heap := s1.heap.push { cls := .type "tuple", data := .seq us.toArray } } := I1.kept (t' := s1.toks) fun b o e => Heap.get?_push_of_some _ e
  rw [hw]
  refine wpAny_bind (wpAny_pure ?_)
  have hsz : names.length = us.toArray.size := by rw [List.size_toArray, hus, hl]
  show wpAny (model X.prog X.w) X.A (do rule "assign.swapped-stores"; let items ← unpackItems (.ref s1.heap.objs.size) names.length none; assignInOrder (names.reverse.map fun n => bindName X.env n) items.reverse; pure Flow.next) _ _ _
  rw [hsz]
  refine wpAny_bind (wpAny_rule (wpAny_bind (unpackItems_tuple (items := us.toArray) (I.ok.hd hc) (IsTup.new s1.heap _) fun h' hx' => ?_)))
  have I3 := I2.kept (h' := h') (t' := s1.toks) fun b o e => hx' b o (Nat.ne_of_lt (Heap.lt_size e)) e
  refine wpAny_bind ?_
  -- from the right
  have key : ∀ (names : List Str) (is : List Nat) (ws : List V) (us : List Value) (σ : L2.St) (σe : L2.St) (rest : List (Value → Sem Unit)) (rus : List Value) (s : Shared) (Q : Unit → Shared → Prop), names.length = is.length → ws.length = is.length → is.Nodup → (∀ p ∈ names.zip is, X.N[p.2]? = some p.1 ∧ X.env.scope.names.lookup p.1 = some .local) → Vals ws us →
      Inv X pins σ H1 s → (∀ s', Inv X pins (setsV is ws σ) H1 s' → wpAny (model X.prog X.w) X.A (assignInOrder rest rus) Q X.xe s') →
      wpAny (model X.prog X.w) X.A (assignInOrder ((names.reverse.map fun n => bindName X.env n) ++ rest) (us.reverse ++ rus)) Q X.xe s := by
    intro names
    induction names with
    | nil =>
      intro is ws us σ σe rest rus s Q h1 h2 h3 h4 h5 I q
      cases is with
      | cons _ _ => simp at h1
      | nil =>
        cases h5 with
        | cons _ _ => simp at h2
        | nil => exact q s I
    | cons n names ih =>
      intro is ws us σ σe rest rus s Q h1 h2 h3 h4 h5 I q
      cases is with
      | nil => simp at h1
      | cons i is =>
        cases h5 with
        | nil => simp at h2
        | @cons v u ws us rv rr =>
          have hd : X.N[i]? = some n ∧ X.env.scope.names.lookup n = some .local := h4 (n, i) (by simp)
          rw [List.nodup_cons] at h3
          rw [List.reverse_cons, List.map_append, List.append_assoc, List.reverse_cons, List.append_assoc]
          refine ih is ws us σ σe _ _ s Q (by simpa using h1) (by simpa using h2) h3.2 (fun p hp => h4 p (by simp [hp])) rr I fun s' I' => ?_
          refine assignInOrder_cons (wpAny_bindName (store_ok I' hN hd.1 (.inl hd.2) rv (fun s2 I2 => q s2 ?_) (.inr hd.2)))
          have comm : ∀ (is : List Nat) (ws : List V) (σ : L2.St), i ∉ is → (setsV is ws σ).set i (some v) = setsV is ws (σ.set i (some v)) := by
            intro is
            induction is with
            | nil => intro ws σ _; unfold setsV; rfl
            | cons j is ih2 =>
              intro ws σ hni
              rw [List.mem_cons, not_or] at hni
              cases ws with
              | nil => unfold setsV; rfl
              | cons w ws =>
                unfold setsV
                rw [ih2 ws _ hni.2, List.set_comm _ _ (Ne.symm hni.1)]
          rw [comm is ws σ h3.1] at I2
          exact I2
  have := key names is ws us σ σ [] [] { s1 with heap := h' } (fun _ s' => wpAny (model X.prog X.w) X.A (pure Flow.next) (SP X pins D) X.xe s') hl hlen hn hi r1 I3 (fun s' I' => assignInOrder_nil (wpAny_pure ⟨_, H1, I', q1⟩))
  simpa using this
theorem ps_parD {ts : List Expr} {vs : List Expr} {names : List Str} {is : List Nat} {w : Bool} {es : DEs} {kt k2 : Nat} {pt pt2 pos : Pos} (hc : X.calm = true) (hN : X.N.Nodup) (hl : names.length = is.length) (hn : is.Nodup)
    (hi : ∀ p ∈ names.zip is, X.N[p.2]? = some p.1 ∧ X.env.scope.names.lookup p.1 = some .local) (ha : PA X vs (tEs c x W rc es)) (h30 : is.length ≤ sizeLine)
    (hsw : swappedStores [.Tuple ts kt pt] (.Tuple vs k2 pt2) X.env = pure (some names)) (hw : w = false → ∀ j ∈ es.reads, j ∉ own) :
    PS X (.Assign [.Tuple ts kt pt] (.Tuple vs k2 pt2) pos) (tS c x W own own (exS rc (.par is w es))) :=
  ps_imp (ps_parN hc hN hl hn hi ha h30 hsw) fun D σ H h => by
  obtain ⟨E, ρ, G, σd, S, L, ok⟩ := h
  obtain ⟨R, B, M⟩ := L.mode w es.reads hw
  refine ⟨R, ρ, B, σd, S, M.see, ?_⟩
  rw [exS, okR_bind] at ok
  refine okR_mono ok (fun a S1 ok v H1 x1 s1 r1 => ?_) fun _ _ _ h => M.exc L h
  have L1 := L.after x1 (M.sto H1 S1 x1 s1)
  split at ok
  · exact ok.elim
  · rename_i hk
    have r2 : RepA c ρ G H1 a v := by
      cases w with
      | false => rw [← M.str rfl]; exact r1
      | true => exact M.plns H1 a v x1 (by simpa using hk) r1
    split at ok
    · rename_i hlen
      exact ⟨by rw [← r1.length, hlen], ok ρ G _ H1 (L.kept x1) (L1.sets is r2)⟩
    · exact ok.elim

/-! ### lists that change -/
theorem plains_append : ∀ {a b : List DI.D}, DI.D.plains a = true → DI.D.plains b = true → DI.D.plains (a ++ b) = true
  | [], _, _, h => h
  | d :: r, b, h, h2 => by
    simp only [DI.D.plains, Bool.and_eq_true, List.cons_append] at h ⊢
    exact ⟨h.1, plains_append h.2 h2⟩
theorem ps_appD {i : Nat} {e : DE} {y : Str} {a : Expr} {p1 ap cp pos : Pos} (hv : X.N[i]? = some y) (hvis : Vis X.env.scope y) (hd1 : (y == ("__debug__" : Str)) = false) (hd2 : (y == ("__classdict__" : Str)) = false) (hst : isStarred a = false) (hline : (ap.endLine == cp.line) = true)
    (he : PE X a (tE c x W rc e)) : PS X (.Expr (.Call (.Attribute (.Name y p1) "append" ap) [a] [] cp) pos) (tS c x W own own (exS rc (.app i e))) := by
  have hp : PE X (.Call (.Attribute (.Name y p1) "append" ap) [a] [] cp) (tBM X.K "list" rAppend (tVar i) (tCons (tE c x W rc e) tNil)) :=
    pe_bm PySem.F.plainAttrs_list PySem.F.slot_list_append PySem.F.type_list_append mt_append (pe_var hv hvis hd1 hd2) (pa_cons he pa_nil (star_off hst _ _)) rfl (by rw [star_off hst]; rfl) hline (star_off hst _ _) rfl
  refine ps_imp (ps_expr hp) fun D σ H h => ?_
  obtain ⟨E, ρ, G, σd, S, L, ok⟩ := h
  rw [exS] at ok
  split at ok
  · rename_i ds es
    obtain ⟨p, vs, g1, g2, g3, g4, g5⟩ := L.fr.own i ds es
    refine ⟨.ref p, g1, .inl ⟨rfl, vs, SqL.of g4⟩, ?_⟩
    obtain ⟨R, B, M⟩ := L.mode true e.reads fun z => nomatch z
    refine ⟨R, ρ, B, σd, S, M.see, ?_⟩
    rw [okR_bind] at ok
    refine okR_mono ok (fun a S1 ok v H1 x1 s1 r1 _ => ?_) fun _ _ _ h => M.exc L h
    have L1 := L.after x1 (M.sto H1 S1 x1 s1)
    split at ok
    · rename_i hc
      simp only [Bool.and_eq_true, decide_eq_true_eq] at hc
      have r2 := M.pln H1 a v x1 hc.1 r1
      have r5 := g5.ext L.st x1
      have e1 := x1 p _ g4 g2
      obtain ⟨o1, o2, o3⟩ := L1.ow i ds es
      obtain ⟨L2, k2⟩ := L1.reown (es := ds ++ [a]) (ws := vs ++ [v]) es g1 (r5.append (.one r2)) (plains_append o2 (by simp [DI.D.plains, hc.1]))
      exact ⟨p, vs, v, rfl, rfl, e1, by rw [← g5.length]; exact hc.2, ok ρ G σ _ ((L.kept x1).trans k2) L2⟩
    · exact ok.elim
  · exact ok.elim
theorem ps_setAtD {i : Nat} {ix e : DE} {y : Str} {a b : Expr} {p1 p2 pos : Pos} (hv : X.N[i]? = some y) (hvis : Vis X.env.scope y) (hd1 : (y == ("__debug__" : Str)) = false) (hd2 : (y == ("__classdict__" : Str)) = false)
    (he : PE X b (tE c x W rc e)) (hi : PE X a (tE c x W rc ix)) (hns : isSlice a = false) : PS X (.Assign [.Subscript (.Name y p1) a p2] b pos) (tS c x W own own (exS rc (.setAt i ix e))) := by
  have hg : PG X (.Subscript (.Name y p1) a p2) (gSub (tVar i) (tE c x W rc ix) rSetL) := pg_sub (pe_var hv hvis hd1 hd2) hi set_list (by
    intro v
    cases a <;> first | rfl | (simp [isSlice] at hns))
  refine ps_imp (ps_asg he hg (by cases b <;> rfl) (by cases b <;> rfl) rfl) fun D σ H h => ?_
  obtain ⟨E, ρ, G, σd, S, L, ok⟩ := h
  obtain ⟨R, B, M⟩ := L.mode true e.reads fun z => nomatch z
  refine ⟨R, ρ, B, σd, S, M.see, ?_⟩
  rw [exS, okR_bind] at ok
  refine okR_mono ok (fun a S1 ok v H1 x1 s1 r1 _ => ?_) fun _ _ _ h => M.exc L h
  have L1 := L.after x1 (M.sto H1 S1 x1 s1)
  split at ok
  · rename_i n es
    obtain ⟨w, g1, g2⟩ := L1.fr.val i _ es
    refine ⟨w, g1, ?_⟩
    obtain ⟨R', B', M'⟩ := L1.mode true ix.reads fun z => nomatch z
    refine ⟨R', ρ, B', σd, S1, M'.see, ?_⟩
    rw [okR_bind] at ok
    refine okR_mono ok (fun kk S2 ok u H2 x2 s2 r2 _ => ?_) fun _ _ _ h => M'.exc L1 h
    have L2 := L1.after x2 (M'.sto H2 S2 x2 s2)
    split at ok
    · rename_i kk ds ed _
      cases r2
      cases g2
      rename_i p ep
      split at ok
      · rename_i j ej
        split at ok
        · rename_i hc
          simp only [Bool.and_eq_true] at hc
          obtain ⟨p', vs, q1, q2, q3⟩ := L2.st.at_ n ds ed
          rw [ep] at q1; cases q1
          have r3 : Rep c ρ G H2 a v := (M.pln H1 a v x1 hc.1 r1).ext L1.st x2
          obtain ⟨L3, k3⟩ := L2.recell (es := ds.set j a) (ws := vs.set j v) ed ep (q3.set j r3) hc.2
          exact ⟨p, vs, _, j, rfl, rfl, q2, by rw [← q3.length]; exact ej, ok ρ G σ _ (((L.kept x1).trans (L1.kept x2)).trans k3) L3⟩
        · exact ok.elim
      · exact ok.elim
    · exact ok.elim
  · rename_i ds es
    obtain ⟨p, vs, g1, g2, g3, g4, g5⟩ := L1.fr.own i ds es
    refine ⟨.ref p, g1, ?_⟩
    obtain ⟨R', B', M'⟩ := L1.mode true ix.reads fun z => nomatch z
    refine ⟨R', ρ, B', σd, S1, M'.see, ?_⟩
    rw [okR_bind] at ok
    refine okR_mono ok (fun kk S2 ok u H2 x2 s2 r2 _ => ?_) fun _ _ _ h => M'.exc L1 h
    have L2 := L1.after x2 (M'.sto H2 S2 x2 s2)
    split at ok
    · rename_i kk
      cases r2
      split at ok
      · rename_i j ej
        split at ok
        · rename_i hc
          simp only [Bool.and_eq_true] at hc
          have r3 : Rep c ρ G H2 a v := (M.pln H1 a v x1 hc.1 r1).ext L1.st x2
          have e2 := x2 p _ g4 g2
          obtain ⟨L3, k3⟩ := L2.reown (es := ds.set j a) (ws := vs.set j v) es g1 ((g5.ext L1.st x2).set j r3) hc.2
          exact ⟨p, vs, _, j, rfl, rfl, e2, by rw [← g5.length]; exact ej, ok ρ G σ _ (((L.kept x1).trans (L1.kept x2)).trans k3) L3⟩
        · exact ok.elim
      · exact ok.elim
    · exact ok.elim
  · exact ok.elim
/-- what a op= b does to whole numbers -/
def augR2 (o : Bop) : R2 := match o with
  | .add => rI0 fun i j => .int (i + j)
  | .sub => rI0 fun i j => .int (i - j)
  | .mul => rI CMul fun i j => .int (i * j)
  | .fdiv => rI CDiv fun i j => .int (i / j)
  | _ => fun _ _ _ _ => False
theorem augR2_ok (o : Bop) : PIp X (opOf o) (augR2 o) := by
  cases o with
  | add => exact fun pins s σ H x y v u Q I r1 r2 h => iop_add pins s σ H x y v u Q I r1 r2 h
  | sub => exact fun pins s σ H x y v u Q I r1 r2 h => iop_sub pins s σ H x y v u Q I r1 r2 h
  | mul => exact fun pins s σ H x y v u Q I r1 r2 h => iop_mul pins s σ H x y v u Q I r1 r2 h
  | fdiv => exact fun pins s σ H x y v u Q I r1 r2 h => iop_fdiv pins s σ H x y v u Q I r1 r2 h
  | mod => exact fun pins s σ H x y v u Q I r1 r2 h => h.elim
  | pow => exact fun pins s σ H x y v u Q I r1 r2 h => h.elim
theorem ps_augD {i : Nat} {o : Bop} {e : DE} {y : Str} {a : Expr} {p1 pos : Pos} (hN : X.N.Nodup) (hy : ToOk X y i) (he : PE X a (tE c x W rc e)) : PS X (.AugAssign (.Name y p1) (opOf o) a pos) (tS c x W own own (exS rc (.aug i o e))) :=
  ps_imp (ps_aug hN hy.1 hy.2.1 he (augR2_ok o) hy.2.2) fun D σ H h => by
  obtain ⟨E, ρ, G, σd, S, L, ok⟩ := h
  rw [exS] at ok
  split at ok
  · rename_i n es
    obtain ⟨w, g1, g2⟩ := L.fr.val i _ es
    refine ⟨w, g1, ?_⟩
    obtain ⟨R, B, M⟩ := L.mode true e.reads fun z => nomatch z
    refine ⟨R, ρ, B, σd, S, M.see, ?_⟩
    rw [okR_bind] at ok
    refine okR_mono ok (fun a S1 ok v H1 x1 s1 r1 _ => ?_) fun _ _ _ h => M.exc L h
    have L1 := L.after x1 (M.sto H1 S1 x1 s1)
    cases g2
    cases r1 <;> try (exact False.elim ok)
    rename_i m _
    dsimp only at ok
    cases o with
    | add => exact ⟨n, m, rfl, rfl, ok ρ G _ H1 (L.kept x1) (L1.setVal (.int _) i)⟩
    | sub => exact ⟨n, m, rfl, rfl, ok ρ G _ H1 (L.kept x1) (L1.setVal (.int _) i)⟩
    | mul =>
      dsimp only at ok
      split at ok
      · rename_i hc
        simp only [Bool.or_eq_true, Bool.and_eq_true, decide_eq_true_eq] at hc
        exact ⟨n, m, rfl, rfl, hc, ok ρ G _ H1 (L.kept x1) (L1.setVal (.int _) i)⟩
      · exact ok.elim
    | fdiv =>
      dsimp only at ok
      split at ok
      · rename_i hc
        simp only [Bool.and_eq_true, decide_eq_true_eq] at hc
        exact ⟨n, m, rfl, rfl, hc, ok ρ G _ H1 (L.kept x1) (L1.setVal (.int _) i)⟩
      · exact ok.elim
    | mod => exact ok.elim
    | pow => exact ok.elim
  · exact ok.elim

/-! ### branches and loops -/
theorem ps_ifD {own1 own2 : List Nat} {t : Expr} {xs ys : List Stmt} {pos : Pos} {e : DE} {a b : DSs} (he : PT X t (tT c x W rc e)) (ha : PSs X xs (tS c x W own own1 (exSs rc a))) (hb : PSs X ys (tS c x W own own2 (exSs rc b))) :
    PS X (.If t xs ys pos) (tS c x W own (own1 ++ own2) (exS rc (.ifS e a b))) :=
  ps_imp (ps_if he ha hb) fun D σ H h => by
  obtain ⟨E, ρ, G, σd, S, L, ok⟩ := h
  obtain ⟨R, B, M⟩ := L.mode true e.reads fun z => nomatch z
  refine ⟨R, ρ, B, σd, S, M.see, ?_⟩
  rw [exS, okR_bind] at ok
  rw [okR_bind]
  refine okR_mono ok (fun a S1 ok => ?_) fun _ _ _ h => M.exc L h
  rw [okR_bind] at ok
  refine okR_mono ok (fun kk S2 ok H1 x1 s1 => ?_) fun _ _ _ h => M.exc L h
  have L1 := L.after x1 (M.sto H1 S2 x1 s1)
  cases kk with
  | true =>
    rw [if_pos rfl] at ok
    show if true = true then _ else _
    rw [if_pos rfl]
    exact ⟨E, ρ, G, σd, S2, L1, okR_mono ok (fun o S3 h => (h.before (L.kept x1)).wide fun i hi => List.mem_append_left _ hi) fun _ _ _ h => h⟩
  | false =>
    rw [if_neg Bool.false_ne_true] at ok
    show if false = true then _ else _
    rw [if_neg Bool.false_ne_true]
    exact ⟨E, ρ, G, σd, S2, L1, okR_mono ok (fun o S3 h => (h.before (L.kept x1)).wide fun i hi => List.mem_append_right _ hi) fun _ _ _ h => h⟩
theorem ps_whlD {own1 own2 : List Nat} {t : Expr} {xs : List Stmt} {pos : Pos} {e : DE} {b : DSs} (hp : PassesOwn (model X.prog X.w) X.A X.env X.xe) (he : PT X t (tT c x W rc e)) (hb : PSs X xs (tS c x W own1 own2 (exSs rc b))) (h01 : ∀ i ∈ own, i ∈ own1) (h21 : ∀ i ∈ own2, i ∈ own1) :
    PS X (.While t xs [] pos) (tS c x W own own1 (exS rc (.whl e b))) :=
  ps_imp (ps_while hp he hb) fun D σ H h => by
  obtain ⟨E, ρ, G, σd, S, L, ok⟩ := h
  rw [exS] at ok
  refine ⟨fun m σ' H' => ∃ ρ' G' σd' S', Keep ρ G H ρ' G' H' ∧ Lv c E own1 ρ' G' H' σd' σ' S' ∧ okR (whlL (fun σ S => (evE rc e σ S).bind fun x S1 => ofO (truth x) S1) (fun σ S => exSs rc b σ S) m σd' S') (OutOk c E own1 ρ G H D) (ExW c x W E),
    ⟨turns, ρ, G, σd, S, Keep.refl _ _ _, L.wide h01, ok⟩, ?_⟩
  rintro m σ' H' ⟨ρ', G', σd', S', k', L', ok'⟩
  cases m with
  | zero => exact ok'.elim
  | succ m =>
    obtain ⟨R, B, M⟩ := L'.mode true e.reads fun z => nomatch z
    refine ⟨R, ρ', B, σd', S', M.see, ?_⟩
    rw [whlL, okR_bind] at ok'
    refine okR_mono ok' (fun kk S1 ok H1 x1 s1 => ?_) fun _ _ _ h => M.exc L' h
    have L1 := L'.after x1 (M.sto H1 S1 x1 s1)
    have k1 := k'.trans (L'.kept x1)
    cases kk with
    | false =>
      rw [if_neg Bool.false_ne_true] at ok
      show if false = true then _ else _
      rw [if_neg Bool.false_ne_true]
      exact ok ρ' G' σ' H1 k1 L1
    | true =>
      rw [if_pos rfl, okR_bind] at ok
      show if true = true then _ else _
      rw [if_pos rfl]
      refine ⟨_, fun σ2 H2 n => ⟨m, Nat.lt_succ_self m, n⟩, E, ρ', G', σd', S1, L1, okR_mono ok (fun o S2 ok => ?_) fun _ _ _ h => h⟩
      cases o with
      | next σ2 =>
        intro ρ2 G2 σ3 H2 k2 L2
        exact ⟨ρ2, G2, σ2, S2, k1.trans k2, L2.wide h21, ok⟩
      | ret d => exact ok
theorem ps_forD {own1 own2 : List Nat} {tg it : Expr} {xs : List Stmt} {pos : Pos} {t : DT} {src : DIt} {b : DSs} {wi : TI} (hp : PassesOwn (model X.prog X.w) X.A X.env X.xe) (hc : X.calm = true) (hi : PI X tg it wi) (hg : PG X tg (tgV c.K t)) (hns : isSet it = false)
    (hw : ∀ {E ρ G H σd σ S} {R' : It → Hp → Prop}, Lv c E own ρ G H σd σ S → okR (evI rc src σd S) (fun ds S' => ∀ J H', Keep ρ G H ρ G H' → Lv c E own ρ G H' σd σ S' → ItOk c ρ G J ds H' → R' J H') (ExW c x W E) → wi σ H R')
    (hb : PSs X xs (tS c x W own1 own2 (exSs rc b))) (h01 : ∀ i ∈ own, i ∈ own1) (h21 : ∀ i ∈ own2, i ∈ own1) :
    PS X (.For tg it xs [] pos) (tS c x W own own1 (exS rc (.forS t src b))) :=
  ps_imp (ps_for hp hc hi hg hb (fun v => set_off hns _ v)) fun D σ H h => by
  obtain ⟨E, ρ, G, σd, S, L, ok⟩ := h
  rw [exS, okR_bind] at ok
  refine hw L (okR_mono ok (fun ds S1 ok J H1 k1 L1 itk => ?_) fun _ _ _ h => h)
  refine ⟨fun i m σ' H' => m = ds.length - i ∧ i ≤ ds.length ∧ ∃ ρ' G' σd' S', Keep ρ G H1 ρ' G' H' ∧ Lv c E own1 ρ' G' H' σd' σ' S' ∧ okR (forL t (fun σ S => exSs rc b σ S) (ds.drop i) σd' S') (OutOk c E own1 ρ G H D) (ExW c x W E),
    ⟨ds.length, by simp, Nat.zero_le _, ρ, G, σd, S1, Keep.refl _ _ _, L1.wide h01, by simpa using ok⟩, ?_⟩
  rintro i m σ' H' ⟨rfl, hle, ρ', G', σd', S', k', L', ok'⟩
  have hk := itk i H' ρ' G' k'.obj k'.pre
  by_cases hlt : i < ds.length
  · obtain ⟨hgo, hy⟩ := hk.1 hlt
    refine .inr ⟨hgo, fun σ2 H2 => ∃ ρ' G' σd' S', Keep ρ G H1 ρ' G' H2 ∧ Lv c E own1 ρ' G' H2 σd' σ2 S' ∧ okR (forL t (fun σ S => exSs rc b σ S) (ds.drop (i + 1)) σd' S') (OutOk c E own1 ρ G H D) (ExW c x W E), fun σ2 H2 n => ⟨ds.length - (i + 1), by omega, rfl, hlt, n⟩, fun v H2 y => ?_⟩
    obtain ⟨sm, d, hd, rd⟩ := hy v H2 y
    have rd := rd S' L'.st
    rw [List.drop_eq_getElem_cons hlt] at ok'
    have hd' : ds[i] = d := by rw [List.getElem?_eq_getElem hlt] at hd; exact Option.some.inj hd
    rw [hd', forL, okR_bind, okR_ofO] at ok'
    obtain ⟨σd1, e1, ok'⟩ := ok'
    have x2 : Ext ρ' H' H2 := fun a o e _ => sm a o e
    have s2 := L'.st.same sm
    have L2 := L'.after x2 s2
    refine L2.tgt rd e1 fun σ2 L3 => ?_
    rw [okR_bind] at ok'
    refine ⟨E, ρ', G', σd1, S', L3, okR_mono ok' (fun o S2 ok => ?_) fun _ _ _ h => h⟩
    cases o with
    | next σ3 =>
      intro ρ2 G2 σ4 H3 k3 L4
      exact ⟨ρ2, G2, σ3, S2, (k'.trans (L'.kept x2)).trans k3, L4.wide h21, ok⟩
    | ret d => exact ok
  · have e : i = ds.length := by omega
    refine .inl ⟨hk.2 e, ?_⟩
    subst e
    rw [List.drop_length, forL] at ok'
    exact ok' ρ' G' σ' H' (k1.trans k') L'
end
end DI

end
section
set_option maxRecDepth 100000
set_option maxHeartbeats 4000000
/-! DI14: own errors: an __init__ that hands on to ValueError's and keeps its argument. -/
namespace DI
open PySem PySem.Spec PyProof.Rows L2 PySem.W PySem.Calls

section
variable {prog : Program} {w : World} {A : Around} {E : Value → Shared → Prop} {h : Heap} {g : Array GenState} {d : Drawn} {t : Nat} {os : OsState}
variable {nm q : Str} {C N : Addr} {bs bm : List Value} {hdct : Bool} {sn : List Str} {sub : List Value} {ab : Bool} {col : Option Bool} {dd : Option Addr} {k0 k1 k2 k3 k5 : Option Value}
theorem call_mwVE {u e t0 : Addr} {rest : List Value} {Q : Value → Shared → Prop}
    (hC : h.get? C = some (excClassObj nm q C N bs bm hdct sn sub ab col dd k0 k1 k2 k3 k5 "ValueError.__new__")) (he : h.get? e = some (HandSPX.excO C t0)) (hu : h.get? u = some (kxs_mw "ValueError.__init__" e)) (hrest : rest.length ≤ sizeLine)
    (hq : ∀ h' t1, (∀ b o, b ≠ e → h.get? b = some o → h'.get? b = some o) → h'.get? e = some (HandSPX.excO C t1) → Q .none ⟨h', g, d, t, os⟩) :
    wpAny (model prog w) A (call (.ref u) rest) Q E ⟨h, g, d, t, os⟩ := by
  refine wpAny_call (codeAny_of_tree ?_)
  show wpAny _ A.in1 (callAny (.ref u) ⟨rest, []⟩) _ _ _
  simp only [callAny]
  refine wpAny_bind (wpAny_load hu ?_)
  simp only [kxs_mw, show (Value.type "method-wrapper" == Value.type "method" || Value.type "method-wrapper" == Value.type "builtin_function_or_method" || Value.type "method-wrapper" == Value.type "method-wrapper") = true by decide, if_true]
  refine KFB.if_so (by decide) ?_
  refine wpAny_bind (ESX.check_bound F.excBase_ValueError hC he rfl ?_)
  refine wpAny_bind (wpAny_pure (wpAny_pure ?_))
  refine ⟨Code.quiet_builtin _ (by decide +kernel), codeAny_builtin F.excBase_ValueError.initEntry ?_⟩
  rw [Around.under_plainId F.excBase_ValueError.init.plain _]
  wp_walk
  refine hq _ h.objs.size (fun b o hb ho => ?_) ?_
  · rw [Heap.get?_update_other _ _ (Ne.symm hb)]
    exact Heap.get?_push_of_some _ ho
  · rw [Heap.get?_update_self _ (Heap.get?_push_of_some _ he) rfl]
    rfl
end

/-- what the written part says of an error class C whose __init__ is D's -/
structure SupC (K : Frag) (C D : Addr) (fld : Str) : Prop where
  sup : ks_superIn K C D "__init__" = some (some (.builtin "ValueError.__init__"))
  ve : subIn K (.ref C) (.type "ValueError") = some true
  sub : mroIn K C (.ref D) = some true
  fld : findIn K (.ref C) fld = some none
abbrev initBody (x y fld : Str) (p0 p1 p2 p3 p4 p5 p6 p7 p8 p9 : Pos) : List Stmt :=
  [.Expr (.Call (.Attribute (.Call (.Name "super" p0) [] [] p1) "__init__" p2) [.Name y p3] [] p4) p5, .Assign [.Attribute (.Name x p6) fld p7] (.Name y p8) p9]
/-- the __init__'s promise -/
def spInit (K : Frag) (D : Addr) (fld : Str) : Sp := fun vs H Q _ => ∃ a C v, vs = [.ref a, v] ∧ OexC K C ∧ SupC K C D fld ∧ H a = some (exo a C none) ∧ ∀ dx, H dx = none → dx ≠ a → Q .non (upd (upd H dx (exd dx [(fld, v)])) a (exo a C (some dx)))
theorem init_fn {CX : CXT} {P : Program} {w : World} {K : Frag} {mg : Str → Option Value} {base : Heap} {k : Nat} {f cc cda D : Addr} {name qual file : Str} {params : Arguments} {scope : Scope} {dV kV doc pm ct oc ccl cl : Value} {an od cdd cld : Option Addr} {osl ccs csl : Array (Option Value)} {vs : Array Value} {tf : Tok} {cdD : ClassData} {ar : Arg} {x y fld : Str} {p0 p1 p2 p3 p4 p5 p6 p7 p8 p9 : Pos}
    (lk : K.lookup f = some ⟨oc, od, .func (ksFn name qual params (initBody x y fld p0 p1 p2 p3 p4 p5 p6 p7 p8 p9) scope dV kV doc pm an (.ref cda) ct cc), osl⟩) (hcd : codeIn K (.ref cda) qual = true)
    (hcode : K.lookup cda = some ⟨ccl, cdd, .fields vs, ccs⟩) (hvs : vs[2]? = some (.str file tf)) (hfile : ((P.main.file : Str) == file) = true)
    (hcell : K.lookup cc = some ⟨cl, cld, .cell (some (.ref D)), csl⟩) (hD : clsIn K D = some cdD) (htop : (P.main.scope.names.lookup ("super" : Str)).isSome = false) (hsm : mg "super" = none) (hopq : nsIn K cStatics "thirdparty.any" = some none)
    (hp : (params.posonlyargs ++ params.args).head? = some ar) (har : ar.arg = x) (hk : scope.kind = .function) (hco : scope.isCoroutine = false) (hgen : scope.isGenerator = false)
    (hx : scope.names.lookup x = some .local) (hy : scope.names.lookup y = some .local) (hss : scope.names.lookup ("super" : Str) = some .globalImplicit) (hcc : scope.names.lookup ("__class__" : Str) = some .free)
    (hxy : (x == y) = false) (hdx : (x == ("__debug__" : Str)) = false) (hdy : (y == ("__debug__" : Str)) = false) (hnc : ∀ z ∈ scope.names, z.2 ≠ .cell)
    (hcall : ∀ env : Env, ∃ pl : Sem Bool, eval (.Call (.Attribute (.Call (.Name "super" p0) [] [] p1) "__init__" p2) [.Name y p3] [] p4) env = (do
      let ov ← attributeBase (.Call (.Name "super" p0) [] [] p1) "__init__" env (eval (.Call (.Name "super" p0) [] [] p1) env)
      standAt p2.atName
      let (f, first) ← holding [ov] (getMethod ov "__init__" pl)
      callWith p4 f first (backTo p4 (starEach [.Name y p3] env)) [])) :
    FnOk P w K mg base CX k f (ksFn name qual params (initBody x y fld p0 p1 p2 p3 p4 p5 p6 p7 p8 p9) scope dV kV doc pm an (.ref cda) ct cc) [x, y] (spInit K D fld) := by
  refine ⟨fun vs H Q E h => by obtain ⟨a, C, v, rfl, _⟩ := h; rfl, fun A outer s H args us vs Q E hr e0 hb r hsp => ?_⟩
  obtain ⟨a, C, v, rfl, T, SO, e, q⟩ := hsp
  obtain ⟨ua, uv, rfl, ra, rv⟩ := r.two
  cases ra
  have KX : K.In s.heap := e0.mod.kin.keeps fun b o e => (e0.bs b o e).1
  have lim : s.heap.NoLimit := e0.mod.nolimit.keeps fun b o e => (e0.bs b o e).1
  obtain ⟨t1, hoe⟩ := exo_at e0.hok e
  refine ks_codeAny_call_defAt hr.depth (KX _ _ lk) rfl lim (codeRec_of KX hcd) rfl hb hnc (fun z hz => ?_) (fun h₀ hns keep0 => ?_) hco hgen hk
  · rcases List.mem_cons.mp hz with rfl | hz
    · exact hx
    · rcases List.mem_cons.mp hz with rfl | hz
      · exact hy
      · cases hz
  show _root_.PySem.wpAt (model P w) (A.deeper (ksEnv qual scope s.heap.objs.size f (.ref cda) cc)) (.func _ (ksEnv qual scope s.heap.objs.size f (.ref cda) cc)) (execs _ (ksEnv qual scope s.heap.objs.size f (.ref cda) cc)) _ _ _
  have X0 : K.In h₀ := KX.keeps keep0
  generalize henv : ksEnv qual scope s.heap.objs.size f (.ref cda) cc = env
  have ek : env.scope = scope := by rw [← henv]
  have el : env.locals = s.heap.objs.size := by rw [← henv]
  have eg : env.globals = mainGlobals := by rw [← henv]
  have eb : env.builtins = builtinsNs := by rw [← henv]
  have ec : env.cells = [(("__class__" : Str), cc)] := by rw [← henv]
  have efu : env.func = some f := by rw [← henv]
  have eco : env.code = .ref cda := by rw [← henv]
  have kd : ∀ z, env.kindOf z = scope.names.lookup z := fun z => by rw [← henv]; rfl
  have ekk : env.scope.kind = .function := by rw [ek]; exact hk
  have hint : interactive env = false := by simp [interactive, ekk]
  obtain ⟨mb, hb1, hb2⟩ := e0.mod.blt
  have keepB : ∀ b o, base.get? b = some o → h₀.get? b = some o := fun b o eb => keep0 b o (e0.bs b o eb).1
  have hns' : h₀.Ns env.locals (fun z => ([(x, Value.ref a), (y, uv)] : List (Str × Value)).reverse.lookup z) := by rw [el]; exact hns
  have mx : (fun z => ([(x, Value.ref a), (y, uv)] : List (Str × Value)).reverse.lookup z) x = some (.ref a) := by simp [List.lookup, hxy]
  have my : (fun z => ([(x, Value.ref a), (y, uv)] : List (Str × Value)).reverse.lookup z) y = some uv := by simp [List.lookup]
  generalize (fun z => ([(x, Value.ref a), (y, uv)] : List (Str × Value)).reverse.lookup z) = m at hns' mx my
  have hoa : h₀.get? a = some _ := keep0 _ _ hoe
  obtain ⟨nmC, qC, NC, bs, bm, sn, sub, ab, col, dd, k0, k1, k2, k3, k5, hC, hbm⟩ := T.cls
  have hcl : clsIn K C = some { name := nmC, bases := bs, mro := .ref C :: bm, ns := NC, qualname := qC, hasDict := true, slotNames := sn, subclasses := sub, abstract := ab, collection := col, hasDel := false } := by unfold clsIn; rw [hC] <;> rfl
  obtain ⟨hp0, g, dr, tk, os⟩ := s
  dsimp only at *
  have haL : a ≠ hp0.objs.size := Nat.ne_of_lt (Heap.lt_size hoe)
  -- super()
  obtain ⟨pl, hpl⟩ := hcall env
  refine ks_wpAt_execs_cons (ks_wpAt_Expr_any (hi := hint) (hs := rfl) (ks_wpAt_MethodCall (he := hpl) ?_))
  obtain ⟨oD, hD1, hD2⟩ : ∃ oD, h₀.get? D = some oD ∧ oD.data = .cls cdD := by
    unfold clsIn at hD
    split at hD
    · rename_i c d cd' sl ho
      cases hD
      exact ⟨_, X0 _ _ ho, rfl⟩
    · cases hD
  have I0 : InstAt h₀ a { cls := .ref C, dict := none, data := .fields #[.ref t1, .none, .none, .none, .bool false, .none] } C none := ⟨hoa, rfl, rfl, trivial⟩
  refine ks_wpAt_super_base (env := env) ((kd _).trans hss) ((kd _).trans hcc) rfl efu (X0 _ _ lk) rfl hp eco (X0 _ _ hcode) rfl hvs hfile htop ?_
  refine ks_loadName_global ekk ((kd _).trans hss) (loadGlobal_builtin (mg := mg) (mb := mb) (by rw [eg]; exact e0.mod.glob.keeps keepB) hsm (by rw [eb]; exact hb1.keeps keepB) ((hb2 _ (by decide)).trans PyProof.Rows.Boot.«super») ⟨rfl, ?_⟩)
  refine wpAny_loadName_free ekk ((kd _).trans hcc) (c := cc) (v := .ref D) (by rw [ec]; rfl) ⟨_, X0 _ _ hcell, rfl⟩ ?_
  rw [har]
  refine wpAny_loadName_local ekk ((kd _).trans hx) hns' mx ?_
  refine ks_wpAny_isType_cls hD1 hD2 ⟨rfl, ?_⟩
  refine ks_wpAny_call_super hD1 hD2 hoa rfl (fun c z => nomatch z) (looks_mroIn X0 SO.sub) (fun h1 hs1 keep1 => ?_)
  have X1 : K.In h1 := X0.keeps keep1
  have hup := SO.sup
  unfold ks_superIn at hup
  rw [hcl] at hup
  have I1 : InstAt h1 a { cls := .ref C, dict := none, data := .fields #[.ref t1, .none, .none, .none, .bool false, .none] } C none := ⟨keep1 _ _ hoa, rfl, rfl, trivial⟩
  refine kxs_getMethod kxs_ValueError hs1 (looks_opaque X1 hopq) (l₀ := .ref C :: bm) (fun A Q E s k q => wpAny_bind ((looks_clsIn X1 hcl) A _ E s k (wpAny_pure q))) rfl X1 hup (I1.type.andThen (looks_subIn X1 SO.ve)) (ks_ne X1 I1 hcl) rfl ?_
  -- the call
  have hn1 : (h1.push (kxs_mw "ValueError.__init__" a)).Ns env.locals m := (hns'.keeps keep1).keeps fun b o e => Heap.get?_push_of_some _ e
  have hu1 : (h1.push (kxs_mw "ValueError.__init__" a)).get? h1.objs.size = some (kxs_mw "ValueError.__init__" a) := Heap.get?_push_size _ rfl
  have keep2 : ∀ b o, h₀.get? b = some o → (h1.push (kxs_mw "ValueError.__init__" a)).get? b = some o := fun b o e => Heap.get?_push_of_some _ (keep1 _ _ e)
  have yeval : ∀ {pos : Pos} {hh : Heap} {tt : Nat} {Q : Value → Shared → Prop} {E : Value → Shared → Prop} {A : Around}, hh.Ns env.locals m → Q uv ⟨hh, g, dr, tt, os⟩ → wpAny (model P w) A (eval (.Name y pos) env) Q E ⟨hh, g, dr, tt, os⟩ := fun hn q => wpAny_Name (wpAny_loadName_local ekk ((kd _).trans hy) hn my q) hdy
  have xeval : ∀ {pos : Pos} {hh : Heap} {tt : Nat} {Q : Value → Shared → Prop} {E : Value → Shared → Prop} {A : Around}, hh.Ns env.locals m → Q (.ref a) ⟨hh, g, dr, tt, os⟩ → wpAny (model P w) A (eval (.Name x pos) env) Q E ⟨hh, g, dr, tt, os⟩ := fun hn q => wpAny_Name (wpAny_loadName_local ekk ((kd _).trans hx) hn mx q) hdx
  refine kxs_callWith (i := "ValueError.__init__") (x := a) rfl (evalArgs_plain (spliced_cons (yeval hn1 (spliced_nil ⟨hu1, ?_⟩))))
  refine call_mwVE (keep2 _ _ (X0 _ _ hC)) (keep2 _ _ hoa) hu1 (by show 1 ≤ sizeLine; decide) (fun h2 t2 keep3 he2 => ?_)
  have keep4 : ∀ b o, b ≠ a → h₀.get? b = some o → h2.get? b = some o := fun b o n e => keep3 b o n (keep2 b o e)
  have hn2 : h2.Ns env.locals m := by
    obtain ⟨oL, es, ep, h1', r1'⟩ := hns'
    exact ⟨oL, es, ep, keep4 _ _ (by rw [el]; exact fun z => haL z.symm) h1', r1'⟩
  -- self.f = y
  refine ks_wpAt_execs_cons (wpAt_of_wpAny (plainObj_wpAny_Assign_Attribute (hs := rfl) (yeval hn2 (xeval hn2 ?_))))
  have X2 : K.In h2 := fun b o z => keep4 b o (fun z2 => by
    subst z2
    have := (e0.bs _ _ (e0.mod.kin _ _ z)).2
    rw [e] at this
    cases this) (X0 _ _ z)
  refine set_plain X2 (ox := HandSPX.excO C t2) (od := none) ⟨he2, rfl, rfl, trivial⟩ T.sa ?_
  refine HandSPX.exc_osa X2 he2 hcl (show HandSPX.refsVE (.ref C :: bm) = true from hbm) rfl SO.fld (fun h3 tk3 dx k3 dn dne hx3 hn3 => ?_)
  have lt2 : hp0.objs.size < h2.objs.size := by
    obtain ⟨oL, es, ep, h1', r1'⟩ := hn2
    rw [el] at h1'
    exact Heap.lt_size h1'
  have hnd : H dx = none := e0.hok.fresh (Nat.le_of_lt (Nat.lt_of_lt_of_le lt2 dn))
  have kall : ∀ b o, b ≠ a → hp0.get? b = some o → h3.get? b = some o := fun b o n z => k3 b o n (keep4 b o n (keep0 b o z))
  have nd : ∀ {b : Addr} {o : Obj}, hp0.get? b = some o → b ≠ dx := fun {b o} z => Nat.ne_of_lt (Nat.lt_of_lt_of_le (Nat.lt_trans (Heap.lt_size z) lt2) dn)
  have na : ∀ {b : Addr}, H b = none → b ≠ a := fun {b} n z => by
    rw [z, e] at n
    cases n
  refine wpAt_of_wpAny (wpAny_execs_nil ?_)
  refine ⟨.non, upd (upd H dx (exd dx [(fld, v)])) a (exo a C (some dx)), rfl, e0.bare, {
    keep := fun b o q n _ _ => kall b o (na n) q
    slot := fun b o q n _ _ => ⟨o.slots, kall b o (na n) q⟩
    free := fun b o q n _ => by rw [upd_ne (na n), upd_ne (nd q)]; exact n
    there := fun b o q _ => by
      by_cases hb : b = a
      · exact ⟨_, by rw [hb]; exact hx3⟩
      · exact ⟨o, kall b o hb q⟩
    tups := fun b xs q => by rw [upd_ne (at_ne e q exo_tup), upd_ne (ne_of_none q hnd)]; exact q
    frzs := fun b o v q => by rw [upd_ne (at_ne e q exo_frz), upd_ne (ne_of_none q hnd)]; exact q
    tbls := fun b ps q => ⟨#[], by rw [upd_ne (at_ne e q exo_tbl), upd_ne (ne_of_none q hnd), q]; simp⟩ }, fun b o q => ?_, rfl, q dx hnd dne⟩
  by_cases hb : b = a
  · subst hb
    rw [upd_same] at q
    cases q
    exact exo_ok hx3
  · rw [upd_ne hb] at q
    by_cases hd : b = dx
    · subst hd
      rw [upd_same] at q
      cases q
      exact exd_ok hn3 (relO_put (fs := []) rv fun g => True.intro)
    · rw [upd_ne hd] at q
      exact (e0.hok b o q).stay (fun c v hc z => kall c v (by
          rcases hc with hc | hc
          · rw [hc]
            exact hb
          · exact at_ne e hc exo_own) z)
        (fun c hc => by rw [upd_ne (at_ne e hc exo_own), upd_ne (ne_of_none hc hnd)]; exact hc) (fun c xs hc => by rw [upd_ne (at_ne e hc exo_tup), upd_ne (ne_of_none hc hnd)]; exact hc)
end DI

end
section
set_option maxRecDepth 100000
set_option maxHeartbeats 4000000
/-! DI15: errors raised, errors caught. -/
namespace DI
open PySem PySem.Spec PyProof.Rows L2 PySem.W PySem.Calls

/-! ### isinstance of a caught error with fields -/
section
variable {prog : Program} {w : World} {A : Around} {E : Value → Shared → Prop} {s : Shared} {K : Frag} {x D : Addr} {ox : Obj} {od : Option Obj}
theorem findObj_dO {C : Addr} {name : Str} {a g : Value} (hc : (clsIn K C).isSome = true) (ha : findIn K (.ref C) name = some (some a)) (hg : specialIn K a "__get__" = some (some g)) (ht : takesIn K a = some true) : findObj K C od name = some (.bind g a) := by
  obtain ⟨cd, hc⟩ := Option.isSome_iff_exists.mp hc
  unfold findObj
  rw [hc, Option.bind_some, ha, Option.bind_some]
  simp [hg, ht]
theorem cls_errO {Q : Option Value → Shared → Prop} (C : ExcC K D) (X : K.In s.heap) (I : InstAt s.heap x ox D od) (h : Q (some (.ref D)) { s with toks := s.toks + 1 }) : wpAny (model prog w) A (getAttr? (.ref x) "__class__") Q E s := by
  have hf : findObj K D od "__class__" = some (.bind (.builtin "getset_descriptor.__get__") (.builtin "object.__class__")) := findObj_dO (by obtain ⟨cd, hc, _⟩ := any_some C.hd; rw [hc]; rfl) C.ha C.hn C.ht
  obtain ⟨hp, g, d, t, os⟩ := s
  have L0 := I.type (M := model prog w)
  have L1 := looks_findIn (M := model prog w) X C.hg
  have L2 := looks_findIn (M := model prog w) X C.hk
  have L3 := looks_find (M := model prog w) X I hf
  have sub : Looks (model prog w) hp (isInstance (.ref x) (.type "BaseException")) true := L0.andThen (looks_subIn X C.hs)
  have hx0 : (false && onTheHeap (Value.builtin "BaseException.__getattribute__")) = false := rfl
  have hx2 : (Value.builtin "BaseException.__getattribute__" == Value.builtin "object.__getattribute__") = false := by decide +kernel
  have hx1 : (onTheHeap (Value.ref D) && Value.builtin "BaseException.__getattribute__" == Value.builtin "object.__getattribute__") = false := by rw [hx2]; rfl
  unfold getAttr? getAttrBy? getAttrBy
  refine wpAny_bind (wpAny_mkText (wpAny_bind (wpAny_attempt (wpAny_holding (wpAny_bind (L0.at (wpAny_bind (L1.at ?_))))))))
  show wpAny _ _ (if (onTheHeap (Value.ref D) && Value.builtin "BaseException.__getattribute__" == Value.builtin "object.__getattribute__") = true then _ else _) _ _ _
  rw [hx1, if_neg Bool.false_ne_true]
  unfold getAttrByItsOwn hookBefore
  refine wpAny_bind ?_
  rw [if_pos (show onTheHeap (Value.ref D) = true from rfl)]
  refine L2.at ?_
  refine wpAny_bind (wpAny_attempt (wpAny_holding ?_))
  unfold callGetattribute
  rw [hx0, if_neg Bool.false_ne_true]
  unfold boundAndCalled
  rw [PySem.F.excAttr_ValueError.ga.bind (.ref x)]
  refine wpAny_bind (wpAny_pure ?_)
  show wpAny _ _ (call (.builtin "BaseException.__getattribute__") [.ref x, .str "__class__" t]) _ _ _
  refine wpAny_call (codeAny_call_builtin PySem.F.excAttr_ValueError.ga.plain PySem.F.entry_bexc_ga ?_)
  refine @check_slot (model prog w) _ _ ⟨hp, g, d, t + 1, os⟩ "BaseException.__getattribute__" "BaseException" "__getattribute__" (.ref x) [.str "__class__" t] [] _ (by decide +kernel) (by decide +kernel) sub (PySem.F.args_bexc_ga (.ref x) (.str "__class__" t)) ?_
  unfold Builtin.«object.__getattribute__»
  refine wpAny_bind (wpAny_of_eq (a := ((Value.ref x : Value), [Value.str "__class__" t])) (by first | rfl | (simp only [slotArgs]; rfl)) ?_)
  refine wpAny_bind (wpAny_pure (wpAny_bind (L0.at (wpAny_bind (L3.at ?_)))))
  show wpAny _ _ (holding [Value.builtin "object.__class__"] (call (.builtin "getset_descriptor.__get__") [.builtin "object.__class__", .ref x, .ref D]) >>= ret) _ _ _
  refine wpAny_bind (wpAny_holding (wpAny_call (class_get (s := ⟨hp, g, d, t + 1, os⟩) (ox := ox) (od := od) X I C.hm ?_)))
  refine wpAny_pure ?_
  show wpAny _ _ (handedOut (.ref D)) _ _ _
  rw [handedOut_of (v := .ref D) rfl]
  first
    | exact wpAny_pure (wpAny_pure h)
    | exact wpAny_pure h
    | exact wpAny_pure (wpAny_bind (wpAny_pure (wpAny_pure h)))
theorem kitx_errO (C : ExcC K D) : KitX K (.ref x) (.ref D) (fun h => ∃ od, InstAt h x ox D od) where
  ty := fun _ _ _ ⟨_, I⟩ => I.type
  it := fun _ _ X _ => by
    obtain ⟨cdD, hcD, _⟩ := any_some C.hd
    unfold clsIn at hcD
    split at hcD
    · rename_i c' d' cd' sl' ho
      intro A' Q' E' s' k q
      unfold isType loadHead
      exact wpAny_bind (wpAny_loadPart (k _ _ (X _ _ ho)) (wpAny_pure q))
    · cases hcD
  ne := fun h tp dd its n sl X htp => by
    obtain ⟨cdD, hcD, _⟩ := any_some C.hd
    refine Bool.eq_false_iff.mpr fun q => ?_
    have e : D = tp := Value.ref.inj (beq_iff_eq.mp q)
    subst e
    unfold clsIn at hcD
    split at hcD
    · rename_i c' d' cd' sl' ho
      have z := (X _ _ ho).symm.trans htp
      cases z
    · cases hcD
  ca := fun X ⟨_, I⟩ k => cls_errO C X I k
end
/-- isinstance(e, c) where the error has its dict -/
def rIsO (K : Frag) (D a : Addr) : List V → Hp → VK → Prop := fun xs H Q => ∃ (c : V) (cv : Value) (b : Bool) (dd : Addr) (fs : List (Str × V)), xs = [.ref a, c] ∧ (∀ u, RelV c u → u = cv) ∧ H dd = some (.xd fs) ∧ kitOne K (.ref D) cv = some b ∧ Q (.bl b) H
theorem call_isO {X : Cx} {a D : Addr} {oe : Obj} {dd : Addr} {pn : List (Addr × Obj)} (C : ExcC X.K D) (hz : Zc (.ref D) (some dd) oe) (hf : ∃ vs, oe.data = .fields vs) : CallR (X.suite a ((a, oe) :: pn)) (.builtin "isinstance") (fun xs H Q => ∃ (c : V) (cv : Value) (b : Bool) (fs : List (Str × V)), xs = [.ref a, c] ∧ (∀ u, RelV c u → u = cv) ∧ H dd = some (.xd fs) ∧ kitOne X.K (.ref D) cv = some b ∧ Q (.bl b) H) := by
  intro pins s σ H xs us Q I r h
  obtain ⟨c, cv, b, fs, rfl, hcv, hd, e, q⟩ := h
  cases r with
  | cons rx rr =>
    cases rr with
    | cons rt rr =>
      cases rr
      cases rx
      have ec := hcv _ rt
      subst ec
      obtain ⟨hget, _⟩ := I.pin (a, oe) (List.mem_append.mpr (.inl List.mem_cons_self))
      obtain ⟨vs, hv⟩ := hf
      have hx : ObjOk X.prog X.w H s.heap dd (.xd fs) := I.hok dd _ hd
      obtain ⟨mA, hns, hr⟩ := hx
      obtain ⟨odd, ho, hl⟩ := lookIn_ns hns
      have J : InstAt s.heap a oe D (some odd) := ⟨hget, hz.1, by unfold notCls; rw [hv] <;> rfl, by rw [hz.2]; exact ho⟩
      exact kia_one (kitx_errO C) I.kIn ⟨_, J⟩ e (fun z => nomatch z) fun tk => ⟨.bl b, H, I.kept (t' := tk) fun _ _ z => z, rfl, q⟩

/-! ### several clauses, each with a name -/
def wManyAs (K : Frag) (Wout : WX) (D : Ends) : List (Value × Nat × (Addr → Value → Option Addr → TS)) → WX
  | [] => Wout
  | (c, i, ts) :: r => fun cls d σ H => ∃ b, exmOne K cls c = some b ∧ (b = true → ∀ a, H a = none → ts a cls d { nx := fun σ' H' => D.nx (σ'.set i none) H', rt := D.rt, bk := fun σ' H' => D.bk (σ'.set i none) H', ct := fun σ' H' => D.ct (σ'.set i none) H' } (σ.set i (some (.ref a))) H) ∧ (b = false → wManyAs K Wout D r cls d σ H)
inductive HdsAs (X : Cx) : List ExceptHandler → List (Value × Nat × (Addr → Value → Option Addr → TS)) → Prop
  | nil : HdsAs X [] []
  | cons {x n : Str} {c : Value} {i : Nat} {ts : Addr → Value → Option Addr → TS} {b₀ : Stmt} {suite : List Stmt} {np pos' : Pos} {hds : List ExceptHandler} {l : List (Value × Nat × (Addr → Value → Option Addr → TS))} (hc : Names X x c) (hi : X.N[i]? = some n) (hln : X.env.kindOf n = some .local)
      (hsu : ∀ (a : Addr) (oe : Obj) (cls : Value) (d : Option Addr) (pn : List (Addr × Obj)), Zc cls d oe → (∃ vs, oe.data = .fields vs) → PSs (X.suite a ((a, oe) :: pn)) (b₀ :: suite) (ts a cls d)) (r : HdsAs X hds l) :
      HdsAs X (.ExceptHandler (some (.Name x np)) (some n) (b₀ :: suite) pos' :: hds) ((c, i, ts) :: l)
section
variable {X : Cx} {body : List Stmt} {h₀ : ExceptHandler} {hds : List ExceptHandler} {l : List (Value × Nat × (Addr → Value → Option Addr → TS))} {pos : Pos} {tb : WX → TS} {Wout : WX}
theorem ps_try_manyAs (hs : X.stack = X.env :: X.outer) (hf : X.env.frame = some X.env.locals) (hN : X.N.Nodup) (tk : Takes X Wout)
    (hb : ∀ (W : WX) (pn : List (Addr × Obj)) (xe : Value → Shared → Prop), Takes (X.tr pn xe) W → PassesOwn (model X.prog X.w) X.A X.env xe → PSs (X.tr pn xe) body (tb W))
    (hh : HdsAs X (h₀ :: hds) l) : PS X (.Try body (h₀ :: hds) [] [] pos) (fun D σ H => tb (wManyAs X.K Wout D l) D σ H) := by
  refine ⟨fun pins s σ H D I h => ?_⟩
  have ok := I.ok
  have hfr : X.A.frames = some (X.env :: X.outer) := by rw [ok.frames, hs]
  refine wpAny_Try_except ?_
  refine wpAny_mono ((hb (wManyAs X.K Wout D l) (X.pn ++ pins) (fun e s₁ => wpAny (model X.prog X.w) X.A (noteFrame e X.env) (fun _ s₂ => wpAny (model X.prog X.w) X.A (setFlight e none) (fun _ s₃ =>
    wpAny (model X.prog X.w) X.A (handleBy e X.env (h₀ :: hds)) (SP X pins D) X.xe s₃) X.xe s₂) X.xe s₁) (fun u s' xx => ?_) PassesOwn.looking).run [] s σ H D (I.toTry _) h) (fun f s1 hsp => ?_) (fun e s1 he => he)
  · obtain ⟨a, B, sI, pins', σ', H', cls, d, rfl, J', nb, up, sky, na, os, ag, w⟩ := xx
    have J : Inv X pins σ' H' sI := J'.ofTry ok
    have sky' : Sky B (X.env :: X.outer) a (Zc cls d) X.env.locals s'.heap := by rw [← hs]; exact sky
    show wpAny (model X.prog X.w) X.A (noteFrame (.ref a) X.env) _ _ _
    refine Sky.land Zc.steady hfr hf sky' fun h3 fl3 up3 => ?_
    have J3 : Inv X pins σ' H' { s' with heap := h3 } := J.landed nb fl3.1 (up.trans up3) os ag
    obtain ⟨oe3, vs3, he3, hz3, hd3⟩ := fl3.there
    have notFr : ∀ {h : Heap} {o : Obj} {vs : Array Value}, h.FunFrames B (X.env :: X.outer) → h.get? a = some o → o.data = .fields vs → a ∉ frs (X.env :: X.outer) := fun {h o vs} ff e dd hm => by
      obtain ⟨_, o', e', hnf⟩ := ff.mem hm
      rw [e] at e'; cases e'
      exact hnf _ dd
    have nfr := notFr fl3.2.2.1 he3 hd3
    have nL : a ≠ X.env.locals := fun z => nfr (List.mem_filterMap.mpr ⟨X.env, List.mem_cons_self, by rw [hf, z]⟩)
    have nF : a ∉ X.fs := fun hm => by
      obtain ⟨e, he, q⟩ := List.mem_filterMap.mp hm
      exact nfr (List.mem_filterMap.mpr ⟨e, List.mem_cons_of_mem _ he, q⟩)
    have S3 := J3.suite he3 hd3 na nL nF
    have go : ∀ {hds' : List ExceptHandler} {l' : List (Value × Nat × (Addr → Value → Option Addr → TS))}, HdsAs X hds' l' → wManyAs X.K Wout D l' cls d σ' H' →
        wpAny (model X.prog X.w) X.A (handleBy (.ref a) X.env hds') (SP X pins D) X.xe { s' with heap := h3 } := by
      intro hds' l' hk
      induction hk with
      | nil =>
        intro w
        refine wpAny_handleBy_nil ?_
        obtain ⟨k1, k2, k3, oe, vs, T, oT, ts', he, hz, hd, h1, hr⟩ := id fl3
        unfold PySem.passOn
        refine wpAny_bind (wpAny_field he hd h1 ?_)
        rw [if_neg (show ¬ ((Value.ref T == Value.none) = true) from by simp)]
        have fin : wpAny (model X.prog X.w) X.A (setFlight (.ref a) X.env.frame) (fun _ s4 => wpAny (model X.prog X.w) X.A (throw (.ref a) : Sem Flow) (SP X pins D) X.xe s4) X.xe { s' with heap := h3 } := by
          rw [hf]
          refine HandSPX.setFlight_upZ fl3 fun h4 hh4 up4 => wpAny_throw (tk _ _ ?_)
          exact ⟨a, B, sI, pins, σ', H', cls, d, rfl, J, nb, (up.trans up3).trans up4, .inr (.inr (by rw [hs]; exact hh4)), na, os, ag, w⟩
        first
          | exact wpAny_bind (wpAny_pure (wpAny_bind fin))
          | exact wpAny_bind fin
      | @cons x n c i ts b₀ suite np pos' hds2 l2 hc hi hln hsu r ih =>
        intro w
        obtain ⟨b, hb1, hyes, hno⟩ := w
        refine wpAny_handleBy_cons (codeAny_handlers_test ?_) (by intro q; cases q)
        have LT : Looks (model X.prog X.w) h3 (typeOf (.ref a)) cls := fun A Q E s k q => wpAny_typeOf_ref (k _ _ he3) (by rw [hz3.1]; exact q)
        have LM := exm_one (M := model X.prog X.w) (J3.kIn) LT hb1
        have test : ∀ {Q : Value → Shared → Prop} {E : Value → Shared → Prop}, Q c { s' with heap := h3 } → wpAny (model X.prog X.w) (X.A.mark (some (.ref a))) (eval (.Name x np) X.env) Q E { s' with heap := h3 } := fun {Q E} q => by
          obtain ⟨hg, hdbg, hm | ⟨hm, hv, hnn⟩⟩ := hc
          · exact ld_glob (X := X.suite a ((a, oe3) :: (X.pn ++ pins))) S3 hg hm q hdbg
          · exact ld_blt (X := X.suite a ((a, oe3) :: (X.pn ++ pins))) S3 hg hm hv q hnn hdbg
        refine test (LM.here ?_)
        cases b with
        | true =>
          refine codeAny_handlers_suite_as ?_
          refine HandSPX.lands_againZ fl3 fun h4 fl4 up4 => ?_
          have J4 : Inv X pins σ' H' { s' with heap := h4 } := J.landed nb fl4.1 ((up.trans up3).trans up4) os ag
          obtain ⟨oe4, vs4, he4, hz4, hd4⟩ := fl4.there
          have S4 := J4.suite he4 hd4 na nL nF
          refine store_ok (X := X.suite a ((a, oe4) :: (X.pn ++ pins))) (v := .ref a) S4 hN hi (.inl hln) rfl (fun s5 S5 => ?_) (.inr hln)
          refine wpAny_mono ((hsu a oe4 cls d (X.pn ++ pins) hz4 ⟨_, hd4⟩).run [] s5 _ H' _ S5 (hyes rfl a na)) (fun f s6 hsp => ?_) (fun _ _ z => False.elim z)
          have end_ : ∀ {σ6 : L2.St} {H6 : Hp} {Q : Shared → Prop}, Inv (X.suite a ((a, oe4) :: (X.pn ++ pins))) [] σ6 H6 s6 → (∀ s7, Inv X pins (σ6.set i none) H6 s7 → Q s7) →
              wpAny (model X.prog X.w) X.A (do bindName X.env n .none; unbindBehindTheSuite X.env n pos') (fun _ s7 => Q s7) X.xe s6 := fun {σ6 H6 Q} S6 hq => gone_ok (S6.unsuite ok) hN hi hln hq
          cases f with
          | next =>
            obtain ⟨σ6, H6, S6, q6⟩ := hsp
            exact end_ S6 fun s7 J7 => ⟨_, _, J7, q6⟩
          | brk =>
            obtain ⟨σ6, H6, S6, q6⟩ := hsp
            exact end_ S6 fun s7 J7 => ⟨_, _, J7, q6⟩
          | cont =>
            obtain ⟨σ6, H6, S6, q6⟩ := hsp
            exact end_ S6 fun s7 J7 => ⟨_, _, J7, q6⟩
          | ret u =>
            obtain ⟨v6, σ6, H6, S6, r6, q6⟩ := hsp
            exact end_ S6 fun s7 J7 => ⟨_, _, _, J7, r6, q6⟩
        | false =>
          show wpAny _ X.A (handleBy (.ref a) X.env hds2) _ _ _
          exact ih (hno rfl)
    exact go hh w
  · cases f with
    | next =>
      obtain ⟨σ', H', J', q⟩ := hsp
      exact wpAny_execs_nil ⟨σ', H', J'.ofTry ok, q⟩
    | brk =>
      obtain ⟨σ', H', J', q⟩ := hsp
      exact ⟨σ', H', J'.ofTry ok, q⟩
    | cont =>
      obtain ⟨σ', H', J', q⟩ := hsp
      exact ⟨σ', H', J'.ofTry ok, q⟩
    | ret u =>
      obtain ⟨v, σ', H', J', r, q⟩ := hsp
      exact ⟨v, σ', H', J'.ofTry ok, r, q⟩
end
end DI

end
section
set_option maxRecDepth 100000
set_option maxHeartbeats 4000000
/-! DI16: raise and try, with the interpreter's readings. -/
namespace DI
open PySem PySem.Spec PyProof.Rows L2 PySem.W

/-! ### an own error -/
structure ErrOk (P : Program) (w : World) (K : Frag) (mg : Str → Option Value) (base : Heap) (x : Xc) (cl : Nat) (nm : Str) : Prop where
  hm : mg nm = some (.ref (x.ca cl))
  oex : OexC K (x.ca cl)
  ini : ∃ (fI D : Addr) (fld px py : Str) (fd : FuncData), findIn K (.ref (x.ca cl)) "__init__" = some (some (.ref fI)) ∧ typeIn K (.ref fI) = some (.type "function") ∧
    (∀ k, FnOk P w K mg base (L2.CX P w) k fI fd [px, py] (spInit K D fld)) ∧ Binds K fd [px, py] [] ∧ SupC K (x.ca cl) D fld ∧ x.nm cl = [fld]
structure GoodS (s : Sc) (c : Wc) (x : Xc) (W : WX) (rc : Calls) (k : Nat) (X : Cx) : Prop extends Good s c x W rc k X where
  hp : PassesOwn (model X.prog X.w) X.A X.env X.xe
  hs : X.stack = X.env :: X.outer
  hf : X.env.frame = some X.env.locals
  err : ∀ (cl : Nat) (nm : Str), s.C[cl]? = some nm → ErrOk X.prog X.w X.K X.mg X.base x cl nm
  exs : ∀ (nm : Str) (cs : List Nat), (nm, cs) ∈ s.EX → ∃ cv, X.mg nm = some (.ref cv) ∧ ∀ cl, cl < 16 → exmOne X.K (.ref (x.ca cl)) (.ref cv) = some (cs.contains cl) ∧ kitOne X.K (.ref (x.ca cl)) (.ref cv) = some (cs.contains cl)
  xc : ∀ cl, cl < 16 → ExcC X.K (x.ca cl) ∧ XfC X.K (x.ca cl)
  fn0 : ∀ cl, cl < 16 → x.nm cl = s.FN.getD cl []
  flds : ∀ cl, cl < 16 → ∀ f, f ∈ x.nm cl → findIn X.K (.ref (x.ca cl)) f = some none
  nodup : ∀ cl, cl < 16 → (x.nm cl).Nodup
theorem GoodS.tr {s : Sc} {c : Wc} {x : Xc} {W W' : WX} {rc : Calls} {k : Nat} {X : Cx} (G : GoodS s c x W rc k X) {pn : List (Addr × Obj)} {xe : Value → Shared → Prop} (tk : Takes (X.tr pn xe) W') (hp : PassesOwn (model X.prog X.w) X.A X.env xe) : GoodS s c x W' rc k (X.tr pn xe) :=
  ⟨⟨G.sc, G.N, G.nd, G.fn, G.K, G.calm, G.room, G.gd, tk, G.fns, G.nf, G.out, G.con, G.blt⟩, hp, G.hs, G.hf, G.err, G.exs, G.xc, G.fn0, G.flds, G.nodup⟩
section
variable {s : Sc} {c : Wc} {x : Xc} {W : WX} {rc : Calls} {k : Nat} {X : Cx} {own : List Nat}
theorem lookup_zip_one {f : Str} {v : V} {g : Str} (h : g = f) : ([(f, v)] : List (Str × V)).lookup g = some v := by
  subst h; simp [List.lookup]
theorem ps_raiseD (G : GoodS s c x W rc (k + 1) X) {cl : Nat} {nm : Str} {a : Expr} {e : DE} {p pos pos2 : Pos} (hC : s.C[cl]? = some nm) (hg : s.glb nm = true) (hst : isStarred a = false) (he : PE X a (tE c x W rc e)) :
    PS X (.Raise (some (.Call (.Name nm p) [a] [] pos)) none pos2) (tS c x W own own (exS rc (.raise cl (.cons e .nil)))) := by
  obtain ⟨hm, T, fI, Dc, fld, px, py, fd, iC, tI, F1, hb, SO, hn⟩ := G.err cl nm hC
  obtain ⟨g1, g2, g3⟩ := G.isGlb hg
  have pm := pmk_oex (X := X) (p := p) (pos := pos) (e := a) (es := []) (CX := L2.CX X.prog X.w) (dvs := []) T iC tI (F1 k) G.room hb .nil (fun pins σ H s e s' I h => by
    obtain ⟨_, _, _, _, _, _, _, _, _, _, _, _, z⟩ := h
    exact z.elim) g1 hm (pa_cons he pa_nil (star_off hst _ _)) g2 (star_off hst _ _) rfl
  refine ps_imp (ps_raise G.calm G.tk pm) fun Dn σ H h => ?_
  obtain ⟨E, ρ, Gd, σd, S, L, ok⟩ := h
  obtain ⟨R, B, M⟩ := L.mode true e.reads fun z => nomatch z
  refine ⟨R, ρ, B, σd, S, M.see, ?_⟩
  rw [exS, okR_bind, evEs, okR_bind] at ok
  refine okR_mono ok (fun d S1 ok v H1 x1 s1 r1 _ => ?_) fun _ _ _ h => M.exc L h
  rw [okR_bind, evEs] at ok
  replace ok : okR (if D.plains [d] = true then Res.exc cl [d] S1 else .bad) (OutOk c E own ρ Gd H Dn) (ExW c x W E) := ok
  split at ok
  · rename_i hpl
    refine ⟨by show 1 ≤ 1000; omega, fun p hp => ?_⟩
    refine ⟨p, x.ca cl, v, rfl, T, SO, upd_same, fun dx hdx hne => ?_⟩
    have hdx1 : H1 dx = none := by rw [upd_ne hne] at hdx; exact hdx
    refine ⟨rfl, dx, [(fld, v)], upd_same, by rw [upd_ne hne, upd_same], hdx1, ?_⟩
    generalize hH : upd (del (upd (upd (upd H1 p (exo p (x.ca cl) none)) dx (exd dx [(fld, v)])) p (exo p (x.ca cl) (some dx))) p) dx (.xd [(fld, v)]) = H2
    have x2 : Same H1 H2 := fun b o eb => by
      have hb1 : b ≠ dx := fun z => by rw [z, hdx1] at eb; cases eb
      have hb2 : b ≠ p := fun z => by rw [z, hp] at eb; cases eb
      rw [← hH, upd_ne hb1, del_ne hb2, upd_ne hb2, upd_ne hb1, upd_ne hb2]; exact eb
    have s2 := s1.same x2
    refine ok dx σ H2 L.ln ⟨ρ, B, fun b o eb n => ?_, L.pre, M.lo, s2, [v], ?_, by rw [hn]; rfl, (RepA.one r1).ext s1 (fun b o eb _ => x2 b o eb), hpl, fun h => ?_⟩
    · have e1 := L.ext b o eb n
      exact x2 _ _ (x1 b o e1 fun h => (L.new b h).elim n (fun z => by rw [eb] at z; cases z))
    · rw [← hH, hn, upd_same]; rfl
    · obtain ⟨o, eo⟩ := s1.has h
      rw [hdx1] at eo; cases eo
  · exact ok.elim

/-! ### what a clause hands back -/
def chkHL (s : Sc) (n : Str) (cs : List Nat) : HL → Expr → Bool
  | .const d, e => (match asConst e with
    | some k => constB d k
    | none => false)
  | .fld j, e => (match e with
    | .Attribute (.Name y _) f _ => decide (y = n) && (cs.all fun cl => decide (cl < 16) && decide ((s.FN.getD cl [])[j]? = some f))
    | _ => false)
def chkHLs (s : Sc) (n : Str) (cs : List Nat) : List HL → List Expr → Bool
  | [], [] => true
  | l :: r, e :: es => !isStarred e && (chkHL s n cs l e && chkHLs s n cs r es)
  | _, _ => false
def chkHE0 (s : Sc) (n : Str) (cs : List Nat) : HE → Expr → Bool
  | .one l, e => chkHL s n cs l e
  | .tup ls, e => (match asTup e with
    | some es => decide (ls.length < 100) && chkHLs s n cs ls es
    | none => false)
def chkHE (s : Sc) (n : Str) (cs : List Nat) (h : HE) (e : Expr) : Bool := match e with
  | .IfExp (.Call (.Name g _) [.Name y _, .Name z _] [] _) a _ _ => decide (g = "isinstance") && (s.glb g && (decide (y = n) && (s.glb z && ((s.EX.any fun q => decide (q.1 = z) && cs.all fun cl => decide (cl < 16) && q.2.contains cl) && chkHE0 s n cs h a))))
  | e => chkHE0 s n cs h e
/-- the state in a suite -/
structure Su (c : Wc) (x : Xc) (ρ : List Addr) (B : Addr → Prop) (H : Hp) (i : Nat) (a : Addr) (σ : L2.St) (S : Sto) (cl : Nat) (fs : List D) (dd : Addr) : Prop where
  nm : σ[i]? = some (some (.ref a))
  st : StoOk c ρ B H S
  ex : ExcAt c x ρ B H cl fs dd
theorem Su.same {ρ : List Addr} {B : Addr → Prop} {H H1 : Hp} {i : Nat} {a : Addr} {σ : L2.St} {S : Sto} {cl : Nat} {fs : List D} {dd : Addr} (U : Su c x ρ B H i a σ S cl fs dd) (sm : Same H H1) : Su c x ρ B H1 i a σ S cl fs dd := by
  obtain ⟨vs, h1, h2, h3, h4, h5⟩ := U.ex
  exact ⟨U.nm, U.st.same sm, vs, sm _ _ h1, h2, h3.ext U.st fun b o e _ => sm b o e, h4, h5⟩
def tHo (c : Wc) (x : Xc) (i : Nat) (a : Addr) (cls : Value) (dv : Option Addr) (cs : List Nat) (o : List D → Option D) : TE := fun σ H Q => ∃ ρ B S cl fs dd r, Su c x ρ B H i a σ S cl fs dd ∧ cl ∈ cs ∧ cls = .ref (x.ca cl) ∧ dv = some dd ∧ o fs = some r ∧ ∀ v H', Same H H' → Rep c ρ B H' r v → Q v H'
theorem zip_look : ∀ {ks : List Str} {vs : List V} {j : Nat} {f : Str} {v : V}, ks.Nodup → ks[j]? = some f → vs[j]? = some v → (ks.zip vs).lookup f = some v
  | [], _, _, _, _, _, h, _ => by simp at h
  | _ :: _, [], _, _, _, _, _, h => by simp at h
  | k :: ks, w :: vs, 0, f, v, _, h1, h2 => by
    simp at h1 h2; subst h1; subst h2
    simp [List.lookup]
  | k :: ks, w :: vs, j + 1, f, v, nd, h1, h2 => by
    rw [List.nodup_cons] at nd
    have hf : f ∈ ks := List.mem_of_getElem? (by simpa using h1)
    have hne : (f == k) = false := by
      rw [beq_eq_false_iff_ne]
      intro z
      exact nd.1 (by rw [← z]; exact hf)
    rw [List.zip_cons_cons, List.lookup_cons, hne]
    exact zip_look nd.2 (by simpa using h1) (by simpa using h2)
theorem pe_HL (G : GoodS s c x W rc k X) {n : Str} {i : Nat} {cs : List Nat} (hi : X.N[i]? = some n) (hl : X.env.scope.names.lookup n = some .local) (hd1 : (n == ("__debug__" : Str)) = false) (hd2 : (n == ("__classdict__" : Str)) = false) {a : Addr} {oe : Obj} {cls : Value} {dv : Option Addr} {pn : List (Addr × Obj)} (hz : Zc cls dv oe) (hf : ∃ vs, oe.data = .fields vs) :
    ∀ (l : HL) (e : Expr), chkHL s n cs l e = true → PE (X.suite a ((a, oe) :: pn)) e (tHo c x i a cls dv cs fun fs => hlD fs l)
  | .const d, e, h => by
    simp only [chkHL] at h
    split at h
    · rename_i kk e1
      obtain ⟨j, p, rfl⟩ := asConst_eq e1
      cases d <;> cases kk <;> simp only [constB] at h <;> try (cases h; done)
      · exact pe_imp pe_non fun σ H Q ⟨ρ, B, S, cl, fs, dd, r, U, h1, h2, h3, h4, q⟩ => by cases h4; exact q _ H (Same.refl _) .non
      · rw [beq_iff_eq] at h; subst h
        exact pe_imp pe_bl fun σ H Q ⟨ρ, B, S, cl, fs, dd, r, U, h1, h2, h3, h4, q⟩ => by cases h4; exact q _ H (Same.refl _) (.bl _)
      · rw [beq_iff_eq] at h; subst h
        exact pe_imp pe_int fun σ H Q ⟨ρ, B, S, cl, fs, dd, r, U, h1, h2, h3, h4, q⟩ => by cases h4; exact q _ H (Same.refl _) (.int _)
      · have h := of_decide_eq_true h; subst h
        exact pe_imp pe_str fun σ H Q ⟨ρ, B, S, cl, fs, dd, r, U, h1, h2, h3, h4, q⟩ => by cases h4; exact q _ H (Same.refl _) (.str _)
    · cases h
  | .fld j, e, h => by
    simp only [chkHL] at h
    split at h
    · rename_i y p f p2
      simp only [Bool.and_eq_true, decide_eq_true_eq, List.all_eq_true] at h
      obtain ⟨rfl, hall⟩ := h
      refine ⟨fun pins st σ H Q I hq => ?_⟩
      obtain ⟨ρ, B, S, cl, fs, dd, r, U, h1, rfl, rfl, h4, q⟩ := hq
      obtain ⟨vs, u1, u2, u3, u4, u5⟩ := U.ex
      obtain ⟨c16, hfl⟩ := hall cl h1
      rw [← G.fn0 cl c16] at hfl
      obtain ⟨v, e1, r1⟩ := u3.get (show fs[j]? = some r from h4)
      exact (pe_xf (C := x.ca cl) (G.xc cl c16).2 (G.flds cl c16 f (List.mem_of_getElem? hfl)) hz hf (pe_var hi (.inl hl) hd1 hd2)).run pins st σ H Q I
        ⟨_, U.nm, rfl, rfl, dd, _, v, rfl, u1, zip_look (G.nodup cl c16) hfl e1, q v H (Same.refl _) r1⟩
    · cases h
theorem pe_neverD {X : Cx} {e : Expr} : PE X e (fun _ _ _ => False) := ⟨fun _ _ _ _ _ _ h => h.elim⟩
theorem hlDs_len {fs : List D} : ∀ {ls : List HL} {rs : List D}, hlDs fs ls = some rs → rs.length = ls.length
  | [], _, h => by cases h; rfl
  | l :: ls, _, h => by
    simp only [hlDs, Option.bind_eq_some_iff, Option.map_eq_some_iff] at h
    obtain ⟨d, _, ds, e2, rfl⟩ := h
    simp [hlDs_len e2]
theorem pa_HLs (G : GoodS s c x W rc k X) {n : Str} {i : Nat} {cs : List Nat} (hi : X.N[i]? = some n) (hl : X.env.scope.names.lookup n = some .local) (hd1 : (n == ("__debug__" : Str)) = false) (hd2 : (n == ("__classdict__" : Str)) = false) {a : Addr} {oe : Obj} {cls : Value} {dv : Option Addr} {pn : List (Addr × Obj)} (hz : Zc cls dv oe) (hf : ∃ vs, oe.data = .fields vs) :
    ∀ (ls : List HL) (es : List Expr), chkHLs s n cs ls es = true → PA (X.suite a ((a, oe) :: pn)) es (fun σ H Q => ∃ ρ B S cl fs dd rs, Su c x ρ B H i a σ S cl fs dd ∧ cl ∈ cs ∧ cls = .ref (x.ca cl) ∧ dv = some dd ∧ hlDs fs ls = some rs ∧ ∀ vs H', Same H H' → RepA c ρ B H' rs vs → Q vs H')
  | [], [], _ => pa_imp pa_nil fun σ H Q ⟨ρ, B, S, cl, fs, dd, rs, U, h1, h2, h3, h4, q⟩ => by cases h4; exact q [] H (Same.refl _) .nil
  | [], _ :: _, h => by simp [chkHLs] at h
  | _ :: _, [], h => by simp [chkHLs] at h
  | l :: ls, e :: es, h => by
    simp only [chkHLs, Bool.and_eq_true, Bool.not_eq_true'] at h
    refine pa_imp (pa_cons (pe_HL G hi hl hd1 hd2 hz hf l e h.2.1) (pa_HLs G hi hl hd1 hd2 hz hf ls es h.2.2) (star_off h.1 _ _)) fun σ H Q ⟨ρ, B, S, cl, fs, dd, rs, U, h1, h2, h3, h4, q⟩ => ?_
    simp only [hlDs, Option.bind_eq_some_iff, Option.map_eq_some_iff] at h4
    obtain ⟨d, e1, ds, e2, rfl⟩ := h4
    refine ⟨ρ, B, S, cl, fs, dd, d, U, h1, h2, h3, e1, fun v H1 sm1 r1 => ⟨ρ, B, S, cl, fs, dd, ds, U.same sm1, h1, h2, h3, e2, fun vs H2 sm2 r2 => q (v :: vs) H2 (fun b o eb => sm2 b o (sm1 b o eb)) (.cons (r1.ext (U.st.same sm1) fun b o eb _ => sm2 b o eb) r2)⟩⟩
theorem pe_HE0 (G : GoodS s c x W rc k X) {n : Str} {i : Nat} {cs : List Nat} (hi : X.N[i]? = some n) (hl : X.env.scope.names.lookup n = some .local) (hd1 : (n == ("__debug__" : Str)) = false) (hd2 : (n == ("__classdict__" : Str)) = false) {a : Addr} {oe : Obj} {cls : Value} {dv : Option Addr} {pn : List (Addr × Obj)} (hz : Zc cls dv oe) (hf : ∃ vs, oe.data = .fields vs) :
    ∀ (h : HE) (e : Expr), chkHE0 s n cs h e = true → PE (X.suite a ((a, oe) :: pn)) e (tHo c x i a cls dv cs fun fs => heD fs h)
  | .one l, e, h => pe_HL G hi hl hd1 hd2 hz hf l e h
  | .tup ls, e, h => by
    simp only [chkHE0] at h
    split at h
    · rename_i es e1
      obtain ⟨j, p, rfl⟩ := asTup_eq e1
      simp only [Bool.and_eq_true, decide_eq_true_eq] at h
      refine pe_imp (pe_tup (pa_HLs G hi hl hd1 hd2 hz hf ls es h.2)) fun σ H Q ⟨ρ, B, S, cl, fs, dd, r, U, h1, h2, h3, h4, q⟩ => ?_
      simp only [heD, Option.map_eq_some_iff] at h4
      obtain ⟨rs, e2, rfl⟩ := h4
      refine ⟨ρ, B, S, cl, fs, dd, rs, U, h1, h2, h3, e2, fun vs H1 sm r1 => ⟨?_, fun p hp => ?_⟩⟩
      · have : rs.length = ls.length := hlDs_len e2
        have hs := sizeLine_eq
        rw [← r1.length, this, hs]; omega
      · have st1 := U.st.same sm
        have sm2 : Same H1 (upd H1 p (.tup vs)) := fun b o eb => by rw [upd_ne (ne_of_none eb hp)]; exact eb
        exact q _ _ (fun b o eb => sm2 b o (sm b o eb)) (.tup (.inl ⟨upd_same, st1.notB hp⟩) (r1.ext st1 fun b o eb _ => sm2 b o eb))
    · cases h
theorem pe_HE (G : GoodS s c x W rc k X) {n : Str} {i : Nat} {cs : List Nat} (hi : X.N[i]? = some n) (hl : X.env.scope.names.lookup n = some .local) (hd1 : (n == ("__debug__" : Str)) = false) (hd2 : (n == ("__classdict__" : Str)) = false) {a : Addr} {oe : Obj} {cls : Value} {dv : Option Addr} {pn : List (Addr × Obj)} (hz : Zc cls dv oe) (hf : ∃ vs, oe.data = .fields vs)
    (h : HE) (e : Expr) (hc : chkHE s n cs h e = true) : PE (X.suite a ((a, oe) :: pn)) e (tHo c x i a cls dv cs fun fs => heD fs h) := by
  unfold chkHE at hc
  split at hc
  · rename_i g p1 y p2 z p3 p4 aa bb p5
    simp only [Bool.and_eq_true, decide_eq_true_eq, List.any_eq_true, List.all_eq_true] at hc
    obtain ⟨rfl, h1, rfl, h2, ⟨q, hq, rfl, hall⟩, h3⟩ := hc
    obtain ⟨g1, g2, g3⟩ := G.isGlb h1
    obtain ⟨f1, f2, f3⟩ := G.isGlb h2
    have pb : PE (X.suite a ((a, oe) :: pn)) aa (tHo c x i a cls dv cs fun fs => heD fs h) := pe_HE0 G hi hl hd1 hd2 hz hf h aa h3
    refine ⟨fun pins st σ H Q I hq2 => ?_⟩
    obtain ⟨ρ, B, S, cl, fs, dd, r, U, k1, rfl, rfl, k4, qq⟩ := hq2
    obtain ⟨c16, hin⟩ := hall cl k1
    obtain ⟨cv, m1, m2⟩ := G.exs q.1 q.2 hq
    obtain ⟨m3, m4⟩ := m2 cl c16
    obtain ⟨vs, u1, u2, u3, u4, u5⟩ := U.ex
    have pc : PE (X.suite a ((a, oe) :: pn)) (.Call (.Name "isinstance" p1) [.Name y p2, .Name q.1 p3] [] p4) _ :=
      pe_callB (call_isO (X := X) (pn := pn) (G.xc cl c16).1 hz hf) g1 (G.blt _ (by decide +kernel)) boot_isinstance (pa_cons (pe_var hi (.inl hl) hd1 hd2) (pa_cons (pe_glob (v := .ref cv) f1 m1 rfl f2) pa_nil)) g3 g2
    refine (pe_ifExp (pt_truth pc (test_plain rfl _)) pb (pe_neverD (X := X.suite a ((a, oe) :: pn)) (e := bb))).run pins st σ H Q I ?_
    refine ⟨_, U.nm, _, _, true, _, rfl, fun u ru => ru, u1, by rw [m4, hin], true, rfl, ?_⟩
    show if true = true then _ else _
    rw [if_pos rfl]
    exact ⟨ρ, B, S, cl, fs, dd, r, U, k1, rfl, rfl, k4, qq⟩
  · exact pe_HE0 G hi hl hd1 hd2 hz hf h e hc

/-! ### try -/
def chkHd (s : Sc) (h : List Nat × HE) : ExceptHandler → Bool
  | .ExceptHandler (some (.Name z _)) (some n) [.Return (some e) _] _ => s.glb z && ((s.EX.any fun q => decide (q.1 = z) && decide (q.2 = h.1)) && ((s.N.any fun y => decide (y = n)) && (decide (s.sc.names.lookup n = some .local) && (!(n == ("__debug__" : Str)) && (!(n == ("__classdict__" : Str)) && chkHE s n h.1 h.2 e)))))
  | _ => false
def chkHds (s : Sc) : List (List Nat × HE) → List ExceptHandler → Bool
  | [], [] => true
  | h :: hs, e :: es => chkHd s h e && chkHds s hs es
  | _, _ => false
theorem hds_ok (G : GoodS s c x W rc k X) : ∀ (hs : List (List Nat × HE)) (es : List ExceptHandler), chkHds s hs es = true → ∃ l, HdsAs X es l ∧
    ∀ (cl : Nat) (fs : List D) (S1 : Sto) (E : Ent) (D : Ends) (dd : Addr) (σ' : L2.St) (H' : Hp), E.n = X.N.length → cl < 16 → σ'.length = E.n → ExOk c x E cl fs S1 dd H' →
      (match handler cl hs with
        | some h => ∃ r, heD fs h = some r ∧ ∀ v H', RetOk c E r v H' S1 → D.rt v H'
        | none => ExW c x W E cl fs S1) → wManyAs X.K W D l (.ref (x.ca cl)) (some dd) σ' H'
  | [], [], _ => ⟨[], .nil, fun cl fs S1 E D dd σ' H' hn h16 hl ex h => h dd σ' H' hl ex⟩
  | [], _ :: _, h => by simp [chkHds] at h
  | _ :: _, [], h => by simp [chkHds] at h
  | h :: hs, e :: es, hc => by
    simp only [chkHds, Bool.and_eq_true] at hc
    obtain ⟨l, hl1, hl2⟩ := hds_ok G hs es hc.2
    have h0 := hc.1
    unfold chkHd at h0
    split at h0
    · rename_i z p1 n ee p2 p3
      simp only [Bool.and_eq_true, decide_eq_true_eq, List.any_eq_true, Bool.not_eq_true'] at h0
      obtain ⟨a1, ⟨q, hq, rfl, hq2⟩, ⟨y, hy, rfl⟩, a4, a5, a6, a7⟩ := h0
      obtain ⟨i, hi⟩ := List.getElem?_of_mem hy
      obtain ⟨g1, g2, g3⟩ := G.isGlb a1
      obtain ⟨cv, m1, m2⟩ := G.exs q.1 q.2 hq
      have hi' : X.N[i]? = some y := by rw [G.N]; exact hi
      have hln : X.env.scope.names.lookup y = some .local := by rw [G.sc]; exact a4
      refine ⟨(.ref cv, i, fun a cls d => tRet (tHo c x i a cls d h.1 fun fs => heD fs h.2)) :: l, .cons (c := .ref cv) ⟨g1, g2, .inl m1⟩ hi' hln (fun a oe cls d pn hz hf => pss_one (ps_ret (pe_HE G hi' hln a5 a6 hz hf h.2 ee a7))) hl1, fun cl fs S1 E D dd σ' H' hn h16 hl ex hh => ?_⟩
      obtain ⟨m3, m4⟩ := m2 cl h16
      rw [hq2] at m3
      refine ⟨h.1.contains cl, m3, fun hb a ha => ?_, fun hb => hl2 cl fs S1 E D dd σ' H' hn h16 hl ex ?_⟩
      · rw [handler, if_pos hb] at hh
        obtain ⟨r, hr, hrt⟩ := hh
        obtain ⟨ρ, B, b1, b2, b3, b4, b5⟩ := ex
        refine ⟨ρ, B, S1, cl, fs, dd, r, ⟨?_, b4, b5⟩, List.contains_iff_mem.mp hb, rfl, rfl, hr, fun v H2 sm rr => hrt v H2 ⟨ρ, B, fun b o eb n => sm b o (b1 b o eb n), b2, b3, b4.same sm, rr⟩⟩
        rw [get_set, if_pos rfl, if_pos]
        rw [hl, hn]
        exact (List.getElem?_eq_some_iff.mp hi').1
      · rw [handler, hb] at hh
        exact hh
    · cases h0
theorem ps_tryD {own1 : List Nat} (G : GoodS s c x W rc k X) {body : List Stmt} {hds : List ExceptHandler} {pos : Pos} {b : DSs} {hs : List (List Nat × HE)} (hc : chkHds s hs hds = true) (hne : hds ≠ [])
    (hb : ∀ (W' : WX) (X' : Cx), GoodS s c x W' rc k X' → PSs X' body (tS c x W' own own1 (exSs rc b))) :
    PS X (.Try body hds [] [] pos) (tS c x W own own1 (exS rc (.tryR b hs))) := by
  obtain ⟨l, hl1, hl2⟩ := hds_ok G hs hds hc
  cases hds with
  | nil => exact absurd rfl hne
  | cons h₀ hds =>
    refine ⟨fun pins st σ H D I hq => (ps_try_manyAs (tb := fun W' => tS c x W' own own1 (exSs rc b)) G.hs G.hf (by rw [G.N]; exact G.nd) G.tk (fun W' pn xe tk hp => hb W' _ (G.tr tk hp)) hl1).run pins st σ H D I ?_⟩
    obtain ⟨E, ρ, Gd, σd, S, L, ok⟩ := hq
    refine ⟨E, ρ, Gd, σd, S, L, ?_⟩
    have hn : E.n = X.N.length := by rw [← L.ln]; exact I.len
    rw [exS] at ok
    cases e : exSs rc b σd S with
    | bad => rw [e] at ok; exact ok.elim
    | ok o S1 => rw [e] at ok; exact ok
    | exc cl fs S1 =>
      rw [e] at ok
      dsimp only at ok
      split at ok
      · rename_i h16
        have h16 := of_decide_eq_true h16
        intro dd σ' H' hl ex
        refine hl2 cl fs S1 E D dd σ' H' hn h16 hl ex ?_
        cases eh : handler cl hs with
        | none =>
          rw [eh] at ok
          exact ok
        | some h =>
          rw [eh] at ok
          dsimp only at ok
          rw [okR_bind, okR_ofO] at ok
          obtain ⟨r, hr, ok⟩ := ok
          exact ⟨r, hr, ok⟩
      · exact ok.elim
end
end DI

end
section
set_option maxRecDepth 100000
set_option maxHeartbeats 8000000
/-! DI17: the look is sound for statements. -/
namespace DI
open PySem PySem.Spec PyProof.Rows L2 PySem.W

/-! ### which slots may hold own lists -/
mutual
def DS.made : DS → List Nat
  | .asg i m _ _ => if m = .own then [i] else []
  | .ifS _ a b => a.made ++ b.made
  | .whl _ b => b.made
  | .forS _ _ b => b.made
  | .tryR b _ => b.made
  | _ => []
def DSs.made : DSs → List Nat
  | .nil => []
  | .cons s r => s.made ++ r.made
end
mutual
def ownS (own : List Nat) : DS → List Nat
  | .asg i m _ _ => if m = .own then i :: own else own
  | .ifS _ a b => ownSs own a ++ ownSs own b
  | .whl _ b => own ++ b.made
  | .forS _ _ b => own ++ b.made
  | .tryR b _ => ownSs own b
  | .frz i => own.filter (· != i)
  | _ => own
def ownSs (own : List Nat) : DSs → List Nat
  | .nil => own
  | .cons s r => ownSs (ownS own s) r
end
mutual
theorem own_madeS : ∀ (d : DS) (own : List Nat) (i : Nat), i ∈ ownS own d → i ∈ own ∨ i ∈ d.made
  | .asg j m w e, own, i, h => by
    simp only [ownS, DS.made] at h ⊢
    by_cases hm : m = .own
    · rw [if_pos hm] at h ⊢
      rcases List.mem_cons.mp h with h | h
      · exact .inr (by simp [h])
      · exact .inl h
    · rw [if_neg hm] at h ⊢
      exact .inl h
  | .ifS e a b, own, i, h => by
    simp only [ownS, DS.made, List.mem_append] at h ⊢
    rcases h with h | h
    · rcases own_madeSs a own i h with h | h
      · exact .inl h
      · exact .inr (.inl h)
    · rcases own_madeSs b own i h with h | h
      · exact .inl h
      · exact .inr (.inr h)
  | .whl e b, own, i, h => by simpa only [ownS, DS.made, List.mem_append] using h
  | .forS t sr b, own, i, h => by simpa only [ownS, DS.made, List.mem_append] using h
  | .tryR b hs, own, i, h => by
    simp only [ownS, DS.made] at h ⊢
    exact own_madeSs b own i h
  | .frz j, own, i, h => by
    simp only [ownS] at h
    exact .inl (List.mem_filter.mp h).1
  | .pass, own, i, h => .inl h
  | .expr _, own, i, h => .inl h
  | .app _ _, own, i, h => .inl h
  | .asgT _ _ _, own, i, h => .inl h
  | .par _ _ _, own, i, h => .inl h
  | .setAt _ _ _, own, i, h => .inl h
  | .aug _ _ _, own, i, h => .inl h
  | .ret _, own, i, h => .inl h
  | .retN, own, i, h => .inl h
  | .raise _ _, own, i, h => .inl h
theorem own_madeSs : ∀ (d : DSs) (own : List Nat) (i : Nat), i ∈ ownSs own d → i ∈ own ∨ i ∈ d.made
  | .nil, own, i, h => .inl h
  | .cons s r, own, i, h => by
    simp only [ownSs, DSs.made, List.mem_append] at h ⊢
    rcases own_madeSs r (ownS own s) i h with h | h
    · rcases own_madeS s own i h with h | h
      · exact .inl h
      · exact .inr (.inl h)
    · exact .inr (.inr h)
end

/-! ### a statement's parts -/
def asExpr : Stmt → Option Expr
  | .Expr e _ => some e
  | _ => none
def asAsg : Stmt → Option (Expr × Expr × Pos)
  | .Assign [t] v p => some (t, v, p)
  | _ => none
def asAug : Stmt → Option (Expr × Operator × Expr)
  | .AugAssign t o v _ => some (t, o, v)
  | _ => none
def asIfS : Stmt → Option (Expr × List Stmt × List Stmt)
  | .If t a b _ => some (t, a, b)
  | _ => none
def asWhl : Stmt → Option (Expr × List Stmt)
  | .While t b [] _ => some (t, b)
  | _ => none
def asFor : Stmt → Option (Expr × Expr × List Stmt)
  | .For t i b [] _ => some (t, i, b)
  | _ => none
def asRet : Stmt → Option (Option Expr)
  | .Return e _ => some e
  | _ => none
def asRaise : Stmt → Option Expr
  | .Raise (some e) none _ => some e
  | _ => none
def asTry : Stmt → Option (List Stmt × List ExceptHandler)
  | .Try b h [] [] _ => some (b, h)
  | _ => none
def asAttr : Expr → Option (Expr × Str × Pos)
  | .Attribute o f p => some (o, f, p)
  | _ => none
def asCallP : Expr → Option (Expr × List Expr × Pos)
  | .Call f es [] p => some (f, es, p)
  | _ => none
theorem asExpr_eq {s : Stmt} {e : Expr} (h : asExpr s = some e) : ∃ p, s = .Expr e p := by
  cases s <;> simp only [asExpr] at h <;> first | (cases h; exact ⟨_, rfl⟩) | cases h
theorem asAsg_eq {s : Stmt} {t v : Expr} {p : Pos} (h : asAsg s = some (t, v, p)) : s = .Assign [t] v p := by
  unfold asAsg at h
  split at h
  · cases h; rfl
  · cases h
theorem asAug_eq {s : Stmt} {t v : Expr} {o : Operator} (h : asAug s = some (t, o, v)) : ∃ p, s = .AugAssign t o v p := by
  cases s <;> simp only [asAug] at h <;> first | (cases h; exact ⟨_, rfl⟩) | cases h
theorem asIfS_eq {s : Stmt} {t : Expr} {a b : List Stmt} (h : asIfS s = some (t, a, b)) : ∃ p, s = .If t a b p := by
  cases s <;> simp only [asIfS] at h <;> first | (cases h; exact ⟨_, rfl⟩) | cases h
theorem asWhl_eq {s : Stmt} {t : Expr} {a : List Stmt} (h : asWhl s = some (t, a)) : ∃ p, s = .While t a [] p := by
  unfold asWhl at h
  split at h
  · cases h; exact ⟨_, rfl⟩
  · cases h
theorem asFor_eq {s : Stmt} {t i : Expr} {a : List Stmt} (h : asFor s = some (t, i, a)) : ∃ p, s = .For t i a [] p := by
  unfold asFor at h
  split at h
  · cases h; exact ⟨_, rfl⟩
  · cases h
theorem asRet_eq {s : Stmt} {e : Option Expr} (h : asRet s = some e) : ∃ p, s = .Return e p := by
  cases s <;> simp only [asRet] at h <;> first | (cases h; exact ⟨_, rfl⟩) | cases h
theorem asRaise_eq {s : Stmt} {e : Expr} (h : asRaise s = some e) : ∃ p, s = .Raise (some e) none p := by
  unfold asRaise at h
  split at h
  · cases h; exact ⟨_, rfl⟩
  · cases h
theorem asTry_eq {s : Stmt} {b : List Stmt} {hd : List ExceptHandler} (h : asTry s = some (b, hd)) : ∃ p, s = .Try b hd [] [] p := by
  unfold asTry at h
  split at h
  · cases h; exact ⟨_, rfl⟩
  · cases h
theorem asAttr_eq {e o : Expr} {f : Str} {p : Pos} (h : asAttr e = some (o, f, p)) : e = .Attribute o f p := by
  cases e <;> simp only [asAttr] at h <;> first | (cases h; rfl) | cases h
theorem asCallP_eq {e f : Expr} {es : List Expr} {p : Pos} (h : asCallP e = some (f, es, p)) : e = .Call f es [] p := by
  unfold asCallP at h
  split at h
  · cases h; rfl
  · cases h

/-! ### where a comprehension swaps with its target; where a pair's stores are swapped -/
def isComp : Expr → Bool
  | .ListComp _ _ _ _ => true
  | .SetComp _ _ _ _ => true
  | .DictComp _ _ _ _ _ => true
  | _ => false
/-- the value is not laid straight into the name -/
def offB (s : Sc) (y : Str) (py : Pos) (v : Expr) : Bool := match v with
  | .ListComp _ _ scope pos => !(decide (s.sc.names.lookup y = some .local) && ((py.line == pos.line) && !(scope.names.any fun (n, k) => n == y && (k == .local || k == .cell))))
  | v => !isComp v
def onB (s : Sc) (y : Str) (py : Pos) (v : Expr) : Bool := match v with
  | .ListComp _ _ scope pos => decide (s.sc.names.lookup y = some .local) && ((py.line == pos.line) && !(scope.names.any fun (n, k) => n == y && (k == .local || k == .cell)))
  | _ => false
theorem blk_fn {env : Env} (hk : env.scope.kind = .function) : env.blockKind = .function := by unfold Env.blockKind; rw [hk]; rfl
theorem off_sw {s : Sc} {y : Str} {py : Pos} {v : Expr} {l : Nat} {env : Env} (hk : env.scope.kind = .function) (hs : env.scope = s.sc) (h : offB s y py v = true) : swapsWith v (some (.Name y py)) l env = pure false := by
  have ky : env.kindOf y = s.sc.names.lookup y := by rw [← hs]; rfl
  cases v <;> first | rfl | (simp [offB, isComp] at h; done) | skip
  rename_i elt gens scope pos
  unfold swapsWith
  simp only [blk_fn hk, ky, Expr.pos]
  simp only [offB, Bool.not_eq_true', Bool.and_eq_false_imp, decide_eq_true_eq] at h
  by_cases h1 : s.sc.names.lookup y = some .local
  · have h := h h1
    rw [h1]
    by_cases h2 : (py.line == pos.line) = true
    · have h := h h2
      rw [h2, h]; rfl
    · have h2 : (py.line == pos.line) = false := by simpa using h2
      rw [h2]; rfl
  · have : (s.sc.names.lookup y == some .local) = false := by
      rw [beq_eq_false_iff_ne]; exact h1
    rw [this]; rfl
theorem tup_sw {ts : List Expr} {kt : Nat} {pt : Pos} {v : Expr} {l : Nat} {env : Env} : swapsWithSole [.Tuple ts kt pt] v l env = pure false := by cases v <;> rfl
/-- a tuple's names, stored one after the other from a tuple -/
def farName (s : Sc) (e : Expr) : Bool := match e with
  | .Name y _ => !decide (s.sc.names.lookup y = some .local)
  | _ => true
def noPairB (s : Sc) (ts : List Expr) (v : Expr) : Bool := match v with
  | .Tuple vs _ _ => !(ts.length == 2 || ts.length == 3) || (vs.all (foldedForSure 8) || ts.any (farName s))
  | _ => true
theorem fm_le {α β : Type} (F : α → Option β) : ∀ l : List α, (l.filterMap F).length ≤ l.length
  | [] => Nat.le_refl _
  | e :: l => by
    rw [List.filterMap_cons]
    have := fm_le F l
    cases F e with
    | none => exact Nat.le_succ_of_le this
    | some b => exact Nat.succ_le_succ this
theorem fm_lt {α β : Type} (F : α → Option β) {e : α} (hF : F e = none) : ∀ l : List α, e ∈ l → (l.filterMap F).length < l.length
  | [], h => by cases h
  | a :: l, h => by
    rw [List.filterMap_cons]
    rcases List.mem_cons.mp h with h | h
    · rw [← h, hF]
      exact Nat.lt_succ_of_le (fm_le F l)
    · have := fm_lt F hF l h
      cases F a with
      | none => exact Nat.lt_succ_of_lt this
      | some b => exact Nat.succ_lt_succ this
theorem far_none {s : Sc} {env : Env} (hs : env.scope = s.sc) (F : Expr → Option Str) {l : Nat} (hF : ∀ y p, F (.Name y p) = if (env.kindOf y == some .local && p.line == l) = true then some y else none) (hF2 : ∀ e, (∀ y p, e ≠ .Name y p) → F e = none) {e : Expr} (h : farName s e = true) : F e = none := by
  by_cases hn : ∃ y p, e = .Name y p
  case neg => exact hF2 e fun y p z => hn ⟨y, p, z⟩
  obtain ⟨y, p, rfl⟩ := hn
  rw [hF]
  simp only [farName, Bool.not_eq_true', decide_eq_false_iff_not] at h
  have ky : env.kindOf y = s.sc.names.lookup y := by rw [← hs]; rfl
  have : (env.kindOf y == some .local) = false := by
    rw [ky, beq_eq_false_iff_ne]; exact h
  rw [this]; rfl
theorem far_len {s : Sc} {ts : List Expr} {env : Env} (hs : env.scope = s.sc) (h : ts.any (farName s) = true) (F : Expr → Option Str) (hF : ∀ y p, F (.Name y p) = if (env.kindOf y == some .local && p.line == (ts.head?.map (·.pos.line)).getD 0) = true then some y else none) (hF2 : ∀ e, (∀ y p, e ≠ .Name y p) → F e = none) : ((ts.filterMap F).length != ts.length) = true := by
  rw [List.any_eq_true] at h
  obtain ⟨e, he, hf⟩ := h
  have := fm_lt F (far_none hs F hF hF2 hf) ts he
  simp only [bne_iff_ne, ne_eq]
  omega
theorem noPair {s : Sc} {ts : List Expr} {kt : Nat} {pt : Pos} {v : Expr} {env : Env} (hs : env.scope = s.sc) (h : noPairB s ts v = true) : swappedStores [.Tuple ts kt pt] v env = pure none := by
  cases v <;> first | rfl | skip
  rename_i vs k2 p2
  simp only [noPairB, Bool.or_eq_true] at h
  unfold swappedStores
  simp only []
  rcases h with h | h | h
  · rw [h]; rfl
  · split
    · rfl
    · split
      · rfl
      · split
        · rfl
        · first | rfl | (rw [h]; rfl)
  · split
    · rfl
    · split
      · rfl
      · rw [far_len hs h _ (fun _ _ => rfl) (fun e' he' => by cases e' <;> first | rfl | exact absurd rfl (he' _ _))]
        rfl
theorem any_star {vs : List Expr} (h : vs.all (fun e => !isStarred e) = true) (F : Expr → Bool) (hF : ∀ e, F e = isStarred e) : vs.any F = false := by
  rw [List.any_eq_false]
  intro e he
  have := List.all_eq_true.mp h e he
  rw [hF]
  simpa using this
/-- names, all local, all on one line -/
def nameL (s : Sc) (l : Nat) (e : Expr) : Bool := match e with
  | .Name y p => decide (s.sc.names.lookup y = some .local) && (p.line == l)
  | _ => false
def nameOf (e : Expr) : Str := match e with
  | .Name y _ => y
  | _ => ""
def pairB (s : Sc) (ts vs : List Expr) (is : List Nat) : Bool :=
  (ts.length == 2 || ts.length == 3) && ((vs.length == ts.length) && (vs.all (fun e => !isStarred e) && (ts.all (nameL s ((ts.head?.map (·.pos.line)).getD 0)) && (decide ((ts.map nameOf).eraseDups.length = (ts.map nameOf).length) && (!vs.all (foldedForSure 8) && (!vs.all (constantsAlone 8) &&
    (decide (is.length = ts.length) && (decide is.Nodup && ((ts.map nameOf).zip is).all fun p => decide (s.N[p.2]? = some p.1)))))))))
theorem names_of {s : Sc} {l : Nat} {env : Env} (hs : env.scope = s.sc) (F : Expr → Option Str) (hF : ∀ y p, F (.Name y p) = if (env.kindOf y == some .local && p.line == l) = true then some y else none) : ∀ {ts : List Expr}, ts.all (nameL s l) = true → ts.filterMap F = ts.map nameOf
  | [], _ => rfl
  | e :: ts, h => by
    simp only [List.all_cons, Bool.and_eq_true] at h
    obtain ⟨h1, h2⟩ := h
    unfold nameL at h1
    split at h1
    · rename_i y p
      simp only [Bool.and_eq_true, decide_eq_true_eq] at h1
      have ky : env.kindOf y = some .local := by rw [← h1.1, ← hs]; rfl
      have hc : (env.kindOf y == some .local && p.line == l) = true := by rw [ky, h1.2]; rfl
      rw [List.filterMap_cons, hF, if_pos hc]
      simp only []
      rw [names_of hs F hF h2]; rfl
    · cases h1
theorem pair_sw {s : Sc} {ts vs : List Expr} {is : List Nat} {kt k2 : Nat} {pt pt2 : Pos} {env : Env} (hk : env.scope.kind = .function) (hs : env.scope = s.sc) (h : pairB s ts vs is = true) : swappedStores [.Tuple ts kt pt] (.Tuple vs k2 pt2) env = pure (some (ts.map nameOf)) := by
  simp only [pairB, Bool.and_eq_true, Bool.not_eq_true', decide_eq_true_eq] at h
  obtain ⟨h1, h2, h3, h4, h5, h6, h7, h8, h9, h10⟩ := h
  have h2' : (vs.length != ts.length) = false := by simpa [bne] using h2
  have hb : (env.blockKind != .function) = false := by rw [blk_fn hk]; rfl
  have hl : ((ts.map nameOf).length != ts.length) = false := by simp
  have he : ((ts.map nameOf).eraseDups.length != (ts.map nameOf).length) = false := by simp [h5]
  unfold swappedStores
  simp only []
  rw [h1, h2', hb]
  simp only [Bool.not_true, Bool.or_false, Bool.false_eq_true, if_false, pure_bind]
  rw [any_star h3 _ (fun e => by cases e <;> rfl)]
  simp only [Bool.false_eq_true, if_false, pure_bind]
  rw [names_of hs _ (fun _ _ => rfl) h4, hl, he]
  simp only [Bool.or_false, Bool.false_eq_true, if_false, pure_bind, h6, h7]
end DI

end
section
set_option maxRecDepth 100000
set_option maxHeartbeats 8000000
/-! DI18: the look is sound for statements: the theorem. -/
namespace DI
open PySem PySem.Spec PyProof.Rows L2 PySem.W

/-! ### the look -/
def offOwn (own : List Nat) (rd : List Nat) : Bool := rd.all fun i => !own.contains i
def DIt.isRng : DIt → Bool
  | .rng1 _ => true
  | .rng2 _ _ => true
  | _ => false
def asFrz : DS → Option Nat
  | .frz i => some i
  | _ => none
theorem asFrz_eq {d : DS} {i : Nat} (h : asFrz d = some i) : d = .frz i := by
  cases d <;> simp only [asFrz] at h <;> first | (cases h; rfl) | cases h
mutual
def chkS (s : Sc) (own : List Nat) : DS → Stmt → Bool
  | .pass, st => (match st with
    | .Pass _ => true
    | .Expr (.Constant (.str _) _ _) _ => true
    | _ => false)
  | .expr e, st => (match asExpr st with
    | some v => (asCall v).isSome && chkE s e v
    | none => false)
  | .app i e, st => (match asExpr st with
    | some v => (match asCallP v with
      | some (f, [a], cp) => (match asAttr f with
        | some (o, m, ap) => (match asName o with
          | some y => s.vis y i && (decide (m = "append") && ((ap.endLine == cp.line) && (!isStarred a && chkE s e a)))
          | none => false)
        | none => false)
      | _ => false)
    | none => false)
  | .asg i m w e, st => (match asAsg st with
    | some (t, v, p) => (match t with
      | .Name y py => s.sto y i && ((w || offOwn own e.reads) && (chkE s e v && (offB s y py v || onB s y py v)))
      | _ => false)
    | none => false)
  | .asgT is w e, st => (match asAsg st with
    | some (t, v, p) => (match t with
      | .Tuple ts _ _ => chkT s (.many is) t && ((w || offOwn own e.reads) && (chkE s e v && (noPairB s ts v && ts.all fun e => !isStarred e)))
      | _ => false)
    | none => false)
  | .par is w es, st => (match asAsg st with
    | some (t, v, p) => (match t, v with
      | .Tuple ts _ _, .Tuple vs _ _ => pairB s ts vs is && ((w || offOwn own es.reads) && chkEs s es vs)
      | _, _ => false)
    | none => false)
  | .frz _, _ => false
  | .setAt i ix e, st => (match asAsg st with
    | some (t, v, p) => (match asSub t with
      | some (o, a) => (match asName o with
        | some y => s.vis y i && (!isSlice a && (chkE s ix a && chkE s e v))
        | none => false)
      | none => false)
    | none => false)
  | .aug i o e, st => (match asAug st with
    | some (t, p, v) => (match asName t with
      | some y => s.sto y i && (decide (p = opOf o) && chkE s e v)
      | none => false)
    | none => false)
  | .ifS c a b, st => (match asIfS st with
    | some (t, xs, ys) => chkE s c t && (chkSs s own a xs && chkSs s own b ys)
    | none => false)
  | .whl c b, st => (match asWhl st with
    | some (t, xs) => chkE s c t && chkSs s (own ++ b.made) b xs
    | none => false)
  | .forS t src b, st => (match asFor st with
    | some (tg, it, xs) => chkI s src tg it && (chkT s t tg && ((src.isRng || offOwn own src.reads) && chkSs s (own ++ b.made) b xs))
    | none => false)
  | .ret e, st => (match asRet st with
    | some (some v) => chkE s e v
    | _ => false)
  | .retN, st => (match asRet st with
    | some none => true
    | _ => false)
  | .raise cl es, st => (match es with
    | .cons e .nil => (match asRaise st with
      | some v => (match asCall v with
        | some (f, [a]) => (match asName f with
          | some y => decide (s.C[cl]? = some y) && (s.glb y && (!isStarred a && chkE s e a))
          | none => false)
        | _ => false)
      | none => false)
    | _ => false)
  | .tryR b hs, st => (match asTry st with
    | some (xs, hd) => chkSs s own b xs && (!hd.isEmpty && chkHds s hs hd)
    | none => false)
def chkSs (s : Sc) (own : List Nat) : DSs → List Stmt → Bool
  | .nil, sts => sts.isEmpty
  | .cons d r, sts => (match asFrz d with
    | some i => chkSs s (own.filter (· != i)) r sts
    | none => (match sts with
      | st :: rest => chkS s own d st && chkSs s (ownS own d) r rest
      | [] => false))
end
section
variable {s : Sc} {c : Wc} {x : Xc} {rc : Calls} {k : Nat}
theorem off_ok {own rd : List Nat} {w : Bool} (h : (w || offOwn own rd) = true) : w = false → ∀ i ∈ rd, i ∉ own := fun hw i hi => by
  rw [hw, Bool.false_or] at h
  have := List.all_eq_true.mp h i hi
  rw [Bool.not_eq_true'] at this
  intro z
  rw [List.contains_iff_mem.mpr z] at this
  cases this

/-! ### ranges, own lists readable -/
def tIr (c : Wc) (x : Xc) (W : WX) (rc : Calls) (d : DIt) : TI := fun σ H R' => ∃ R ρ B σd S, Sees c R ρ B H σd σ S d.reads ∧
  okR (evI rc d σd S) (fun ds S' => ∀ lo n H', Ext ρ H H' → StoOk c ρ B H' S' → ds = rngL lo n → R' (Itr lo n) H') (ExcW c x W ρ B H σ)
theorem pi_rng1R {W : WX} {X : Cx} {tg y : Expr} {a : DE} {p pos : Pos} (hg : Gl X "range") (hm : X.mg "range" = none) (hs : isStarred y = false) (h : PE X y (tE c x W rc a)) : PI X tg (.Call (.Name "range" p) [y] [] pos) (tIr c x W rc (.rng1 a)) :=
  pi_imp (pi_range1 hg hm (pa_cons h pa_nil (star_off hs _ _)) (by rw [star_off hs]; rfl)) fun σ H R' q => by
  obtain ⟨R, ρ, B, σd, S, see, ok⟩ := q
  refine ⟨R, ρ, B, σd, S, see, ?_⟩
  rw [evI, okR_bind] at ok
  refine okR_mono ok (fun a S1 ok v H1 x1 s1 r1 _ => ?_) fun _ _ _ h => h
  cases r1 <;> try (exact False.elim ok)
  rename_i j hf
  obtain ⟨hj, ok⟩ := okR_ite.mp ok
  simp only [smallI, Bool.and_eq_true, decide_eq_true_eq] at hj
  exact ⟨j, rfl, hj.1, hj.2, ok 0 _ H1 x1 s1 rfl⟩
theorem pi_rng2R {W : WX} {X : Cx} {tg y z : Expr} {a b : DE} {p pos : Pos} (hg : Gl X "range") (hm : X.mg "range" = none) (hs : isStarred y = false) (hs2 : isStarred z = false) (h : PE X y (tE c x W rc a)) (h2 : PE X z (tE c x W rc b)) : PI X tg (.Call (.Name "range" p) [y, z] [] pos) (tIr c x W rc (.rng2 a b)) :=
  pi_imp (pi_range2 hg hm (pa_cons h (pa_cons h2 pa_nil (star_off hs2 _ _)) (star_off hs _ _)) (by rw [star_off hs, star_off hs2]; rfl) (by rw [star_off hs2]; rfl)) fun σ H R' q => by
  obtain ⟨R, ρ, B, σd, S, see, ok⟩ := q
  refine ⟨R, ρ, B, σd, S, see.less fun i hi => List.mem_append_left _ hi, ?_⟩
  rw [evI, okR_bind] at ok
  refine okR_mono ok (fun a S1 ok v H1 x1 s1 r1 _ => ?_) fun _ _ _ h => h
  refine ⟨R, ρ, B, σd, S1, see.ext x1 s1 fun i hi => List.mem_append_right _ hi, ?_⟩
  rw [okR_bind] at ok
  refine okR_mono ok (fun b S2 ok w H2 x2 s2 r2 _ => ?_) fun _ _ _ h => h.after x1
  cases r1 <;> cases r2 <;> try (exact False.elim ok)
  obtain ⟨hj, ok⟩ := okR_ite.mp ok
  simp only [smallI, Bool.and_eq_true, decide_eq_true_eq] at hj
  exact ⟨_, _, rfl, ⟨hj.1.1, hj.1.2, hj.2.1, hj.2.2⟩, ok _ _ H2 (x1.trans x2) s2 rfl⟩
theorem sIr {W : WX} {X : Cx} (G : Good s c x W rc k X) {d : DIt} {tg e : Expr} (hr : d.isRng = true) (h : chkI s d tg e = true) : PI X tg e (tIr c x W rc d) := by
  cases d with
  | seq a => cases hr
  | zip a b => cases hr
  | rng1 a =>
    simp only [chkI] at h
    split at h
    · rename_i g l e1
      obtain ⟨ps, rfl⟩ := asCall_eq e1
      split at h
      · rename_i y z e2
        obtain ⟨p, rfl⟩ := asName_eq e2
        simp only [Bool.and_eq_true, decide_eq_true_eq, Bool.not_eq_true'] at h
        obtain ⟨h0, rfl, h1, h2⟩ := h
        exact pi_rng1R (G.isGlb h0).1 (G.blt _ (by decide +kernel)) h1 (sE a W X s _ G h2).1
      · cases h
    · cases h
  | rng2 a b =>
    simp only [chkI] at h
    split at h
    · rename_i g l e1
      obtain ⟨ps, rfl⟩ := asCall_eq e1
      split at h
      · rename_i y z t e2
        obtain ⟨p, rfl⟩ := asName_eq e2
        simp only [Bool.and_eq_true, decide_eq_true_eq, Bool.not_eq_true'] at h
        obtain ⟨h0, rfl, h1, h2, h3, h4⟩ := h
        exact pi_rng2R (G.isGlb h0).1 (G.blt _ (by decide +kernel)) h1 h2 (sE a W X s _ G h3).1 (sE b W X s _ G h4).1
      · cases h
    · cases h
theorem rng_is {d : DIt} (hr : d.isRng = true) {σd : List Slot} {S S1 : Sto} {ds : List D} (h : evI rc d σd S = .ok ds S1) : ∃ lo n, ds = rngL lo n := by
  cases d with
  | seq a => cases hr
  | zip a b => cases hr
  | rng1 a =>
    rw [evI] at h
    obtain ⟨v, S2, h1, h2⟩ := bind_ok h
    cases v <;> simp only at h2 <;> try (cases h2; done)
    split at h2
    · cases h2; exact ⟨_, _, rfl⟩
    · cases h2
  | rng2 a b =>
    rw [evI] at h
    obtain ⟨v, S2, h1, h2⟩ := bind_ok h
    obtain ⟨w, S3, h3, h4⟩ := bind_ok h2
    cases v <;> cases w <;> simp only at h4 <;> try (cases h4; done)
    split at h4
    · cases h4; exact ⟨_, _, rfl⟩
    · cases h4

/-! ### a comprehension laid straight into a name -/
theorem lc_S {W : WX} {X : Cx} {own : List Nat} (G : GoodS s c x W rc k X) {i : Nat} {m : AM} {w : Bool} {e : DE} {y : Str} {py pos : Pos} {v : Expr} (hkind : X.env.scope.kind = .function) (hs : s.sto y i = true) (hon : onB s y py v = true) (h : chkE s e v = true) (hw : w = false → ∀ j ∈ e.reads, j ∉ own) :
    PS X (.Assign [.Name y py] v pos) (tS c x W own (if m = .own then i :: own else own) (exS rc (.asg i m w e))) := by
  have hN : X.N.Nodup := by rw [G.N]; exact G.nd
  cases v <;> simp only [onB] at hon <;> try (cases hon; done)
  rename_i el gens scope ps
  simp only [Bool.and_eq_true, decide_eq_true_eq, Bool.not_eq_true'] at hon
  obtain ⟨hl, hline, hany⟩ := hon
  have hy := G.toGood.isSto hs
  cases e <;> simp only [chkE] at h <;> try (first | (cases h; done) | (simp [asName, asConst, asBin, asUn, asCmp1, asCmp2, asBool, asIf, asTup, asLst, asSub, asCall] at h; done))
  · rename_i d
    cases d <;> simp [asName, asConst] at h
  · rename_i vs t src ifs elt
    split at h
    · rename_i el' tg it fs scope' e1
      simp only [Bool.and_eq_true, decide_eq_true_eq] at h
      obtain ⟨h0, h1, h2, h3, h4, h5, h6⟩ := h
      obtain ⟨ps', e1'⟩ := asLC_eq e1
      cases e1'
      have hwi : t.within vs := by
        cases t with
        | one i => exact List.contains_iff_mem.mp h6
        | many is =>
          intro i hi
          have := List.all_eq_true.mp h6 i hi
          exact List.contains_iff_mem.mp this
      have hf : ∀ X', Good (s.blk scope) c x W0 rc k X' → PTs X' fs (tIfs c x W0 rc ifs) := fun X' G' => by
        split at h4
        · exact (sO ifs W0 X' (s.blk scope) none G' h4).2.1 rfl
        · rename_i f
          exact (sO ifs W0 X' (s.blk scope) (some f) G' h4).2.2 f rfl
        · cases h4
      have ok : BlkOk X.N X.env.scope scope (ownOf s.N scope) := by rw [G.N, G.sc]; exact blkOk_by h0
      have hyl : X.env.scope.names.lookup y = some .local := by rw [G.sc]; exact hl
      refine ps_imp (ps_setLc (own := ownOf s.N scope) (i := i) G.calm hN hy.1 hyl (sw_true hkind hyl hline hany) (sI src W X s tg it G.toGood h2) ok (fun st H C cl fp => pg_D (G.toGood.block st H scope C cl fp) h3) (fun st H C cl fp => hf _ (G.toGood.block st H scope C cl fp)) (fun st H C cl fp => (sE elt W0 _ (s.blk scope) el (G.toGood.block st H scope C cl fp) h5).1) (fun v => set_off (chkI_set h2) _ v)) fun D σ H q => ?_
      rw [h1]
      exact tLc_ok hwi (asg_ok hw q)
    · cases h
end
end DI

end
section
set_option maxRecDepth 100000
set_option maxHeartbeats 8000000
/-! DI19: the look is sound for statements: the theorem. -/
namespace DI
open PySem PySem.Spec PyProof.Rows L2 PySem.W

section
variable {s : Sc} {c : Wc} {x : Xc} {rc : Calls} {k : Nat}
theorem hw_seq {W : WX} {own : List Nat} {src : DIt} (ho : ∀ i ∈ src.reads, i ∉ own) {E : Ent} {ρ : List Addr} {G : Addr → Prop} {H : Hp} {σd : List Slot} {σ : L2.St} {S : Sto} {R' : It → Hp → Prop} (L : Lv c E own ρ G H σd σ S)
    (ok : okR (evI rc src σd S) (fun ds S' => ∀ J H', Keep ρ G H ρ G H' → Lv c E own ρ G H' σd σ S' → ItOk c ρ G J ds H' → R' J H') (ExW c x W E)) : tI c x W rc src σ H R' := by
  obtain ⟨R, B, M⟩ := L.mode false src.reads fun _ => ho
  have hB := M.str rfl
  subst hB
  exact ⟨R, ρ, B, σd, S, M.see, okR_mono ok (fun ds S1 ok J H1 x1 s1 it => ok J H1 (L.kept x1) (L.after x1 s1) it) fun _ _ _ h => M.exc L h⟩
theorem hw_rng {W : WX} {own : List Nat} {src : DIt} (hr : src.isRng = true) {E : Ent} {ρ : List Addr} {G : Addr → Prop} {H : Hp} {σd : List Slot} {σ : L2.St} {S : Sto} {R' : It → Hp → Prop} (L : Lv c E own ρ G H σd σ S)
    (ok : okR (evI rc src σd S) (fun ds S' => ∀ J H', Keep ρ G H ρ G H' → Lv c E own ρ G H' σd σ S' → ItOk c ρ G J ds H' → R' J H') (ExW c x W E)) : tIr c x W rc src σ H R' := by
  obtain ⟨R, B, M⟩ := L.mode true src.reads fun z => nomatch z
  exact ⟨R, ρ, B, σd, S, M.see, okR_mono ok (fun ds S1 ok lo n H1 x1 s1 e => by
    subst e
    exact ok (Itr lo n) H1 (L.kept x1) (L.after x1 (M.sto H1 S1 x1 s1)) (itOk_rng lo n)) fun _ _ _ h => M.exc L h⟩
theorem cons_case {W : WX} {X : Cx} {own : List Nat} {d : DS} {r : DSs} {sts : List Stmt} (hd : ∀ st, chkS s own d st = true → PS X st (tS c x W own (ownS own d) (exS rc d))) (hr : ∀ own' sts, chkSs s own' r sts = true → PSs X sts (tS c x W own' (ownSs own' r) (exSs rc r))) (h : chkSs s own (.cons d r) sts = true) : PSs X sts (tS c x W own (ownSs own (.cons d r)) (exSs rc (.cons d r))) := by
  simp only [chkSs] at h
  split at h
  · rename_i i e
    have e := asFrz_eq e
    subst e
    exact pss_frzD (hr _ sts h)
  · split at h
    · rename_i st rest
      simp only [Bool.and_eq_true] at h
      exact pss_consD (hd st h.1) (hr _ rest h.2)
    · cases h
mutual
theorem sS : ∀ (d : DS) (W : WX) (X : Cx) (own : List Nat) (st : Stmt), GoodS s c x W rc (k + 1) X → X.env.scope.kind = .function → chkS s own d st = true → PS X st (tS c x W own (ownS own d) (exS rc d))
  | .pass, W, X, own, st, G, hk, h => by
    simp only [chkS] at h
    split at h
    · exact ps_passD
    · exact ps_docD ps_doc
    · cases h
  | .expr e, W, X, own, st, G, hk, h => by
    simp only [chkS] at h
    split at h
    · rename_i v e1
      obtain ⟨p, rfl⟩ := asExpr_eq e1
      simp only [Bool.and_eq_true] at h
      cases e2 : asCall v with
      | none => rw [e2] at h; cases h.1
      | some q =>
        obtain ⟨f, es⟩ := q
        obtain ⟨p2, rfl⟩ := asCall_eq e2
        exact ps_exprD (sE e W X s _ G.toGood h.2).1
    · cases h
  | .app i e, W, X, own, st, G, hk, h => by
    simp only [chkS] at h
    split at h
    · rename_i v e1
      obtain ⟨p, rfl⟩ := asExpr_eq e1
      split at h
      · rename_i f a cp e2
        have e2 := asCallP_eq e2
        subst e2
        split at h
        · rename_i o m ap e3
          have e3 := asAttr_eq e3
          subst e3
          split at h
          · rename_i y e4
            obtain ⟨p4, rfl⟩ := asName_eq e4
            simp only [Bool.and_eq_true, decide_eq_true_eq, Bool.not_eq_true'] at h
            obtain ⟨h1, rfl, h3, h4, h5⟩ := h
            obtain ⟨v1, v2, v3, v4⟩ := G.toGood.isVis h1
            exact ps_appD v1 v2 v3 v4 h4 h3 (sE e W X s _ G.toGood h5).1
          · cases h
        · cases h
      · cases h
    · cases h
  | .asg i m w e, W, X, own, st, G, hk, h => by
    simp only [chkS] at h
    split at h
    · rename_i t v p e1
      have e1 := asAsg_eq e1
      subst e1
      split at h
      · rename_i y py
        simp only [Bool.and_eq_true] at h
        obtain ⟨h1, h2, h3, h4⟩ := h
        have hN : X.N.Nodup := by rw [G.N]; exact G.nd
        rw [Bool.or_eq_true] at h4
        rcases h4 with h4 | h4
        · exact ps_asgD hN (G.toGood.isSto h1) (sE e W X s _ G.toGood h3).1 (off_sw hk G.sc h4) (off_ok h2)
        · exact lc_S G hk h1 h4 h3 (off_ok h2)
      · cases h
    · cases h
  | .asgT is w e, W, X, own, st, G, hk, h => by
    simp only [chkS] at h
    split at h
    · rename_i t v p e1
      have e1 := asAsg_eq e1
      subst e1
      split at h
      · rename_i ts kt pt
        simp only [Bool.and_eq_true] at h
        obtain ⟨h1, h2, h3, h4, h5⟩ := h
        exact ps_asgTD G.K (pg_D G.toGood h1) (sE e W X s _ G.toGood h3).1 tup_sw (noPair G.sc h4) rfl (off_ok h2)
      · cases h
    · cases h
  | .par is w es, W, X, own, st, G, hk, h => by
    simp only [chkS] at h
    split at h
    · rename_i t v p e1
      have e1 := asAsg_eq e1
      subst e1
      split at h
      · rename_i ts kt pt vs k2 pt2
        simp only [Bool.and_eq_true] at h
        obtain ⟨h1, h2, h3⟩ := h
        have hN : X.N.Nodup := by rw [G.N]; exact G.nd
        have hp := pair_sw (kt := kt) (k2 := k2) (pt := pt) (pt2 := pt2) hk G.sc h1
        simp only [pairB, Bool.and_eq_true, Bool.not_eq_true', decide_eq_true_eq] at h1
        obtain ⟨b1, b2, b3, b4, b5, b6, b7, b8, b9, b10⟩ := h1
        refine ps_parD G.calm hN (by rw [List.length_map, b8]) b9 (fun q hq => ?_) (sEs es W X s vs G.toGood h3).1 ?_ hp (off_ok h2)
        · have hm := List.all_eq_true.mp b10 q hq
          refine ⟨by rw [G.N]; exact of_decide_eq_true hm, ?_⟩
          have hq1 : q.1 ∈ ts.map nameOf := (List.of_mem_zip hq).1
          obtain ⟨e, he, heq⟩ := List.mem_map.mp hq1
          have := List.all_eq_true.mp b4 e he
          unfold nameL at this
          split at this
          · rename_i y py
            simp only [Bool.and_eq_true, decide_eq_true_eq] at this
            rw [← heq, G.sc]; exact this.1
          · cases this
        · rw [b8]
          have hs := sizeLine_eq
          rw [Bool.or_eq_true] at b1
          rcases b1 with b1 | b1
          · have := eq_of_beq b1; rw [hs]; omega
          · have := eq_of_beq b1; rw [hs]; omega
      · cases h
    · cases h
  | .frz i, W, X, own, st, G, hk, h => by simp [chkS] at h
  | .setAt i ix e, W, X, own, st, G, hk, h => by
    simp only [chkS] at h
    split at h
    · rename_i t v p e1
      have e1 := asAsg_eq e1
      subst e1
      split at h
      · rename_i o a e2
        obtain ⟨p2, rfl⟩ := asSub_eq e2
        split at h
        · rename_i y e3
          obtain ⟨p3, rfl⟩ := asName_eq e3
          simp only [Bool.and_eq_true, Bool.not_eq_true'] at h
          obtain ⟨h1, h2, h3, h4⟩ := h
          obtain ⟨v1, v2, v3, v4⟩ := G.toGood.isVis h1
          exact ps_setAtD v1 v2 v3 v4 (sE e W X s _ G.toGood h4).1 (sE ix W X s _ G.toGood h3).1 h2
        · cases h
      · cases h
    · cases h
  | .aug i o e, W, X, own, st, G, hk, h => by
    simp only [chkS] at h
    split at h
    · rename_i t p v e1
      obtain ⟨ps, rfl⟩ := asAug_eq e1
      split at h
      · rename_i y e3
        obtain ⟨p3, rfl⟩ := asName_eq e3
        simp only [Bool.and_eq_true, decide_eq_true_eq] at h
        obtain ⟨h1, rfl, h3⟩ := h
        have hN : X.N.Nodup := by rw [G.N]; exact G.nd
        exact ps_augD hN (G.toGood.isSto h1) (sE e W X s _ G.toGood h3).1
      · cases h
    · cases h
  | .ifS e a b, W, X, own, st, G, hk, h => by
    simp only [chkS] at h
    split at h
    · rename_i t xs ys e1
      obtain ⟨ps, rfl⟩ := asIfS_eq e1
      simp only [Bool.and_eq_true] at h
      obtain ⟨h1, h2, h3⟩ := h
      exact ps_ifD (sE e W X s _ G.toGood h1).2 (sSs a W X own xs G hk h2) (sSs b W X own ys G hk h3)
    · cases h
  | .whl e b, W, X, own, st, G, hk, h => by
    simp only [chkS] at h
    split at h
    · rename_i t xs e1
      obtain ⟨ps, rfl⟩ := asWhl_eq e1
      simp only [Bool.and_eq_true] at h
      obtain ⟨h1, h2⟩ := h
      exact ps_whlD G.hp (sE e W X s _ G.toGood h1).2 (sSs b W X _ xs G hk h2) (fun i hi => List.mem_append_left _ hi) fun i hi => by
        rcases own_madeSs b _ i hi with h | h
        · exact h
        · exact List.mem_append_right _ h
    · cases h
  | .forS t src b, W, X, own, st, G, hk, h => by
    simp only [chkS] at h
    split at h
    · rename_i tg it xs e1
      obtain ⟨ps, rfl⟩ := asFor_eq e1
      simp only [Bool.and_eq_true] at h
      obtain ⟨h1, h2, h3, h4⟩ := h
      have h21 : ∀ i, i ∈ ownSs (own ++ b.made) b → i ∈ own ++ b.made := fun i hi => by
        rcases own_madeSs b _ i hi with h | h
        · exact h
        · exact List.mem_append_right _ h
      by_cases hr : src.isRng = true
      · exact ps_forD G.hp G.calm (sIr G.toGood hr h1) (pg_D G.toGood h2) (chkI_set h1) (fun L ok => hw_rng hr L ok) (sSs b W X _ xs G hk h4) (fun i hi => List.mem_append_left _ hi) h21
      · have hr' : src.isRng = false := by simpa using hr
        rw [hr', Bool.false_or] at h3
        have ho := off_ok (w := false) (by rw [Bool.false_or]; exact h3) rfl
        exact ps_forD G.hp G.calm (sI src W X s tg it G.toGood h1) (pg_D G.toGood h2) (chkI_set h1) (fun L ok => hw_seq ho L ok) (sSs b W X _ xs G hk h4) (fun i hi => List.mem_append_left _ hi) h21
    · cases h
  | .ret e, W, X, own, st, G, hk, h => by
    simp only [chkS] at h
    split at h
    · rename_i v e1
      obtain ⟨p, rfl⟩ := asRet_eq e1
      exact ps_retD (sE e W X s _ G.toGood h).1
    · cases h
  | .retN, W, X, own, st, G, hk, h => by
    simp only [chkS] at h
    split at h
    · rename_i e1
      obtain ⟨p, rfl⟩ := asRet_eq e1
      exact ps_retND
    · cases h
  | .raise cl es, W, X, own, st, G, hk, h => by
    simp only [chkS] at h
    split at h
    · rename_i e
      split at h
      · rename_i v e1
        obtain ⟨p, rfl⟩ := asRaise_eq e1
        split at h
        · rename_i f a e2
          obtain ⟨p2, rfl⟩ := asCall_eq e2
          split at h
          · rename_i y e3
            obtain ⟨p3, rfl⟩ := asName_eq e3
            simp only [Bool.and_eq_true, decide_eq_true_eq, Bool.not_eq_true'] at h
            obtain ⟨h1, h2, h3, h4⟩ := h
            exact ps_raiseD G h1 h2 h3 (sE e W X s _ G.toGood h4).1
          · cases h
        · cases h
      · cases h
    · cases h
  | .tryR b hs, W, X, own, st, G, hk, h => by
    simp only [chkS] at h
    split at h
    · rename_i xs hd e1
      obtain ⟨p, rfl⟩ := asTry_eq e1
      simp only [Bool.and_eq_true, Bool.not_eq_true'] at h
      obtain ⟨h1, h2, h3⟩ := h
      exact ps_tryD G h3 (fun z => by rw [z] at h2; cases h2) fun W' X' G' => sSs b W' X' own xs G' (by rw [G'.sc, ← G.sc]; exact hk) h1
    · cases h
theorem sSs : ∀ (ds : DSs) (W : WX) (X : Cx) (own : List Nat) (sts : List Stmt), GoodS s c x W rc (k + 1) X → X.env.scope.kind = .function → chkSs s own ds sts = true → PSs X sts (tS c x W own (ownSs own ds) (exSs rc ds))
  | .nil, W, X, own, sts, G, hk, h => by
    simp only [chkSs, List.isEmpty_iff] at h
    subst h
    exact pss_nilD
  | .cons d r, W, X, own, sts, G, hk, h => cons_case (fun st h => sS d W X own st G hk h) (fun own' sts h => sSs r W X own' sts G hk h) h
end
end
end DI

end
section
set_option maxRecDepth 100000
set_option maxHeartbeats 8000000
/-! DI20: a def keeps what its run over data says. -/
namespace DI
open PySem PySem.Spec PyProof.Rows L2 PySem.W

/-! ### calm data -/
section
variable {c : Wc} {ρ ρ1 : List Addr} {B B1 : Addr → Prop} {H : Hp}
mutual
theorem Rep.calmly (h : ∀ a, B a → B1 a) : ∀ (d : D) (v : V), d.calm = true → Rep c ρ1 B1 H d v → Rep c ρ B H d v
  | .non, _, _, r => by cases r; exact .non
  | .bl _, _, _, r => by cases r; exact .bl _
  | .int _, _, _, r => by cases r; exact .int _
  | .str _, _, _, r => by cases r; exact .str _
  | .tup ds, _, p, r => by
    cases r with
    | tup ha hs =>
      refine .tup ?_ (RepA.calmly h ds _ (by simpa [D.calm] using p) hs)
      rcases ha with ⟨h1, h2⟩ | ha
      · exact .inl ⟨h1, fun z => h2 (h _ z)⟩
      · exact .inr ha
  | .lst ds, _, p, r => by
    cases r with
    | lst h1 h2 hs => exact .lst h1 (fun z => h2 (h _ z)) (RepA.calmly h ds _ (by simpa [D.calm] using p) hs)
  | .fn f, _, _, r => by
    cases r with
    | fn h => exact .fn h
  | .cell n, _, p, r => by simp [D.calm] at p
  | .scr ns, _, _, r => by
    cases r with
    | scr ha =>
      refine .scr ?_
      rcases ha with ⟨h1, h2⟩ | ha
      · exact .inl ⟨h1, fun z => h2 (h _ z)⟩
      · exact .inr ha
theorem RepA.calmly (h : ∀ a, B a → B1 a) : ∀ (ds : List D) (vs : List V), D.calms ds = true → RepA c ρ1 B1 H ds vs → RepA c ρ B H ds vs
  | [], _, _, r => by cases r; exact .nil
  | d :: ds, _, p, r => by
    have p' : d.calm = true ∧ D.calms ds = true := by simpa [D.calms] using p
    cases r with
    | cons r1 r2 => exact .cons (Rep.calmly h d _ p'.1 r1) (RepA.calmly h ds _ p'.2 r2)
end
end

/-! ### a def's end -/
section
variable {c : Wc} {x : Xc} {ρ ρ1 : List Addr} {B B1 : Addr → Prop} {H H' : Hp} {S S1 : Sto}
theorem pre_eq (hl : ρ1.length = ρ.length) (hp : ∀ (n : Nat) (a : Addr), ρ[n]? = some a → ρ1[n]? = some a) : ρ1 = ρ := by
  apply List.ext_getElem?
  intro n
  cases e : ρ[n]? with
  | some a => exact hp n a e
  | none =>
    rw [List.getElem?_eq_none_iff] at e ⊢
    omega
theorem StoOk.cut (s0 : StoOk c ρ B H S) (s1 : StoOk c ρ1 B1 H' S1) (hp : ∀ (n : Nat) (a : Addr), ρ[n]? = some a → ρ1[n]? = some a) (hB : ∀ a, B a → B1 a) (hc : (S1.take S.length).all D.calms = true) : StoOk c ρ B H' (S1.take S.length) := by
  have hle : ρ.length ≤ ρ1.length := by
    by_cases h : ρ.length = 0
    · omega
    · have hlt : ρ.length - 1 < ρ.length := by omega
      have := hp _ _ (List.getElem?_eq_getElem hlt)
      have := (List.getElem?_eq_some_iff.mp this).1
      omega
  refine ⟨by rw [List.length_take, s1.len, s0.len]; omega, fun n ds e => ?_, s0.rB, s0.nd, fun a b => s1.bH a (hB a b), fun n ds e => ?_⟩
  · have hn : n < S.length := by
      have := (List.getElem?_eq_some_iff.mp e).1
      rw [List.length_take] at this; omega
    have e' := e
    rw [List.getElem?_take_of_lt hn] at e
    obtain ⟨a, vs, h1, h2, h3⟩ := s1.at_ n ds e
    have hn' : n < ρ.length := by rw [← s0.len]; exact hn
    have e2 := hp n _ (List.getElem?_eq_getElem hn')
    rw [h1] at e2
    refine ⟨a, vs, by rw [List.getElem?_eq_getElem hn', ← e2], h2, RepA.calmly hB ds vs ?_ h3⟩
    exact List.all_eq_true.mp hc ds (List.mem_of_getElem? e')
  · have hn : n < S.length := by
      have := (List.getElem?_eq_some_iff.mp e).1
      rw [List.length_take] at this; omega
    rw [List.getElem?_take_of_lt hn] at e
    exact s1.pl n ds e
end

/-- a def of the text: where it lies, that the look is content -/
structure DefOk (K : Frag) (c : Wc) (sg : Scope → List Str → Sc) (f : Nat) (d : Df) : Prop where
  lk : ∃ (name qual : Str) (params : Arguments) (body : List Stmt) (scope : Scope) (dV kV doc pm cdv ct oc : Value) (an od : Option Addr) (osl : Array (Option Value)), K.lookup (c.fa f) = some ⟨oc, od, .func (fnOf name qual params body scope dV kV doc pm an cdv ct), osl⟩ ∧ codeIn K cdv qual = true ∧
    FnScope d.N (d.N.take d.ps) scope ∧ (∀ (us : List Value), us.length = d.ps → ∀ s : Shared, K.In s.heap → BindsTo s (fnOf name qual params body scope dV kV doc pm an cdv ct) ⟨us, []⟩ ((d.N.take d.ps).zip us)) ∧ chkSs (sg scope d.N) [] d.body body = true
  ps : d.ps ≤ d.N.length
/-- what is told once for all contexts -/
structure Glb (P : Program) (w : World) (K : Frag) (mg : Str → Option Value) (sg : Scope → List Str → Sc) (c : Wc) (x : Xc) (T : List Df) : Prop where
  sc : ∀ scope N, (sg scope N).sc = scope
  N : ∀ scope N, (sg scope N).N = N
  fn : ∀ scope N, (sg scope N).fn = fun _ => true
  kK : c.K = K
  fns : ∀ scope N (f : Nat) (nm : Str), (sg scope N).F[f]? = some nm → mg nm = some (.ref (c.fa f)) ∧ keepIn K (.ref (c.fa f)) = true
  nf : ∀ scope N, (sg scope N).F.length = c.nf
  nT : T.length = c.nf
  con : ∀ scope N (nm : Str) (d : D), (nm, d) ∈ (sg scope N).G → ∃ v u, mg nm = some u ∧ RelV v u ∧ ∀ ρ B H, Rep c ρ B H d v
  blt : ∀ nm, nm ∈ bltNames → mg nm = none
  err : ∀ base scope N (cl : Nat) (nm : Str), K.In base → (sg scope N).C[cl]? = some nm → ErrOk P w K mg base x cl nm
  exs : ∀ scope N (nm : Str) (cs : List Nat), (nm, cs) ∈ (sg scope N).EX → ∃ cv, mg nm = some (.ref cv) ∧ ∀ cl, cl < 16 → exmOne K (.ref (x.ca cl)) (.ref cv) = some (cs.contains cl) ∧ kitOne K (.ref (x.ca cl)) (.ref cv) = some (cs.contains cl)
  xc : ∀ cl, cl < 16 → ExcC K (x.ca cl) ∧ XfC K (x.ca cl)
  fn0 : ∀ scope N cl, cl < 16 → x.nm cl = (sg scope N).FN.getD cl []
  flds : ∀ cl, cl < 16 → ∀ f, f ∈ x.nm cl → findIn K (.ref (x.ca cl)) f = some none
  nodup : ∀ cl, cl < 16 → (x.nm cl).Nodup
  def_ : ∀ (f : Nat) (d : Df), T[f]? = some d → DefOk K c sg f d
section
variable {P : Program} {w : World} {K : Frag} {mg : Str → Option Value} {base : Heap} {sg : Scope → List Str → Sc} {c : Wc} {x : Xc} {T : List Df}
/-- the rule for a def, the guards told -/
theorem fnG_of {k : Nat} {f : Addr} {name qual : Str} {params : Arguments} {body : List Stmt} {scope : Scope} {dV kV doc pm cdv ct oc : Value} {an od : Option Addr} {osl : Array (Option Value)} {N ps : List Str} {sp : Sp}
    (lk : K.lookup f = some ⟨oc, od, .func (fnOf name qual params body scope dV kV doc pm an cdv ct), osl⟩) (hcd : codeIn K cdv qual = true) (S : FnScope N ps scope)
    (hb : ∀ (us : List Value), us.length = ps.length → ∀ s : Shared, K.In s.heap → BindsTo s (fnOf name qual params body scope dV kV doc pm an cdv ct) ⟨us, []⟩ (ps.zip us)) (len : ∀ vs H Q E, sp vs H Q E → vs.length = ps.length)
    (hbody : ∀ (A : Around) (outer : List Env) (s : Shared) (H : Hp) (vs : List V) (Q : VK) (E : XK), Room k (A.deeper (envOfC qual scope s.heap.objs.size f cdv)) → A.guards = some [] → sp vs H Q E →
      ∃ t, PSs (cxOf (L2.CX P w) P w K mg base N qual scope f cdv A outer s H E) body t ∧ t { nx := fun _ H' => Q .non H', rt := Q } (L2.start N vs) H) : FnG P w K mg base (k + 1) f sp := by
  refine ⟨fun A outer s H us vs Q E hr hg e0 r hsp => ?_⟩
  have hl := len _ _ _ _ hsp
  have KX : K.In s.heap := e0.mod.kin.keeps fun b o e => (e0.bs b o e).1
  have lim : s.heap.NoLimit := e0.mod.nolimit.keeps fun b o e => (e0.bs b o e).1
  have hus : us.length = ps.length := by rw [← r.length, hl]
  have hkind : ∀ y ∈ ps.zip us, scope.names.lookup y.1 = some .local ∨ (scope.names.lookup y.1 = some .cell ∧ ((cellsFrom (s.heap.objs.size + 1) scope.names []).lookup y.1).isSome = true) := fun ⟨n, v⟩ hy => by
    rcases S.par n (List.of_mem_zip hy).1 with q | q
    · exact .inl q
    · exact .inr ⟨q, cellsFrom_some _ _ _ (.inl q)⟩
  refine codeAny_call_function hr.depth (KX _ _ lk) rfl S.co S.gen rfl (codeRec_of KX hcd) (hb us hus s KX _ _ _ _ ?_)
  refine wpAny_newFunctionEnv_cells S.kind hkind fun env he s1 x => ?_
  subst he
  refine ⟨lim.keeps x.toInCall.keep, codeAny_func ?_⟩
  obtain ⟨t, ht, hq⟩ := hbody A outer s H vs Q E (hr.deeper _) hg hsp
  have I : Inv (cxOf (L2.CX P w) P w K mg base N qual scope f cdv A outer s H E) [] (L2.start N vs) H s1 := inv_start S hr.hd e0 hl r x
  refine wpAny_mono (ht.run [] s1 (L2.start N vs) H _ I hq) (fun fl s' hs => ?_) fun e s' hs => hs
  have fin : ∀ {σ' : L2.St} {H' : Hp} {v : V} {u : Value}, Inv (cxOf (L2.CX P w) P w K mg base N qual scope f cdv A outer s H E) [] σ' H' s' → RelV v u → Q v H' → CE outer P w H s Q u s' :=
    fun {σ' H' v u} J rv q => ⟨v, H', J.os, J.bare, J.base, J.hok, rv, q⟩
  cases fl with
  | ret u =>
    obtain ⟨v, σ', H', J, rv, q⟩ := hs
    exact fin J rv q
  | next =>
    obtain ⟨σ', H', J, q⟩ := hs
    exact fin (v := V.non) (u := Value.none) J rfl q
  | brk =>
    obtain ⟨_, _, _, q⟩ := hs
    exact False.elim q
  | cont =>
    obtain ⟨_, _, _, q⟩ := hs
    exact False.elim q
/-- the state at a def's entry -/
theorem Lv.entry {ρ : List Addr} {B : Addr → Prop} {H : Hp} {S : Sto} {as : List D} {vs : List V} (s : StoOk c ρ B H S) (r : RepA c ρ B H as vs) {N : List Str} (hn : as.length ≤ N.length) :
    Lv c ⟨ρ, B, H, N.length⟩ [] ρ B H (as.map Slot.val ++ List.replicate (N.length - as.length) .no) (L2.start N vs) S := by
  have hl := r.length
  have noown : ∀ (i : Nat) (ds : List D), (as.map Slot.val ++ List.replicate (N.length - as.length) Slot.no)[i]? ≠ some (.own ds) := fun i ds e => by
    by_cases h : i < as.length
    · rw [List.getElem?_append_left (by simpa using h), List.getElem?_map] at e
      cases q : as[i]? with
      | none => rw [q] at e; cases e
      | some d => rw [q] at e; cases e
    · rw [List.getElem?_append_right (by simpa using h), List.getElem?_replicate] at e
      split at e <;> cases e
  refine ⟨⟨by simp [L2.start, hl], fun i d e => ?_, fun i ds e => absurd e (noown i ds)⟩, s, fun i ds e => absurd e (noown i ds), fun i j ds es a e => absurd e (noown i ds), Ext.refl _ _, fun _ _ e => e, fun _ h => h, s.bH, fun a h => .inl h, fun a h => ?_, ?_⟩
  · by_cases h : i < as.length
    · rw [List.getElem?_append_left (by simpa using h), List.getElem?_map] at e
      cases q : as[i]? with
      | none => rw [q] at e; cases e
      | some d' =>
        rw [q] at e; cases e
        obtain ⟨v, e1, e2⟩ := r.get q
        refine ⟨v, ?_, e2⟩
        unfold L2.start
        rw [List.getElem?_append_left (by simp; omega), List.getElem?_map, e1]; rfl
    · rw [List.getElem?_append_right (by simpa using h), List.getElem?_replicate] at e
      split at e <;> cases e
  · obtain ⟨o, e⟩ := s.has h
    show H a ≠ none
    rw [e]; intro z; cases z
  · unfold L2.start
    show _ = N.length
    rw [List.length_append, List.length_map, List.length_replicate]
    omega
theorem run_ok {ρ : List Addr} {B : Addr → Prop} {H : Hp} {S : Sto} {rc : Calls} {d : Df} {as : List D} {Q : VK} {E : XK} (s : StoOk c ρ B H S) (hps : as.length = d.ps)
    (ok : okR (runDf rc d as S) (fun d S' => ∀ v H', Ext ρ H H' → StoOk c ρ B H' S' → Rep c ρ B H' d v → Q v H') (fun cl fs S' => ∀ dd H', Ext ρ H H' → StoOk c ρ B H' S' → ExcAt c x ρ B H' cl fs dd → E (.ref (x.ca cl)) (some dd) H')) (n : Nat) (own' : List Nat) :
    okR (exSs rc d.body (as.map Slot.val ++ List.replicate (d.N.length - as.length) .no) S) (OutOk c ⟨ρ, B, H, n⟩ own' ρ B H { nx := fun _ H' => Q .non H', rt := Q }) (ExW c x (fun cls dd _ H => E cls dd H) ⟨ρ, B, H, n⟩) := by
  unfold runDf at ok
  rw [if_pos hps] at ok
  have fin : ∀ {y : D} {S1 : Sto}, okR (fin1 S y S1) (fun d S' => ∀ v H', Ext ρ H H' → StoOk c ρ B H' S' → Rep c ρ B H' d v → Q v H') (fun cl fs S' => ∀ dd H', Ext ρ H H' → StoOk c ρ B H' S' → ExcAt c x ρ B H' cl fs dd → E (.ref (x.ca cl)) (some dd) H') →
      ∀ v H', RetOk c ⟨ρ, B, H, n⟩ y v H' S1 → Q v H' := fun {y S1} ok v H' ⟨ρ1, B1, h1, h2, h3, h4, h5⟩ => by
    unfold fin1 at ok
    split at ok
    · rename_i hl
      have e : ρ1 = ρ := pre_eq (by rw [← h4.len, ← s.len, hl]) h2
      subst e
      exact ok v H' h1 (h4.weak h3 s.rB) (h5.weak h3)
    · split at ok
      · rename_i hc
        simp only [Bool.and_eq_true] at hc
        exact ok v H' h1 (s.cut h4 h2 h3 hc.2) (Rep.calmly h3 _ _ hc.1 h5)
      · exact ok.elim
  cases e : exSs rc d.body (as.map Slot.val ++ List.replicate (d.N.length - as.length) .no) S with
  | bad => rw [e] at ok; exact ok.elim
  | ok o S1 =>
    rw [e] at ok
    cases o with
    | next σd => exact fun ρ' G' σ' H' k' L => fin ok .non H' ⟨ρ', G', L.ext, L.pre, L.low, L.st, .non⟩
    | ret y => exact fun v H' h => fin ok v H' h
  | exc cl fs S1 =>
    rw [e] at ok
    intro dd σ' H' hl ⟨ρ1, B1, h1, h2, h3, h4, vs, u1, u2, u3, u4, u5⟩
    replace ok : okR (finX S cl fs S1) _ _ := ok
    unfold finX at ok
    split at ok
    · rename_i hl
      have e : ρ1 = ρ := pre_eq (by rw [← h4.len, ← s.len, hl]) h2
      subst e
      exact ok dd H' h1 (h4.weak h3 s.rB) ⟨vs, u1, u2, u3.weak h3, u4, u5⟩
    · split at ok
      · rename_i hc
        simp only [Bool.and_eq_true] at hc
        refine ok dd H' h1 (s.cut h4 h2 h3 hc.2) ⟨vs, u1, u2, RepA.calmly h3 _ _ hc.1 u3, u4, fun h => u5 ?_⟩
        obtain ⟨i, ei⟩ := List.getElem?_of_mem h
        exact List.mem_of_getElem? (h2 i _ ei)
      · exact ok.elim
/-- all defs, at all levels -/
theorem all_fns (g : Glb P w K mg sg c x T) (hK : K.In base) : ∀ (n : Nat) (f : Nat), FnG P w K mg base (n + 1) (c.fa f) (spD c x (callK T n f))
  | 0, f => ⟨fun A outer s H us vs Q E hr hg e0 r h => by
    obtain ⟨ρ, B, as, S, _, _, ok⟩ := h
    exact ok.elim⟩
  | n + 1, f => by
    cases e : T[f]? with
    | none =>
      exact ⟨fun A outer s H us vs Q E hr hg e0 r h => by
        obtain ⟨ρ, B, as, S, _, _, ok⟩ := h
        unfold callK at ok
        rw [e] at ok
        exact ok.elim⟩
    | some d =>
      obtain ⟨⟨name, qual, params, body, scope, dV, kV, doc, pm, cdv, ct, oc, an, od, osl, lk, hcd, S, hb, hc⟩, hps⟩ := g.def_ f d e
      have hpl : (d.N.take d.ps).length = d.ps := by rw [List.length_take]; omega
      have hlen : ∀ {vs : List V} {H : Hp} {Q : VK} {E : XK}, spD c x (callK T (n + 1) f) vs H Q E → vs.length = d.ps := fun {vs H Q E} h => by
        obtain ⟨ρ, B, as, S, _, r, ok⟩ := h
        unfold callK at ok
        rw [e] at ok
        replace ok : okR (runDf (callK T n) d as S) _ _ := ok
        unfold runDf at ok
        split at ok
        · rename_i h; rw [← r.length, h]
        · exact ok.elim
      refine fnG_of lk hcd S (fun us hu => hb us (by rw [hu, hpl])) (fun vs H Q E h => by rw [hlen h, hpl]) fun A outer s H vs Q E hr hg h => ?_
      have hv := hlen h
      obtain ⟨ρ, B, as, St, st, r, ok⟩ := h
      have hal : as.length = d.ps := by rw [r.length, hv]
      refine ⟨tS c x (fun cls dd _ H => E cls dd H) [] (ownSs [] d.body) (exSs (callK T n) d.body), ?_, ⟨ρ, B, H, d.N.length⟩, ρ, B, _, St, Lv.entry st r (by omega), ?_⟩
      · have tk := takes_of (X := cxOf (L2.CX P w) P w K mg base d.N qual scope (c.fa f) cdv A outer s H E) (E := E) rfl rfl rfl rfl
        have go : Good (sg scope d.N) c x (fun cls dd _ H => E cls dd H) (callK T n) (n + 1) (cxOf (L2.CX P w) P w K mg base d.N qual scope (c.fa f) cdv A outer s H E) :=
          ⟨(g.sc _ _).symm, (g.N _ _).symm, by rw [g.N]; exact S.nd, (g.fn _ _).symm, g.kK.symm, rfl, hr, hg, tk, fun f' nm hf' => ⟨(g.fns _ _ f' nm hf').1, (g.fns _ _ f' nm hf').2, all_fns g hK n f'⟩, g.nf _ _, fun f' as' S' hf' => by
            have hlt : T[f']? = none := by
              rw [List.getElem?_eq_none_iff] at hf' ⊢
              rw [g.nT, ← g.nf scope d.N]; exact hf'
            cases n with
            | zero => rfl
            | succ n => unfold callK; rw [hlt], g.con _ _, g.blt⟩
        have gs : GoodS (sg scope d.N) c x (fun cls dd _ H => E cls dd H) (callK T n) (n + 1) (cxOf (L2.CX P w) P w K mg base d.N qual scope (c.fa f) cdv A outer s H E) :=
          ⟨go, passes_of rfl, rfl, rfl, fun cl nm h => g.err base _ _ cl nm hK h, g.exs _ _, g.xc, g.fn0 _ _, g.flds, g.nodup⟩
        exact sSs d.body _ _ [] body gs S.kind hc
      · unfold callK at ok
        rw [e] at ok
        exact run_ok st hal ok _ _
end
end DI

end
section
set_option maxRecDepth 100000
set_option maxHeartbeats 8000000
/-! DI21: the head's facts, the law's end. -/
namespace DI
open PySem PySem.Spec PyProof.Rows L2 PySem.W He

/-! ### an error class by a Bool -/
def oexB (K : Frag) (C : Addr) : Bool := match K.lookup C with
  | some ⟨.type "type", _, .cls cd, sl⟩ => (match cd.mro, sl.toList with
    | .ref C' :: bm, [_, _, _, _, some (.builtin n), _] => C' == C && (n == "ValueError.__new__" && (!cd.hasDel && (cd.hasDict && HandSPX.refsVE bm)))
    | _, _ => false)
  | _ => false
theorem oexB_ok {K : Frag} {C : Addr} (q : oexB K C = true) : ∃ nm q N bs bm sn sub ab col dd k0 k1 k2 k3 k5, K.lookup C = some (excClassObj nm q C N bs bm true sn sub ab col dd k0 k1 k2 k3 k5 "ValueError.__new__") ∧ HandSPX.refsVE bm = true := by
  unfold oexB at q
  split at q
  · rename_i dd cd sl ho
    split at q
    · rename_i C' bm k0 k1 k2 k3 n k5 hm hs
      simp only [Bool.and_eq_true, beq_iff_eq, Bool.not_eq_true'] at q
      obtain ⟨rfl, rfl, hdel, hdict, ht⟩ := q
      obtain ⟨nm, bs, mro, ns, qn, hd, sn, sub, ab, col, del⟩ := cd
      dsimp only at hm hdel hdict
      subst hm hdel hdict
      have hsl : sl = #[k0, k1, k2, k3, some (.builtin "ValueError.__new__"), k5] := by
        obtain ⟨l⟩ := sl
        simp only at hs
        rw [hs]
      subst hsl
      exact ⟨nm, qn, ns, bs, bm, sn, sub, ab, col, dd, k0, k1, k2, k3, k5, ho, ht⟩
    · cases q
  · cases q
/-- an error: its class's name, the class that has its __init__, the field -/
structure ErrD where
  name : Str
  own : Str
  fld : Str
def ErrD.ca (K : Frag) (e : ErrD) : Addr := ga K e.name
def eB (K : Frag) (e : ErrD) : Bool :=
  eqO (nsIn K mainGlobals e.name) (some (some (.ref (ga K e.name)))) && (oexB K (ga K e.name) && (eqO (findIn K (.ref (ga K e.name)) "__setattr__") (some (some (.builtin "object.__setattr__"))) && (decide (subIn K (.ref (ga K e.name)) (.type "BaseException") = some true) && (decide (typeIn K (.ref (ga K e.name)) = some (.type "type")) && (keepIn K (.ref (ga K e.name)) &&
  (eqO (ks_superIn K (ga K e.name) (ga K e.own) "__init__") (some (some (.builtin "ValueError.__init__"))) && (decide (subIn K (.ref (ga K e.name)) (.type "ValueError") = some true) && (decide (mroIn K (ga K e.name) (.ref (ga K e.own)) = some true) && (eqO (findIn K (.ref (ga K e.name)) e.fld) (some none) &&
  (eqO (findIn K (.ref (ga K e.name)) "__init__") (some (some (.ref (ma K (ga K e.own) "__init__")))) && (decide (typeIn K (.ref (ma K (ga K e.own) "__init__")) = some (.type "function")) &&
  (xfB K (ga K e.name) && (eqO (findIn K (.ref (ga K e.name)) "__class__") (some (some (.builtin "object.__class__"))) && (eqO (specialIn K (.builtin "object.__class__") "__get__") (some (some (.builtin "getset_descriptor.__get__"))) && (decide (takesIn K (.builtin "object.__class__") = some true) && decide (mroIn K (ga K e.name) (.type "object") = some true))))))))))))))))
structure EOk (K : Frag) (e : ErrD) : Prop where
  gl : nsIn K mainGlobals e.name = some (some (.ref (ga K e.name)))
  oex : OexC K (ga K e.name)
  sup : SupC K (ga K e.name) (ga K e.own) e.fld
  ini : findIn K (.ref (ga K e.name)) "__init__" = some (some (.ref (ma K (ga K e.own) "__init__")))
  tyI : typeIn K (.ref (ma K (ga K e.own) "__init__")) = some (.type "function")
  xf : XfC K (ga K e.name)
  ex : ExcC K (ga K e.name)
theorem eB_ok {K : Frag} {e : ErrD} (h : eB K e = true) : EOk K e := by
  simp only [eB, Bool.and_eq_true, decide_eq_true_eq] at h
  obtain ⟨h1, h2, h3, h4, h5, h6, h7, h8, h9, h10, h11, h12, h13, h14, h15, h16, h17⟩ := h
  have xf := xfB_ok h13
  exact ⟨eqO_ok h1, ⟨oexB_ok h2, eqO_ok h3, h4, h5, h6⟩, ⟨eqO_ok h7, h8, h9, eqO_ok h10⟩, eqO_ok h11, h12, xf, ⟨xf.ga, xf.gg, xf.exC, xf.hdC, eqO_ok h14, eqO_ok h15, h16, h17⟩⟩

/-! ### an __init__ with its class's cell -/
structure InitD where
  own : Str
  qual : Str
  params : Arguments
  body : List Stmt
  scope : Scope
abbrev FnI : Type := Option (Str × Str × Arguments × FuncBody × Scope × Addr × List Str × Addr)
def fnI (K : Frag) (p : InitD) : FnI := match K.lookup (ma K (ga K p.own) "__init__") with
  | some ⟨_, _, .func fd, _⟩ => some (fd.name, fd.qualname, fd.params, fd.body, fd.scope, fd.globals, fd.closure.map (·.1), fd.builtins)
  | _ => none
def InitD.val (d : InitD) : FnI := some ("__init__", d.qual, d.params, .stmts d.body, d.scope, mainGlobals, ["__class__"], builtinsNs)
/-- its default values, its code's record, its cell -/
def iB (K : Frag) (file : Str) (p : InitD) : Bool := match K.lookup (ma K (ga K p.own) "__init__") with
  | some ⟨_, _, .func fd, _⟩ => codeIn K fd.code p.qual && ((match fd.defaults with
    | .none => true
    | _ => false) && ((match fd.code with
    | .ref c => (match K.lookup c with
      | some ⟨_, _, .fields vs, _⟩ => (match (vs[2]? : Option Value) with
        | some (.str f _) => file == f
        | _ => false)
      | _ => false)
    | _ => false) && ((match fd.closure with
    | [(_, cc)] => (match K.lookup cc with
      | some ⟨_, _, .cell (some (.ref D)), _⟩ => D == ga K p.own
      | _ => false)
    | _ => false) && (clsIn K (ga K p.own)).isSome)))
  | _ => false
theorem iB_ok {K : Frag} {file : Str} {p : InitD} (e : fnI K p = p.val) (h : iB K file p = true) : ∃ (oc : Value) (od : Option Addr) (dV kV doc pm ct : Value) (an : Option Addr) (osl : Array (Option Value)) (cc cda : Addr) (ccl cl : Value) (cdd cld : Option Addr) (ccs csl : Array (Option Value)) (vs : Array Value) (f : Str) (tf : Tok) (cdD : ClassData),
    K.lookup (ma K (ga K p.own) "__init__") = some ⟨oc, od, .func (ksFn "__init__" p.qual p.params p.body p.scope .none kV doc pm an (.ref cda) ct cc), osl⟩ ∧ codeIn K (.ref cda) p.qual = true ∧ K.lookup cda = some ⟨ccl, cdd, .fields vs, ccs⟩ ∧ vs[2]? = some (.str f tf) ∧ (file == f) = true ∧ K.lookup cc = some ⟨cl, cld, .cell (some (.ref (ga K p.own))), csl⟩ ∧ clsIn K (ga K p.own) = some cdD := by
  unfold iB at h
  unfold fnI at e
  split at h
  · rename_i oc od fd osl ho
    rw [ho] at e
    obtain ⟨name, qualname, params, body, scope, globals, closure, defaults, kwdefaults, doc, pyModule, annotations, code, closureTuple, builtins⟩ := fd
    simp only [InitD.val, Option.some.injEq, Prod.mk.injEq] at e
    obtain ⟨rfl, rfl, rfl, rfl, rfl, rfl, hcl, rfl⟩ := e
    simp only [Bool.and_eq_true] at h
    obtain ⟨h1, h2, h3, h4, h5⟩ := h
    split at h2
    · split at h3
      · rename_i cda
        split at h3
        · rename_i ccl cdd vs ccs hc
          split at h3
          · rename_i f tf hv
            split at h4
            · rename_i s0 cc
              split at h4
              · rename_i cl cld D csl hcc
                have hD := eq_of_beq h4
                subst hD
                obtain ⟨cdD, hcd⟩ := Option.isSome_iff_exists.mp h5
                simp only [List.map_cons, List.map_nil, List.cons.injEq, and_true] at hcl
                subst hcl
                exact ⟨oc, od, .none, kwdefaults, doc, pyModule, closureTuple, annotations, osl, cc, cda, ccl, cl, cdd, cld, ccs, csl, vs, f, tf, cdD, ho, h1, hc, hv, h3, hcc, hcd⟩
              · cases h4
            · cases h4
          · cases h3
        · cases h3
      · cases h3
    · cases h2
  · cases h

/-! ### the Hook -/
abbrev AlJ : Type := AlD × Bool × List FnI
def asJ (g : Addr → Option Obj) (n : Nat) : List Addr := cStatics :: asD g n
def obsJ (fa : List Fa) (fn : List DefD) (ex : Frag → Bool) (ins : List InitD) (K : Frag) : AlJ := (obsD fa fn K, ex K, ins.map (fnI K))
def valJ (fn : List DefD) (ins : List InitD) : AlJ := (valD fn, true, ins.map InitD.val)
def SaysJ (fa : List Fa) (fn : List DefD) (ex : Frag → Bool) (ins : List InitD) (K : Frag) : Prop := obsJ fa fn ex ins K = valJ fn ins
def obsJG (n : Nat) (fa : List Fa) (fn : List DefD) (ex : Frag → Bool) (ins : List InitD) (g : Addr → Option Obj) : AlJ := obsJ fa fn ex ins (frG g (asJ g n))
def hookJ (n : Nat) (fa : List Fa) (fn : List DefD) (ex : Frag → Bool) (ins : List InitD) : Hook where
  α := AlJ
  obs := fun s => obsJG n fa fn ex ins s.heap.get?
  val := fun _ => valJ fn ins
  says := fun _ h => ∃ K : Frag, K.In h ∧ SaysJ fa fn ex ins K
  of := fun _ _ e => ⟨_, frG_in, e⟩
  keeps := fun _ _ _ ⟨K, hK, c⟩ k => ⟨K, Frag.In.keeps hK k, c⟩
theorem obsJG_eq {n : Nat} {fa : List Fa} {fn : List DefD} {ex : Frag → Bool} {ins : List InitD} {g : Addr → Option Obj} {s : Shared} (h : ∀ a, g a = s.heap.get? a) : obsJG n fa fn ex ins g = (hookJ n fa fn ex ins).obs s := by
  have e : g = s.heap.get? := funext h
  rw [e] <;> rfl
section
variable {fa : List Fa} {fn : List DefD} {ex : Frag → Bool} {ins : List InitD} {K : Frag}
theorem SaysJ.d (c : SaysJ fa fn ex ins K) : SaysD fa fn K := congrArg (fun z : AlJ => z.1) c
theorem SaysJ.more (c : SaysJ fa fn ex ins K) : ex K = true := congrArg (fun z : AlJ => z.2.1) c
theorem SaysJ.ini (c : SaysJ fa fn ex ins K) {d : InitD} (h : d ∈ ins) : fnI K d = d.val := by
  have e : ins.map (fnI K) = ins.map InitD.val := congrArg (fun z : AlJ => z.2.2) c
  obtain ⟨i, hi, rfl⟩ := List.mem_iff_getElem.mp h
  have e2 : (ins.map (fnI K))[i]? = (ins.map InitD.val)[i]? := by rw [e]
  rw [List.getElem?_map, List.getElem?_map, List.getElem?_eq_getElem hi] at e2
  exact Option.some.inj e2
end
end DI

end
section
set_option maxRecDepth 100000
set_option maxHeartbeats 8000000
/-! DI22: from the head's facts to the law's end. -/
namespace DI
open PySem PySem.Spec PyProof.Rows L2 PySem.W He

/-! ### constants -/
mutual
def repB (K : Frag) : D → Value → Bool
  | .non, u => (match u with
    | .none => true
    | _ => false)
  | .bl b, u => (match u with
    | .bool c => b == c
    | _ => false)
  | .int i, u => (match u with
    | .int j _ => i == j
    | _ => false)
  | .str x, u => (match u with
    | .str y _ => decide (x = y)
    | _ => false)
  | .tup ds, u => (match u with
    | .ref a => (match K.lookup a with
      | some ⟨.type c, _, .seq its _, _⟩ => decide (c = "tuple") && (decide (its.size ≤ sizeLine) && repBs K ds its.toList)
      | _ => false)
    | _ => false)
  | _, _ => false
def repBs (K : Frag) : List D → List Value → Bool
  | [], us => us.isEmpty
  | d :: ds, us => (match us with
    | u :: us => repB K d u && repBs K ds us
    | [] => false)
end
mutual
theorem repB_ok {c : Wc} : ∀ (d : D) (u : Value), repB c.K d u = true → ∃ v, RelV v u ∧ ∀ ρ B H, Rep c ρ B H d v
  | .non, u, h => by
    cases u <;> simp only [repB] at h <;> try (cases h; done)
    exact ⟨.non, rfl, fun _ _ _ => .non⟩
  | .bl b, u, h => by
    cases u <;> simp only [repB] at h <;> try (cases h; done)
    have := eq_of_beq h; subst this
    exact ⟨.bl b, rfl, fun _ _ _ => .bl b⟩
  | .int i, u, h => by
    cases u <;> simp only [repB] at h <;> try (cases h; done)
    have := eq_of_beq h; subst this
    exact ⟨.int i, ⟨_, rfl⟩, fun _ _ _ => .int i⟩
  | .str x, u, h => by
    cases u <;> simp only [repB] at h <;> try (cases h; done)
    have := of_decide_eq_true h; subst this
    exact ⟨.str x, ⟨_, rfl⟩, fun _ _ _ => .str x⟩
  | .tup ds, u, h => by
    cases u <;> simp only [repB] at h <;> try (cases h; done)
    rename_i a
    split at h
    · rename_i c' od its n sl ho
      simp only [Bool.and_eq_true, decide_eq_true_eq] at h
      obtain ⟨rfl, h2, h3⟩ := h
      obtain ⟨vs, r1, r2⟩ := repBs_ok ds its.toList h3
      exact ⟨.ref a, rfl, fun ρ B H => .tup (.inr ⟨_, its, n, ho, rfl, rfl, h2, r1⟩) (r2 ρ B H)⟩
    · cases h
  | .lst _, u, h => by simp [repB] at h
  | .fn _, u, h => by simp [repB] at h
  | .cell _, u, h => by simp [repB] at h
  | .scr _, u, h => by simp [repB] at h
theorem repBs_ok {c : Wc} : ∀ (ds : List D) (us : List Value), repBs c.K ds us = true → ∃ vs, Vals vs us ∧ ∀ ρ B H, RepA c ρ B H ds vs
  | [], us, h => by
    simp only [repBs, List.isEmpty_iff] at h
    subst h
    exact ⟨[], .nil, fun _ _ _ => .nil⟩
  | d :: ds, us, h => by
    simp only [repBs] at h
    split at h
    · rename_i u us
      simp only [Bool.and_eq_true] at h
      obtain ⟨v, r1, r2⟩ := repB_ok d u h.1
      obtain ⟨vs, r3, r4⟩ := repBs_ok ds us h.2
      exact ⟨v :: vs, .cons r1 r3, fun ρ B H => .cons (r2 ρ B H) (r4 ρ B H)⟩
    · cases h
end

/-! ### a law's data -/
structure LawD where
  F : List Str
  G : List (Str × D)
  errs : List ErrD
  nC : Nat
  EX : List (Str × List Nat)
  T : List Df
  fn : List DefD
  ins : List InitD
  file : Str
def LawD.names (L : LawD) : List Str := L.errs.map (·.name)
def LawD.FN (L : LawD) : List (List Str) := L.errs.map fun e => [e.fld]
def LawD.sg (L : LawD) (scope : Scope) (N : List Str) : Sc := ⟨scope, N, fun _ => true, L.F, L.G, L.names.take L.nC, L.EX, L.FN⟩
def LawD.c (L : LawD) (K : Frag) : Wc := ⟨K, fun f => ga K (L.F.getD f ""), L.F.length⟩
def LawD.x (L : LawD) (K : Frag) : Xc := ⟨fun cl => ga K (L.names.getD cl ""), fun cl => L.FN.getD cl []⟩
/-- what is asked of the heap behind the top -/
def LawD.ex (L : LawD) (K : Frag) : Bool :=
  (L.F.all fun nm => eqO (nsIn K mainGlobals nm) (some (some (.ref (ga K nm)))) && keepIn K (.ref (ga K nm))) && ((L.G.all fun q => match nsIn K mainGlobals q.1 with
    | some (some u) => repB K q.2 u
    | _ => false) && ((bltNames.all fun nm => eqO (nsIn K mainGlobals nm) (some none)) && ((L.errs.all (eB K)) && ((L.ins.all (iB K L.file)) &&
  ((L.EX.all fun q => eqO (nsIn K mainGlobals q.1) (some (some (.ref (ga K q.1)))) && (List.range 16).all fun cl => decide (exmOne K (.ref (ga K (L.names.getD cl ""))) (.ref (ga K q.1)) = some (q.2.contains cl)) && decide (kitOne K (.ref (ga K (L.names.getD cl ""))) (.ref (ga K q.1)) = some (q.2.contains cl))) &&
  eqO (nsIn K cStatics "thirdparty.any") (some none))))))
def scopeB (N P : List Str) (sc : Scope) : Bool := (sc.kind == .function) && (!sc.isCoroutine && (!sc.isGenerator && (decide N.Nodup && (decide (N.take P.length = P) && ((P.all fun x => decide (sc.names.lookup x = some .local) || decide (sc.names.lookup x = some .cell)) && sc.names.all fun y => !(y.2 == .free))))))
theorem scopeB_ok {N P : List Str} {sc : Scope} (h : scopeB N P sc = true) : FnScope N P sc := by
  simp only [scopeB, Bool.and_eq_true, decide_eq_true_eq, Bool.not_eq_true', List.all_eq_true, Bool.or_eq_true, beq_eq_false_iff_ne, ne_eq] at h
  obtain ⟨h1, h2, h3, h4, h5, h6, h7⟩ := h
  exact ⟨eq_of_beq h1, h2, h3, h4, h5, h6, h7⟩
def defB (L : LawD) (d : DefD) (t : Df) (nm : Str) : Bool := decide (d.at_ = (nm, none)) && (d.dfl.isEmpty && (d.kwd.isEmpty && (decide (t.ps ≤ t.N.length) && (scopeB t.N (t.N.take t.ps) d.scope && chkSs (L.sg d.scope t.N) [] t.body d.body))))
def defsB (L : LawD) : List DefD → List Df → List Str → Bool
  | [], [], [] => true
  | d :: ds, t :: ts, nm :: ns => defB L d t nm && defsB L ds ts ns
  | _, _, _ => false
theorem defsB_at {L : LawD} : ∀ {ds : List DefD} {ts : List Df} {ns : List Str}, defsB L ds ts ns = true → ts.length = ns.length ∧ ∀ (i : Nat) (t : Df), ts[i]? = some t → ∃ d nm, ds[i]? = some d ∧ ns[i]? = some nm ∧ defB L d t nm = true
  | [], [], [], _ => ⟨rfl, fun i t e => by simp at e⟩
  | d :: ds, t :: ts, nm :: ns, h => by
    simp only [defsB, Bool.and_eq_true] at h
    obtain ⟨l, k⟩ := defsB_at h.2
    refine ⟨by simp [l], fun i t' e => ?_⟩
    cases i with
    | zero => simp at e; subst e; exact ⟨d, nm, by simp, by simp, h.1⟩
    | succ i =>
      obtain ⟨d', nm', e1, e2, e3⟩ := k i t' (by simpa using e)
      exact ⟨d', nm', by simpa using e1, by simpa using e2, e3⟩
  | [], [], _ :: _, h => by simp [defsB] at h
  | [], _ :: _, _, h => by simp [defsB] at h
  | _ :: _, [], _, h => by simp [defsB] at h
  | _ :: _, _ :: _, [], h => by simp [defsB] at h
def BindAll : List DefD → List Df → Prop
  | d :: ds, t :: ts => (∀ (kV doc pm : Value) (an : Option Addr) (cdv ct : Value) (us : List Value), us.length = t.ps → bindArgs (fnOf d.name d.qual d.params d.body d.scope .none kV doc pm an cdv ct) ⟨us, []⟩ = pure ((t.N.take t.ps).zip us)) ∧ BindAll ds ts
  | _, _ => True
theorem bindAll_at : ∀ {ds : List DefD} {ts : List Df}, BindAll ds ts → ∀ (i : Nat) (d : DefD) (t : Df), ds[i]? = some d → ts[i]? = some t → ∀ (kV doc pm : Value) (an : Option Addr) (cdv ct : Value) (us : List Value), us.length = t.ps → bindArgs (fnOf d.name d.qual d.params d.body d.scope .none kV doc pm an cdv ct) ⟨us, []⟩ = pure ((t.N.take t.ps).zip us)
  | [], _, _, _, _, _, e, _ => by simp at e
  | _ :: _, [], _, _, _, _, _, e => by simp at e
  | d :: ds, t :: ts, h, 0, d', t', e1, e2 => by
    simp at e1 e2; subst e1; subst e2
    exact h.1
  | d :: ds, t :: ts, h, i + 1, d', t', e1, e2 => bindAll_at h.2 i d' t' (by simpa using e1) (by simpa using e2)
/-- an __init__ of the one form -/
structure InitOk (P : Program) (w : World) (L : LawD) (p : InitD) (fld : Str) : Prop where
  fn : ∃ (px py : Str), ∀ (K : Frag) (mg : Str → Option Value) (base : Heap), fnI K p = p.val → iB K L.file p = true → mg "super" = none → nsIn K cStatics "thirdparty.any" = some none → ∃ fd : FuncData,
    (∀ k, FnOk P w K mg base (L2.CX P w) k (ma K (ga K p.own) "__init__") fd [px, py] (spInit K (ga K p.own) fld)) ∧ Binds K fd [px, py] []
theorem glb_of {P : Program} {w : World} {K : Frag} {mg : Str → Option Value} {h : Heap} {L : LawD} {fa : List Fa} (X : K.In h) (G : h.Ns mainGlobals mg) (c : SaysJ fa L.fn L.ex L.ins K) (hd : defsB L L.fn L.T L.F = true) (hb : BindAll L.fn L.T) (h16 : L.errs.length = 16 ∨ L.errs = [])
    (hi : ∀ e ∈ L.errs, ∃ p ∈ L.ins, p.own = e.own ∧ InitOk P w L p e.fld) : L.errs.length = 16 → Glb P w K mg L.sg (L.c K) (L.x K) L.T := by
  intro hl
  have hex := c.more
  simp only [LawD.ex, Bool.and_eq_true, List.all_eq_true, decide_eq_true_eq] at hex
  obtain ⟨x1, x2, x3, x4, x5, x6, x7⟩ := hex
  have gl : ∀ nm, nsIn K mainGlobals nm = some (some (.ref (ga K nm))) → mg nm = some (.ref (ga K nm)) := fun nm e => mg_of X G e
  have errAt : ∀ cl, cl < 16 → ∃ e, L.errs[cl]? = some e ∧ L.names.getD cl "" = e.name ∧ L.FN.getD cl [] = [e.fld] ∧ EOk K e := fun cl h => by
    have hlt : cl < L.errs.length := by omega
    refine ⟨L.errs[cl], List.getElem?_eq_getElem hlt, ?_, ?_, eB_ok (x4 _ (List.getElem_mem hlt))⟩
    · unfold LawD.names
      rw [List.getD_eq_getElem?_getD, List.getElem?_map, List.getElem?_eq_getElem hlt]; rfl
    · unfold LawD.FN
      rw [List.getD_eq_getElem?_getD, List.getElem?_map, List.getElem?_eq_getElem hlt]; rfl
  obtain ⟨dl, dat⟩ := defsB_at hd
  refine ⟨fun _ _ => rfl, fun _ _ => rfl, fun _ _ => rfl, rfl, fun scope N f nm e => ?_, fun _ _ => rfl, dl, fun scope N nm d hm => ?_, fun nm hm => mg_none_of X G (eqO_ok (x3 nm hm)), fun base scope N cl nm hK e => ?_, fun scope N nm cs hm => ?_, fun cl h => ?_, fun _ _ cl _ => rfl, fun cl h f hf => ?_, fun cl h => ?_, fun f d e => ?_⟩
  · have hm : nm ∈ L.F := List.mem_of_getElem? e
    obtain ⟨y1, y2⟩ := x1 nm hm
    have e' : (L.c K).fa f = ga K nm := by
      show ga K (L.F.getD f "") = _
      rw [List.getD_eq_getElem?_getD, show L.F[f]? = some nm from e]; rfl
    rw [e']
    exact ⟨gl nm (eqO_ok y1), y2⟩
  · have y := x2 (nm, d) hm
    dsimp only at y
    split at y
    · rename_i u hu
      obtain ⟨v, r1, r2⟩ := repB_ok (c := L.c K) d u y
      exact ⟨v, u, mg_of X G hu, r1, r2⟩
    · cases y
  · have e' : (L.names.take L.nC)[cl]? = some nm := e
    have hlt : cl < L.errs.length := by
      have := (List.getElem?_eq_some_iff.mp e').1
      rw [List.length_take] at this
      unfold LawD.names at this
      rw [List.length_map] at this
      omega
    obtain ⟨er, a1, a2, a3, a4⟩ := errAt cl (by omega)
    have e2 : L.names[cl]? = some nm := by
      have := (List.getElem?_eq_some_iff.mp e').1
      rw [List.length_take] at this
      rw [List.getElem?_take_of_lt (by omega)] at e'
      exact e'
    have e3 : nm = er.name := by
      rw [← a2, List.getD_eq_getElem?_getD, e2]; rfl
    subst e3
    obtain ⟨p, hp, po, ⟨px, py, hf⟩⟩ := hi er (List.mem_of_getElem? a1)
    have ip := x5 p hp
    obtain ⟨fd, f1, f2⟩ := hf K mg base (c.ini hp) ip (mg_none_of X G (eqO_ok (x3 "super" (by decide +kernel)))) (eqO_ok x7)
    have ca : (L.x K).ca cl = ga K er.name := by show ga K (L.names.getD cl "") = _; rw [a2]
    rw [po] at f1
    exact ⟨by rw [ca]; exact gl _ a4.gl, by rw [ca]; exact a4.oex, ma K (ga K er.own) "__init__", ga K er.own, er.fld, px, py, fd, by rw [ca]; exact a4.ini, a4.tyI, f1, f2, by rw [ca]; exact a4.sup, a3⟩
  · obtain ⟨y1, y2⟩ := x6 (nm, cs) hm
    exact ⟨ga K nm, gl nm (eqO_ok y1), fun cl h => y2 cl (List.mem_range.mpr h)⟩
  · obtain ⟨er, a1, a2, a3, a4⟩ := errAt cl h
    have ca : (L.x K).ca cl = ga K er.name := by show ga K (L.names.getD cl "") = _; rw [a2]
    rw [ca]
    exact ⟨a4.ex, a4.xf⟩
  · obtain ⟨er, a1, a2, a3, a4⟩ := errAt cl h
    have ca : (L.x K).ca cl = ga K er.name := by show ga K (L.names.getD cl "") = _; rw [a2]
    have hf' : f ∈ L.FN.getD cl [] := hf
    rw [a3, List.mem_singleton] at hf'
    rw [ca, hf']
    exact a4.sup.fld
  · obtain ⟨er, a1, a2, a3, a4⟩ := errAt cl h
    show (L.FN.getD cl []).Nodup
    rw [a3]
    simp
  · obtain ⟨dd, nm, e1, e2, e3⟩ := dat f d e
    simp only [defB, Bool.and_eq_true, decide_eq_true_eq, List.isEmpty_iff] at e3
    obtain ⟨b1, b2, b3, b4, b5, b6⟩ := e3
    obtain ⟨fd, FD⟩ := c.d.def_ f e1
    have dv0 : dd.dvs K = [] := by unfold DefD.dvs; rw [b2]; rfl
    have kw0 : dd.kws K = [] := by unfold DefD.kws; rw [b3]; rfl
    rw [dv0, kw0] at FD
    have bb := bindAll_at hb f dd d e1 e
    obtain ⟨oc, od, dV, kV, doc, pm, an, cdv, ct, osl, rfl, lk, hcd, hD, hK⟩ := FD.ex
    have hfa : fAd K dd.at_ = (L.c K).fa f := by
      rw [b1]
      show ga K nm = ga K (L.F.getD f "")
      rw [List.getD_eq_getElem?_getD, e2]; rfl
    rw [hfa] at lk
    rcases hD with ⟨_, rfl⟩ | ⟨z, _⟩
    · exact ⟨⟨_, _, _, _, _, _, kV, doc, pm, cdv, ct, oc, an, od, osl, lk, hcd, scopeB_ok b5, fun us hu s _ => BindsTo.of_eq (bb kV doc pm an cdv ct us hu), b6⟩, b4⟩
    · exact absurd rfl z
end DI

end
section
set_option maxRecDepth 100000
set_option maxHeartbeats 8000000
/-! DI23: the law's end. -/
namespace DI
open PySem PySem.Spec PyProof.Rows L2 PySem.W He

theorem initOk_of {P : Program} {w : World} {L : LawD} {p : InitD} {px py fld : Str} {ar : Arg} {p0 p1 p2 p3 p4 p5 p6 p7 p8 p9 : Pos} (hbody : p.body = initBody px py fld p0 p1 p2 p3 p4 p5 p6 p7 p8 p9) (htop : (P.main.scope.names.lookup ("super" : Str)).isSome = false) (hfile : L.file = P.main.file)
    (hp : (p.params.posonlyargs ++ p.params.args).head? = some ar) (har : ar.arg = px) (hk : p.scope.kind = .function) (hco : p.scope.isCoroutine = false) (hgen : p.scope.isGenerator = false)
    (hx : p.scope.names.lookup px = some .local) (hy : p.scope.names.lookup py = some .local) (hss : p.scope.names.lookup ("super" : Str) = some .globalImplicit) (hcc : p.scope.names.lookup ("__class__" : Str) = some .free)
    (hxy : (px == py) = false) (hdx : (px == ("__debug__" : Str)) = false) (hdy : (py == ("__debug__" : Str)) = false) (hnc : ∀ z ∈ p.scope.names, z.2 ≠ .cell)
    (hcall : ∀ env : Env, ∃ pl : Sem Bool, eval (.Call (.Attribute (.Call (.Name "super" p0) [] [] p1) "__init__" p2) [.Name py p3] [] p4) env = (do
      let ov ← attributeBase (.Call (.Name "super" p0) [] [] p1) "__init__" env (eval (.Call (.Name "super" p0) [] [] p1) env)
      standAt p2.atName
      let (f, first) ← holding [ov] (getMethod ov "__init__" pl)
      callWith p4 f first (backTo p4 (starEach [.Name py p3] env)) []))
    (hbind : ∀ (kV doc pm : Value) (an : Option Addr) (cdv ct : Value) (cc : Addr) (us : List Value), us.length = 2 → bindArgs (ksFn "__init__" p.qual p.params p.body p.scope .none kV doc pm an cdv ct cc) ⟨us, []⟩ = pure ([px, py].zip us)) : InitOk P w L p fld := by
  refine ⟨px, py, fun K mg base e h hsm hopq => ?_⟩
  obtain ⟨oc, od, dV, kV, doc, pm, ct, an, osl, cc, cda, ccl, cl, cdd, cld, ccs, csl, vs, f, tf, cdD, lk, hcd, hcode, hvs, hf, hcell, hD⟩ := iB_ok e h
  refine ⟨_, fun k => ?_, Binds.all (hbind kV doc pm an (.ref cda) ct cc)⟩
  rw [hbody] at lk ⊢
  exact init_fn lk hcd hcode hvs (by rw [← hfile]; exact hf) hcell hD htop hsm hopq hp har hk hco hgen hx hy hss hcc hxy hdx hdy hnc hcall

/-- the law's def called, at the heap behind the top, the guards told -/
theorem lawG {P : Program} {w : World} {K : Frag} {mg mb : Str → Option Value} {k : Nat} {fa a : Addr} {sp : Sp} {s₁ : Shared} {vs : List Value} {ns : List Int}
    (KX : K.In s₁.heap) (hns : s₁.heap.Ns mainGlobals mg) (hb : s₁.heap.Ns builtinsNs mb) (hbb : ∀ x : Str, x ≠ "__name__" → mb x = bootBuiltins x) (hlim : s₁.heap.NoLimit) (hg : s₁.gens = #[])
    (ha : s₁.heap.get? a = some { cls := .type "list", data := .seq vs.toArray }) (hi : IntsAre vs ns) (hl : ns.length ≤ sizeLine) (hr : Room k callerA)
    (F : ∀ base : Heap, K.In base → FnG P w K mg base k fa sp)
    (hsp : ∀ H : Hp, SqL K H a (ns.map V.int) → sp [.ref a] H (fun v _ => v = .bl true) fun _ _ _ => False) :
    codeAny (model P w) callerA (.call (.ref fa) ⟨[.ref a], []⟩) (fun r s' => r = .ok (.ret (.bool true)) ∧ OldK s₁.heap s'.heap ∧ s'.os = s₁.os ∧ AllBare s'.gens) s₁ := by
  have rv := vals_ints hi
  have lenV := hi.length
  have core : ∀ H : Hp, Only H → SqL K H a (ns.map V.int) → HOk P w H s₁.heap → (∀ b, H b ≠ none → b = a) → (H a ≠ none → K.lookup a = none) →
      codeAny (model P w) callerA (.call (.ref fa) ⟨[.ref a], []⟩) (fun r s' => r = .ok (.ret (.bool true)) ∧ OldK s₁.heap s'.heap ∧ s'.os = s₁.os ∧ AllBare s'.gens) s₁ := by
    intro H hO hS hok hA hK
    have base_of : ∀ {b : Addr} {o : Obj}, s₁.heap.get? b = some o → H b = none → (hidT s₁.heap H).get? b = some o := fun e n => hidT_get e n
    have only_a : ∀ {b : Addr}, b ≠ a → H b = none := fun {b} hb => by
      cases q : H b with
      | none => rfl
      | some u => exact absurd (hA b (by rw [q]; simp)) hb
    have noA : ∀ {b : Addr} {o : Obj} {es : Array DictEntry} {ep : Nat}, s₁.heap.get? b = some o → o.data = .dict es ep → H b = none := fun {b o es ep} e d => by
      by_cases hb : b = a
      · subst hb
        rw [ha] at e; cases e
        have d' : Data.seq vs.toArray _ = Data.dict es ep := d
        cases d'
      · exact only_a hb
    have nsK : ∀ {b : Addr} {m : Str → Option Value}, s₁.heap.Ns b m → (hidT s₁.heap H).Ns b m := fun {b m} ⟨o, es, ep, e, d, r⟩ => ⟨o, es, ep, base_of e (noA e d), d, r⟩
    have hKb : K.In (hidT s₁.heap H) := fun b o e => base_of (KX b o e) (by
      by_cases hb : b = a
      · subst hb
        cases q : H b with
        | none => rfl
        | some u => rw [hK (by rw [q]; simp)] at e; cases e
      · exact only_a hb)
    have hM : Mod K mg (hidT s₁.heap H) := ⟨hKb, nsK hns, ⟨mb, nsK hb, hbb⟩, let ⟨mc, h1, h2⟩ := hlim; ⟨mc, nsK h1, h2⟩⟩
    have e0 : Env0 P w K mg (hidT s₁.heap H) callerA [] s₁ H := ⟨rfl, hM, fun b o e => of_hidT e, Nat.le_of_eq (hidT_size _ _), trivial, fun b hb => absurd (show b ∈ ([] : List Addr) from hb) (by simp), hok, .of_eq hg⟩
    refine codeAny_mono ((F _ hKb).run callerA [] s₁ H [.ref a] [.ref a] _ _ hr rfl e0 (.cons rfl .nil) (hsp H hS)) fun r s' h => ?_
    cases r with
    | error e =>
      obtain ⟨_, _, _, _, _, _, _, _, _, _, _, _, z⟩ := h
      exact z.elim
    | ok fl =>
      cases fl with
      | next => exact False.elim h
      | brk => exact False.elim h
      | cont => exact False.elim h
      | ret u =>
        obtain ⟨v, H', os, bare, un, hok', r', q⟩ := h
        have q' : v = .bl true := q
        subst q'
        obtain rfl : u = Value.bool true := r'
        refine ⟨rfl, OldK.of_keep fun b o e => ?_, os, bare⟩
        cases q : H b with
        | none => exact un.keep b o e q (by intro z; exact absurd (show b ∈ ([] : List Addr) from z) (by simp)) (by simp)
        | some u =>
          rcases hO b with z | ⟨ob, xs, z⟩
          · rw [q] at z; cases z
          · have z2 := un.frzs b ob _ z
            obtain ⟨e1, _⟩ := hok b _ z
            obtain ⟨e2, _⟩ := hok' b _ z2
            rw [e] at e1; cases e1
            exact e2
  cases hk : K.lookup a with
  | some o =>
    have e := KX a o hk
    rw [ha] at e
    cases e
    refine core (fun _ => none) (fun _ => .inl rfl) (.inr ⟨_, vs.toArray, _, hk, rfl, rfl, rfl, by rw [List.size_toArray, lenV]; exact hl, by simpa using rv⟩) (fun b u z => by have z' : (none : Option HO) = some u := z; cases z') (fun b z => absurd rfl z) fun z => absurd rfl z
  | none =>
    refine core (fun b => if b = a then some (.frz { cls := .type "list", data := .seq vs.toArray } (.lst (ns.map V.int))) else none) (fun b => ?_) (.inl (.inr ⟨{ cls := .type "list", data := .seq vs.toArray }, if_pos rfl⟩)) (fun b u z => ?_) (fun b z => ?_) fun _ => hk
    · by_cases hb : b = a
      · exact .inr ⟨_, _, if_pos hb⟩
      · exact .inl (if_neg hb)
    · by_cases hb : b = a
      · have z' := (if_pos hb).symm.trans z
        cases z'
        subst hb
        exact ⟨ha, by rw [List.length_map]; exact hl, vs, _, rv, ha⟩
      · have z' := (if_neg hb).symm.trans z
        cases z'
    · by_cases hb : b = a
      · exact hb
      · exact absurd (if_neg hb) z
/-- the law's def keeps its promise where the run over data says True -/
theorem scr_sp {c : Wc} {x : Xc} {T : List Df} {N f : Nat} {H : Hp} {a : Addr} {ns : List Int} (hS : SqL c.K H a (ns.map V.int)) (run : ∃ S', callK T N f [.scr ns] [] = .ok (.bl true) S') : spD c x (callK T N f) [.ref a] H (fun v _ => v = .bl true) fun _ _ _ => False := by
  obtain ⟨S', run⟩ := run
  refine ⟨[], fun _ => False, [.scr ns], [], ⟨rfl, fun (n : Nat) (ds : List D) e => (by simp at e), fun a h => (by cases h), .nil, fun (_ : Addr) (h : False) => h.elim, fun (n : Nat) (ds : List D) e => (by simp at e)⟩, .cons (.scr ?_) .nil, ?_⟩
  · rcases hS with h | h
    · exact .inl ⟨h, fun z => z⟩
    · exact .inr h
  · rw [run]
    intro v H' _ _ r
    cases r
    rfl
theorem walk_J {l : OpenLaw} {n N : Nat} {q : Program} {loose : List Str} {XP : (Str → Option Value) → Heap → Prop} {d : DefRec} {L : LawD} {fa : List Fa} {as f : Nat} (hn : l.most = some n) (hn2 : n ≤ sizeLine) (hdf : d.params.defaults = []) (hr : Room (N + 1) callerA)
    (hd : defsB L L.fn L.T L.F = true) (hb : BindAll L.fn L.T) (h16 : L.errs.length = 16) (hi : ∀ w, ∀ e ∈ L.errs, ∃ p ∈ L.ins, p.own = e.own ∧ InitOk l.prog w L p e.fld) (hf : L.F[f]? = some d.name)
    (run : ∀ ns : List Int, ns.length ≤ n → ∃ S', callK L.T N f [.scr ns] [] = .ok (.bl true) S') : WalkO q loose XP (hookJ as fa L.fn L.ex L.ins).says l.row.toRowW d [] (fun f vs => PySem.call f vs) := by
  refine Att.attach_call hn hdf fun w s₀ s₁ mg mb fa' o pm cd doc a vs ns G Y ho hdd hcd hmg hobj hints hlen hg => ?_
  obtain ⟨K, KX, c⟩ := Y
  have g := glb_of (P := l.prog) (w := w) KX G.T.g c hd hb (.inl h16) (hi w) h16
  have e1 := (g.fns ⟨.function, [], false, false, []⟩ [] f d.name hf).1
  rw [hmg] at e1
  cases e1
  exact lawG KX G.T.g G.T.b G.T.builtins G.T.nolimit hg hobj hints (Nat.le_trans hlen hn2) hr (fun base hK => all_fns g hK N f) fun H hS => scr_sp (c := L.c K) hS (run ns hlen)
end DI

end
section
set_option maxRecDepth 100000
set_option maxHeartbeats 8000000
namespace K30
open PySem DI
def b_is_integer : DSs := (.cons (.ret (.bAnd (.cons (.isi (.slot 0) .int) (.cons (.notE (.isi (.slot 0) .bool)) .nil))))
  .nil)
abbrev N_is_integer : List Str := ["value"]
abbrev d_is_integer : Df := ⟨"is_integer", 1, N_is_integer, b_is_integer⟩
def b_in_range : DSs := (.cons (.ret (.bAnd (.cons (.call 0 (.cons (.slot 0) .nil)) (.cons (.chain .le .le (.slot 1) (.slot 0) (.slot 2)) .nil))))
  .nil)
abbrev N_in_range : List Str := ["value", "least", "most"]
abbrev d_in_range : Df := ⟨"in_range", 3, N_in_range, b_in_range⟩
def b_common : DSs := (.cons (.par [0, 1] false (.cons (.bi .abs (.cons (.slot 0) .nil)) (.cons (.bi .abs (.cons (.slot 1) .nil)) .nil)))
  (.cons (.whl (.slot 1)
  (.cons (.par [0, 1] false (.cons (.slot 1) (.cons (.bop .mod (.slot 0) (.slot 1)) .nil)))
  .nil))
  (.cons (.ret (.slot 0))
  .nil)))
abbrev N_common : List Str := ["number", "other"]
abbrev d_common : Df := ⟨"common", 2, N_common, b_common⟩
def b_whole_root : DSs := (.cons (.ifS (.cmp .lt (.slot 0) (.const (.int 2)))
  (.cons (.ret (.slot 0))
  .nil)
  .nil)
  (.cons (.asg 1 .val false (.const (.int 1)))
  (.cons (.whl (.cmp .le (.bop .mul (.slot 1) (.slot 1)) (.slot 0))
  (.cons (.aug 1 .mul (.const (.int 2)))
  .nil))
  (.cons (.asg 2 .val false (.bop .fdiv (.slot 1) (.const (.int 2))))
  (.cons (.whl (.cmp .gt (.bop .sub (.slot 1) (.slot 2)) (.const (.int 1)))
  (.cons (.asg 3 .val false (.bop .fdiv (.bop .add (.slot 2) (.slot 1)) (.const (.int 2))))
  (.cons (.ifS (.cmp .le (.bop .mul (.slot 3) (.slot 3)) (.slot 0))
  (.cons (.asg 2 .val false (.slot 3))
  .nil)
  (.cons (.asg 1 .val false (.slot 3))
  .nil))
  .nil)))
  (.cons (.ret (.slot 2))
  .nil))))))
abbrev N_whole_root : List Str := ["number", "high", "low", "middle"]
abbrev d_whole_root : Df := ⟨"whole_root", 1, N_whole_root, b_whole_root⟩
def b_is_fraction : DSs := (.cons (.ifS (.bOr (.cons (.notE (.isi (.slot 0) .tuple)) (.cons (.cmp .ne (.bi .len (.cons (.slot 0) .nil)) (.const (.int 2))) (.cons (.notE (.bi .all (.cons (.lc [1] (.one 1) (.seq (.slot 0)) .none (.call 0 (.cons (.slot 1) .nil))) .nil))) .nil))))
  (.cons (.ret (.const (.bl false)))
  .nil)
  .nil)
  (.cons (.ret (.bAnd (.cons (.cmp .gt (.idx (.slot 0) (.const (.int 1))) (.const (.int 0))) (.cons (.cmp .eq (.call 2 (.cons (.idx (.slot 0) (.const (.int 0))) (.cons (.idx (.slot 0) (.const (.int 1))) .nil))) (.const (.int 1))) .nil))))
  .nil))
abbrev N_is_fraction : List Str := ["value", "part"]
abbrev d_is_fraction : Df := ⟨"is_fraction", 1, N_is_fraction, b_is_fraction⟩
def b_is_small : DSs := (.cons (.ifS (.bOr (.cons (.notE (.isi (.slot 0) .tuple)) (.cons (.cmp .ne (.bi .len (.cons (.slot 0) .nil)) (.const (.int 2))) .nil)))
  (.cons (.ret (.const (.bl false)))
  .nil)
  .nil)
  (.cons (.ifS (.bOr (.cons (.notE (.call 1 (.cons (.idx (.slot 0) (.const (.int 0))) (.cons (.neg (.glob "MAX_NUMBER" (.int 1000000))) (.cons (.glob "MAX_NUMBER" (.int 1000000)) .nil))))) (.cons (.notE (.call 1 (.cons (.idx (.slot 0) (.const (.int 1))) (.cons (.const (.int 1)) (.cons (.glob "MAX_NUMBER" (.int 1000000)) .nil))))) .nil)))
  (.cons (.ret (.const (.bl false)))
  .nil)
  .nil)
  (.cons (.ret (.call 4 (.cons (.slot 0) .nil)))
  .nil)))
abbrev N_is_small : List Str := ["value"]
abbrev d_is_small : Df := ⟨"is_small", 1, N_is_small, b_is_small⟩
def b_demand_fraction : DSs := (.cons (.ifS (.notE (.call 5 (.cons (.slot 0) .nil)))
  (.cons (.raise 0 (.cons (.slot 1) .nil))
  .nil)
  .nil)
  .nil)
abbrev N_demand_fraction : List Str := ["value", "reason"]
abbrev d_demand_fraction : Df := ⟨"demand_fraction", 2, N_demand_fraction, b_demand_fraction⟩
def b_made : DSs := (.cons (.ifS (.cmp .lt (.slot 1) (.const (.int 0)))
  (.cons (.par [0, 1] false (.cons (.neg (.slot 0)) (.cons (.neg (.slot 1)) .nil)))
  .nil)
  .nil)
  (.cons (.asg 2 .val false (.call 2 (.cons (.slot 0) (.cons (.slot 1) .nil))))
  (.cons (.ret (.tup (.cons (.bop .fdiv (.slot 0) (.slot 2)) (.cons (.bop .fdiv (.slot 1) (.slot 2)) .nil))))
  .nil)))
abbrev N_made : List Str := ["number", "other", "part"]
abbrev d_made : Df := ⟨"made", 2, N_made, b_made⟩
def b_added : DSs := (.cons (.ret (.call 7 (.cons (.bop .add (.bop .mul (.idx (.slot 0) (.const (.int 0))) (.idx (.slot 1) (.const (.int 1)))) (.bop .mul (.idx (.slot 1) (.const (.int 0))) (.idx (.slot 0) (.const (.int 1))))) (.cons (.bop .mul (.idx (.slot 0) (.const (.int 1))) (.idx (.slot 1) (.const (.int 1)))) .nil))))
  .nil)
abbrev N_added : List Str := ["one", "other"]
abbrev d_added : Df := ⟨"added", 2, N_added, b_added⟩
def b_negated : DSs := (.cons (.ret (.tup (.cons (.neg (.idx (.slot 0) (.const (.int 0)))) (.cons (.idx (.slot 0) (.const (.int 1))) .nil))))
  .nil)
abbrev N_negated : List Str := ["one"]
abbrev d_negated : Df := ⟨"negated", 1, N_negated, b_negated⟩
def b_multiplied : DSs := (.cons (.ret (.call 7 (.cons (.bop .mul (.idx (.slot 0) (.const (.int 0))) (.idx (.slot 1) (.const (.int 0)))) (.cons (.bop .mul (.idx (.slot 0) (.const (.int 1))) (.idx (.slot 1) (.const (.int 1)))) .nil))))
  .nil)
abbrev N_multiplied : List Str := ["one", "other"]
abbrev d_multiplied : Df := ⟨"multiplied", 2, N_multiplied, b_multiplied⟩
def b_turned : DSs := (.cons (.ret (.call 7 (.cons (.idx (.slot 0) (.const (.int 1))) (.cons (.idx (.slot 0) (.const (.int 0))) .nil))))
  .nil)
abbrev N_turned : List Str := ["one"]
abbrev d_turned : Df := ⟨"turned", 1, N_turned, b_turned⟩
def b_sign_of : DSs := (.cons (.ret (.bop .sub (.cmp .gt (.idx (.slot 0) (.const (.int 0))) (.const (.int 0))) (.cmp .lt (.idx (.slot 0) (.const (.int 0))) (.const (.int 0)))))
  .nil)
abbrev N_sign_of : List Str := ["one"]
abbrev d_sign_of : Df := ⟨"sign_of", 1, N_sign_of, b_sign_of⟩
def b_root_of : DSs := (.cons (.ifS (.cmp .lt (.idx (.slot 0) (.const (.int 0))) (.const (.int 0)))
  (.cons (.ret (.const .non))
  .nil)
  .nil)
  (.cons (.asg 1 .val false (.lc [2] (.one 2) (.seq (.slot 0)) .none (.call 3 (.cons (.slot 2) .nil))))
  (.cons (.ifS (.bi .any (.cons (.lc [3, 2] (.many [3, 2]) (.zip (.slot 1) (.slot 0)) .none (.cmp .ne (.bop .mul (.slot 3) (.slot 3)) (.slot 2))) .nil))
  (.cons (.ret (.const .non))
  .nil)
  .nil)
  (.cons (.ret (.tup (.cons (.idx (.slot 1) (.const (.int 0))) (.cons (.idx (.slot 1) (.const (.int 1))) .nil))))
  .nil))))
abbrev N_root_of : List Str := ["one", "roots", "part", "root"]
abbrev d_root_of : Df := ⟨"root_of", 1, N_root_of, b_root_of⟩
def b_demand_two : DSs := (.cons (.expr (.call 6 (.cons (.slot 0) (.cons (.const (.str "one")) .nil))))
  (.cons (.expr (.call 6 (.cons (.slot 1) (.cons (.const (.str "other")) .nil))))
  .nil))
abbrev N_demand_two : List Str := ["one", "other"]
abbrev d_demand_two : Df := ⟨"demand_two", 2, N_demand_two, b_demand_two⟩
def b_fraction : DSs := (.cons (.ifS (.notE (.call 1 (.cons (.slot 0) (.cons (.neg (.glob "MAX_NUMBER" (.int 1000000))) (.cons (.glob "MAX_NUMBER" (.int 1000000)) .nil)))))
  (.cons (.raise 0 (.cons (.const (.str "number")) .nil))
  .nil)
  .nil)
  (.cons (.ifS (.bOr (.cons (.notE (.call 1 (.cons (.slot 1) (.cons (.neg (.glob "MAX_NUMBER" (.int 1000000))) (.cons (.glob "MAX_NUMBER" (.int 1000000)) .nil))))) (.cons (.cmp .eq (.slot 1) (.const (.int 0))) .nil)))
  (.cons (.raise 0 (.cons (.const (.str "other")) .nil))
  .nil)
  .nil)
  (.cons (.ret (.call 7 (.cons (.slot 0) (.cons (.slot 1) .nil))))
  .nil)))
abbrev N_fraction : List Str := ["number", "other"]
abbrev d_fraction : Df := ⟨"fraction", 2, N_fraction, b_fraction⟩
def b_plus : DSs := (.cons (.expr (.call 14 (.cons (.slot 0) (.cons (.slot 1) .nil))))
  (.cons (.ret (.call 8 (.cons (.slot 0) (.cons (.slot 1) .nil))))
  .nil))
abbrev N_plus : List Str := ["one", "other"]
abbrev d_plus : Df := ⟨"plus", 2, N_plus, b_plus⟩
def b_times : DSs := (.cons (.expr (.call 14 (.cons (.slot 0) (.cons (.slot 1) .nil))))
  (.cons (.ret (.call 10 (.cons (.slot 0) (.cons (.slot 1) .nil))))
  .nil))
abbrev N_times : List Str := ["one", "other"]
abbrev d_times : Df := ⟨"times", 2, N_times, b_times⟩
def b_over : DSs := (.cons (.expr (.call 14 (.cons (.slot 0) (.cons (.slot 1) .nil))))
  (.cons (.ifS (.cmp .eq (.idx (.slot 1) (.const (.int 0))) (.const (.int 0)))
  (.cons (.raise 0 (.cons (.const (.str "other")) .nil))
  .nil)
  .nil)
  (.cons (.ret (.call 10 (.cons (.slot 0) (.cons (.call 11 (.cons (.slot 1) .nil)) .nil))))
  .nil)))
abbrev N_over : List Str := ["one", "other"]
abbrev d_over : Df := ⟨"over", 2, N_over, b_over⟩
def b_compare : DSs := (.cons (.expr (.call 14 (.cons (.slot 0) (.cons (.slot 1) .nil))))
  (.cons (.ret (.call 12 (.cons (.call 8 (.cons (.slot 0) (.cons (.call 9 (.cons (.slot 1) .nil)) .nil))) .nil)))
  .nil))
abbrev N_compare : List Str := ["one", "other"]
abbrev d_compare : Df := ⟨"compare", 2, N_compare, b_compare⟩
def b_root : DSs := (.cons (.expr (.call 6 (.cons (.slot 0) (.cons (.const (.str "one")) .nil))))
  (.cons (.ret (.call 13 (.cons (.slot 0) .nil)))
  .nil))
abbrev N_root : List Str := ["one"]
abbrev d_root : Df := ⟨"root", 1, N_root, b_root⟩
def b_quotients : DSs := (.cons (.expr (.call 6 (.cons (.slot 0) (.cons (.const (.str "one")) .nil))))
  (.cons (.asgT [1, 2] false (.slot 0))
  (.cons (.asg 3 .own false (.lst .nil))
  (.cons (.whl (.slot 2)
  (.cons (.app 3 (.bop .fdiv (.slot 1) (.slot 2)))
  (.cons (.par [1, 2] false (.cons (.slot 2) (.cons (.bop .mod (.slot 1) (.slot 2)) .nil)))
  .nil)))
  (.cons (.ret (.bi .tuple (.cons (.slot 3) .nil)))
  .nil)))))
abbrev N_quotients : List Str := ["one", "number", "other", "row"]
abbrev d_quotients : Df := ⟨"quotients", 1, N_quotients, b_quotients⟩
def b_demand_row : DSs := (.cons (.ifS (.bOr (.cons (.notE (.isi (.slot 0) .tuple)) (.cons (.notE (.chain .le .le (.const (.int 1)) (.bi .len (.cons (.slot 0) .nil)) (.const (.int 30)))) .nil)))
  (.cons (.raise 0 (.cons (.const (.str "row")) .nil))
  .nil)
  .nil)
  (.cons (.ifS (.notE (.call 1 (.cons (.idx (.slot 0) (.const (.int 0))) (.cons (.neg (.glob "MAX_NUMBER" (.int 1000000))) (.cons (.glob "MAX_NUMBER" (.int 1000000)) .nil)))))
  (.cons (.raise 0 (.cons (.const (.str "row")) .nil))
  .nil)
  .nil)
  (.cons (.ifS (.notE (.bi .all (.cons (.lc [1] (.one 1) (.seq (.slc (.slot 0) (.some (.const (.int 1))) .none)) .none (.call 1 (.cons (.slot 1) (.cons (.const (.int 1)) (.cons (.glob "MAX_NUMBER" (.int 1000000)) .nil))))) .nil)))
  (.cons (.raise 0 (.cons (.const (.str "row")) .nil))
  .nil)
  .nil)
  .nil)))
abbrev N_demand_row : List Str := ["row", "part"]
abbrev d_demand_row : Df := ⟨"demand_row", 1, N_demand_row, b_demand_row⟩
def b_from_quotients : DSs := (.cons (.expr (.call 22 (.cons (.slot 0) .nil)))
  (.cons (.par [1, 2] false (.cons (.idx (.slot 0) (.neg (.const (.int 1)))) (.cons (.const (.int 1)) .nil)))
  (.cons (.forS (.one 3) (.seq (.slcR (.slot 0) (.some (.neg (.const (.int 2))))))
  (.cons (.par [1, 2] false (.cons (.bop .add (.bop .mul (.slot 3) (.slot 1)) (.slot 2)) (.cons (.slot 1) .nil)))
  .nil))
  (.cons (.ret (.call 7 (.cons (.slot 1) (.cons (.slot 2) .nil))))
  .nil))))
abbrev N_from_quotients : List Str := ["row", "number", "other", "part"]
abbrev d_from_quotients : Df := ⟨"from_quotients", 1, N_from_quotients, b_from_quotients⟩
def b_nearest : DSs := (.cons (.expr (.call 6 (.cons (.slot 0) (.cons (.const (.str "one")) .nil))))
  (.cons (.ifS (.notE (.call 1 (.cons (.slot 1) (.cons (.const (.int 1)) (.cons (.const (.int 1000)) .nil)))))
  (.cons (.raise 0 (.cons (.const (.str "most")) .nil))
  .nil)
  .nil)
  (.cons (.asg 2 .val false (.const .non))
  (.cons (.forS (.one 3) (.rng2 (.const (.int 1)) (.bop .add (.slot 1) (.const (.int 1))))
  (.cons (.asg 4 .val false (.bop .fdiv (.bop .mul (.idx (.slot 0) (.const (.int 0))) (.slot 3)) (.idx (.slot 0) (.const (.int 1)))))
  (.cons (.forS (.one 5) (.seq (.tup (.cons (.slot 4) (.cons (.bop .add (.slot 4) (.const (.int 1))) .nil))))
  (.cons (.asg 6 .val false (.call 8 (.cons (.call 7 (.cons (.slot 5) (.cons (.slot 3) .nil))) (.cons (.call 9 (.cons (.slot 0) .nil)) .nil))))
  (.cons (.asg 7 .val false (.tup (.cons (.call 7 (.cons (.bi .abs (.cons (.idx (.slot 6) (.const (.int 0))) .nil)) (.cons (.idx (.slot 6) (.const (.int 1))) .nil))) (.cons (.call 7 (.cons (.slot 5) (.cons (.slot 3) .nil))) .nil))))
  (.cons (.ifS (.bOr (.cons (.cmp .isN (.slot 2) (.const .non)) (.cons (.call 25 (.cons (.slot 7) (.cons (.slot 2) .nil))) .nil)))
  (.cons (.asg 2 .val false (.slot 7))
  .nil)
  .nil)
  .nil))))
  .nil)))
  (.cons (.ret (.idx (.slot 2) (.const (.int 1))))
  .nil)))))
abbrev N_nearest : List Str := ["one", "most", "best", "other", "low", "number", "far", "key"]
abbrev d_nearest : Df := ⟨"nearest", 2, N_nearest, b_nearest⟩
def b_is_before : DSs := (.cons (.asg 2 .val false (.call 12 (.cons (.call 8 (.cons (.idx (.slot 0) (.const (.int 0))) (.cons (.call 9 (.cons (.idx (.slot 1) (.const (.int 0))) .nil)) .nil))) .nil)))
  (.cons (.ret (.bOr (.cons (.cmp .lt (.slot 2) (.const (.int 0))) (.cons (.bAnd (.cons (.cmp .eq (.slot 2) (.const (.int 0))) (.cons (.cmp .lt (.call 12 (.cons (.call 8 (.cons (.idx (.slot 0) (.const (.int 1))) (.cons (.call 9 (.cons (.idx (.slot 1) (.const (.int 1))) .nil)) .nil))) .nil)) (.const (.int 0))) .nil))) .nil))))
  .nil))
abbrev N_is_before : List Str := ["key", "best", "order"]
abbrev d_is_before : Df := ⟨"is_before", 2, N_is_before, b_is_before⟩
def b__law_draws : DSs := (.cons (.asg 1 .own false (.lst .nil))
  (.cons (.forS (.one 2) (.seq (.slc (.slot 0) .none (.some (.const (.int 63)))))
  (.cons (.asg 3 .val false (.bi .abs (.cons (.slot 2) .nil)))
  (.cons (.ifS (.cmp .ge (.slot 3) (.bop .pow (.const (.int 10)) (.const (.int 18))))
  (.cons (.forS (.one 4) (.rng1 (.const (.int 60)))
  (.cons (.ifS (.cmp .gt (.slot 3) (.const (.int 0)))
  (.cons (.app 1 (.bop .mod (.bi .int (.cons (.slot 3) .nil)) (.const (.int 1009))))
  (.cons (.asg 3 .val false (.bop .fdiv (.slot 3) (.const (.int 1009))))
  .nil))
  .nil)
  .nil))
  .nil)
  (.cons (.asg 5 .val false (.bop .mod (.bi .int (.cons (.bop .add (.bop .mul (.slot 3) (.const (.int 48271))) (.const (.int 11))) .nil)) (.const (.int 2147483647))))
  (.cons (.forS (.one 4) (.rng1 (.const (.int 12)))
  (.cons (.asg 5 .val false (.bop .mod (.bi .int (.cons (.bop .add (.bop .add (.bop .mul (.slot 5) (.const (.int 16807))) (.bop .mul (.const (.int 69621)) (.slot 4))) (.const (.int 5))) .nil)) (.const (.int 2147483629))))
  (.cons (.app 1 (.bop .fdiv (.slot 5) (.const (.int 1009))))
  .nil)))
  .nil)))
  .nil)))
  (.cons (.ret (.slot 1))
  .nil)))
abbrev N__law_draws : List Str := ["script", "draws", "cell", "rest", "k", "mixed"]
abbrev d__law_draws : Df := ⟨"_law_draws", 1, N__law_draws, b__law_draws⟩
def b__law_more : DSs := (.cons (.asg 2 .val false (.bop .mod (.bi .int (.cons (.bop .add (.bop .add (.bop .mul (.slot 1) (.const (.int 48271))) (.bi .len (.cons (.slot 0) .nil))) (.const (.int 11))) .nil)) (.const (.int 2147483629))))
  (.cons (.forS (.one 3) (.rng1 (.const (.int 3)))
  (.cons (.ifS (.slot 0)
  (.cons (.asg 2 .val false (.bop .add (.slot 2) (.idx (.slot 0) (.bop .mod (.bi .int (.cons (.bop .add (.bop .mul (.slot 1) (.bop .add (.slot 3) (.const (.int 5)))) (.slot 3)) .nil)) (.bi .len (.cons (.slot 0) .nil))))))
  .nil)
  .nil)
  (.cons (.asg 2 .val false (.bop .mod (.bi .int (.cons (.bop .add (.bop .add (.bop .mul (.slot 2) (.const (.int 16807))) (.bop .mul (.const (.int 69621)) (.slot 3))) (.const (.int 5))) .nil)) (.const (.int 2147483629))))
  .nil)))
  (.cons (.ret (.bop .fdiv (.slot 2) (.const (.int 1009))))
  .nil)))
abbrev N__law_more : List Str := ["draws", "place", "mixed", "k"]
abbrev d__law_more : Df := ⟨"_law_more", 2, N__law_more, b__law_more⟩
def b__law_take : DSs := (.cons (.asg 3 .val false (.idx (.slot 1) (.const (.int 0))))
  (.cons (.setAt 1 (.const (.int 0)) (.bop .add (.slot 3) (.const (.int 1))))
  (.cons (.ret (.bop .mod (.bi .int (.cons (.ife (.cmp .lt (.slot 3) (.bi .len (.cons (.slot 0) .nil))) (.idx (.slot 0) (.slot 3)) (.call 27 (.cons (.slot 0) (.cons (.slot 3) .nil)))) .nil)) (.slot 2)))
  .nil)))
abbrev N__law_take : List Str := ["draws", "at", "many", "place"]
abbrev d__law_take : Df := ⟨"_law_take", 3, N__law_take, b__law_take⟩
def b__law_one : DSs := (.cons (.ret (.idx (.slot 0) (.call 28 (.cons (.slot 1) (.cons (.slot 2) (.cons (.bi .len (.cons (.slot 0) .nil)) .nil))))))
  .nil)
abbrev N__law_one : List Str := ["rows", "draws", "at"]
abbrev d__law_one : Df := ⟨"_law_one", 3, N__law_one, b__law_one⟩
def b__law_common : DSs := (.cons (.par [0, 1] false (.cons (.bi .abs (.cons (.slot 0) .nil)) (.cons (.bi .abs (.cons (.slot 1) .nil)) .nil)))
  (.cons (.whl (.cmp .gt (.slot 1) (.const (.int 0)))
  (.cons (.par [0, 1] false (.cons (.slot 1) (.cons (.bop .mod (.bi .int (.cons (.slot 0) .nil)) (.slot 1)) .nil)))
  .nil))
  (.cons (.ret (.slot 0))
  .nil)))
abbrev N__law_common : List Str := ["one", "other"]
abbrev d__law_common : Df := ⟨"_law_common", 2, N__law_common, b__law_common⟩
def b__law_made : DSs := (.cons (.asg 2 .val false (.bop .mul (.call 30 (.cons (.slot 0) (.cons (.slot 1) .nil))) (.ife (.cmp .gt (.slot 1) (.const (.int 0))) (.const (.int 1)) (.neg (.const (.int 1))))))
  (.cons (.ret (.tup (.cons (.bop .fdiv (.slot 0) (.slot 2)) (.cons (.bop .fdiv (.slot 1) (.slot 2)) .nil))))
  .nil))
abbrev N__law_made : List Str := ["top", "under", "part"]
abbrev d__law_made : Df := ⟨"_law_made", 2, N__law_made, b__law_made⟩
def b__law_isqrt : DSs := (.cons (.ifS (.cmp .lt (.slot 0) (.const (.int 1)))
  (.cons (.ret (.const (.int 0)))
  .nil)
  .nil)
  (.cons (.asg 1 .val false (.const (.int 1)))
  (.cons (.whl (.cmp .le (.bop .mul (.slot 1) (.slot 1)) (.slot 0))
  (.cons (.asg 1 .val false (.bop .mul (.slot 1) (.const (.int 2))))
  .nil))
  (.cons (.forS (.one 2) (.rng1 (.const (.int 2000)))
  (.cons (.asg 3 .val false (.bop .fdiv (.bop .add (.slot 1) (.bop .fdiv (.slot 0) (.slot 1))) (.const (.int 2))))
  (.cons (.ifS (.cmp .ge (.slot 3) (.slot 1))
  (.cons (.ret (.slot 1))
  .nil)
  .nil)
  (.cons (.asg 1 .val false (.slot 3))
  .nil))))
  (.cons (.ret (.slot 1))
  .nil)))))
abbrev N__law_isqrt : List Str := ["number", "high", "count", "better"]
abbrev d__law_isqrt : Df := ⟨"_law_isqrt", 1, N__law_isqrt, b__law_isqrt⟩
def b__law_told : DSs := (.cons (.tryR (.cons (.ifS (.cmp .lt (.slot 0) (.const (.int 5)))
  (.cons (.asg 4 .val false (.lst (.cons (.const (.fn 15)) (.cons (.const (.fn 16)) (.cons (.const (.fn 17)) (.cons (.const (.fn 18)) (.cons (.const (.fn 19)) .nil)))))))
  (.cons (.ret (.callD (.idx (.slot 4) (.slot 0)) (.cons (.slot 1) (.cons (.slot 2) .nil))))
  .nil))
  .nil)
  (.cons (.ret (.ife (.cmp .eq (.slot 0) (.const (.int 5))) (.call 20 (.cons (.slot 1) .nil)) (.ife (.cmp .eq (.slot 0) (.const (.int 6))) (.call 21 (.cons (.slot 1) .nil)) (.ife (.cmp .eq (.slot 0) (.const (.int 7))) (.call 24 (.cons (.slot 1) (.cons (.slot 2) .nil))) (.call 23 (.cons (.slot 1) .nil))))))
  .nil))
  [([0, 1, 2, 3, 4, 5, 6, 7, 8, 9, 10, 11, 12, 13, 14, 15], .tup [(.const (.str "argument")), (.fld 0)])])
  .nil)
abbrev N__law_told : List Str := ["call", "one", "two", "e", "row"]
abbrev d__law_told : Df := ⟨"_law_told", 3, N__law_told, b__law_told⟩
def b__law_quotients : DSs := (.cons (.asg 1 .val false (.bop .fdiv (.idx (.slot 0) (.const (.int 0))) (.idx (.slot 0) (.const (.int 1)))))
  (.cons (.asg 2 .val false (.bop .sub (.idx (.slot 0) (.const (.int 0))) (.bop .mul (.slot 1) (.idx (.slot 0) (.const (.int 1))))))
  (.cons (.ret (.ife (.cmp .eq (.slot 2) (.const (.int 0))) (.tup (.cons (.slot 1) .nil)) (.bop .add (.tup (.cons (.slot 1) .nil)) (.call 34 (.cons (.tup (.cons (.idx (.slot 0) (.const (.int 1))) (.cons (.slot 2) .nil))) .nil)))))
  .nil)))
abbrev N__law_quotients : List Str := ["one", "whole", "rest"]
abbrev d__law_quotients : Df := ⟨"_law_quotients", 1, N__law_quotients, b__law_quotients⟩
def b__law_from : DSs := (.cons (.ifS (.cmp .eq (.bi .len (.cons (.slot 0) .nil)) (.const (.int 1)))
  (.cons (.ret (.tup (.cons (.idx (.slot 0) (.const (.int 0))) (.cons (.const (.int 1)) .nil))))
  .nil)
  .nil)
  (.cons (.asgT [1, 2] false (.call 35 (.cons (.slc (.slot 0) (.some (.const (.int 1))) .none) .nil)))
  (.cons (.ret (.call 31 (.cons (.bop .add (.bop .mul (.idx (.slot 0) (.const (.int 0))) (.slot 1)) (.slot 2)) (.cons (.slot 1) .nil))))
  .nil)))
abbrev N__law_from : List Str := ["row", "top", "under"]
abbrev d__law_from : Df := ⟨"_law_from", 1, N__law_from, b__law_from⟩
def b__law_nearest : DSs := (.cons (.asg 2 .val false (.const .non))
  (.cons (.forS (.one 3) (.rng2 (.const (.int 1)) (.bop .add (.slot 1) (.const (.int 1))))
  (.cons (.asg 4 .val false (.bop .fdiv (.bop .mul (.idx (.slot 0) (.const (.int 0))) (.slot 3)) (.idx (.slot 0) (.const (.int 1)))))
  (.cons (.forS (.one 5) (.seq (.tup (.cons (.slot 4) (.cons (.bop .add (.slot 4) (.const (.int 1))) .nil))))
  (.cons (.asg 6 .val false (.bi .abs (.cons (.bop .sub (.bop .mul (.slot 5) (.idx (.slot 0) (.const (.int 1)))) (.bop .mul (.idx (.slot 0) (.const (.int 0))) (.slot 3))) .nil)))
  (.cons (.ifS (.bOr (.cons (.cmp .isN (.slot 2) (.const .non)) (.cons (.cmp .lt (.bop .mul (.slot 6) (.idx (.slot 2) (.const (.int 1)))) (.bop .mul (.idx (.slot 2) (.const (.int 2))) (.slot 3))) (.cons (.bAnd (.cons (.cmp .eq (.bop .mul (.slot 6) (.idx (.slot 2) (.const (.int 1)))) (.bop .mul (.idx (.slot 2) (.const (.int 2))) (.slot 3))) (.cons (.cmp .lt (.bop .mul (.slot 5) (.idx (.slot 2) (.const (.int 1)))) (.bop .mul (.idx (.slot 2) (.const (.int 0))) (.slot 3))) .nil))) .nil))))
  (.cons (.asg 2 .val false (.tup (.cons (.slot 5) (.cons (.slot 3) (.cons (.slot 6) .nil)))))
  .nil)
  .nil)
  .nil)))
  .nil)))
  (.cons (.ret (.call 31 (.cons (.idx (.slot 2) (.const (.int 0))) (.cons (.idx (.slot 2) (.const (.int 1))) .nil))))
  .nil)))
abbrev N__law_nearest : List Str := ["one", "most", "best", "under", "low", "top", "far"]
abbrev d__law_nearest : Df := ⟨"_law_nearest", 2, N__law_nearest, b__law_nearest⟩
def b__law_wholes : DSs := (.cons (.asg 2 .val false (.call 29 (.cons (.lst (.cons (.const (.int 1)) (.cons (.const (.int 4)) (.cons (.const (.int 20)) (.cons (.const (.int 1000)) (.cons (.const (.int 1000000)) .nil)))))) (.cons (.slot 0) (.cons (.slot 1) .nil)))))
  (.cons (.ret (.ife (.cmp .lt (.slot 2) (.const (.int 1000))) (.bop .sub (.call 28 (.cons (.slot 0) (.cons (.slot 1) (.cons (.bop .add (.bop .mul (.const (.int 2)) (.slot 2)) (.const (.int 1))) .nil)))) (.slot 2)) (.bop .mul (.call 29 (.cons (.lst (.cons (.const (.int 1)) (.cons (.neg (.const (.int 1))) .nil))) (.cons (.slot 0) (.cons (.slot 1) .nil)))) (.bop .sub (.slot 2) (.call 28 (.cons (.slot 0) (.cons (.slot 1) (.cons (.const (.int 1000)) .nil))))))))
  .nil))
abbrev N__law_wholes : List Str := ["draws", "at", "size"]
abbrev d__law_wholes : Df := ⟨"_law_wholes", 2, N__law_wholes, b__law_wholes⟩
def b_law : DSs := (.cons (.asg 1 .val false (.call 26 (.cons (.slot 0) .nil)))
  (.cons (.asg 2 .cell false (.lst (.cons (.const (.int 0)) .nil)))
  (.cons (.forS (.one 3) (.rng1 (.const (.int 6)))
  (.cons (.par [7, 8] false (.cons (.call 37 (.cons (.slot 1) (.cons (.slot 2) .nil))) (.cons (.call 37 (.cons (.slot 1) (.cons (.slot 2) .nil))) .nil)))
  (.cons (.asg 9 .val false (.ife (.cmp .eq (.slot 8) (.const (.int 0))) (.tup (.cons (.const (.str "argument")) (.cons (.const (.str "other")) .nil))) (.call 31 (.cons (.slot 7) (.cons (.slot 8) .nil)))))
  (.cons (.ifS (.cmp .ne (.bi .repr (.cons (.call 33 (.cons (.const (.int 0)) (.cons (.slot 7) (.cons (.slot 8) .nil)))) .nil)) (.bi .repr (.cons (.slot 9) .nil)))
  (.cons (.ret (.const (.bl false)))
  .nil)
  .nil)
  (.cons (.asg 8 .val false (.ife (.cmp .ne (.slot 8) (.const (.int 0))) (.slot 8) (.const (.int 1))))
  (.cons (.asgT [10, 11] false (.tup (.cons (.call 31 (.cons (.slot 7) (.cons (.slot 8) .nil))) (.cons (.call 31 (.cons (.call 37 (.cons (.slot 1) (.cons (.slot 2) .nil))) (.cons (.call 29 (.cons (.lst (.cons (.const (.int 1)) (.cons (.const (.int 2)) (.cons (.const (.int 3)) (.cons (.const (.int 7)) (.cons (.const (.int 999983)) .nil)))))) (.cons (.slot 1) (.cons (.slot 2) .nil)))) .nil))) .nil))))
  (.cons (.asg 12 .val false (.bop .sub (.bop .mul (.idx (.slot 10) (.const (.int 0))) (.idx (.slot 11) (.const (.int 1)))) (.bop .mul (.idx (.slot 11) (.const (.int 0))) (.idx (.slot 10) (.const (.int 1))))))
  (.cons (.asg 9 .own false (.lst (.cons (.call 31 (.cons (.bop .add (.bop .mul (.idx (.slot 10) (.const (.int 0))) (.idx (.slot 11) (.const (.int 1)))) (.bop .mul (.idx (.slot 11) (.const (.int 0))) (.idx (.slot 10) (.const (.int 1))))) (.cons (.bop .mul (.idx (.slot 10) (.const (.int 1))) (.idx (.slot 11) (.const (.int 1)))) .nil))) (.cons (.call 31 (.cons (.bop .mul (.idx (.slot 10) (.const (.int 0))) (.idx (.slot 11) (.const (.int 0)))) (.cons (.bop .mul (.idx (.slot 10) (.const (.int 1))) (.idx (.slot 11) (.const (.int 1)))) .nil))) .nil))))
  (.cons (.app 9 (.ife (.cmp .eq (.idx (.slot 11) (.const (.int 0))) (.const (.int 0))) (.tup (.cons (.const (.str "argument")) (.cons (.const (.str "other")) .nil))) (.call 31 (.cons (.bop .mul (.idx (.slot 10) (.const (.int 0))) (.idx (.slot 11) (.const (.int 1)))) (.cons (.bop .mul (.idx (.slot 10) (.const (.int 1))) (.idx (.slot 11) (.const (.int 0)))) .nil)))))
  (.cons (.ifS (.cmp .ne (.bi .repr (.cons (.lc [19] (.one 19) (.seq (.tup (.cons (.const (.int 1)) (.cons (.const (.int 2)) (.cons (.const (.int 3)) (.cons (.const (.int 4)) .nil)))))) .none (.call 33 (.cons (.slot 19) (.cons (.slot 10) (.cons (.slot 11) .nil))))) .nil)) (.bi .repr (.cons (.bop .add (.slot 9) (.lst (.cons (.bop .sub (.bi .int (.cons (.cmp .gt (.slot 12) (.const (.int 0))) .nil)) (.bi .int (.cons (.cmp .lt (.slot 12) (.const (.int 0))) .nil))) .nil))) .nil)))
  (.cons (.ret (.const (.bl false)))
  .nil)
  .nil)
  (.cons (.asg 13 .val false (.call 29 (.cons (.lst (.cons (.slot 10) (.cons (.ife (.bAnd (.cons (.cmp .lt (.bi .abs (.cons (.idx (.slot 10) (.const (.int 0))) .nil)) (.const (.int 1001))) (.cons (.cmp .lt (.idx (.slot 10) (.const (.int 1))) (.const (.int 1001))) .nil))) (.tup (.cons (.bop .mul (.idx (.slot 10) (.const (.int 0))) (.idx (.slot 10) (.const (.int 0)))) (.cons (.bop .mul (.idx (.slot 10) (.const (.int 1))) (.idx (.slot 10) (.const (.int 1)))) .nil))) (.slot 10)) (.cons (.tup (.cons (.bi .abs (.cons (.idx (.slot 10) (.const (.int 0))) .nil)) (.cons (.idx (.slot 10) (.const (.int 1))) .nil))) .nil)))) (.cons (.slot 1) (.cons (.slot 2) .nil)))))
  (.cons (.asg 14 .val false (.tup (.cons (.call 32 (.cons (.idx (.slot 13) (.const (.int 0))) .nil)) (.cons (.call 32 (.cons (.idx (.slot 13) (.const (.int 1))) .nil)) .nil))))
  (.cons (.asg 9 .val false (.ife (.cmp .eq (.tup (.cons (.bop .mul (.idx (.slot 14) (.const (.int 0))) (.idx (.slot 14) (.const (.int 0)))) (.cons (.bop .mul (.idx (.slot 14) (.const (.int 1))) (.idx (.slot 14) (.const (.int 1)))) .nil))) (.slot 13)) (.slot 14) (.const .non)))
  (.cons (.asg 15 .val false (.call 34 (.cons (.slot 10) .nil)))
  (.cons (.ifS (.bOr (.cons (.cmp .ne (.bi .repr (.cons (.lst (.cons (.call 33 (.cons (.const (.int 5)) (.cons (.slot 13) (.cons (.const .non) .nil)))) (.cons (.call 33 (.cons (.const (.int 6)) (.cons (.slot 10) (.cons (.const .non) .nil)))) .nil))) .nil)) (.bi .repr (.cons (.lst (.cons (.slot 9) (.cons (.slot 15) .nil))) .nil))) (.cons (.cmp .ne (.bi .repr (.cons (.call 33 (.cons (.const (.int 8)) (.cons (.slc (.slot 15) .none (.some (.const (.int 30)))) (.cons (.const .non) .nil)))) .nil)) (.bi .repr (.cons (.call 35 (.cons (.slc (.slot 15) .none (.some (.const (.int 30)))) .nil)) .nil))) .nil)))
  (.cons (.ret (.const (.bl false)))
  .nil)
  .nil)
  (.cons (.asg 16 .val false (.call 29 (.cons (.lst (.cons (.const (.int 1)) (.cons (.const (.int 2)) (.cons (.const (.int 7)) (.cons (.const (.int 30)) .nil))))) (.cons (.slot 1) (.cons (.slot 2) .nil)))))
  (.cons (.ifS (.cmp .ne (.bi .repr (.cons (.call 33 (.cons (.const (.int 7)) (.cons (.slot 10) (.cons (.slot 16) .nil)))) .nil)) (.bi .repr (.cons (.call 36 (.cons (.slot 10) (.cons (.slot 16) .nil))) .nil)))
  (.cons (.ret (.const (.bl false)))
  .nil)
  .nil)
  (.cons (.asg 17 .val false (.bop .add (.tup (.cons (.call 37 (.cons (.slot 1) (.cons (.slot 2) .nil))) .nil)) (.bi .tuple (.cons (.lc [20] (.one 20) (.rng1 (.call 28 (.cons (.slot 1) (.cons (.slot 2) (.cons (.const (.int 8)) .nil))))) .none (.bop .add (.const (.int 1)) (.call 28 (.cons (.slot 1) (.cons (.slot 2) (.cons (.const (.int 9)) .nil)))))) .nil))))
  (.cons (.ifS (.cmp .ne (.bi .repr (.cons (.call 33 (.cons (.const (.int 8)) (.cons (.slot 17) (.cons (.const .non) .nil)))) .nil)) (.bi .repr (.cons (.call 35 (.cons (.slot 17) .nil)) .nil)))
  (.cons (.ret (.const (.bl false)))
  .nil)
  .nil)
  .nil)))))))))))))))))))
  (.cons (.asg 4 .val false (.call 29 (.cons (.lst (.cons (.const .non) (.cons (.const (.int 5)) (.cons (.tup (.cons (.const (.int 1)) (.cons (.const (.int 0)) .nil))) (.cons (.tup (.cons (.const (.int 2)) (.cons (.const (.int 4)) .nil))) (.cons (.tup (.cons (.const (.int 1)) (.cons (.neg (.const (.int 2))) .nil))) (.cons (.tup (.cons (.const (.int 0)) (.cons (.const (.int 2)) .nil))) (.cons (.tup (.cons (.const (.bl true)) (.cons (.const (.int 1)) .nil))) (.cons (.tup (.cons (.const (.int 1)) .nil)) (.cons (.tup (.cons (.const (.int 1000001)) (.cons (.const (.int 1)) .nil))) (.cons (.tup (.cons (.const (.int 1)) (.cons (.const (.int 1000001)) .nil))) (.cons (.const (.str "1/2")) .nil)))))))))))) (.cons (.slot 1) (.cons (.slot 2) .nil)))))
  (.cons (.ifS (.bOr (.cons (.cmp .ne (.lc [19] (.one 19) (.seq (.tup (.cons (.const (.int 1)) (.cons (.const (.int 2)) (.cons (.const (.int 3)) (.cons (.const (.int 4)) (.cons (.const (.int 5)) (.cons (.const (.int 6)) (.cons (.const (.int 7)) .nil))))))))) .none (.call 33 (.cons (.slot 19) (.cons (.slot 4) (.cons (.tup (.cons (.const (.int 1)) (.cons (.const (.int 2)) .nil))) .nil))))) (.bop .mul (.lst (.cons (.tup (.cons (.const (.str "argument")) (.cons (.const (.str "one")) .nil))) .nil)) (.const (.int 7)))) (.cons (.cmp .ne (.lc [19] (.one 19) (.seq (.tup (.cons (.const (.int 1)) (.cons (.const (.int 2)) (.cons (.const (.int 3)) (.cons (.const (.int 4)) .nil)))))) .none (.call 33 (.cons (.slot 19) (.cons (.tup (.cons (.const (.int 1)) (.cons (.const (.int 2)) .nil))) (.cons (.slot 4) .nil))))) (.bop .mul (.lst (.cons (.tup (.cons (.const (.str "argument")) (.cons (.const (.str "other")) .nil))) .nil)) (.const (.int 4)))) .nil)))
  (.cons (.ret (.const (.bl false)))
  .nil)
  .nil)
  (.cons (.asg 5 .val false (.call 29 (.cons (.lst (.cons (.const .non) (.cons (.const (.bl true)) (.cons (.const (.int 1000001)) (.cons (.neg (.const (.int 1000001))) (.cons (.const (.str "1")) .nil)))))) (.cons (.slot 1) (.cons (.slot 2) .nil)))))
  (.cons (.ifS (.cmp .ne (.lst (.cons (.call 33 (.cons (.const (.int 0)) (.cons (.slot 5) (.cons (.const (.int 0)) .nil)))) (.cons (.call 33 (.cons (.const (.int 0)) (.cons (.const (.int 1)) (.cons (.slot 5) .nil)))) (.cons (.call 33 (.cons (.const (.int 7)) (.cons (.tup (.cons (.const (.int 1)) (.cons (.const (.int 2)) .nil))) (.cons (.call 29 (.cons (.lst (.cons (.const (.int 0)) (.cons (.const (.int 1001)) (.cons (.const .non) (.cons (.const (.bl true)) .nil))))) (.cons (.slot 1) (.cons (.slot 2) .nil)))) .nil)))) .nil)))) (.lc [18] (.one 18) (.seq (.lst (.cons (.const (.str "number")) (.cons (.const (.str "other")) (.cons (.const (.str "most")) .nil))))) .none (.tup (.cons (.const (.str "argument")) (.cons (.slot 18) .nil)))))
  (.cons (.ret (.const (.bl false)))
  .nil)
  .nil)
  (.cons (.asg 6 .val false (.call 29 (.cons (.lst (.cons (.const .non) (.cons (.tup .nil) (.cons (.tup (.cons (.const (.int 1)) (.cons (.const (.int 0)) .nil))) (.cons (.tup (.cons (.const (.int 1)) (.cons (.neg (.const (.int 1))) .nil))) (.cons (.tup (.cons (.const (.bl true)) .nil)) (.cons (.tup (.cons (.const (.int 1000001)) .nil)) (.cons (.bop .mul (.tup (.cons (.const (.int 1)) .nil)) (.const (.int 31))) (.cons (.lst (.cons (.const (.int 1)) (.cons (.const (.int 2)) .nil))) (.cons (.tup (.cons (.const (.int 1)) (.cons (.const (.int 1000001)) .nil))) .nil)))))))))) (.cons (.slot 1) (.cons (.slot 2) .nil)))))
  (.cons (.ret (.cmp .eq (.call 33 (.cons (.const (.int 8)) (.cons (.slot 6) (.cons (.const .non) .nil)))) (.tup (.cons (.const (.str "argument")) (.cons (.const (.str "row")) .nil)))))
  .nil)))))))))
abbrev N_law : List Str := ["script", "draws", "at", "turn", "bad", "odd", "wrong", "top", "under", "due", "one", "other", "order", "square", "parts", "own", "most", "row", "reason", "call", "k"]
abbrev d_law : Df := ⟨"law", 1, N_law, b_law⟩
def T : List Df := [d_is_integer, d_in_range, d_common, d_whole_root, d_is_fraction, d_is_small, d_demand_fraction, d_made, d_added, d_negated, d_multiplied, d_turned, d_sign_of, d_root_of, d_demand_two, d_fraction, d_plus, d_times, d_over, d_compare, d_root, d_quotients, d_demand_row, d_from_quotients, d_nearest, d_is_before, d__law_draws, d__law_more, d__law_take, d__law_one, d__law_common, d__law_made, d__law_isqrt, d__law_told, d__law_quotients, d__law_from, d__law_nearest, d__law_wholes, d_law]
abbrev F : List Str := [("is_integer" : Str), ("in_range" : Str), ("common" : Str), ("whole_root" : Str), ("is_fraction" : Str), ("is_small" : Str), ("demand_fraction" : Str), ("made" : Str), ("added" : Str), ("negated" : Str), ("multiplied" : Str), ("turned" : Str), ("sign_of" : Str), ("root_of" : Str), ("demand_two" : Str), ("fraction" : Str), ("plus" : Str), ("times" : Str), ("over" : Str), ("compare" : Str), ("root" : Str), ("quotients" : Str), ("demand_row" : Str), ("from_quotients" : Str), ("nearest" : Str), ("is_before" : Str), ("_law_draws" : Str), ("_law_more" : Str), ("_law_take" : Str), ("_law_one" : Str), ("_law_common" : Str), ("_law_made" : Str), ("_law_isqrt" : Str), ("_law_told" : Str), ("_law_quotients" : Str), ("_law_from" : Str), ("_law_nearest" : Str), ("_law_wholes" : Str), ("law" : Str)]
abbrev lawIx : Nat := 38
end K30

end
section
set_option maxRecDepth 100000
set_option maxHeartbeats 8000000
namespace K30
open PySem DI L2 PySem.W
abbrev G : List (Str × D) := [("MAX_NUMBER", (.int 1000000))]
abbrev C : List Str := ["ArgumentError"]
abbrev CP : List Str := ["ArgumentError", "ArgumentError", "ArgumentError", "ArgumentError", "ArgumentError", "ArgumentError", "ArgumentError", "ArgumentError", "ArgumentError", "ArgumentError", "ArgumentError", "ArgumentError", "ArgumentError", "ArgumentError", "ArgumentError", "ArgumentError"]
abbrev EX : List (Str × List Nat) := [("ArgumentError", [0, 1, 2, 3, 4, 5, 6, 7, 8, 9, 10, 11, 12, 13, 14, 15]), ("DrawnError", [0, 1, 2, 3, 4, 5, 6, 7, 8, 9, 10, 11, 12, 13, 14, 15])]
abbrev FN : List (List Str) := [["reason"], ["reason"], ["reason"], ["reason"], ["reason"], ["reason"], ["reason"], ["reason"], ["reason"], ["reason"], ["reason"], ["reason"], ["reason"], ["reason"], ["reason"], ["reason"]]
/-- the i-th statement of the top -/
def top (i : Nat) : Stmt := PySem.Challenge.pw_drawnwrought_k30_whole_fractions.main.body.getD i (.Pass ⟨0, 0, 0, 0⟩)
def inC (i : Nat) : Stmt := match top i with
  | .ClassDef _ _ _ b _ _ _ _ _ _ _ => b.getD 0 (.Pass ⟨0, 0, 0, 0⟩)
  | s => s
def errs : List ErrD := [⟨"ArgumentError", "ReasonError", "reason"⟩, ⟨"ArgumentError", "ReasonError", "reason"⟩, ⟨"ArgumentError", "ReasonError", "reason"⟩, ⟨"ArgumentError", "ReasonError", "reason"⟩, ⟨"ArgumentError", "ReasonError", "reason"⟩, ⟨"ArgumentError", "ReasonError", "reason"⟩, ⟨"ArgumentError", "ReasonError", "reason"⟩, ⟨"ArgumentError", "ReasonError", "reason"⟩, ⟨"ArgumentError", "ReasonError", "reason"⟩, ⟨"ArgumentError", "ReasonError", "reason"⟩, ⟨"ArgumentError", "ReasonError", "reason"⟩, ⟨"ArgumentError", "ReasonError", "reason"⟩, ⟨"ArgumentError", "ReasonError", "reason"⟩, ⟨"ArgumentError", "ReasonError", "reason"⟩, ⟨"ArgumentError", "ReasonError", "reason"⟩, ⟨"ArgumentError", "ReasonError", "reason"⟩]
def fn : List He.DefD := [⟨("is_integer", none), "is_integer", "is_integer", defArgs (top 1), defBody (top 1), defScope (top 1), [], []⟩,
  ⟨("in_range", none), "in_range", "in_range", defArgs (top 2), defBody (top 2), defScope (top 2), [], []⟩,
  ⟨("common", none), "common", "common", defArgs (top 3), defBody (top 3), defScope (top 3), [], []⟩,
  ⟨("whole_root", none), "whole_root", "whole_root", defArgs (top 4), defBody (top 4), defScope (top 4), [], []⟩,
  ⟨("is_fraction", none), "is_fraction", "is_fraction", defArgs (top 11), defBody (top 11), defScope (top 11), [], []⟩,
  ⟨("is_small", none), "is_small", "is_small", defArgs (top 12), defBody (top 12), defScope (top 12), [], []⟩,
  ⟨("demand_fraction", none), "demand_fraction", "demand_fraction", defArgs (top 13), defBody (top 13), defScope (top 13), [], []⟩,
  ⟨("made", none), "made", "made", defArgs (top 14), defBody (top 14), defScope (top 14), [], []⟩,
  ⟨("added", none), "added", "added", defArgs (top 15), defBody (top 15), defScope (top 15), [], []⟩,
  ⟨("negated", none), "negated", "negated", defArgs (top 16), defBody (top 16), defScope (top 16), [], []⟩,
  ⟨("multiplied", none), "multiplied", "multiplied", defArgs (top 17), defBody (top 17), defScope (top 17), [], []⟩,
  ⟨("turned", none), "turned", "turned", defArgs (top 18), defBody (top 18), defScope (top 18), [], []⟩,
  ⟨("sign_of", none), "sign_of", "sign_of", defArgs (top 19), defBody (top 19), defScope (top 19), [], []⟩,
  ⟨("root_of", none), "root_of", "root_of", defArgs (top 20), defBody (top 20), defScope (top 20), [], []⟩,
  ⟨("demand_two", none), "demand_two", "demand_two", defArgs (top 21), defBody (top 21), defScope (top 21), [], []⟩,
  ⟨("fraction", none), "fraction", "fraction", defArgs (top 22), defBody (top 22), defScope (top 22), [], []⟩,
  ⟨("plus", none), "plus", "plus", defArgs (top 23), defBody (top 23), defScope (top 23), [], []⟩,
  ⟨("times", none), "times", "times", defArgs (top 24), defBody (top 24), defScope (top 24), [], []⟩,
  ⟨("over", none), "over", "over", defArgs (top 25), defBody (top 25), defScope (top 25), [], []⟩,
  ⟨("compare", none), "compare", "compare", defArgs (top 26), defBody (top 26), defScope (top 26), [], []⟩,
  ⟨("root", none), "root", "root", defArgs (top 27), defBody (top 27), defScope (top 27), [], []⟩,
  ⟨("quotients", none), "quotients", "quotients", defArgs (top 28), defBody (top 28), defScope (top 28), [], []⟩,
  ⟨("demand_row", none), "demand_row", "demand_row", defArgs (top 29), defBody (top 29), defScope (top 29), [], []⟩,
  ⟨("from_quotients", none), "from_quotients", "from_quotients", defArgs (top 30), defBody (top 30), defScope (top 30), [], []⟩,
  ⟨("nearest", none), "nearest", "nearest", defArgs (top 31), defBody (top 31), defScope (top 31), [], []⟩,
  ⟨("is_before", none), "is_before", "is_before", defArgs (top 32), defBody (top 32), defScope (top 32), [], []⟩,
  ⟨("_law_draws", none), "_law_draws", "_law_draws", defArgs (top 34), defBody (top 34), defScope (top 34), [], []⟩,
  ⟨("_law_more", none), "_law_more", "_law_more", defArgs (top 35), defBody (top 35), defScope (top 35), [], []⟩,
  ⟨("_law_take", none), "_law_take", "_law_take", defArgs (top 36), defBody (top 36), defScope (top 36), [], []⟩,
  ⟨("_law_one", none), "_law_one", "_law_one", defArgs (top 37), defBody (top 37), defScope (top 37), [], []⟩,
  ⟨("_law_common", none), "_law_common", "_law_common", defArgs (top 38), defBody (top 38), defScope (top 38), [], []⟩,
  ⟨("_law_made", none), "_law_made", "_law_made", defArgs (top 39), defBody (top 39), defScope (top 39), [], []⟩,
  ⟨("_law_isqrt", none), "_law_isqrt", "_law_isqrt", defArgs (top 40), defBody (top 40), defScope (top 40), [], []⟩,
  ⟨("_law_told", none), "_law_told", "_law_told", defArgs (top 41), defBody (top 41), defScope (top 41), [], []⟩,
  ⟨("_law_quotients", none), "_law_quotients", "_law_quotients", defArgs (top 42), defBody (top 42), defScope (top 42), [], []⟩,
  ⟨("_law_from", none), "_law_from", "_law_from", defArgs (top 43), defBody (top 43), defScope (top 43), [], []⟩,
  ⟨("_law_nearest", none), "_law_nearest", "_law_nearest", defArgs (top 44), defBody (top 44), defScope (top 44), [], []⟩,
  ⟨("_law_wholes", none), "_law_wholes", "_law_wholes", defArgs (top 45), defBody (top 45), defScope (top 45), [], []⟩,
  ⟨("law", none), "law", "law", defArgs (top 46), defBody (top 46), defScope (top 46), [], []⟩]
def ins : List InitD := [⟨"ReasonError", "ReasonError.__init__", defArgs (inC 7), defBody (inC 7), defScope (inC 7)⟩]
def L : LawD := ⟨F, G, errs, 1, EX, T, fn, ins, "/claim/cut.py"⟩
abbrev lawTop : Nat := 46
abbrev loose : List Str := [("__name__" : Str), ("is_integer" : Str), ("in_range" : Str), ("common" : Str), ("whole_root" : Str), ("DrawnError" : Str), ("ReasonError" : Str), ("ArgumentError" : Str), ("MAX_NUMBER" : Str), ("is_fraction" : Str), ("is_small" : Str), ("demand_fraction" : Str), ("made" : Str), ("added" : Str), ("negated" : Str), ("multiplied" : Str), ("turned" : Str), ("sign_of" : Str), ("root_of" : Str), ("demand_two" : Str), ("fraction" : Str), ("plus" : Str), ("times" : Str), ("over" : Str), ("compare" : Str), ("root" : Str), ("quotients" : Str), ("demand_row" : Str), ("from_quotients" : Str), ("nearest" : Str), ("is_before" : Str), ("_law_draws" : Str), ("_law_more" : Str), ("_law_take" : Str), ("_law_one" : Str), ("_law_common" : Str), ("_law_made" : Str), ("_law_isqrt" : Str), ("_law_told" : Str), ("_law_quotients" : Str), ("_law_from" : Str), ("_law_nearest" : Str), ("_law_wholes" : Str)]
theorem looks : defsB L L.fn L.T L.F = true := by kernel_rfl
theorem binds : BindAll L.fn L.T := ⟨fun _ _ _ _ _ _ us hl => match us, hl with | [_], _ => rfl, fun _ _ _ _ _ _ us hl => match us, hl with | [_, _, _], _ => rfl, fun _ _ _ _ _ _ us hl => match us, hl with | [_, _], _ => rfl, fun _ _ _ _ _ _ us hl => match us, hl with | [_], _ => rfl, fun _ _ _ _ _ _ us hl => match us, hl with | [_], _ => rfl, fun _ _ _ _ _ _ us hl => match us, hl with | [_], _ => rfl, fun _ _ _ _ _ _ us hl => match us, hl with | [_, _], _ => rfl, fun _ _ _ _ _ _ us hl => match us, hl with | [_, _], _ => rfl, fun _ _ _ _ _ _ us hl => match us, hl with | [_, _], _ => rfl, fun _ _ _ _ _ _ us hl => match us, hl with | [_], _ => rfl, fun _ _ _ _ _ _ us hl => match us, hl with | [_, _], _ => rfl, fun _ _ _ _ _ _ us hl => match us, hl with | [_], _ => rfl, fun _ _ _ _ _ _ us hl => match us, hl with | [_], _ => rfl, fun _ _ _ _ _ _ us hl => match us, hl with | [_], _ => rfl, fun _ _ _ _ _ _ us hl => match us, hl with | [_, _], _ => rfl, fun _ _ _ _ _ _ us hl => match us, hl with | [_, _], _ => rfl, fun _ _ _ _ _ _ us hl => match us, hl with | [_, _], _ => rfl, fun _ _ _ _ _ _ us hl => match us, hl with | [_, _], _ => rfl, fun _ _ _ _ _ _ us hl => match us, hl with | [_, _], _ => rfl, fun _ _ _ _ _ _ us hl => match us, hl with | [_, _], _ => rfl, fun _ _ _ _ _ _ us hl => match us, hl with | [_], _ => rfl, fun _ _ _ _ _ _ us hl => match us, hl with | [_], _ => rfl, fun _ _ _ _ _ _ us hl => match us, hl with | [_], _ => rfl, fun _ _ _ _ _ _ us hl => match us, hl with | [_], _ => rfl, fun _ _ _ _ _ _ us hl => match us, hl with | [_, _], _ => rfl, fun _ _ _ _ _ _ us hl => match us, hl with | [_, _], _ => rfl, fun _ _ _ _ _ _ us hl => match us, hl with | [_], _ => rfl, fun _ _ _ _ _ _ us hl => match us, hl with | [_, _], _ => rfl, fun _ _ _ _ _ _ us hl => match us, hl with | [_, _, _], _ => rfl, fun _ _ _ _ _ _ us hl => match us, hl with | [_, _, _], _ => rfl, fun _ _ _ _ _ _ us hl => match us, hl with | [_, _], _ => rfl, fun _ _ _ _ _ _ us hl => match us, hl with | [_, _], _ => rfl, fun _ _ _ _ _ _ us hl => match us, hl with | [_], _ => rfl, fun _ _ _ _ _ _ us hl => match us, hl with | [_, _, _], _ => rfl, fun _ _ _ _ _ _ us hl => match us, hl with | [_], _ => rfl, fun _ _ _ _ _ _ us hl => match us, hl with | [_], _ => rfl, fun _ _ _ _ _ _ us hl => match us, hl with | [_, _], _ => rfl, fun _ _ _ _ _ _ us hl => match us, hl with | [_, _], _ => rfl, fun _ _ _ _ _ _ us hl => match us, hl with | [_], _ => rfl, trivial⟩
end K30

end
section
set_option maxRecDepth 100000
set_option maxHeartbeats 0
namespace K30
open PySem PySem.Spec PyProof.Rows L2 PySem.W DI
abbrev R : OpenRow := OpenLaw.row PySem.Challenge.rw_drawnwrought_k30_whole_fractions
abbrev hk : Hook := hookJ 6 [] L.fn L.ex L.ins
def ob (s : SharedT) : AlJ := obsJG 6 [] L.fn L.ex L.ins (HandSHeadRun.getT s)
theorem ob_eq (s : SharedT) : ob s = hk.obs s.abs := obsJG_eq (HandSHeadRun.getT_eq s)
theorem run (w : World) : HandSHeadRun.RunEq R (view R.prog [lawTop]) hk ob 6000 loose w := by
  intro os
  kernel_rfl
end K30

end
section
set_option maxRecDepth 100000
/-! P0: rewriting rules for the interpreter; loops. -/
namespace DI
open PySem L2
section
variable {α β : Type} {S S' : Sto} {ρ : Calls} {σ : List Slot}
@[simp] theorem r_bind_ok (a : α) (f : α → Sto → Res β) : (Res.ok a S).bind f = f a S := rfl
@[simp] theorem r_bind_exc (c : Nat) (fs : List D) (f : α → Sto → Res β) : (Res.exc c fs S).bind f = .exc c fs S := rfl
@[simp] theorem r_bind_bad (f : α → Sto → Res β) : (Res.bad : Res α).bind f = .bad := rfl
@[simp] theorem r_quiet_ok (a : α) : (Res.ok a S).quiet = .ok a S := rfl
@[simp] theorem r_ofO_some (a : α) : ofO (some a) S = .ok a S := rfl
@[simp] theorem r_ofO_none : ofO (none : Option α) S = .bad := rfl
@[simp] theorem e_slot (i : Nat) : evE ρ (.slot i) σ S = (match σ[i]? with
    | some (.val d) => .ok d S
    | some (.own ds) => .ok (.lst ds) S
    | _ => .bad) := rfl
@[simp] theorem e_const (d : D) : evE ρ (.const d) σ S = .ok d S := rfl
@[simp] theorem e_glob (x : Str) (d : D) : evE ρ (.glob x d) σ S = .ok d S := rfl
@[simp] theorem e_bop (o : Bop) (a b : DE) : evE ρ (.bop o a b) σ S = (evE ρ a σ S).bind fun x S1 => (evE ρ b σ S1).bind fun y S2 => ofO (binop o x y) S2 := rfl
@[simp] theorem e_neg (a : DE) : evE ρ (.neg a) σ S = (evE ρ a σ S).bind fun x S1 => ofO (negD x) S1 := rfl
@[simp] theorem e_cmp (o : Cop) (a b : DE) : evE ρ (.cmp o a b) σ S = (evE ρ a σ S).bind fun x S1 => (evE ρ b σ S1).bind fun y S2 => ofO (cmpD o x y) S2 := rfl
@[simp] theorem e_chain (o p : Cop) (a b c : DE) : evE ρ (.chain o p a b c) σ S = (evE ρ a σ S).bind fun x S1 => (evE ρ b σ S1).bind fun y S2 => (ofO (cmpD o x y) S2).bind fun k S3 => (match k with
    | .bl true => (evE ρ c σ S3).bind fun z S4 => ofO (cmpD p y z) S4
    | .bl false => .ok (.bl false) S3
    | _ => .bad) := rfl
@[simp] theorem e_not (a : DE) : evE ρ (.notE a) σ S = (evE ρ a σ S).bind fun x S1 => (ofO (truth x) S1).bind fun k S2 => .ok (.bl (!k)) S2 := rfl
@[simp] theorem e_and (es : DEs) : evE ρ (.bAnd es) σ S = evAnd ρ es σ S := rfl
@[simp] theorem e_or (es : DEs) : evE ρ (.bOr es) σ S = evOr ρ es σ S := rfl
@[simp] theorem e_ife (c a b : DE) : evE ρ (.ife c a b) σ S = (evE ρ c σ S).bind fun x S1 => (ofO (truth x) S1).bind fun k S2 => if k = true then evE ρ a σ S2 else evE ρ b σ S2 := rfl
@[simp] theorem e_tup (es : DEs) : evE ρ (.tup es) σ S = (evEs ρ es σ S).bind fun xs S1 => if fits xs.length then .ok (.tup xs) S1 else .bad := rfl
@[simp] theorem e_lst (es : DEs) : evE ρ (.lst es) σ S = (evEs ρ es σ S).bind fun xs S1 => if fits xs.length then .ok (.lst xs) S1 else .bad := rfl
@[simp] theorem e_idx (a b : DE) : evE ρ (.idx a b) σ S = (evE ρ a σ S).bind fun x S1 => (evE ρ b σ S1).bind fun y S2 => ofO (idxD S2 x y) S2 := rfl
@[simp] theorem e_slc (a : DE) (lo hi : DO) : evE ρ (.slc a lo hi) σ S = (evE ρ a σ S).bind fun x S1 => (evO ρ lo σ S1).bind fun l S2 => (ofO (intO l) S2).bind fun l S2 => (evO ρ hi σ S2).bind fun h S3 => (ofO (intO h) S3).bind fun h S3 => ofO (slcD x l h) S3 := rfl
@[simp] theorem e_slcR (a : DE) (lo : DO) : evE ρ (.slcR a lo) σ S = (evE ρ a σ S).bind fun x S1 => (evO ρ lo σ S1).bind fun l S2 => (ofO (intO l) S2).bind fun l S2 => ofO (slcRD x l) S2 := rfl
@[simp] theorem e_call (f : Nat) (es : DEs) : evE ρ (.call f es) σ S = (evEs ρ es σ S).bind fun xs S1 => ρ f xs S1 := rfl
@[simp] theorem e_callD (g : DE) (es : DEs) : evE ρ (.callD g es) σ S = (evE ρ g σ S).bind fun x S1 => (match x with
    | .fn f => (evEs ρ es σ S1).bind fun xs S2 => ρ f xs S2
    | _ => .bad) := rfl
@[simp] theorem e_bi (b : Bi) (es : DEs) : evE ρ (.bi b es) σ S = (evEs ρ es σ S).bind fun xs S1 => ofO (biD b S1 xs) S1 := rfl
@[simp] theorem e_isi (a : DE) (t : Ty) : evE ρ (.isi a t) σ S = (evE ρ a σ S).bind fun x S1 => ofO ((isTy t x).map .bl) S1 := rfl
@[simp] theorem e_lc (vs : List Nat) (t : DT) (src : DIt) (ifs : DO) (elt : DE) : evE ρ (.lc vs t src ifs elt) σ S = (evI ρ src σ S).bind fun ds S1 => ((lcL t (fun σ S => (evO ρ ifs σ S).bind fun o S => (match o with
      | none => .ok true S
      | some x => ofO (truth x) S)) (fun σ S => evE ρ elt σ S) (wipeD σ vs) ds S1).quiet).bind fun xs S2 => if fits xs.length then .ok (.lst xs) S2 else .bad := rfl
@[simp] theorem es_nil : evEs ρ .nil σ S = .ok [] S := rfl
@[simp] theorem es_cons (e : DE) (es : DEs) : evEs ρ (.cons e es) σ S = (evE ρ e σ S).bind fun x S1 => (evEs ρ es σ S1).bind fun xs S2 => .ok (x :: xs) S2 := rfl
@[simp] theorem and_one (e : DE) : evAnd ρ (.cons e .nil) σ S = evE ρ e σ S := rfl
@[simp] theorem and_cons (e e2 : DE) (es : DEs) : evAnd ρ (.cons e (.cons e2 es)) σ S = (evE ρ e σ S).bind fun x S1 => (ofO (truth x) S1).bind fun k S2 => if k = true then evAnd ρ (.cons e2 es) σ S2 else .ok x S2 := rfl
@[simp] theorem or_one (e : DE) : evOr ρ (.cons e .nil) σ S = evE ρ e σ S := rfl
@[simp] theorem or_cons (e e2 : DE) (es : DEs) : evOr ρ (.cons e (.cons e2 es)) σ S = (evE ρ e σ S).bind fun x S1 => (ofO (truth x) S1).bind fun k S2 => if k = true then .ok x S2 else evOr ρ (.cons e2 es) σ S2 := rfl
@[simp] theorem o_none : evO ρ .none σ S = .ok none S := rfl
@[simp] theorem o_some (e : DE) : evO ρ (.some e) σ S = (evE ρ e σ S).bind fun x S1 => .ok (some x) S1 := rfl
@[simp] theorem i_seq (e : DE) : evI ρ (.seq e) σ S = (evE ρ e σ S).bind fun x S1 => ofO (itemsD x) S1 := rfl
@[simp] theorem i_rng1 (a : DE) : evI ρ (.rng1 a) σ S = (evE ρ a σ S).bind fun x S1 => (match x with
    | .int j => if smallI j then .ok (rngL 0 j.toNat) S1 else .bad
    | _ => .bad) := rfl
@[simp] theorem i_rng2 (a b : DE) : evI ρ (.rng2 a b) σ S = (evE ρ a σ S).bind fun x S1 => (evE ρ b σ S1).bind fun y S2 => (match x, y with
    | .int i, .int j => if smallI i && smallI j then .ok (rngL i (j - i).toNat) S2 else .bad
    | _, _ => .bad) := rfl
@[simp] theorem i_zip (a b : DE) : evI ρ (.zip a b) σ S = (evE ρ a σ S).bind fun x S1 => (evE ρ b σ S1).bind fun y S2 => (match itemsD x, itemsD y with
    | some xs, some ys => .ok ((xs.zip ys).map fun p => .tup [p.1, p.2]) S2
    | _, _ => .bad) := rfl
@[simp] theorem s_nil : exSs ρ .nil σ S = .ok (.next σ) S := rfl
@[simp] theorem s_cons (s : DS) (r : DSs) : exSs ρ (.cons s r) σ S = (exS ρ s σ S).bind fun o S1 => (match o with
    | .next σ1 => exSs ρ r σ1 S1
    | .ret d => .ok (.ret d) S1) := rfl
@[simp] theorem s_expr (e : DE) : exS ρ (.expr e) σ S = (evE ρ e σ S).bind fun _ S1 => .ok (.next σ) S1 := rfl
@[simp] theorem s_app (i : Nat) (e : DE) : exS ρ (.app i e) σ S = (match σ[i]? with
    | some (.own ds) => (evE ρ e σ S).bind fun x S1 => if x.plain && decide (ds.length < sizeLine) then .ok (.next (σ.set i (.own (ds ++ [x])))) S1 else .bad
    | _ => .bad) := rfl
@[simp] theorem s_val (i : Nat) (w : Bool) (e : DE) : exS ρ (.asg i .val w e) σ S = (evE ρ e σ S).bind fun x S1 => if w && !keeps e.fresh x then .bad else .ok (.next (setSlot σ i x)) S1 := rfl
@[simp] theorem s_own (i : Nat) (w : Bool) (e : DE) : exS ρ (.asg i .own w e) σ S = (evE ρ e σ S).bind fun x S1 => if w && !keeps e.fresh x then .bad else (match x with
      | .lst ds => if decide (i < σ.length) && (e.fresh && D.plains ds) then .ok (.next (σ.set i (.own ds))) S1 else .bad
      | _ => .bad) := rfl
@[simp] theorem s_cell (i : Nat) (w : Bool) (e : DE) : exS ρ (.asg i .cell w e) σ S = (evE ρ e σ S).bind fun x S1 => if w && !keeps e.fresh x then .bad else (match x with
      | .lst ds => if decide (i < σ.length) && (e.fresh && D.plains ds) then .ok (.next (setSlot σ i (.cell S1.length))) (S1 ++ [ds]) else .bad
      | _ => .bad) := rfl
@[simp] theorem s_asgT (is : List Nat) (w : Bool) (e : DE) : exS ρ (.asgT is w e) σ S = (evE ρ e σ S).bind fun x S1 => if w && !x.plain then .bad else (ofO (setT (.many is) σ x) S1).bind fun σ1 S2 => .ok (.next σ1) S2 := rfl
@[simp] theorem s_par (is : List Nat) (w : Bool) (es : DEs) : exS ρ (.par is w es) σ S = (evEs ρ es σ S).bind fun xs S1 => if w && !D.plains xs then .bad else if xs.length = is.length then .ok (.next ((is.zip xs).foldl (fun σ p => setSlot σ p.1 p.2) σ)) S1 else .bad := rfl
@[simp] theorem s_setAt (i : Nat) (ix e : DE) : exS ρ (.setAt i ix e) σ S = (evE ρ e σ S).bind fun x S1 => (match σ[i]? with
    | some (.val (.cell n)) => (evE ρ ix σ S1).bind fun k S2 => (match k, S2[n]? with
      | .int k, some ds => (match ixN ds.length k with
        | some j => if x.plain && D.plains (ds.set j x) then .ok (.next σ) (S2.set n (ds.set j x)) else .bad
        | none => .bad)
      | _, _ => .bad)
    | some (.own ds) => (evE ρ ix σ S1).bind fun k S2 => (match k with
      | .int k => (match ixN ds.length k with
        | some j => if x.plain && D.plains (ds.set j x) then .ok (.next (σ.set i (.own (ds.set j x)))) S2 else .bad
        | none => .bad)
      | _ => .bad)
    | _ => .bad) := rfl
@[simp] theorem s_aug (i : Nat) (o : Bop) (e : DE) : exS ρ (.aug i o e) σ S = (match σ[i]? with
    | some (.val (.int a)) => (evE ρ e σ S).bind fun y S1 => (match y with
      | .int b => (match o with
        | .add => .ok (.next (setSlot σ i (.int (a + b)))) S1
        | .sub => .ok (.next (setSlot σ i (.int (a - b)))) S1
        | .mul => if (decide (-(2 ^ 64) < a) && decide (a < 2 ^ 64)) || (decide (-(2 ^ 64) < b) && decide (b < 2 ^ 64)) then .ok (.next (setSlot σ i (.int (a * b)))) S1 else .bad
        | .fdiv => if decide (0 < b) && decide (b < 1073741824) then .ok (.next (setSlot σ i (.int (a / b)))) S1 else .bad
        | _ => .bad)
      | _ => .bad)
    | _ => .bad) := rfl
@[simp] theorem s_if (c : DE) (a b : DSs) : exS ρ (.ifS c a b) σ S = (evE ρ c σ S).bind fun x S1 => (ofO (truth x) S1).bind fun k S2 => if k = true then exSs ρ a σ S2 else exSs ρ b σ S2 := rfl
theorem s_whl (c : DE) (b : DSs) : exS ρ (.whl c b) σ S = whlL (fun σ S => (evE ρ c σ S).bind fun x S1 => ofO (truth x) S1) (fun σ S => exSs ρ b σ S) turns σ S := rfl
@[simp] theorem s_for (t : DT) (src : DIt) (b : DSs) : exS ρ (.forS t src b) σ S = (evI ρ src σ S).bind fun ds S1 => forL t (fun σ S => exSs ρ b σ S) ds σ S1 := rfl
@[simp] theorem s_ret (e : DE) : exS ρ (.ret e) σ S = (evE ρ e σ S).bind fun x S1 => .ok (.ret x) S1 := rfl
@[simp] theorem s_retN : exS ρ .retN σ S = .ok (.ret .non) S := rfl
@[simp] theorem s_raise (c : Nat) (es : DEs) : exS ρ (.raise c es) σ S = (evEs ρ es σ S).bind fun xs S1 => if D.plains xs then .exc c xs S1 else .bad := rfl
@[simp] theorem s_try (b : DSs) (hs : List (List Nat × HE)) : exS ρ (.tryR b hs) σ S = (match exSs ρ b σ S with
    | .exc c fs S1 => if decide (c < 16) then (match handler c hs with
      | some h => (ofO (heD fs h) S1).bind fun x S2 => .ok (.ret x) S2
      | none => .exc c fs S1) else .bad
    | r => r) := rfl
@[simp] theorem fits_ok (n : Nat) : fits n = decide (n ≤ 16777216) := rfl
@[simp] theorem sizeLine_lit : sizeLine = 16777216 := rfl
@[simp] theorem set_ix (σ : List Slot) (i : Nat) (d : D) : setSlot σ i d = σ.set i (.val d) := rfl
@[simp] theorem t_int (i : Int) : truth (.int i) = some (i != 0) := rfl
@[simp] theorem t_bl (b : Bool) : truth (.bl b) = some b := rfl
@[simp] theorem t_non : truth .non = some false := rfl
@[simp] theorem t_tup (xs : List D) : truth (.tup xs) = some (!xs.isEmpty) := rfl
@[simp] theorem t_lst (xs : List D) : truth (.lst xs) = some (!xs.isEmpty) := rfl
@[simp] theorem c_lt (i j : Int) : cmpD .lt (.int i) (.int j) = some (.bl (decide (i < j))) := rfl
@[simp] theorem c_le (i j : Int) : cmpD .le (.int i) (.int j) = some (.bl (decide (i ≤ j))) := rfl
@[simp] theorem c_gt (i j : Int) : cmpD .gt (.int i) (.int j) = some (.bl (decide (j < i))) := rfl
@[simp] theorem c_ge (i j : Int) : cmpD .ge (.int i) (.int j) = some (.bl (decide (j ≤ i))) := rfl
@[simp] theorem c_isN (d : D) : cmpD .isN d .non = some (.bl (match d with
      | .non => true
      | _ => false)) := rfl
theorem eqD_int (i j : Int) : eqD (.int i) (.int j) = some (decide (i = j)) := by
  show (if SeqAt.shaped (.int i) && SeqAt.shaped (.int j) then some (PyData.eqv (.int i) (.int j)) else none) = _
  rfl
@[simp] theorem c_eq (i j : Int) : cmpD .eq (.int i) (.int j) = some (.bl (decide (i = j))) := by
  show (eqD (.int i) (.int j)).map D.bl = _
  rw [eqD_int]; rfl
@[simp] theorem c_ne (i j : Int) : cmpD .ne (.int i) (.int j) = some (.bl (!decide (i = j))) := by
  show (eqD (.int i) (.int j)).map (fun k => D.bl (!k)) = _
  rw [eqD_int]; rfl
@[simp] theorem b_add (i j : Int) : binop .add (.int i) (.int j) = some (.int (i + j)) := rfl
@[simp] theorem b_sub (i j : Int) : binop .sub (.int i) (.int j) = some (.int (i - j)) := rfl
theorem mulOk_r {i j : Int} (h : j.natAbs < 2 ^ 64) : mulOk i j = true := by
  unfold mulOk
  simp
  right; left
  omega
theorem mulOk_l {i j : Int} (h : i.natAbs < 2 ^ 64) : mulOk i j = true := by
  unfold mulOk
  simp
  left
  omega
theorem b_mul {i j : Int} (h : mulOk i j = true) : binop .mul (.int i) (.int j) = some (.int (i * j)) := by
  show (if mulOk i j = true then _ else _) = _
  rw [if_pos h]
theorem b_div {i j : Int} (h : 0 < j) (h2 : j.natAbs.log2 < 9000) : binop .fdiv (.int i) (.int j) = some (.int (i / j)) := by
  show (if (decide (0 < j) && decide (j.natAbs.log2 < 9000)) = true then _ else _) = _
  rw [if_pos (by simp [h, h2])]
theorem b_divN {i j : Int} (h : j < 0) (h2 : j.natAbs.log2 < 9000) : binop .fdiv (.int i) (.int j) = some (.int (i.fdiv j)) := by
  show (if (decide (0 < j) && decide (j.natAbs.log2 < 9000)) = true then _ else if (decide (j < 0) && decide (j.natAbs.log2 < 9000)) = true then _ else _) = _
  rw [if_neg (by simp; omega), if_pos (by simp [h, h2])]
theorem b_mod {i j : Int} (h : 0 < j) : binop .mod (.int i) (.int j) = some (.int (i % j)) := by
  show (if 0 < j then _ else _) = _
  rw [if_pos h]
@[simp] theorem n_int (i : Int) : negD (.int i) = some (.int (-i)) := rfl
@[simp] theorem bi_abs (i : Int) : biD .abs S [.int i] = some (.int (i.natAbs : Int)) := by
  show some (D.int (if i < 0 then -i else i)) = _
  congr 2
  split <;> omega
@[simp] theorem bi_int (i : Int) : biD .int S [.int i] = some (.int i) := rfl
@[simp] theorem bi_intb (b : Bool) : biD .int S [.bl b] = some (.int (if b then 1 else 0)) := rfl
@[simp] theorem bi_lenT (xs : List D) : biD .len S [.tup xs] = some (.int xs.length) := rfl
@[simp] theorem bi_lenL (xs : List D) : biD .len S [.lst xs] = some (.int xs.length) := rfl
@[simp] theorem bi_tupL (xs : List D) : biD .tuple S [.lst xs] = some (.tup xs) := rfl
@[simp] theorem bi_tupT (xs : List D) : biD .tuple S [.tup xs] = some (.tup xs) := rfl
theorem log2_small {n k : Nat} (h : n < 2 ^ k) (h0 : 0 < k) (hk : k ≤ 9000) : n.log2 < 9000 := by
  by_cases hn : n = 0
  · subst hn; decide
  · have := (Nat.log2_lt hn).mpr h
    omega
end
/-- one turn of a while loop -/
theorem whl_go {cond : List Slot → Sto → Res Bool} {body : List Slot → Sto → Res Out} {n : Nat} {σ σ2 : List Slot} {S S1 S2 : Sto} (h : cond σ S = .ok true S1) (h2 : body σ S1 = .ok (.next σ2) S2) : whlL cond body (n + 1) σ S = whlL cond body n σ2 S2 := by
  rw [whlL, h]
  simp [h2]
theorem whl_end {cond : List Slot → Sto → Res Bool} {body : List Slot → Sto → Res Out} {n : Nat} {σ : List Slot} {S S1 : Sto} (h : cond σ S = .ok false S1) : whlL cond body (n + 1) σ S = .ok (.next σ) S1 := by
  rw [whlL, h]
  simp
/-- a call, its def known -/
theorem call_of {T : List Df} {k f : Nat} {d : Df} {as : List D} {S S1 : Sto} {o : Out} {x : D} (h : T[f]? = some d) (hl : as.length = d.ps) (hr : exSs (callK T k) d.body (as.map Slot.val ++ List.replicate (d.N.length - as.length) .no) S = .ok o S1) (ho : (match o with
    | .ret y => y
    | .next _ => .non) = x) (hs : S1.length = S.length) : callK T (k + 1) f as S = .ok x S1 := by
  show (match T[f]? with
    | some d => runDf (callK T k) d as S
    | none => .bad) = _
  rw [h]
  show runDf (callK T k) d as S = _
  unfold runDf
  rw [if_pos hl, hr]
  cases o with
  | ret y =>
    simp only at ho
    subst ho
    simp [fin1, hs]
  | next σ =>
    simp only at ho
    subst ho
    simp [fin1, hs]
theorem call_exc {T : List Df} {k f : Nat} {d : Df} {as : List D} {S S1 : Sto} {c : Nat} {fs : List D} (h : T[f]? = some d) (hl : as.length = d.ps) (hr : exSs (callK T k) d.body (as.map Slot.val ++ List.replicate (d.N.length - as.length) .no) S = .exc c fs S1) (hs : S1.length = S.length) : callK T (k + 1) f as S = .exc c fs S1 := by
  show (match T[f]? with
    | some d => runDf (callK T k) d as S
    | none => .bad) = _
  rw [h]
  show runDf (callK T k) d as S = _
  unfold runDf
  rw [if_pos hl, hr]
  simp [finX, hs]
end DI

end
section
set_option maxRecDepth 100000
/-! K30P1: the small defs of k30. -/
namespace K30
open PySem DI
/-! ### whole numbers, ranges -/
def isI : D → Bool
  | .int _ => true
  | _ => false
/-- data of which isinstance can be asked -/
def tyd : D → Bool
  | .fn _ => false
  | .cell _ => false
  | .scr _ => false
  | _ => true
theorem is_integer (k : Nat) (v : D) (S : Sto) (h : tyd v = true) : callK T (k + 1) 0 [v] S = .ok (.bl (isI v)) S := by
  refine call_of (d := d_is_integer) (o := .ret (.bl (isI v))) rfl rfl ?_ rfl rfl
  cases v <;> first | (simp [tyd] at h; done) | simp [d_is_integer, b_is_integer, isTy, isI]
theorem in_range (k : Nat) (v : Int) (a b : Int) (S : Sto) : callK T (k + 2) 1 [.int v, .int a, .int b] S = .ok (.bl (decide (a ≤ v ∧ v ≤ b))) S := by
  refine call_of (d := d_in_range) (o := .ret (.bl (decide (a ≤ v ∧ v ≤ b)))) rfl rfl ?_ rfl rfl
  have h0 := is_integer k (.int v) S rfl
  by_cases h : a ≤ v
  · simp [d_in_range, b_in_range, h0, isI, h]
  · simp [d_in_range, b_in_range, h0, isI, h]
theorem in_range_no (k : Nat) (v : D) (a b : Int) (S : Sto) (h : tyd v = true) (h2 : isI v = false) : callK T (k + 2) 1 [v, .int a, .int b] S = .ok (.bl false) S := by
  refine call_of (d := d_in_range) (o := .ret (.bl false)) rfl rfl ?_ rfl rfl
  simp [d_in_range, b_in_range, is_integer, h, h2]

/-! ### greatest common divisors -/
theorem mod_half {b r : Nat} (h0 : 0 < r) (h : r < b) : b % r < (b + 1) / 2 := by
  by_cases h2 : r ≤ b / 2
  · have := Nat.mod_lt b h0
    omega
  · have : b % r = b - r := by
      rw [Nat.mod_eq_sub_mod (by omega), Nat.mod_eq_of_lt (by omega)]
    omega
section
variable {cond : List Slot → Sto → Res Bool} {body : List Slot → Sto → Res Out} {st : Nat → Nat → List Slot} {S : Sto}
/-- Euclid's loop -/
theorem gcd_loop (hc : ∀ a b, cond (st a b) S = .ok (decide (b ≠ 0)) S) (hb : ∀ a b, 0 < b → body (st a b) S = .ok (.next (st b (a % b))) S) : ∀ (n a b m : Nat), b < 2 ^ n → 2 * n + 1 ≤ m → whlL cond body m (st a b) S = .ok (.next (st (Nat.gcd a b) 0)) S := by
  intro n
  induction n with
  | zero =>
    intro a b m h hm
    have : b = 0 := by simpa using h
    subst this
    obtain ⟨m', rfl⟩ : ∃ m', m = m' + 1 := ⟨m - 1, by omega⟩
    rw [whl_end (by rw [hc]; rfl), Nat.gcd_zero_right]
  | succ n ih =>
    intro a b m h hm
    obtain ⟨m', rfl⟩ : ∃ m', m = m' + 1 + 1 := ⟨m - 2, by omega⟩
    by_cases h0 : b = 0
    · subst h0
      rw [whl_end (by rw [hc]; rfl), Nat.gcd_zero_right]
    · have hb0 : 0 < b := Nat.pos_of_ne_zero h0
      rw [whl_go (by rw [hc]; simp [h0]) (hb a b hb0)]
      by_cases h1 : a % b = 0
      · rw [h1, whl_end (by rw [hc]; rfl)]
        rw [Nat.gcd_comm, Nat.gcd_rec b a, h1, Nat.gcd_zero_left]
      · have h2 : 0 < a % b := Nat.pos_of_ne_zero h1
        have h3 := Nat.mod_lt a hb0
        rw [whl_go (by rw [hc]; simp [h1]) (hb b (a % b) h2)]
        have h4 := mod_half h2 h3
        have h5 : 2 ^ (n + 1) = 2 * 2 ^ n := by rw [Nat.pow_succ, Nat.mul_comm]
        rw [ih (a % b) (b % (a % b)) m' (by omega) (by omega)]
        congr 3
        rw [Nat.gcd_comm a b, Nat.gcd_rec b a, Nat.gcd_comm (a % b) (b % (a % b)), ← Nat.gcd_rec (a % b) b]
end
theorem common (k : Nat) (a b : Int) (S : Sto) (hb : b.natAbs < 2 ^ 4000) : callK T (k + 1) 2 [.int a, .int b] S = .ok (.int (Int.gcd a b : Nat)) S := by
  refine call_of (d := d_common) (o := .ret (.int (Int.gcd a b : Nat))) rfl rfl ?_ rfl rfl
  have key : exS (callK T k) (.whl (.slot 1) (.cons (.par [0, 1] false (.cons (.slot 1) (.cons (.bop .mod (.slot 0) (.slot 1)) .nil))) .nil)) [.val (.int (a.natAbs : Int)), .val (.int (b.natAbs : Int))] S = .ok (.next [.val (.int (Nat.gcd a.natAbs b.natAbs : Nat)), .val (.int (0 : Nat))]) S := by
    rw [s_whl]
    exact gcd_loop (S := S) (st := fun x y => [.val (.int (x : Int)), .val (.int (y : Int))]) (fun a b => by by_cases h : b = 0 <;> simp [bne, h]) (fun a b h => by simp [b_mod (show (0 : Int) < (b : Int) by omega)]) 4000 a.natAbs b.natAbs turns hb (by decide)
  simp [d_common, b_common, key, Int.gcd]
theorem law_common (k : Nat) (a b : Int) (S : Sto) (hb : b.natAbs < 2 ^ 4000) : callK T (k + 1) 30 [.int a, .int b] S = .ok (.int (Int.gcd a b : Nat)) S := by
  refine call_of (d := d__law_common) (o := .ret (.int (Int.gcd a b : Nat))) rfl rfl ?_ rfl rfl
  have key : exS (callK T k) (.whl (.cmp .gt (.slot 1) (.const (.int 0))) (.cons (.par [0, 1] false (.cons (.slot 1) (.cons (.bop .mod (.bi .int (.cons (.slot 0) .nil)) (.slot 1)) .nil))) .nil)) [.val (.int (a.natAbs : Int)), .val (.int (b.natAbs : Int))] S = .ok (.next [.val (.int (Nat.gcd a.natAbs b.natAbs : Nat)), .val (.int (0 : Nat))]) S := by
    rw [s_whl]
    exact gcd_loop (S := S) (st := fun x y => [.val (.int (x : Int)), .val (.int (y : Int))]) (fun a b => by simp [Nat.pos_iff_ne_zero]) (fun a b h => by simp [b_mod (show (0 : Int) < (b : Int) by omega)]) 4000 a.natAbs b.natAbs turns hb (by decide)
  simp [d__law_common, b__law_common, key, Int.gcd]
end K30

end
section
set_option maxRecDepth 100000
/-! K30P2: fractions in lowest terms. -/
namespace K30
open PySem DI
def sgn (d : Int) : Int := if d < 0 then -1 else 1
/-- lowest terms, a positive lower part -/
def red (n d : Int) : Int × Int := (sgn d * (n / (Int.gcd n d : Int)), sgn d * (d / (Int.gcd n d : Int)))
def Fr (p : Int × Int) : Prop := 0 < p.2 ∧ Int.gcd p.1 p.2 = 1
abbrev frD (p : Int × Int) : D := .tup [.int p.1, .int p.2]
theorem gcd_pos {n d : Int} (h : d ≠ 0) : 0 < (Int.gcd n d : Int) := by
  have : Int.gcd n d ≠ 0 := fun z => h (Int.gcd_eq_zero_iff.mp z).2
  omega
theorem red_spec {n d : Int} (h : d ≠ 0) : ∃ a b g : Int, 0 < g ∧ g = (Int.gcd n d : Int) ∧ n = g * a ∧ d = g * b ∧ Int.gcd a b = 1 ∧ red n d = (sgn d * a, sgn d * b) := by
  obtain ⟨a, ha⟩ : (Int.gcd n d : Int) ∣ n := Int.gcd_dvd_left ..
  obtain ⟨b, hb⟩ : (Int.gcd n d : Int) ∣ d := Int.gcd_dvd_right ..
  have hg := gcd_pos (n := n) h
  have g0 : (Int.gcd n d : Int) ≠ 0 := by omega
  have e1 : n / (Int.gcd n d : Int) = a := by
    conv => lhs; lhs; rw [ha]
    exact Int.mul_ediv_cancel_left _ g0
  have e2 : d / (Int.gcd n d : Int) = b := by
    conv => lhs; lhs; rw [hb]
    exact Int.mul_ediv_cancel_left _ g0
  refine ⟨a, b, _, hg, rfl, ha, hb, ?_, ?_⟩
  · have := Int.gcd_ediv_gcd_ediv_gcd (i := n) (j := d) (by omega)
    rw [e1, e2] at this
    exact this
  · unfold red
    rw [e1, e2]
theorem sgn_or (d : Int) : (d < 0 ∧ sgn d = -1) ∨ (0 ≤ d ∧ sgn d = 1) := by
  unfold sgn
  by_cases h : d < 0
  · exact .inl ⟨h, if_pos h⟩
  · exact .inr ⟨by omega, if_neg h⟩
theorem red_fr {n d : Int} (h : d ≠ 0) : Fr (red n d) := by
  obtain ⟨a, b, g, hg, _, ha, hb, h1, e⟩ := red_spec (n := n) h
  rw [e]
  rcases sgn_or d with ⟨hd, hs⟩ | ⟨hd, hs⟩
  · rw [hs]
    refine ⟨?_, ?_⟩
    · have : b < 0 := by
        rcases Int.lt_or_le b 0 with z | z
        · exact z
        · have := Int.mul_nonneg (show 0 ≤ g by omega) z
          omega
      show 0 < -1 * b
      omega
    · show Int.gcd (-1 * a) (-1 * b) = 1
      rw [Int.neg_one_mul, Int.neg_one_mul, Int.gcd_neg, Int.neg_gcd]
      exact h1
  · rw [hs]
    refine ⟨?_, ?_⟩
    · have : 0 < b := by
        rcases Int.lt_or_le 0 b with z | z
        · exact z
        · have := Int.mul_nonneg (show 0 ≤ g by omega) (show 0 ≤ -b by omega)
          rw [Int.mul_neg, ← hb] at this
          omega
      show 0 < 1 * b
      omega
    · show Int.gcd (1 * a) (1 * b) = 1
      rw [Int.one_mul, Int.one_mul]
      exact h1
theorem red_mul {n d : Int} (h : d ≠ 0) : (red n d).1 * d = n * (red n d).2 := by
  obtain ⟨a, b, g, hg, _, ha, hb, h1, e⟩ := red_spec (n := n) h
  rw [e]
  show sgn d * a * d = n * (sgn d * b)
  generalize sgn d = s
  rw [ha, hb]
  grind
theorem cop_dvd {d n e : Int} (h : Int.gcd n d = 1) (h2 : d ∣ n * e) : d ∣ e := by
  rw [← Int.natAbs_dvd_natAbs] at h2 ⊢
  rw [Int.natAbs_mul] at h2
  exact Nat.Coprime.dvd_of_dvd_mul_left (show Nat.gcd d.natAbs n.natAbs = 1 by rw [Nat.gcd_comm]; exact h) h2
theorem fr_unique {p q : Int × Int} (hp : Fr p) (hq : Fr q) (h : p.1 * q.2 = q.1 * p.2) : p = q := by
  obtain ⟨n, d⟩ := p
  obtain ⟨m, e⟩ := q
  obtain ⟨h1, h2⟩ := hp
  obtain ⟨h3, h4⟩ := hq
  dsimp only at *
  have d1 : d ∣ e := by
    have : d ∣ n * e := ⟨m, by rw [h]; exact Int.mul_comm _ _⟩
    exact cop_dvd h2 this
  have d2 : e ∣ d := by
    have : e ∣ m * d := ⟨n, by rw [← h]; exact Int.mul_comm _ _⟩
    exact cop_dvd h4 this
  have hde : d = e := Int.dvd_antisymm (by omega) (by omega) d1 d2
  subst hde
  have : n = m := Int.eq_of_mul_eq_mul_right (by omega) h
  rw [this]
theorem red_red {n d : Int} {p : Int × Int} (hp : Fr p) (h : d ≠ 0) (e : p.1 * d = n * p.2) : red n d = p := by
  refine fr_unique (red_fr h) hp ?_
  have h1 := red_mul (n := n) h
  generalize red n d = q at *
  have h2 : (q.1 * p.2) * d = (p.1 * q.2) * d := by grind
  exact Int.eq_of_mul_eq_mul_right h h2
theorem red_self {p : Int × Int} (hp : Fr p) : red p.1 p.2 = p := red_red hp (by have := hp.1; omega) rfl
/-- scaled -/
theorem red_scale {n d k : Int} (h : d ≠ 0) (hk : k ≠ 0) : red (k * n) (k * d) = red n d := by
  refine red_red (red_fr h) (Int.mul_ne_zero hk h) ?_
  have h1 := red_mul (n := n) h
  generalize red n d = q at *
  grind
theorem log_gcd {n d : Int} {k : Nat} (h : d.natAbs < 2 ^ k) (h0 : d ≠ 0) (hk : 0 < k) (hk2 : k ≤ 9000) : ((Int.gcd n d : Nat) : Int).natAbs.log2 < 9000 := by
  have h1 : Int.gcd n d ≤ d.natAbs := Nat.le_of_dvd (Int.natAbs_pos.mpr h0) (Int.gcd_dvd_natAbs_right ..)
  rw [Int.natAbs_natCast]
  exact log2_small (Nat.lt_of_le_of_lt h1 h) hk hk2
theorem made (k : Nat) (n d : Int) (S : Sto) (h0 : d ≠ 0) (hb : d.natAbs < 2 ^ 4000) : callK T (k + 2) 7 [.int n, .int d] S = .ok (frD (red n d)) S := by
  refine call_of (d := d_made) (o := .ret (frD (red n d))) rfl rfl ?_ rfl rfl
  have hg := gcd_pos (n := n) h0
  have hl := log_gcd (n := n) hb h0 (by decide) (by decide)
  rcases sgn_or d with ⟨hd, hs⟩ | ⟨hd, hs⟩
  · have hc := common k (-n) (-d) S (by rw [Int.natAbs_neg]; exact hb)
    rw [Int.gcd_neg, Int.neg_gcd] at hc
    clear hb
    generalize callK T (k + 1) = ρ at *
    have e1 : (-n) / (Int.gcd n d : Int) = -(n / (Int.gcd n d : Int)) := Int.neg_ediv_of_dvd (Int.gcd_dvd_left ..)
    have e2 : (-d) / (Int.gcd n d : Int) = -(d / (Int.gcd n d : Int)) := Int.neg_ediv_of_dvd (Int.gcd_dvd_right ..)
    simp [d_made, b_made, hd, hc, b_div hg hl, red, hs, e1, e2]
  · have hc := common k n d S hb
    clear hb
    generalize callK T (k + 1) = ρ at *
    simp [d_made, b_made, show ¬ d < 0 by omega, hc, b_div hg hl, red, hs]
theorem law_made_p (ρ : Calls) (n d g x y : Int) (S : Sto) (hd : 0 < d) (hc : ρ 30 [.int n, .int d] S = .ok (.int g) S) (hm : binop .mul (.int g) (.int 1) = some (.int g)) (h1 : binop .fdiv (.int n) (.int g) = some (.int x)) (h2 : binop .fdiv (.int d) (.int g) = some (.int y)) : exSs ρ b__law_made [.val (.int n), .val (.int d), .no] S = .ok (.ret (.tup [.int x, .int y])) S := by
  simp [b__law_made, hc, hd, hm, h1, h2]
theorem law_made_n (ρ : Calls) (n d g x y : Int) (S : Sto) (hd : ¬ 0 < d) (hc : ρ 30 [.int n, .int d] S = .ok (.int g) S) (hm : binop .mul (.int g) (.int (-1)) = some (.int (-g))) (h1 : binop .fdiv (.int n) (.int (-g)) = some (.int x)) (h2 : binop .fdiv (.int d) (.int (-g)) = some (.int y)) : exSs ρ b__law_made [.val (.int n), .val (.int d), .no] S = .ok (.ret (.tup [.int x, .int y])) S := by
  simp [b__law_made, hc, hd, hm, h1, h2]
theorem law_made_c (k : Nat) (n d x y : Int) (S : Sto) (h : exSs (callK T (k + 1)) b__law_made [.val (.int n), .val (.int d), .no] S = .ok (.ret (.tup [.int x, .int y])) S) : callK T (k + 2) 31 [.int n, .int d] S = .ok (.tup [.int x, .int y]) S :=
  call_of (d := d__law_made) (o := .ret (.tup [.int x, .int y])) rfl rfl h rfl rfl
theorem law_made (k : Nat) (n d : Int) (S : Sto) (h0 : d ≠ 0) (hb : d.natAbs < 2 ^ 4000) : callK T (k + 2) 31 [.int n, .int d] S = .ok (frD (red n d)) S := by
  have hg := gcd_pos (n := n) h0
  have hl := log_gcd (n := n) hb h0 (by decide) (by decide)
  have hc := law_common k n d S hb
  refine law_made_c k n d _ _ S ?_
  clear hb
  rcases sgn_or d with ⟨hd, hs⟩ | ⟨hd, hs⟩
  · have f1 : n.fdiv (-(Int.gcd n d : Int)) = sgn d * (n / (Int.gcd n d : Int)) := by
      rw [Int.fdiv_eq_ediv_of_dvd (Int.neg_dvd.mpr (Int.gcd_dvd_left ..)), Int.ediv_neg, hs, Int.neg_one_mul]
    have f2 : d.fdiv (-(Int.gcd n d : Int)) = sgn d * (d / (Int.gcd n d : Int)) := by
      rw [Int.fdiv_eq_ediv_of_dvd (Int.neg_dvd.mpr (Int.gcd_dvd_right ..)), Int.ediv_neg, hs, Int.neg_one_mul]
    have hl' : (-((Int.gcd n d : Nat) : Int)).natAbs.log2 < 9000 := by rw [Int.natAbs_neg]; exact hl
    have hm := b_mul (mulOk_r (i := ((Int.gcd n d : Nat) : Int)) (j := -1) (by decide))
    rw [Int.mul_neg_one] at hm
    have h1 := b_divN (i := n) (show -((Int.gcd n d : Nat) : Int) < 0 by omega) hl'
    have h2 := b_divN (i := d) (show -((Int.gcd n d : Nat) : Int) < 0 by omega) hl'
    rw [f1] at h1
    rw [f2] at h2
    exact law_made_n _ n d _ _ _ S (by omega) hc hm h1 h2
  · have hm := b_mul (mulOk_r (i := ((Int.gcd n d : Nat) : Int)) (j := 1) (by decide))
    rw [Int.mul_one] at hm
    have h1 := b_div (i := n) hg hl
    have h2 := b_div (i := d) hg hl
    have e1 : ∀ z : Int, sgn d * z = z := fun z => by rw [hs, Int.one_mul]
    refine law_made_p _ n d _ _ _ S (by omega) hc hm ?_ ?_
    · rw [h1, show (red n d).1 = n / (Int.gcd n d : Int) from e1 _]
    · rw [h2, show (red n d).2 = d / (Int.gcd n d : Int) from e1 _]
end K30

end
section
set_option maxRecDepth 100000
/-! K30P3: the program's defs on good fractions. -/
namespace K30
open PySem DI
@[simp] theorem ix0 (S : Sto) (a b : D) : idxD S (.tup [a, b]) (.int 0) = some a := rfl
@[simp] theorem ix1 (S : Sto) (a b : D) : idxD S (.tup [a, b]) (.int 1) = some b := rfl
theorem lt_pow {x k : Nat} (h : x < 2 ^ k) (hk : k ≤ 4000) : x < 2 ^ 4000 := Nat.lt_of_lt_of_le h (Nat.pow_le_pow_right (by decide) hk)
theorem mul_pow {a b : Int} {j k : Nat} (h : a.natAbs < 2 ^ j) (h2 : b.natAbs < 2 ^ k) : (a * b).natAbs < 2 ^ (j + k) := by
  rw [Int.natAbs_mul, Nat.pow_add]
  exact Nat.mul_lt_mul'' h h2
/-- of few digits -/
def Sm (p : Int × Int) : Prop := p.1.natAbs < 2 ^ 60 ∧ p.2.natAbs < 2 ^ 60
theorem lt64 {n : Nat} (h : n < 2 ^ 60) : n < 2 ^ 64 := Nat.lt_of_lt_of_le h (by decide)
theorem sm_l {x : Int} (y : Int) (h : x.natAbs < 2 ^ 60) : binop .mul (.int x) (.int y) = some (.int (x * y)) := b_mul (mulOk_l (lt64 h))

theorem added_b (ρ : Calls) (a b c d x y z : Int) (r : D) (S : Sto) (h1 : binop .mul (.int a) (.int d) = some (.int x)) (h2 : binop .mul (.int c) (.int b) = some (.int y)) (h3 : binop .mul (.int b) (.int d) = some (.int z)) (hc : ρ 7 [.int (x + y), .int z] S = .ok r S) :
    exSs ρ b_added [.val (.tup [.int a, .int b]), .val (.tup [.int c, .int d])] S = .ok (.ret r) S := by
  simp [b_added, h1, h2, h3, hc]
theorem added (k : Nat) (p q : Int × Int) (S : Sto) (hp : Sm p) (hq : Sm q) (h0 : p.2 ≠ 0) (h1 : q.2 ≠ 0) : callK T (k + 3) 8 [frD p, frD q] S = .ok (frD (red (p.1 * q.2 + q.1 * p.2) (p.2 * q.2))) S :=
  call_of (d := d_added) (o := .ret _) rfl rfl (added_b _ p.1 p.2 q.1 q.2 _ _ _ _ S (sm_l _ hp.1) (sm_l _ hq.1) (sm_l _ hp.2) (made k _ _ S (Int.mul_ne_zero h0 h1) (lt_pow (mul_pow hp.2 hq.2) (by decide)))) rfl rfl
theorem negated_b (ρ : Calls) (a b : Int) (S : Sto) : exSs ρ b_negated [.val (.tup [.int a, .int b])] S = .ok (.ret (.tup [.int (-a), .int b])) S := by
  simp [b_negated]
theorem negated (k : Nat) (p : Int × Int) (S : Sto) : callK T (k + 1) 9 [frD p] S = .ok (frD (-p.1, p.2)) S :=
  call_of (d := d_negated) (o := .ret _) rfl rfl (negated_b _ p.1 p.2 S) rfl rfl
theorem multiplied_b (ρ : Calls) (a b c d x z : Int) (r : D) (S : Sto) (h1 : binop .mul (.int a) (.int c) = some (.int x)) (h3 : binop .mul (.int b) (.int d) = some (.int z)) (hc : ρ 7 [.int x, .int z] S = .ok r S) :
    exSs ρ b_multiplied [.val (.tup [.int a, .int b]), .val (.tup [.int c, .int d])] S = .ok (.ret r) S := by
  simp [b_multiplied, h1, h3, hc]
theorem multiplied (k : Nat) (p q : Int × Int) (S : Sto) (hp : Sm p) (hq : Sm q) (h0 : p.2 ≠ 0) (h1 : q.2 ≠ 0) : callK T (k + 3) 10 [frD p, frD q] S = .ok (frD (red (p.1 * q.1) (p.2 * q.2))) S :=
  call_of (d := d_multiplied) (o := .ret _) rfl rfl (multiplied_b _ p.1 p.2 q.1 q.2 _ _ _ S (sm_l _ hp.1) (sm_l _ hp.2) (made k _ _ S (Int.mul_ne_zero h0 h1) (lt_pow (mul_pow hp.2 hq.2) (by decide)))) rfl rfl
theorem turned_b (ρ : Calls) (a b : Int) (r : D) (S : Sto) (hc : ρ 7 [.int b, .int a] S = .ok r S) : exSs ρ b_turned [.val (.tup [.int a, .int b])] S = .ok (.ret r) S := by
  simp [b_turned, hc]
theorem turned (k : Nat) (p : Int × Int) (S : Sto) (hp : Sm p) (h0 : p.1 ≠ 0) : callK T (k + 3) 11 [frD p] S = .ok (frD (red p.2 p.1)) S :=
  call_of (d := d_turned) (o := .ret _) rfl rfl (turned_b _ p.1 p.2 _ S (made k _ _ S h0 (lt_pow hp.1 (by decide)))) rfl rfl
/-- the sign as the program tells it -/
def sg3 (a : Int) : Int := if 0 < a then 1 else if a < 0 then -1 else 0
theorem sign_of_b (ρ : Calls) (a b : Int) (S : Sto) : exSs ρ b_sign_of [.val (.tup [.int a, .int b])] S = .ok (.ret (.int (sg3 a))) S := by
  have h : b2i (decide (0 < a)) - b2i (decide (a < 0)) = sg3 a := by
    unfold sg3 b2i
    by_cases h1 : 0 < a
    · simp [h1, show ¬ a < 0 by omega]
    · by_cases h2 : a < 0
      · simp [h1, h2]
      · simp [h1, h2]
  have hb : binop .sub (.bl (decide (0 < a))) (.bl (decide (a < 0))) = some (.int (sg3 a)) := by
    show some (D.int (b2i _ - b2i _)) = _
    rw [h]
  simp [b_sign_of, hb]
theorem sign_of (k : Nat) (p : Int × Int) (S : Sto) : callK T (k + 1) 12 [frD p] S = .ok (.int (sg3 p.1)) S :=
  call_of (d := d_sign_of) (o := .ret _) rfl rfl (sign_of_b _ p.1 p.2 S) rfl rfl

/-! ### small fractions -/
/-- a fraction as the program takes it -/
def Good (p : Int × Int) : Prop := Fr p ∧ (-1000000 ≤ p.1 ∧ p.1 ≤ 1000000) ∧ p.2 ≤ 1000000
theorem Good.sm {p : Int × Int} (h : Good p) : Sm p := by
  obtain ⟨⟨h1, h2⟩, h3, h4⟩ := h
  exact ⟨Nat.lt_of_le_of_lt (show p.1.natAbs ≤ 1000000 by omega) (by decide), Nat.lt_of_le_of_lt (show p.2.natAbs ≤ 1000000 by omega) (by decide)⟩
theorem Good.ne {p : Int × Int} (h : Good p) : p.2 ≠ 0 := by
  have := h.1.1
  omega
theorem lst_all (S : Sto) : biD .all S [.lst [.bl true, .bl true]] = some (.bl true) := rfl
theorem is_fraction_b (ρ : Calls) (a b : Int) (S : Sto) (h1 : ρ 0 [.int a] S = .ok (.bl true) S) (h2 : ρ 0 [.int b] S = .ok (.bl true) S) (hb : 0 < b) (hc : ρ 2 [.int a, .int b] S = .ok (.int 1) S) :
    exSs ρ b_is_fraction [.val (.tup [.int a, .int b]), .no] S = .ok (.ret (.bl true)) S := by
  simp [b_is_fraction, isTy, lcL, setT, wipeD, itemsD, h1, h2, lst_all, hb, hc]
theorem is_fraction (k : Nat) (p : Int × Int) (S : Sto) (h : Fr p) (hs : Sm p) : callK T (k + 2) 4 [frD p] S = .ok (.bl true) S := by
  have hc := common k p.1 p.2 S (lt_pow hs.2 (by decide))
  rw [h.2] at hc
  exact call_of (d := d_is_fraction) (o := .ret _) rfl rfl (is_fraction_b _ p.1 p.2 S (is_integer k _ S rfl) (is_integer k _ S rfl) h.1 hc) rfl rfl
theorem is_small_b (ρ : Calls) (a b : Int) (S : Sto) (h1 : ρ 1 [.int a, .int (-1000000), .int 1000000] S = .ok (.bl true) S) (h2 : ρ 1 [.int b, .int 1, .int 1000000] S = .ok (.bl true) S) (h3 : ρ 4 [.tup [.int a, .int b]] S = .ok (.bl true) S) :
    exSs ρ b_is_small [.val (.tup [.int a, .int b])] S = .ok (.ret (.bl true)) S := by
  simp [b_is_small, isTy, h1, h2, h3]
theorem is_small (k : Nat) (p : Int × Int) (S : Sto) (h : Good p) : callK T (k + 3) 5 [frD p] S = .ok (.bl true) S := by
  have h1 := in_range k p.1 (-1000000) 1000000 S
  have h2 := in_range k p.2 1 1000000 S
  rw [decide_eq_true h.2.1] at h1
  rw [decide_eq_true (show (1 : Int) ≤ p.2 ∧ p.2 ≤ 1000000 from ⟨h.1.1, h.2.2⟩)] at h2
  exact call_of (d := d_is_small) (o := .ret _) rfl rfl (is_small_b _ p.1 p.2 S h1 h2 (is_fraction k p S h.1 h.sm)) rfl rfl
theorem demand_fraction_b (ρ : Calls) (v : D) (x : Str) (S : Sto) (h : ρ 5 [v] S = .ok (.bl true) S) : exSs ρ b_demand_fraction [.val v, .val (.str x)] S = .ok (.next [.val v, .val (.str x)]) S := by
  simp [b_demand_fraction, h]
theorem demand_fraction (k : Nat) (p : Int × Int) (x : Str) (S : Sto) (h : Good p) : callK T (k + 4) 6 [frD p, .str x] S = .ok .non S :=
  call_of (d := d_demand_fraction) (o := .next _) rfl rfl (demand_fraction_b _ _ x S (is_small k p S h)) rfl rfl
theorem demand_two_b (ρ : Calls) (v w : D) (S : Sto) (h : ρ 6 [v, .str "one"] S = .ok .non S) (h2 : ρ 6 [w, .str "other"] S = .ok .non S) : exSs ρ b_demand_two [.val v, .val w] S = .ok (.next [.val v, .val w]) S := by
  simp [b_demand_two, h, h2]
theorem demand_two (k : Nat) (p q : Int × Int) (S : Sto) (h : Good p) (h2 : Good q) : callK T (k + 5) 14 [frD p, frD q] S = .ok .non S :=
  call_of (d := d_demand_two) (o := .next _) rfl rfl (demand_two_b _ _ _ S (demand_fraction k p _ S h) (demand_fraction k q _ S h2)) rfl rfl
/-- what plus, times, over, compare give -/
theorem plus_b (ρ : Calls) (v w r : D) (S : Sto) (h : ρ 14 [v, w] S = .ok .non S) (h2 : ρ 8 [v, w] S = .ok r S) : exSs ρ b_plus [.val v, .val w] S = .ok (.ret r) S := by
  simp [b_plus, h, h2]
theorem plus (k : Nat) (p q : Int × Int) (S : Sto) (h : Good p) (h2 : Good q) : callK T (k + 6) 16 [frD p, frD q] S = .ok (frD (red (p.1 * q.2 + q.1 * p.2) (p.2 * q.2))) S :=
  call_of (d := d_plus) (o := .ret _) rfl rfl (plus_b _ _ _ _ S (demand_two k p q S h h2) (added (k + 2) p q S h.sm h2.sm h.ne h2.ne)) rfl rfl
theorem times_b (ρ : Calls) (v w r : D) (S : Sto) (h : ρ 14 [v, w] S = .ok .non S) (h2 : ρ 10 [v, w] S = .ok r S) : exSs ρ b_times [.val v, .val w] S = .ok (.ret r) S := by
  simp [b_times, h, h2]
theorem times (k : Nat) (p q : Int × Int) (S : Sto) (h : Good p) (h2 : Good q) : callK T (k + 6) 17 [frD p, frD q] S = .ok (frD (red (p.1 * q.1) (p.2 * q.2))) S :=
  call_of (d := d_times) (o := .ret _) rfl rfl (times_b _ _ _ _ S (demand_two k p q S h h2) (multiplied (k + 2) p q S h.sm h2.sm h.ne h2.ne)) rfl rfl
theorem over_b (ρ : Calls) (v t r : D) (a b : Int) (S : Sto) (h0 : a ≠ 0) (h : ρ 14 [v, .tup [.int a, .int b]] S = .ok .non S) (h1 : ρ 11 [.tup [.int a, .int b]] S = .ok t S) (h2 : ρ 10 [v, t] S = .ok r S) : exSs ρ b_over [.val v, .val (.tup [.int a, .int b])] S = .ok (.ret r) S := by
  simp [b_over, h, h1, h2, h0]
theorem over_e (ρ : Calls) (v : D) (b : Int) (S : Sto) (h : ρ 14 [v, .tup [.int 0, .int b]] S = .ok .non S) : exSs ρ b_over [.val v, .val (.tup [.int 0, .int b])] S = .exc 0 [.str "other"] S := by
  simp [b_over, h, D.plains, D.plain]
theorem fr_turn {p : Int × Int} (h : Fr p) (h0 : p.1 ≠ 0) : red p.2 p.1 = (sgn p.1 * p.2, sgn p.1 * p.1) := by
  refine red_red ⟨?_, ?_⟩ h0 ?_
  · rcases sgn_or p.1 with ⟨h1, h2⟩ | ⟨h1, h2⟩
    · rw [h2]
      show 0 < -1 * p.1
      omega
    · rw [h2]
      show 0 < 1 * p.1
      omega
  · rcases sgn_or p.1 with ⟨h1, h2⟩ | ⟨h1, h2⟩
    · rw [h2]
      show Int.gcd (-1 * p.2) (-1 * p.1) = 1
      rw [Int.neg_one_mul, Int.neg_one_mul, Int.gcd_neg, Int.neg_gcd, Int.gcd_comm]
      exact h.2
    · rw [h2]
      show Int.gcd (1 * p.2) (1 * p.1) = 1
      rw [Int.one_mul, Int.one_mul, Int.gcd_comm]
      exact h.2
  · show sgn p.1 * p.2 * p.1 = p.2 * (sgn p.1 * p.1)
    grind
theorem over (k : Nat) (p q : Int × Int) (S : Sto) (h : Good p) (h2 : Good q) (h0 : q.1 ≠ 0) : callK T (k + 6) 18 [frD p, frD q] S = .ok (frD (red (p.1 * q.2) (p.2 * q.1))) S := by
  have ht := turned (k + 2) q S h2.sm h0
  have e := fr_turn h2.1 h0
  have hs : sgn q.1 = 1 ∨ sgn q.1 = -1 := by
    rcases sgn_or q.1 with ⟨_, z⟩ | ⟨_, z⟩
    · exact .inr z
    · exact .inl z
  have hsm : Sm (red q.2 q.1) := by
    rw [e]
    obtain ⟨s1, s2⟩ := h2.sm
    rcases hs with hs | hs
    · rw [hs, Int.one_mul, Int.one_mul]; exact ⟨s2, s1⟩
    · rw [hs, Int.neg_one_mul, Int.neg_one_mul]
      exact ⟨by rw [Int.natAbs_neg]; exact s2, by rw [Int.natAbs_neg]; exact s1⟩
  have hm := multiplied (k + 2) p (red q.2 q.1) S h.sm hsm h.ne (by have := (red_fr (n := q.2) h0).1; omega)
  have e2 : red (p.1 * (red q.2 q.1).1) (p.2 * (red q.2 q.1).2) = red (p.1 * q.2) (p.2 * q.1) := by
    rw [e]
    have : (sgn q.1) ≠ 0 := by
      rcases hs with z | z <;> rw [z] <;> decide
    have e3 := red_scale (n := p.1 * q.2) (d := p.2 * q.1) (k := sgn q.1) (Int.mul_ne_zero h.ne h0) this
    rw [← e3]
    congr 1
    · show p.1 * (sgn q.1 * q.2) = _
      grind
    · show p.2 * (sgn q.1 * q.1) = _
      grind
  rw [e2] at hm
  exact call_of (d := d_over) (o := .ret _) rfl rfl (over_b _ _ _ _ q.1 q.2 S h0 (demand_two k p q S h h2) ht hm) rfl rfl
theorem over0 (k : Nat) (p q : Int × Int) (S : Sto) (h : Good p) (h2 : Good q) (h0 : q.1 = 0) : callK T (k + 6) 18 [frD p, frD q] S = .exc 0 [.str "other"] S := by
  obtain ⟨a, b⟩ := q
  dsimp only at h0
  subst h0
  exact call_exc (d := d_over) rfl rfl (over_e _ _ b S (demand_two k p (0, b) S h h2)) rfl
end K30

end
section
set_option maxRecDepth 100000
/-! K30P4: comparing; partial quotients. -/
namespace K30
open PySem DI
theorem pos_of_mul {a b c d : Int} (h : a * b = c * d) (hb : 0 < b) (hd : 0 < d) : sg3 a = sg3 c := by
  have key : ∀ {a b c d : Int}, a * b = c * d → 0 < b → 0 < d → 0 < a → 0 < c := fun {a b c d} h hb hd ha => by
    have h1 := Int.mul_pos ha hb
    rw [h] at h1
    rcases Int.lt_or_le 0 c with z | z
    · exact z
    · have := Int.mul_nonneg (show 0 ≤ -c by omega) (show 0 ≤ d by omega)
      rw [Int.neg_mul] at this
      omega
  have key2 : ∀ {a b c d : Int}, a * b = c * d → 0 < b → 0 < d → a < 0 → c < 0 := fun {a b c d} h hb hd ha => by
    have := key (a := -a) (c := -c) (by rw [Int.neg_mul, Int.neg_mul, h]) hb hd (by omega)
    omega
  unfold sg3
  by_cases h1 : 0 < a
  · rw [if_pos h1, if_pos (key h hb hd h1)]
  · by_cases h2 : a < 0
    · have := key2 h hb hd h2
      rw [if_neg h1, if_pos h2, if_neg (by omega), if_pos this]
    · have ha : a = 0 := by omega
      subst ha
      rw [Int.zero_mul] at h
      have hc : c = 0 := by
        rcases Int.mul_eq_zero.mp h.symm with z | z
        · exact z
        · omega
      subst hc
      rfl
theorem sg3_red {n d : Int} (h : 0 < d) : sg3 (red n d).1 = sg3 n := pos_of_mul (red_mul (n := n) (by omega)) h (red_fr (n := n) (by omega)).1
theorem compare_b (ρ : Calls) (v w x y : D) (z : D) (S : Sto) (h : ρ 14 [v, w] S = .ok .non S) (h1 : ρ 9 [w] S = .ok x S) (h2 : ρ 8 [v, x] S = .ok y S) (h3 : ρ 12 [y] S = .ok z S) : exSs ρ b_compare [.val v, .val w] S = .ok (.ret z) S := by
  simp [b_compare, h, h1, h2, h3]
/-- the sign of a difference -/
theorem diff_sign (p q : Int × Int) (h : 0 < p.2) (h2 : 0 < q.2) : sg3 (red (p.1 * q.2 + -q.1 * p.2) (p.2 * q.2)).1 = sg3 (p.1 * q.2 - q.1 * p.2) := by
  rw [sg3_red (Int.mul_pos h h2)]
  congr 1
  rw [Int.neg_mul]
  omega
theorem compare (k : Nat) (p q : Int × Int) (S : Sto) (h : Good p) (h2 : Good q) : callK T (k + 6) 19 [frD p, frD q] S = .ok (.int (sg3 (p.1 * q.2 - q.1 * p.2))) S := by
  have hn := negated (k + 4) q S
  have hsm : Sm (-q.1, q.2) := ⟨by rw [show (-q.1, q.2).1 = -q.1 from rfl, Int.natAbs_neg]; exact h2.sm.1, h2.sm.2⟩
  have ha := added (k + 2) p (-q.1, q.2) S h.sm hsm h.ne h2.ne
  have hs := sign_of (k + 4) (red (p.1 * q.2 + -q.1 * p.2) (p.2 * q.2)) S
  rw [diff_sign p q h.1.1 h2.1.1] at hs
  exact call_of (d := d_compare) (o := .ret _) rfl rfl (compare_b _ _ _ _ _ _ S (demand_two k p q S h h2) hn ha hs) rfl rfl
/-! ### fraction -/
theorem fraction_b (ρ : Calls) (a b : Int) (r : D) (S : Sto) (h1 : ρ 1 [.int a, .int (-1000000), .int 1000000] S = .ok (.bl true) S) (h2 : ρ 1 [.int b, .int (-1000000), .int 1000000] S = .ok (.bl true) S) (h0 : b ≠ 0) (h3 : ρ 7 [.int a, .int b] S = .ok r S) :
    exSs ρ b_fraction [.val (.int a), .val (.int b)] S = .ok (.ret r) S := by
  simp [b_fraction, h1, h2, h3, h0]
theorem fraction_e (ρ : Calls) (a : Int) (S : Sto) (h1 : ρ 1 [.int a, .int (-1000000), .int 1000000] S = .ok (.bl true) S) (h2 : ρ 1 [.int 0, .int (-1000000), .int 1000000] S = .ok (.bl true) S) :
    exSs ρ b_fraction [.val (.int a), .val (.int 0)] S = .exc 0 [.str "other"] S := by
  simp [b_fraction, h1, h2, D.plains, D.plain]
def Wh (a : Int) : Prop := -1000000 ≤ a ∧ a ≤ 1000000
theorem Wh.sm {a : Int} (h : Wh a) : a.natAbs < 2 ^ 60 := Nat.lt_of_le_of_lt (show a.natAbs ≤ 1000000 by obtain ⟨h1, h2⟩ := h; omega) (by decide)
theorem in_wh (k : Nat) (a : Int) (S : Sto) (h : Wh a) : callK T (k + 2) 1 [.int a, .int (-1000000), .int 1000000] S = .ok (.bl true) S := by
  have h1 := in_range k a (-1000000) 1000000 S
  rw [decide_eq_true (show -1000000 ≤ a ∧ a ≤ 1000000 from h)] at h1
  exact h1
theorem fraction (k : Nat) (a b : Int) (S : Sto) (h : Wh a) (h2 : Wh b) (h0 : b ≠ 0) : callK T (k + 3) 15 [.int a, .int b] S = .ok (frD (red a b)) S :=
  call_of (d := d_fraction) (o := .ret _) rfl rfl (fraction_b _ a b _ S (in_wh k a S h) (in_wh k b S h2) h0 (made k a b S h0 (lt_pow h2.sm (by decide)))) rfl rfl
theorem fraction0 (k : Nat) (a : Int) (S : Sto) (h : Wh a) : callK T (k + 3) 15 [.int a, .int 0] S = .exc 0 [.str "other"] S :=
  call_exc (d := d_fraction) rfl rfl (fraction_e _ a S (in_wh k a S h) (in_wh k 0 S ⟨by decide, by decide⟩)) rfl
/-- a fraction of whole numbers within the bounds is good -/
theorem good_red {a b : Int} (h : Wh a) (h2 : Wh b) (h0 : b ≠ 0) : Good (red a b) := by
  have hf := red_fr (n := a) h0
  obtain ⟨x, y, g, hg, _, ha, hb, h1, e⟩ := red_spec (n := a) h0
  obtain ⟨a1, a2⟩ := h
  obtain ⟨b1, b2⟩ := h2
  have bound : ∀ z w : Int, z = g * w → w.natAbs ≤ z.natAbs := fun z w hz => by
    rw [hz, Int.natAbs_mul]
    have : 1 ≤ g.natAbs := by omega
    exact Nat.le_mul_of_pos_left _ (by omega)
  have n1 := bound _ _ ha
  have n2 := bound _ _ hb
  refine ⟨hf, ?_, ?_⟩
  · rw [e]
    show -1000000 ≤ sgn b * x ∧ sgn b * x ≤ 1000000
    rcases sgn_or b with ⟨_, z⟩ | ⟨_, z⟩
    · rw [z]; omega
    · rw [z]; omega
  · rw [e]
    show sgn b * y ≤ 1000000
    rcases sgn_or b with ⟨_, z⟩ | ⟨_, z⟩
    · rw [z]; omega
    · rw [z]; omega

/-! ### partial quotients -/
def cf (a : Int) (b : Nat) : List Int := if h : b = 0 then [] else (a / (b : Int)) :: cf b (a % (b : Int)).toNat
termination_by b
decreasing_by
  have h1 := Int.emod_lt_of_pos a (show (0 : Int) < b by omega)
  have h2 := Int.emod_nonneg a (show (b : Int) ≠ 0 by omega)
  omega
theorem cf_zero (a : Int) : cf a 0 = [] := by rw [cf, dif_pos rfl]
theorem cf_pos (a : Int) {b : Nat} (h : b ≠ 0) : cf a b = (a / (b : Int)) :: cf b (a % (b : Int)).toNat := by rw [cf, dif_neg h]
theorem mod_lt (a : Int) {b : Nat} (h : b ≠ 0) : (a % (b : Int)).toNat < b := by
  have h1 := Int.emod_lt_of_pos a (show (0 : Int) < b by omega)
  have h2 := Int.emod_nonneg a (show (b : Int) ≠ 0 by omega)
  omega
theorem modc (a : Int) {b : Nat} (h : b ≠ 0) : ((a % (b : Int)).toNat : Int) = a % (b : Int) := Int.toNat_of_nonneg (Int.emod_nonneg a (by omega))
theorem cf_len : ∀ (n : Nat) (a : Int) (b : Nat), b < 2 ^ n → (cf a b).length ≤ 2 * n
  | 0, a, b, h => by
    have : b = 0 := by simpa using h
    rw [this, cf_zero]; exact Nat.le_refl _
  | n + 1, a, b, h => by
    by_cases h0 : b = 0
    · rw [h0, cf_zero]; exact Nat.zero_le _
    · rw [cf_pos a h0, List.length_cons]
      by_cases h1 : (a % (b : Int)).toNat = 0
      · rw [h1, cf_zero]; simp; omega
      · rw [cf_pos _ h1, List.length_cons]
        have h2 := mod_lt a h0
        have h3 := mod_half (Nat.pos_of_ne_zero h1) h2
        have h5 : 2 ^ (n + 1) = 2 * 2 ^ n := by rw [Nat.pow_succ, Nat.mul_comm]
        have := cf_len n ((a % (b : Int)).toNat : Int) (((b : Int) % ((a % (b : Int)).toNat : Int)).toNat) (by
          rw [← Int.natCast_emod, Int.toNat_natCast]
          omega)
        omega
theorem quot_loop {cond : List Slot → Sto → Res Bool} {body : List Slot → Sto → Res Out} {st : Int → Nat → List Int → List Slot} {S : Sto} (hc : ∀ a b r, cond (st a b r) S = .ok (decide (b ≠ 0)) S) (hb : ∀ a b r, b ≠ 0 → b < 2 ^ 20 → r.length < 1000 → body (st a b r) S = .ok (.next (st b (a % (b : Int)).toNat (r ++ [a / (b : Int)]))) S) :
    ∀ (b : Nat) (a : Int) (r : List Int) (m : Nat), b < 2 ^ 20 → (cf a b).length < m → r.length + (cf a b).length < 1000 → ∃ g, whlL cond body m (st a b r) S = .ok (.next (st g 0 (r ++ cf a b))) S := by
  intro b
  induction b using Nat.strongRecOn with
  | ind b ih =>
    intro a r m hB hm hr
    obtain ⟨m', rfl⟩ : ∃ m', m = m' + 1 := ⟨m - 1, by omega⟩
    by_cases h0 : b = 0
    · subst h0
      exact ⟨a, by rw [whl_end (by rw [hc]; rfl), cf_zero, List.append_nil]⟩
    · rw [cf_pos a h0, List.length_cons] at hm hr
      obtain ⟨g, e⟩ := ih _ (mod_lt a h0) b (r ++ [a / (b : Int)]) m' (Nat.lt_trans (mod_lt a h0) hB) (by omega) (by rw [List.length_append, List.length_singleton]; omega)
      refine ⟨g, ?_⟩
      rw [whl_go (by rw [hc]; simp [h0]) (hb a b r h0 hB (by omega)), e, cf_pos a h0]
      simp
theorem quotients_b (ρ : Calls) (a b : Int) (row : List D) (σ : List Slot) (S : Sto) (h : ρ 6 [.tup [.int a, .int b], .str "one"] S = .ok .non S) (hw : exS ρ (.whl (.slot 2)
  (.cons (.app 3 (.bop .fdiv (.slot 1) (.slot 2)))
  (.cons (.par [1, 2] false (.cons (.slot 2) (.cons (.bop .mod (.slot 1) (.slot 2)) .nil)))
  .nil))) [.val (.tup [.int a, .int b]), .val (.int a), .val (.int b), .own []] S = .ok (.next σ) S) (hσ : σ[3]? = some (.own row)) :
    exSs ρ b_quotients [.val (.tup [.int a, .int b]), .no, .no, .no] S = .ok (.ret (.tup row)) S := by
  simp [b_quotients, h, setT, D.plains, DE.fresh, hw, hσ]
theorem quotients (k : Nat) (p : Int × Int) (S : Sto) (h : Good p) : callK T (k + 5) 21 [frD p] S = .ok (.tup ((cf p.1 p.2.toNat).map D.int)) S := by
  have hp := h.1.1
  have hb : p.2.toNat < 2 ^ 20 := Nat.lt_of_le_of_lt (show p.2.toNat ≤ 1000000 by have := h.2.2; omega) (by decide)
  have hl := cf_len 20 p.1 p.2.toNat hb
  have hc : ((p.2.toNat : Nat) : Int) = p.2 := Int.toNat_of_nonneg (by omega)
  obtain ⟨g, e⟩ := quot_loop (S := S) (st := fun a b r => [.val (.tup [.int p.1, .int p.2]), .val (.int a), .val (.int (b : Int)), .own (r.map D.int)])
    (cond := fun σ S => (evE (callK T (k + 4)) (.slot 2) σ S).bind fun x S1 => ofO (truth x) S1)
    (body := fun σ S => exSs (callK T (k + 4)) (.cons (.app 3 (.bop .fdiv (.slot 1) (.slot 2)))
      (.cons (.par [1, 2] false (.cons (.slot 2) (.cons (.bop .mod (.slot 1) (.slot 2)) .nil))) .nil)) σ S)
    (fun a b r => by by_cases h : b = 0 <;> simp [bne, h])
    (fun a b r h0 hB hr => by
      have h1 := b_div (i := a) (j := (b : Int)) (by omega) (log2_small (n := ((b : Nat) : Int).natAbs) (k := 20) (by rw [Int.natAbs_natCast]; exact hB) (by decide) (by decide))
      have h2 := b_mod (i := a) (j := (b : Int)) (by omega)
      have h3 := modc a h0
      have h4 : r.length < 16777216 := by omega
      generalize callK T (k + 4) = ρ
      simp [h1, h2, h3, h4, D.plain])
    p.2.toNat p.1 [] turns hb (by unfold turns; omega) (by simp; omega)
  rw [hc] at e
  refine call_of (d := d_quotients) (o := .ret _) rfl rfl (quotients_b _ p.1 p.2 _ _ S (demand_fraction k p "one" S h) (by rw [s_whl]; exact e) ?_) rfl rfl
  simp
end K30

end
section
set_option maxRecDepth 100000
/-! K30P5: the law's partial quotients; a fraction from its partial quotients. -/
namespace K30
open PySem DI
theorem law_quot_b1 (ρ : Calls) (a b w x : Int) (S : Sto) (h1 : binop .fdiv (.int a) (.int b) = some (.int w)) (h2 : binop .mul (.int w) (.int b) = some (.int x)) (h3 : a - x = 0) :
    exSs ρ b__law_quotients [.val (.tup [.int a, .int b]), .no, .no] S = .ok (.ret (.tup [.int w])) S := by
  simp [b__law_quotients, h1, h2, h3]
theorem law_quot_b2 (ρ : Calls) (a b w x : Int) (ys : List D) (S : Sto) (h1 : binop .fdiv (.int a) (.int b) = some (.int w)) (h2 : binop .mul (.int w) (.int b) = some (.int x)) (h3 : a - x ≠ 0) (h4 : ρ 34 [.tup [.int b, .int (a - x)]] S = .ok (.tup ys) S) (h5 : ys.length < 1000) :
    exSs ρ b__law_quotients [.val (.tup [.int a, .int b]), .no, .no] S = .ok (.ret (.tup (.int w :: ys))) S := by
  have hb : binop .add (.tup [.int w]) (.tup ys) = some (.tup (.int w :: ys)) := by
    show (if fits ([D.int w].length + ys.length) = true then some (D.tup ([D.int w] ++ ys)) else none) = _
    rw [if_pos]
    · rfl
    · simp; omega
  simp [b__law_quotients, h1, h2, h3, h4, hb]
theorem law_quot : ∀ (n : Nat) (b : Nat) (a : Int) (S : Sto), b ≠ 0 → b < 2 ^ 20 → (cf a b).length ≤ n → (cf a b).length < 1000 → callK T n 34 [.tup [.int a, .int (b : Int)]] S = .ok (.tup ((cf a b).map D.int)) S
  | 0, b, a, S, h0, hB, hl, _ => by
    rw [cf_pos a h0] at hl
    simp at hl
  | n + 1, b, a, S, h0, hB, hl, hk => by
    have h1 := b_div (i := a) (j := (b : Int)) (by omega) (log2_small (n := ((b : Nat) : Int).natAbs) (k := 20) (by rw [Int.natAbs_natCast]; exact hB) (by decide) (by decide))
    have h2 := b_mul (i := a / (b : Int)) (j := (b : Int)) (mulOk_r (by rw [Int.natAbs_natCast]; exact Nat.lt_trans hB (by decide)))
    have h3 : a - a / (b : Int) * (b : Int) = a % (b : Int) := by
      have := Int.emod_def a (b : Int)
      rw [Int.mul_comm] at this
      omega
    by_cases hz : a % (b : Int) = 0
    · have e : cf a b = [a / (b : Int)] := by
        rw [cf_pos a h0, hz]
        show _ :: cf b 0 = _
        rw [cf_zero]
      rw [e]
      exact call_of (d := d__law_quotients) (o := .ret _) rfl rfl (law_quot_b1 _ a b _ _ S h1 h2 (by rw [h3, hz])) rfl rfl
    · have hm := modc a h0
      have hne : (a % (b : Int)).toNat ≠ 0 := by omega
      have e := cf_pos a h0
      rw [e, List.length_cons] at hl hk
      have ih := law_quot n (a % (b : Int)).toNat b S hne (Nat.lt_trans (mod_lt a h0) hB) (by omega) (by omega)
      rw [hm] at ih
      rw [e]
      exact call_of (d := d__law_quotients) (o := .ret _) rfl rfl (law_quot_b2 _ a b _ _ _ S h1 h2 (by rw [h3]; exact hz) (by rw [h3]; exact ih) (by rw [List.length_map]; omega)) rfl rfl

/-! ### from partial quotients -/
/-- the pair that a row of partial quotients stands for -/
def conv : List Int → Int × Int
  | [] => (1, 0)
  | x :: r => (x * (conv r).1 + (conv r).2, (conv r).1)
theorem conv_one (x : Int) : conv [x] = (x, 1) := by
  show (x * 1 + 0, (1 : Int)) = _
  rw [Int.mul_one, Int.add_zero]
theorem conv_pos : ∀ (r : List Int), (∀ x ∈ r, 1 ≤ x) → 1 ≤ (conv r).1 ∧ 0 ≤ (conv r).2
  | [], _ => ⟨by decide, by decide⟩
  | x :: r, h => by
    obtain ⟨h1, h2⟩ := conv_pos r fun y hy => h y (List.mem_cons_of_mem _ hy)
    have hx := h x List.mem_cons_self
    have := Int.mul_le_mul hx h1 (by omega) (by omega)
    exact ⟨by show 1 ≤ x * (conv r).1 + (conv r).2; omega, by show 0 ≤ (conv r).1; omega⟩
theorem conv_gcd : ∀ (r : List Int), Int.gcd (conv r).1 (conv r).2 = 1
  | [] => rfl
  | x :: r => by
    have ih := conv_gcd r
    show Int.gcd (x * (conv r).1 + (conv r).2) (conv r).1 = 1
    rw [Int.add_comm, Int.mul_comm, Int.gcd_comm, Int.gcd_add_mul_left_right]
    exact ih
/-- rows that the program takes -/
structure Row (r : List Int) : Prop where
  ne : r ≠ []
  len : r.length ≤ 30
  hd : ∀ x, r.head? = some x → Wh x
  tl : ∀ x ∈ r.tail, 1 ≤ x ∧ x ≤ 1000000
theorem conv_fr {x : Int} {r : List Int} (h : ∀ y ∈ r, 1 ≤ y) : Fr (conv (x :: r)) := ⟨by
  have := (conv_pos r h).1
  show 0 < (conv r).1
  omega, conv_gcd _⟩
theorem conv_big : ∀ (r : List Int), (∀ x ∈ r, x.natAbs ≤ 1000000) → (conv r).1.natAbs ≤ (2 ^ 20) ^ r.length ∧ (conv r).2.natAbs ≤ (2 ^ 20) ^ r.length
  | [], _ => ⟨by decide, by decide⟩
  | x :: r, h => by
    obtain ⟨h1, h2⟩ := conv_big r fun y hy => h y (List.mem_cons_of_mem _ hy)
    have hx := h x List.mem_cons_self
    rw [List.length_cons, Nat.pow_succ]
    generalize (2 ^ 20) ^ r.length = B at *
    refine ⟨?_, ?_⟩
    · show (x * (conv r).1 + (conv r).2).natAbs ≤ _
      have a1 := Int.natAbs_add_le (x * (conv r).1) (conv r).2
      rw [Int.natAbs_mul] at a1
      have a2 := Nat.mul_le_mul hx h1
      have a3 : B * 2 ^ 20 = 1048576 * B := by rw [Nat.mul_comm]
      rw [a3]
      omega
    · show (conv r).1.natAbs ≤ _
      have : B ≤ B * 2 ^ 20 := Nat.le_mul_of_pos_right _ (by decide)
      omega
theorem conv_lt {r : List Int} (h : ∀ x ∈ r, x.natAbs ≤ 1000000) (hl : r.length ≤ 100) : (conv r).1.natAbs < 2 ^ 4000 ∧ (conv r).2.natAbs < 2 ^ 4000 := by
  obtain ⟨h1, h2⟩ := conv_big r h
  rw [← Nat.pow_mul] at h1 h2
  have : 2 ^ (20 * r.length) < 2 ^ 4000 := Nat.pow_lt_pow_right (by decide) (by omega)
  exact ⟨Nat.lt_of_le_of_lt h1 this, Nat.lt_of_le_of_lt h2 this⟩
theorem law_from_b1 (ρ : Calls) (x : Int) (S : Sto) : exSs ρ b__law_from [.val (.tup [.int x]), .no, .no] S = .ok (.ret (.tup [.int x, .int 1])) S := by
  have hi : idxD S (.tup [.int x]) (.int 0) = some (.int x) := rfl
  simp [b__law_from, hi]
theorem ix_hd (S : Sto) (x : D) (r : List D) : idxD S (.tup (x :: r)) (.int 0) = some x := by
  show (L2.ixN (r.length + 1) 0).bind (fun j => (x :: r)[j]?) = _
  unfold L2.ixN
  rw [if_pos (Int.le_refl 0), if_pos (by omega)]
  rfl
theorem slc_tl (x : D) (r : List D) : slcD (.tup (x :: r)) (some 1) none = some (.tup r) := by
  show some (D.tup (((x :: r).drop (HT.sIx (r.length + 1) 0 (some 1))).take (HT.sIx (r.length + 1) (r.length + 1) none - HT.sIx (r.length + 1) 0 (some 1)))) = _
  have h : HT.sIx (r.length + 1) 0 (some 1) = 1 := by
    have := HT.sIx_nat (r.length + 1) 0 1
    rw [show ((1 : Nat) : Int) = 1 from rfl] at this
    rw [this]
    omega
  rw [h, HT.sIx_none, List.drop_succ_cons, List.drop_zero, Nat.add_sub_cancel, List.take_of_length_le (Nat.le_refl _)]
theorem law_from_b2 (ρ : Calls) (y : D) (r : List D) (a t u p : Int) (res : D) (S : Sto) (h1 : ρ 35 [.tup (y :: r)] S = .ok (.tup [.int t, .int u]) S) (h2 : binop .mul (.int a) (.int t) = some (.int p)) (h3 : ρ 31 [.int (p + u), .int t] S = .ok res S) :
    exSs ρ b__law_from [.val (.tup (.int a :: y :: r)), .no, .no] S = .ok (.ret res) S := by
  have hi := ix_hd S (.int a) (y :: r)
  have hs := slc_tl (.int a) (y :: r)
  have hl : ¬ ((r.length : Int) + 1 + 1 = 1) := by omega
  simp [b__law_from, hi, intO, hs, h1, h2, h3, hl, setT]
theorem law_from : ∀ (n : Nat) (r : List Int) (S : Sto), r ≠ [] → (∀ x ∈ r.tail, 1 ≤ x) → (∀ x ∈ r, x.natAbs ≤ 1000000) → r.length ≤ 100 → r.length ≤ n → callK T (n + 2) 35 [.tup (r.map D.int)] S = .ok (frD (conv r)) S
  | n, [], S, h, _, _, _, _ => absurd rfl h
  | n, [x], S, _, _, _, _, _ => by
    rw [conv_one]
    exact call_of (d := d__law_from) (o := .ret _) rfl rfl (law_from_b1 _ x S) rfl rfl
  | 0, x :: y :: r, S, _, _, _, _, hn => by simp at hn
  | n + 1, x :: y :: r, S, _, h1, h2, h3, hn => by
    have ih := law_from n (y :: r) S (List.cons_ne_nil _ _) (fun z hz => h1 z (List.mem_cons_of_mem _ hz)) (fun z hz => h2 z (List.mem_cons_of_mem _ hz)) (by simp at h3 ⊢; omega) (by simp at hn ⊢; omega)
    have hf : Fr (conv (x :: y :: r)) := conv_fr h1
    have hb := conv_lt (fun z hz => h2 z (List.mem_cons_of_mem _ hz)) (show (y :: r).length ≤ 100 by simp at h3 ⊢; omega)
    have hm := law_made n (x * (conv (y :: r)).1 + (conv (y :: r)).2) (conv (y :: r)).1 S (by have := hf.1; change 0 < (conv (y :: r)).1 at this; omega) hb.1
    have e : red (x * (conv (y :: r)).1 + (conv (y :: r)).2) (conv (y :: r)).1 = conv (x :: y :: r) := red_self hf
    rw [e] at hm
    have hx : x.natAbs ≤ 1000000 := h2 x List.mem_cons_self
    clear hb
    exact call_of (d := d__law_from) (o := .ret _) rfl rfl (law_from_b2 _ (.int y) (r.map D.int) x _ _ _ _ S ih (b_mul (mulOk_l (Nat.lt_of_le_of_lt hx (by decide)))) hm) rfl rfl
end K30

end
section
set_option maxRecDepth 100000
/-! K30P6: the program's fraction from partial quotients. -/
namespace K30
open PySem DI
theorem lcL_pure {t : DT} {cond : List Slot → Sto → Res Bool} {elt : List Slot → Sto → Res D} {σ : List Slot} {S : Sto} (g : D → D) : ∀ ds : List D, (∀ d ∈ ds, ∃ σ1, setT t σ d = some σ1 ∧ cond σ1 S = .ok true S ∧ elt σ1 S = .ok (g d) S) → lcL t cond elt σ ds S = .ok (ds.map g) S
  | [], _ => rfl
  | d :: r, h => by
    obtain ⟨σ1, h1, h2, h3⟩ := h d List.mem_cons_self
    have ih := lcL_pure (t := t) (cond := cond) (elt := elt) (σ := σ) (S := S) g r fun e he => h e (List.mem_cons_of_mem _ he)
    rw [lcL, h1]
    simp [h2, h3, ih]
theorem all_true (S : Sto) (ds : List D) : biD .all S [.lst (ds.map fun _ => .bl true)] = some (.bl true) := by
  have h : boolsD (ds.map fun _ => D.bl true) = some (ds.map fun _ => true) := by
    induction ds with
    | nil => rfl
    | cons d ds ih => simp [boolsD, ih]
  show (boolsD _).map _ = _
  rw [h]
  simp
theorem demand_row_b (ρ : Calls) (x : D) (r : List D) (S : Sto) (hl : r.length < 30) (h1 : ρ 1 [x, .int (-1000000), .int 1000000] S = .ok (.bl true) S) (h2 : ∀ d ∈ r, ρ 1 [d, .int 1, .int 1000000] S = .ok (.bl true) S) :
    exSs ρ b_demand_row [.val (.tup (x :: r)), .no] S = .ok (.next [.val (.tup (x :: r)), .no]) S := by
  have hi := ix_hd S x r
  have hs := slc_tl x r
  have hlc : evE ρ (.lc [1] (.one 1) (.seq (.slc (.slot 0) (.some (.const (.int 1))) .none)) .none (.call 1 (.cons (.slot 1) (.cons (.const (.int 1)) (.cons (.glob "MAX_NUMBER" (.int 1000000)) .nil))))) [.val (.tup (x :: r)), .no] S = .ok (.lst (r.map fun _ => .bl true)) S := by
    rw [e_lc, i_seq]
    have h0 : evE ρ (.slc (.slot 0) (.some (.const (.int 1))) .none) [.val (.tup (x :: r)), .no] S = .ok (.tup r) S := by simp [intO, hs]
    rw [h0, r_bind_ok, show ofO (itemsD (.tup r)) S = .ok r S from rfl, r_bind_ok, lcL_pure (fun _ => .bl true) r (fun d hd => ⟨[.val (.tup (x :: r)), .val d], rfl, rfl, by simp [h2 d hd]⟩), r_quiet_ok, r_bind_ok, if_pos]
    simp; omega
  have ha := all_true S r
  have c1 : ((1 : Int) ≤ (r.length : Int) + 1) := by omega
  have c2 : ((r.length : Int) + 1 ≤ 30) := by omega
  simp [-e_lc, b_demand_row, hlc, isTy, hi, h1, ha, c1, c2]
theorem in_pos (k : Nat) (a : Int) (S : Sto) (h : 1 ≤ a ∧ a ≤ 1000000) : callK T (k + 2) 1 [.int a, .int 1, .int 1000000] S = .ok (.bl true) S := by
  have h1 := in_range k a 1 1000000 S
  rw [decide_eq_true h] at h1
  exact h1
theorem demand_row (k : Nat) (r : List Int) (S : Sto) (h : Row r) : callK T (k + 3) 22 [.tup (r.map D.int)] S = .ok .non S := by
  cases r with
  | nil => exact absurd rfl h.ne
  | cons x r =>
    refine call_of (d := d_demand_row) (o := .next _) rfl rfl (demand_row_b _ (.int x) (r.map D.int) S (by have := h.len; simp at this ⊢; omega) (in_wh k x S (h.hd x rfl)) fun d hd => ?_) rfl rfl
    obtain ⟨y, hy, rfl⟩ := List.mem_map.mp hd
    exact in_pos k y S (h.tl y hy)
theorem Row.big {r : List Int} (h : Row r) : ∀ x ∈ r, x.natAbs ≤ 1000000 := by
  cases r with
  | nil => intro x hx; cases hx
  | cons y r =>
    intro x hx
    rcases List.mem_cons.mp hx with z | z
    · subst z
      have := h.hd x rfl
      obtain ⟨h1, h2⟩ := this
      omega
    · have := h.tl x z
      omega
theorem from_loop (ρ : Calls) (row : Slot) (S : Sto) : ∀ (l suf : List Int) (x3 : Slot), (∀ x ∈ l, x.natAbs ≤ 1000000) → ∃ x3', forL (.one 3) (fun σ S => exSs ρ (.cons (.par [1, 2] false (.cons (.bop .add (.bop .mul (.slot 3) (.slot 1)) (.slot 2)) (.cons (.slot 1) .nil))) .nil) σ S) (l.map D.int) [row, .val (.int (conv suf).1), .val (.int (conv suf).2), x3] S = .ok (.next [row, .val (.int (conv (l.reverse ++ suf)).1), .val (.int (conv (l.reverse ++ suf)).2), x3']) S
  | [], suf, x3, _ => ⟨x3, rfl⟩
  | x :: l, suf, x3, h => by
    obtain ⟨x3', ih⟩ := from_loop ρ row S l (x :: suf) (.val (.int x)) fun y hy => h y (List.mem_cons_of_mem _ hy)
    refine ⟨x3', ?_⟩
    have hm := b_mul (i := x) (j := (conv suf).1) (mulOk_l (Nat.lt_of_le_of_lt (h x List.mem_cons_self) (by decide)))
    have hb : exSs ρ (.cons (.par [1, 2] false (.cons (.bop .add (.bop .mul (.slot 3) (.slot 1)) (.slot 2)) (.cons (.slot 1) .nil))) .nil) [row, .val (.int (conv suf).1), .val (.int (conv suf).2), .val (.int x)] S = .ok (.next [row, .val (.int (conv (x :: suf)).1), .val (.int (conv (x :: suf)).2), .val (.int x)]) S := by
      simp [hm, conv]
    rw [List.map_cons, forL]
    show (Res.ok [row, .val (.int (conv suf).1), .val (.int (conv suf).2), .val (.int x)] S).bind _ = _
    rw [r_bind_ok, hb, r_bind_ok]
    simp only []
    rw [ih]
    simp
theorem from_b (ρ : Calls) (r : List Int) (z : Int) (n d : Int) (x3 : Slot) (res : D) (S : Sto) (h0 : ρ 22 [.tup ((r ++ [z]).map D.int)] S = .ok .non S) (hl : forL (.one 3) (fun σ S => exSs ρ (.cons (.par [1, 2] false (.cons (.bop .add (.bop .mul (.slot 3) (.slot 1)) (.slot 2)) (.cons (.slot 1) .nil))) .nil) σ S) (r.reverse.map D.int) [.val (.tup ((r ++ [z]).map D.int)), .val (.int z), .val (.int 1), .no] S = .ok (.next [.val (.tup ((r ++ [z]).map D.int)), .val (.int n), .val (.int d), x3]) S) (h2 : ρ 7 [.int n, .int d] S = .ok res S) :
    exSs ρ b_from_quotients [.val (.tup ((r ++ [z]).map D.int)), .no, .no, .no] S = .ok (.ret res) S := by
  have hi : idxD S (.tup ((r ++ [z]).map D.int)) (.int (-1)) = some (.int z) := by
    show (L2.ixN ((r ++ [z]).map D.int).length (-1)).bind (fun j => ((r ++ [z]).map D.int)[j]?) = _
    unfold L2.ixN
    rw [if_neg (by decide), if_pos (by simp; omega), List.length_map, List.length_append, List.length_singleton]
    have : ((-1 : Int) + ((r.length + 1 : Nat) : Int)).toNat = r.length := by omega
    rw [this]
    simp
  have hs : slcRD (.tup ((r ++ [z]).map D.int)) (some (-2)) = some (.tup (r.reverse.map D.int)) := by
    show some (D.tup ((((r ++ [z]).map D.int).take (backIx ((r ++ [z]).map D.int).length (some (-2)))).reverse)) = _
    have : backIx ((r ++ [z]).map D.int).length (some (-2)) = r.length := by
      unfold backIx
      simp only []
      rw [if_pos (by decide), List.length_map, List.length_append, List.length_singleton]
      omega
    rw [this]
    simp
  have hf : exS ρ (.forS (.one 3) (.seq (.slcR (.slot 0) (.some (.neg (.const (.int 2))))))
      (.cons (.par [1, 2] false (.cons (.bop .add (.bop .mul (.slot 3) (.slot 1)) (.slot 2)) (.cons (.slot 1) .nil))) .nil)) [.val (.tup ((r ++ [z]).map D.int)), .val (.int z), .val (.int 1), .no] S = .ok (.next [.val (.tup ((r ++ [z]).map D.int)), .val (.int n), .val (.int d), x3]) S := by
    rw [s_for, i_seq]
    have e : evE ρ (.slcR (.slot 0) (.some (.neg (.const (.int 2))))) [.val (.tup ((r ++ [z]).map D.int)), .val (.int z), .val (.int 1), .no] S = .ok (.tup (r.reverse.map D.int)) S := by
      generalize (r ++ [z]).map D.int = row at hs
      simp [intO, hs]
    rw [e, r_bind_ok, show ofO (itemsD (.tup (r.reverse.map D.int))) S = .ok (r.reverse.map D.int) S from rfl, r_bind_ok]
    exact hl
  generalize (r ++ [z]).map D.int = row at *
  simp [-s_for, b_from_quotients, h0, hi, hf, h2]
theorem from_quotients (k : Nat) (l : List Int) (S : Sto) (h : Row l) : callK T (k + 4) 23 [.tup (l.map D.int)] S = .ok (frD (conv l)) S := by
  have hd := demand_row k l S h
  have hbig := h.big
  obtain ⟨r, z, e⟩ : ∃ r z, l = r ++ [z] := ⟨l.dropLast, l.getLast h.ne, (List.dropLast_concat_getLast h.ne).symm⟩
  obtain ⟨x3, hl⟩ := from_loop (callK T (k + 3)) (.val (.tup (l.map D.int))) S r.reverse [z] .no (fun x hx => hbig x (by rw [e]; exact List.mem_append_left _ (List.mem_reverse.mp hx)))
  rw [List.reverse_reverse, ← e, conv_one] at hl
  have hm := made (k + 1) (conv l).1 (conv l).2 S ?_ (conv_lt hbig (Nat.le_trans h.len (by decide))).2
  · have hfr : Fr (conv l) := by
      cases l with
      | nil => exact absurd rfl h.ne
      | cons x t => exact conv_fr fun y hy => (h.tl y hy).1
    rw [red_self hfr] at hm
    subst e
    exact call_of (d := d_from_quotients) (o := .ret _) rfl rfl (from_b _ r z _ _ _ _ S hd hl hm) rfl rfl
  · cases l with
    | nil => exact absurd rfl h.ne
    | cons x t =>
      have hfr : Fr (conv (x :: t)) := conv_fr (r := t) fun y hy => (h.tl y hy).1
      have := hfr.1
      omega
/-! ### a good fraction's own row -/
theorem cf_bound : ∀ (b a : Nat), b < a → ∀ x ∈ cf (a : Int) b, 1 ≤ x ∧ x ≤ a := by
  intro b
  induction b using Nat.strongRecOn with
  | ind b ih =>
    intro a hba x hx
    by_cases h0 : b = 0
    · subst h0
      rw [cf_zero] at hx; cases hx
    · rw [cf_pos _ h0] at hx
      rcases List.mem_cons.mp hx with z | z
      · subst z
        rw [← Int.natCast_ediv]
        have h1 : 1 ≤ a / b := (Nat.one_le_div_iff (Nat.pos_of_ne_zero h0)).mpr (Nat.le_of_lt hba)
        have h2 : a / b ≤ a := Nat.div_le_self a b
        omega
      · have h3 := mod_lt (a : Int) h0
        have := ih _ h3 b h3 x z
        omega
theorem row_own {p : Int × Int} (h : Good p) : Row ((cf p.1 p.2.toNat).take 30) := by
  have hp := h.1.1
  have hc : ((p.2.toNat : Nat) : Int) = p.2 := Int.toNat_of_nonneg (by omega)
  have h0 : p.2.toNat ≠ 0 := by omega
  obtain ⟨_, ⟨a1, a2⟩, a3⟩ := h
  generalize p.2.toNat = b at *
  generalize p.1 = a at *
  rw [cf_pos _ h0]
  have hb : (0 : Int) < (b : Int) := by omega
  refine ⟨by simp, by simp; omega, fun x hx => ?_, fun x hx => ?_⟩
  · simp at hx
    subst hx
    exact ⟨Int.le_ediv_of_mul_le hb (by omega), Int.ediv_le_of_le_mul hb (by omega)⟩
  · have h3 := mod_lt a h0
    rw [List.take_succ_cons, List.tail_cons] at hx
    have := cf_bound _ _ h3 x (List.mem_of_mem_take hx)
    omega
end K30

end
section
set_option maxRecDepth 100000
/-! K30P7: whole roots. -/
namespace K30
open PySem DI
/-- s is the whole root of n -/
def IsR (n s : Int) : Prop := 0 ≤ s ∧ s * s ≤ n ∧ n < (s + 1) * (s + 1)
theorem sq_lt {a b : Int} (ha : 0 ≤ a) (hb : 0 ≤ b) (h : a * a < b * b) : a < b := by
  rcases Int.lt_or_le a b with z | z
  · exact z
  · have := Int.mul_le_mul z z hb ha
    omega
theorem sq_le {a b : Int} (ha : 0 ≤ a) (h : a ≤ b) : a * a ≤ b * b := Int.mul_le_mul h h ha (by omega)
theorem isR_unique {n s t : Int} (h : IsR n s) (h2 : IsR n t) : s = t := by
  obtain ⟨h0, h1, h3⟩ := h
  obtain ⟨g0, g1, g3⟩ := h2
  have a := sq_lt (a := s) (b := t + 1) h0 (by omega) (by omega)
  have b := sq_lt (a := t) (b := s + 1) g0 (by omega) (by omega)
  omega
section
variable {cond : List Slot → Sto → Res Bool} {body : List Slot → Sto → Res Out} {S : Sto} {n : Int}
/-- doubling -/
theorem dbl_loop {st : Int → List Slot} (hc : ∀ h : Int, 0 < h → h < 4096 → cond (st h) S = .ok (decide (h * h ≤ n)) S) (hb : ∀ h : Int, 0 < h → h < 4096 → body (st h) S = .ok (.next (st (h * 2))) S) (h1 : 1 ≤ n) (hn : n ≤ 1000000) :
    ∀ (k : Nat) (h : Int) (m : Nat), 0 < h → h * 2 ^ k = 2048 → k < m → (h = 1 ∨ ∃ g, h = g * 2 ∧ 0 < g ∧ g * g ≤ n) → ∃ h', whlL cond body m (st h) S = .ok (.next (st h')) S ∧ n < h' * h' ∧ ∃ g, h' = g * 2 ∧ 0 < g ∧ g * g ≤ n := by
  intro k
  induction k with
  | zero =>
    intro h m h0 hk hm hg
    obtain ⟨m', rfl⟩ : ∃ m', m = m' + 1 := ⟨m - 1, by omega⟩
    have : h = 2048 := by simpa using hk
    subst this
    refine ⟨2048, ?_, by omega, ?_⟩
    · exact whl_end (by rw [hc _ (by decide) (by decide)]; rw [decide_eq_false (by omega)])
    · rcases hg with z | z
      · omega
      · exact z
  | succ k ih =>
    intro h m h0 hk hm hg
    obtain ⟨m', rfl⟩ : ∃ m', m = m' + 1 := ⟨m - 1, by omega⟩
    have hlt : h < 4096 := by
      have hp : 0 < (2 : Int) ^ (k + 1) := Int.pow_pos (by decide)
      have : 1 ≤ (2 : Int) ^ (k + 1) := hp
      have := Int.mul_le_mul (Int.le_refl h) this (by decide) (by omega)
      omega
    by_cases hle : h * h ≤ n
    · obtain ⟨h', e1, e2⟩ := ih (h * 2) m' (by omega) (by rw [← hk, Int.pow_succ]; grind) (by omega) (.inr ⟨h, rfl, h0, hle⟩)
      exact ⟨h', by rw [whl_go (by rw [hc _ h0 hlt, decide_eq_true hle]) (hb _ h0 hlt), e1], e2⟩
    · refine ⟨h, whl_end (by rw [hc _ h0 hlt, decide_eq_false hle]), by omega, ?_⟩
      rcases hg with z | z
      · subst z; omega
      · exact z
/-- halving -/
theorem bis_loop {st : Int → Int → Slot → List Slot} (hc : ∀ hi lo x, cond (st hi lo x) S = .ok (decide (1 < hi - lo)) S)
    (hb : ∀ hi lo x, 0 ≤ lo → lo < hi → hi < 4096 → ∃ x', body (st hi lo x) S = .ok (.next (if (lo + hi) / 2 * ((lo + hi) / 2) ≤ n then st hi ((lo + hi) / 2) x' else st ((lo + hi) / 2) lo x')) S) :
    ∀ (k : Nat) (hi lo : Int) (x : Slot) (m : Nat), 0 ≤ lo → lo < hi → hi < 4096 → hi - lo ≤ 2 ^ k → k < m → lo * lo ≤ n → n < hi * hi → ∃ hi' lo' x', whlL cond body m (st hi lo x) S = .ok (.next (st hi' lo' x')) S ∧ IsR n lo' := by
  intro k
  induction k with
  | zero =>
    intro hi lo x m h0 h1 h2 hk hm a b
    obtain ⟨m', rfl⟩ : ∃ m', m = m' + 1 := ⟨m - 1, by omega⟩
    have e : hi = lo + 1 := by
      have : (2 : Int) ^ 0 = 1 := rfl
      omega
    exact ⟨hi, lo, x, whl_end (by rw [hc, decide_eq_false (by omega)]), h0, a, by rw [← e]; exact b⟩
  | succ k ih =>
    intro hi lo x m h0 h1 h2 hk hm a b
    obtain ⟨m', rfl⟩ : ∃ m', m = m' + 1 := ⟨m - 1, by omega⟩
    by_cases hle : 1 < hi - lo
    · obtain ⟨x', e⟩ := hb hi lo x h0 h1 h2
      have hp : (2 : Int) ^ (k + 1) = 2 ^ k * 2 := Int.pow_succ ..
      by_cases hs : (lo + hi) / 2 * ((lo + hi) / 2) ≤ n
      · rw [if_pos hs] at e
        obtain ⟨hi', lo', x2, q1, q2⟩ := ih hi ((lo + hi) / 2) x' m' (by omega) (by omega) h2 (by omega) (by omega) hs b
        exact ⟨hi', lo', x2, by rw [whl_go (by rw [hc, decide_eq_true hle]) e, q1], q2⟩
      · rw [if_neg hs] at e
        obtain ⟨hi', lo', x2, q1, q2⟩ := ih ((lo + hi) / 2) lo x' m' h0 (by omega) (by omega) (by omega) (by omega) a (by omega)
        exact ⟨hi', lo', x2, by rw [whl_go (by rw [hc, decide_eq_true hle]) e, q1], q2⟩
    · have e : hi = lo + 1 := by omega
      exact ⟨hi, lo, x, whl_end (by rw [hc, decide_eq_false hle]), h0, a, by rw [← e]; exact b⟩
end
theorem wr_b0 (ρ : Calls) (n : Int) (S : Sto) (h : n < 2) : exSs ρ b_whole_root [.val (.int n), .no, .no, .no] S = .ok (.ret (.int n)) S := by
  simp [b_whole_root, h]
theorem wr_b (ρ : Calls) (n h lo : Int) (σ : List Slot) (S : Sto) (h2 : ¬ n < 2)
    (w1 : exS ρ (.whl (.cmp .le (.bop .mul (.slot 1) (.slot 1)) (.slot 0)) (.cons (.aug 1 .mul (.const (.int 2))) .nil)) [.val (.int n), .val (.int 1), .no, .no] S = .ok (.next [.val (.int n), .val (.int h), .no, .no]) S)
    (hd : binop .fdiv (.int h) (.int 2) = some (.int lo))
    (w2 : exS ρ (.whl (.cmp .gt (.bop .sub (.slot 1) (.slot 2)) (.const (.int 1)))
  (.cons (.asg 3 .val false (.bop .fdiv (.bop .add (.slot 2) (.slot 1)) (.const (.int 2))))
  (.cons (.ifS (.cmp .le (.bop .mul (.slot 3) (.slot 3)) (.slot 0))
  (.cons (.asg 2 .val false (.slot 3))
  .nil)
  (.cons (.asg 1 .val false (.slot 3))
  .nil))
  .nil))) [.val (.int n), .val (.int h), .val (.int lo), .no] S = .ok (.next σ) S) (s : Int) (hs : σ[2]? = some (.val (.int s))) :
    exSs ρ b_whole_root [.val (.int n), .no, .no, .no] S = .ok (.ret (.int s)) S := by
  simp [b_whole_root, h2, w1, hd, w2, hs]
theorem div2 (x : Int) : binop .fdiv (.int x) (.int 2) = some (.int (x / 2)) := b_div (by decide) (by decide)
theorem mul_sm {x y : Int} (h : -4096 < x) (h2 : x < 4096) : binop .mul (.int x) (.int y) = some (.int (x * y)) := b_mul (mulOk_l (Nat.lt_of_lt_of_le (show x.natAbs < 4096 by omega) (by decide)))
theorem whole_root (k : Nat) (n : Int) (S : Sto) (h0 : 0 ≤ n) (h1 : n ≤ 1000000) : ∃ s, IsR n s ∧ callK T (k + 1) 3 [.int n] S = .ok (.int s) S := by
  by_cases h2 : n < 2
  · refine ⟨n, ⟨h0, ?_, ?_⟩, call_of (d := d_whole_root) (o := .ret _) rfl rfl (wr_b0 _ n S h2) rfl rfl⟩
    · rcases (show n = 0 ∨ n = 1 by omega) with z | z <;> subst z <;> decide
    · rcases (show n = 0 ∨ n = 1 by omega) with z | z <;> subst z <;> decide
  · generalize hρ : callK T k = ρ
    obtain ⟨h, e1, e2, g, e3, e4, e5⟩ := dbl_loop (S := S) (n := n) (st := fun h => [.val (.int n), .val (.int h), .no, .no])
      (cond := fun σ S => (evE ρ (.cmp .le (.bop .mul (.slot 1) (.slot 1)) (.slot 0)) σ S).bind fun x S1 => ofO (truth x) S1) (body := fun σ S => exSs ρ (.cons (.aug 1 .mul (.const (.int 2))) .nil) σ S)
      (fun h a b => by simp [mul_sm (x := h) (y := h) (by omega) b]) (fun h a b => by simp) (by omega) h1 11 1 turns (by decide) (by decide) (by decide) (.inl rfl)
    have hg : g ≤ 1000 := by
      have := sq_lt (a := g) (b := 1001) (by omega) (by decide) (by omega)
      omega
    obtain ⟨hi', lo', x', f1, f2⟩ := bis_loop (S := S) (n := n) (st := fun hi lo x => [.val (.int n), .val (.int hi), .val (.int lo), x])
      (cond := fun σ S => (evE ρ (.cmp .gt (.bop .sub (.slot 1) (.slot 2)) (.const (.int 1))) σ S).bind fun x S1 => ofO (truth x) S1)
      (body := fun σ S => exSs ρ (.cons (.asg 3 .val false (.bop .fdiv (.bop .add (.slot 2) (.slot 1)) (.const (.int 2))))
        (.cons (.ifS (.cmp .le (.bop .mul (.slot 3) (.slot 3)) (.slot 0)) (.cons (.asg 2 .val false (.slot 3)) .nil) (.cons (.asg 1 .val false (.slot 3)) .nil)) .nil)) σ S)
      (fun hi lo x => by simp) (fun hi lo x a b c => ⟨.val (.int ((lo + hi) / 2)), by
        have hm := mul_sm (x := (lo + hi) / 2) (y := (lo + hi) / 2) (by omega) (by omega)
        by_cases hs : (lo + hi) / 2 * ((lo + hi) / 2) ≤ n
        · simp [div2, hm, hs]
        · simp [div2, hm, hs]⟩) 11 h g .no turns (by omega) (by omega) (by omega) (by
          have : (2 : Int) ^ 11 = 2048 := by decide
          omega) (by decide) e5 e2
    refine ⟨lo', f2, call_of (d := d_whole_root) (o := .ret _) rfl rfl (wr_b _ n h g _ S h2 (by rw [hρ, s_whl]; exact e1) (by rw [div2, e3, Int.mul_ediv_cancel _ (by decide)]) (by rw [hρ, s_whl]; exact f1) lo' rfl) rfl rfl⟩
end K30

end
section
set_option maxRecDepth 100000
/-! K30P8: the law's whole roots; roots of fractions. -/
namespace K30
open PySem DI
theorem newt_ge {n s h : Int} (hs : IsR n s) (h0 : 0 < h) : s ≤ (h + n / h) / 2 := by
  rcases Int.lt_or_le ((h + n / h) / 2) s with z | z
  · exfalso
    obtain ⟨a, b, c⟩ := hs
    have h1 := Int.lt_ediv_add_one_mul_self n h0
    have h2 : h + (n / h + 1) ≤ 2 * s := by omega
    generalize n / h + 1 = t at *
    have ht : 0 < t := by
      rcases Int.lt_or_le 0 t with y | y
      · exact y
      · exfalso
        have h3 : 0 ≤ s * s := Int.mul_nonneg a a
        have h4 : 0 ≤ -t * h := Int.mul_nonneg (by omega) (by omega)
        rw [Int.neg_mul] at h4
        omega
    have h5 := sq_le (a := h + t) (b := 2 * s) (by omega) h2
    have h6 : 0 ≤ (h - t) * (h - t) := by
      rcases Int.le_total 0 (h - t) with y | y
      · exact Int.mul_nonneg y y
      · have := Int.mul_nonneg (show 0 ≤ -(h - t) by omega) (show 0 ≤ -(h - t) by omega)
        rw [Int.neg_mul_neg] at this
        exact this
    have h7 : (h + t) * (h + t) = (h - t) * (h - t) + 4 * (t * h) := by grind
    have h8 : 2 * s * (2 * s) = 4 * (s * s) := by grind
    omega
  · exact z
theorem newt_eq {n s h : Int} (hs : IsR n s) (h0 : 0 < h) (hsh : s ≤ h) (hy : h ≤ (h + n / h) / 2) : h = s := by
  obtain ⟨a, b, c⟩ := hs
  have h1 : h ≤ n / h := by omega
  have h2 := Int.mul_le_of_le_ediv h0 h1
  have h3 := sq_lt (a := h) (b := s + 1) (by omega) (by omega) (by omega)
  omega
theorem newt_body (ρ : Calls) (n h : Int) (c b : Slot) (S : Sto) (h0 : 0 < h) (h1 : h < 4096) : exSs ρ (.cons (.asg 3 .val false (.bop .fdiv (.bop .add (.slot 1) (.bop .fdiv (.slot 0) (.slot 1))) (.const (.int 2))))
  (.cons (.ifS (.cmp .ge (.slot 3) (.slot 1))
  (.cons (.ret (.slot 1))
  .nil)
  .nil)
  (.cons (.asg 1 .val false (.slot 3))
  .nil))) [.val (.int n), .val (.int h), c, b] S = if h ≤ (h + n / h) / 2 then .ok (.ret (.int h)) S else .ok (.next [.val (.int n), .val (.int ((h + n / h) / 2)), c, .val (.int ((h + n / h) / 2))]) S := by
  have hd := b_div (i := n) (j := h) h0 (log2_small (n := h.natAbs) (k := 12) (by omega) (by decide) (by decide))
  by_cases hy : h ≤ (h + n / h) / 2
  · simp [hd, div2, hy]
  · simp [hd, div2, hy]
theorem newt_loop (ρ : Calls) (n s : Int) (S : Sto) (hs : IsR n s) (hs1 : 1 ≤ s) : ∀ (l : List D) (h : Int) (c b : Slot), 0 < h → h < 4096 → s ≤ h → h ≤ l.length → forL (.one 2) (fun σ S => exSs ρ (.cons (.asg 3 .val false (.bop .fdiv (.bop .add (.slot 1) (.bop .fdiv (.slot 0) (.slot 1))) (.const (.int 2))))
  (.cons (.ifS (.cmp .ge (.slot 3) (.slot 1))
  (.cons (.ret (.slot 1))
  .nil)
  .nil)
  (.cons (.asg 1 .val false (.slot 3))
  .nil))) σ S) l [.val (.int n), .val (.int h), c, b] S = .ok (.ret (.int s)) S
  | [], h, c, b, h0, _, _, hl => by simp at hl; omega
  | d :: l, h, c, b, h0, h1, h2, hl => by
    rw [forL]
    show (Res.ok [Slot.val (D.int n), .val (.int h), .val d, b] S).bind _ = _
    rw [r_bind_ok, newt_body ρ n h _ b S h0 h1]
    by_cases hy : h ≤ (h + n / h) / 2
    · rw [if_pos hy, newt_eq hs h0 h2 hy]; rfl
    · rw [if_neg hy, r_bind_ok]
      have hg := newt_ge hs h0
      simp only []
      exact newt_loop ρ n s S hs hs1 l _ _ _ (by omega) (by omega) hg (by simp at hl; omega)
theorem isq_b0 (ρ : Calls) (n : Int) (S : Sto) (h : n < 1) : exSs ρ b__law_isqrt [.val (.int n), .no, .no, .no] S = .ok (.ret (.int 0)) S := by
  simp [b__law_isqrt, h]
theorem isq_b (ρ : Calls) (n h s : Int) (S : Sto) (h2 : ¬ n < 1)
    (w1 : exS ρ (.whl (.cmp .le (.bop .mul (.slot 1) (.slot 1)) (.slot 0)) (.cons (.asg 1 .val false (.bop .mul (.slot 1) (.const (.int 2)))) .nil)) [.val (.int n), .val (.int 1), .no, .no] S = .ok (.next [.val (.int n), .val (.int h), .no, .no]) S)
    (w2 : exS ρ (.forS (.one 2) (.rng1 (.const (.int 2000)))
  (.cons (.asg 3 .val false (.bop .fdiv (.bop .add (.slot 1) (.bop .fdiv (.slot 0) (.slot 1))) (.const (.int 2))))
  (.cons (.ifS (.cmp .ge (.slot 3) (.slot 1))
  (.cons (.ret (.slot 1))
  .nil)
  .nil)
  (.cons (.asg 1 .val false (.slot 3))
  .nil)))) [.val (.int n), .val (.int h), .no, .no] S = .ok (.ret (.int s)) S) :
    exSs ρ b__law_isqrt [.val (.int n), .no, .no, .no] S = .ok (.ret (.int s)) S := by
  simp [-s_for, b__law_isqrt, h2, w1, w2]
theorem isqrt0 (k : Nat) (n : Int) (S : Sto) (h : n < 1) : callK T (k + 1) 32 [.int n] S = .ok (.int 0) S :=
  call_of (d := d__law_isqrt) (o := .ret _) rfl rfl (isq_b0 _ n S h) rfl rfl
theorem isqrt (k : Nat) (n s : Int) (S : Sto) (h0 : 1 ≤ n) (h1 : n ≤ 1000000) (hs : IsR n s) : callK T (k + 1) 32 [.int n] S = .ok (.int s) S := by
  generalize hρ : callK T k = ρ
  obtain ⟨h, e1, e2, g, e3, e4, e5⟩ := dbl_loop (S := S) (n := n) (st := fun h => [.val (.int n), .val (.int h), .no, .no])
      (cond := fun σ S => (evE ρ (.cmp .le (.bop .mul (.slot 1) (.slot 1)) (.slot 0)) σ S).bind fun x S1 => ofO (truth x) S1) (body := fun σ S => exSs ρ (.cons (.asg 1 .val false (.bop .mul (.slot 1) (.const (.int 2)))) .nil) σ S)
      (fun h a b => by simp [mul_sm (x := h) (y := h) (by omega) b]) (fun h a b => by simp [mul_sm (x := h) (y := 2) (by omega) b]) h0 h1 11 1 turns (by decide) (by decide) (by decide) (.inl rfl)
  have hg : g ≤ 1000 := by
    have := sq_lt (a := g) (b := 1001) (by omega) (by decide) (by omega)
    omega
  obtain ⟨a, b, c⟩ := id hs
  have hs1 : 1 ≤ s := by
    rcases Int.lt_or_le s 1 with z | z
    · have : s = 0 := by omega
      subst this
      omega
    · exact z
  have hsh : s ≤ h := by
    have := sq_lt (a := s) (b := h) a (by omega) (by omega)
    omega
  have w2 := newt_loop ρ n s S hs hs1 (rngL 0 2000) h .no .no (by omega) (by omega) hsh (by simp [rngL]; omega)
  refine call_of (d := d__law_isqrt) (o := .ret _) rfl rfl (isq_b _ n h s S (by omega) (by rw [hρ, s_whl]; exact e1) ?_) rfl rfl
  rw [hρ, s_for, i_rng1, e_const, r_bind_ok]
  have : smallI 2000 = true := by decide
  simp only [this, if_true]
  exact w2
end K30

end
section
set_option maxRecDepth 100000
/-! K30P9: roots of fractions. -/
namespace K30
open PySem DI
theorem eqD_pair (a b c d : Int) : eqD (.tup [.int a, .int b]) (.tup [.int c, .int d]) = some (decide (a = c) && decide (b = d)) := by
  show (if SeqAt.shaped (.tuple [.int a, .int b]) && SeqAt.shaped (.tuple [.int c, .int d]) then some (PyData.eqv (.tuple [.int a, .int b]) (.tuple [.int c, .int d])) else none) = _
  have hs : ∀ a b : Int, SeqAt.shaped (.tuple [.int a, .int b]) = true := fun _ _ => rfl
  rw [hs, hs]
  simp [PyData.eqv, PyData.eqvAll]
  rfl
theorem any2 (S : Sto) (p q : Bool) : biD .any S [.lst [.bl p, .bl q]] = some (.bl (p || q)) := by
  show some (D.bl ([p, q].any id)) = _
  simp
theorem lx0 (S : Sto) (a b : D) : idxD S (.lst [a, b]) (.int 0) = some a := rfl
theorem lx1 (S : Sto) (a b : D) : idxD S (.lst [a, b]) (.int 1) = some b := rfl
/-- the root of a fraction, or None -/
def rootD (p : Int × Int) (s t : Int) : D := if p.1 < 0 then .non else if s * s = p.1 ∧ t * t = p.2 then .tup [.int s, .int t] else .non
theorem root_of_n (ρ : Calls) (a b : Int) (S : Sto) (h : a < 0) : exSs ρ b_root_of [.val (.tup [.int a, .int b]), .no, .no, .no] S = .ok (.ret .non) S := by
  simp [b_root_of, h]
theorem root_of_b (ρ : Calls) (a b s t : Int) (S : Sto) (h : ¬ a < 0) (h1 : ρ 3 [.int a] S = .ok (.int s) S) (h2 : ρ 3 [.int b] S = .ok (.int t) S) (m1 : binop .mul (.int s) (.int s) = some (.int (s * s))) (m2 : binop .mul (.int t) (.int t) = some (.int (t * t))) :
    exSs ρ b_root_of [.val (.tup [.int a, .int b]), .no, .no, .no] S = .ok (.ret (if s * s = a ∧ t * t = b then .tup [.int s, .int t] else .non)) S := by
  by_cases c1 : s * s = a
  · by_cases c2 : t * t = b
    · simp [b_root_of, h, lcL, setT, wipeD, itemsD, h1, h2, m1, m2, any2, lx0, lx1, c1, c2]
    · simp [b_root_of, h, lcL, setT, wipeD, itemsD, h1, h2, m1, m2, any2, lx0, lx1, c1, c2]
  · by_cases c2 : t * t = b
    · simp [b_root_of, h, lcL, setT, wipeD, itemsD, h1, h2, m1, m2, any2, lx0, lx1, c1, c2]
    · simp [b_root_of, h, lcL, setT, wipeD, itemsD, h1, h2, m1, m2, any2, lx0, lx1, c1, c2]
theorem isR_sm {n s : Int} (h : IsR n s) (h1 : n ≤ 1000000) : 0 ≤ s ∧ s ≤ 1000 := by
  obtain ⟨a, b, c⟩ := h
  have := sq_lt (a := s) (b := 1001) a (by decide) (by omega)
  omega
theorem root_b (ρ : Calls) (v r : D) (S : Sto) (h : ρ 6 [v, .str "one"] S = .ok .non S) (h2 : ρ 13 [v] S = .ok r S) : exSs ρ b_root [.val v] S = .ok (.ret r) S := by
  simp [b_root, h, h2]
theorem root (k : Nat) (p : Int × Int) (s t : Int) (S : Sto) (h : Good p) (hs : 0 ≤ p.1 → IsR p.1 s) (ht : IsR p.2 t) : callK T (k + 5) 20 [frD p] S = .ok (rootD p s t) S := by
  have hd := demand_fraction k p "one" S h
  refine call_of (d := d_root) (o := .ret _) rfl rfl (root_b _ _ (rootD p s t) S hd ?_) rfl rfl
  unfold rootD
  by_cases hn : p.1 < 0
  · rw [if_pos hn]
    exact call_of (d := d_root_of) (o := .ret _) rfl rfl (root_of_n _ p.1 p.2 S hn) rfl rfl
  · rw [if_neg hn]
    obtain ⟨⟨h1, h2⟩, ⟨h3, h4⟩, h5⟩ := h
    obtain ⟨s', a1, a2⟩ := whole_root (k + 2) p.1 S (by omega) h4
    obtain ⟨t', b1, b2⟩ := whole_root (k + 2) p.2 S (by omega) h5
    have hs := hs (by omega)
    cases isR_unique hs a1
    cases isR_unique ht b1
    have s1 := isR_sm a1 h4
    have s2 := isR_sm b1 h5
    exact call_of (d := d_root_of) (o := .ret _) rfl rfl (root_of_b _ p.1 p.2 s t S hn a2 b2 (mul_sm (by omega) (by omega)) (mul_sm (by omega) (by omega))) rfl rfl
end K30

end
section
set_option maxRecDepth 100000
/-! K30PA: the nearest fractions. -/
namespace K30
open PySem DI
theorem red_le {n d : Int} (h : d ≠ 0) : (red n d).1.natAbs ≤ n.natAbs ∧ (red n d).2.natAbs ≤ d.natAbs := by
  obtain ⟨a, b, g, hg, _, ha, hb, h1, e⟩ := red_spec (n := n) h
  have bound : ∀ z w : Int, z = g * w → w.natAbs ≤ z.natAbs := fun z w hz => by
    rw [hz, Int.natAbs_mul]
    exact Nat.le_mul_of_pos_left _ (by omega)
  have hs : ∀ w : Int, (sgn d * w).natAbs = w.natAbs := fun w => by
    rcases sgn_or d with ⟨_, z⟩ | ⟨_, z⟩
    · rw [z, Int.neg_one_mul, Int.natAbs_neg]
    · rw [z, Int.one_mul]
  rw [e]
  exact ⟨by show (sgn d * a).natAbs ≤ _; rw [hs]; exact bound _ _ ha, by show (sgn d * b).natAbs ≤ _; rw [hs]; exact bound _ _ hb⟩
theorem red_sm {n d : Int} (h : d ≠ 0) (h1 : n.natAbs < 2 ^ 60) (h2 : d.natAbs < 2 ^ 60) : Sm (red n d) := ⟨Nat.lt_of_le_of_lt (red_le h).1 h1, Nat.lt_of_le_of_lt (red_le h).2 h2⟩
/-- the difference from the fraction that is sought -/
theorem far_red {t q n d : Int} (hq : 0 < q) (hd : 0 < d) : red ((red t q).1 * d + -n * (red t q).2) ((red t q).2 * d) = red (t * d - n * q) (q * d) := by
  have h1 := red_mul (n := t) (d := q) (by omega)
  have h2 := (red_fr (n := t) (d := q) (by omega)).1
  generalize red t q = r at *
  have hqd := Int.mul_pos hq hd
  refine red_red (red_fr (by omega)) (by have := Int.mul_pos h2 hd; omega) ?_
  have h3 := red_mul (n := t * d - n * q) (d := q * d) (by omega)
  generalize red (t * d - n * q) (q * d) = w at *
  have h4 : (w.1 * (r.2 * d)) * (q * d) = ((r.1 * d + -n * r.2) * w.2) * (q * d) := by grind
  exact Int.eq_of_mul_eq_mul_right (by omega) h4
theorem abs_red {x y : Int} (hy : 0 < y) : red ((red x y).1.natAbs : Int) (red x y).2 = red (x.natAbs : Int) y := by
  have h1 := red_mul (n := x) (d := y) (by omega)
  have h2 := red_fr (n := x) (d := y) (by omega)
  generalize red x y = r at *
  have h3 : Fr ((r.1.natAbs : Int), r.2) := ⟨h2.1, by
    have := h2.2
    show Int.gcd (r.1.natAbs : Int) r.2 = 1
    unfold Int.gcd at *
    rw [Int.natAbs_natCast]
    exact this⟩
  rw [red_self h3]
  refine (red_red h3 (by omega) ?_).symm
  show (r.1.natAbs : Int) * y = (x.natAbs : Int) * r.2
  have h4 : (r.1 * y).natAbs = (x * r.2).natAbs := by rw [h1]
  rw [Int.natAbs_mul, Int.natAbs_mul] at h4
  have e1 : ((y.natAbs : Nat) : Int) = y := by omega
  have e2 : ((r.2.natAbs : Nat) : Int) = r.2 := by have := h2.1; omega
  have h5 : ((r.1.natAbs * y.natAbs : Nat) : Int) = ((x.natAbs * r.2.natAbs : Nat) : Int) := by rw [h4]
  rw [Int.natCast_mul, Int.natCast_mul, e1, e2] at h5
  exact h5
/-- the sign of a difference of fractions, not in lowest terms -/
theorem diff_red {a b c e : Int} (hb : 0 < b) (he : 0 < e) : sg3 (red ((red a b).1 * (red c e).2 + -(red c e).1 * (red a b).2) ((red a b).2 * (red c e).2)).1 = sg3 (a * e - c * b) := by
  rw [diff_sign _ _ (red_fr (by omega)).1 (red_fr (by omega)).1]
  have h1 := red_mul (n := a) (d := b) (by omega)
  have h2 := (red_fr (n := a) (d := b) (by omega)).1
  have h3 := red_mul (n := c) (d := e) (by omega)
  have h4 := (red_fr (n := c) (d := e) (by omega)).1
  generalize red a b = u at *
  generalize red c e = v at *
  refine pos_of_mul (b := b * e) (d := u.2 * v.2) ?_ (Int.mul_pos hb he) (Int.mul_pos h2 h4)
  grind
theorem sg3_neg {x : Int} : sg3 x < 0 ↔ x < 0 := by
  unfold sg3
  by_cases h : 0 < x
  · rw [if_pos h]; omega
  · rw [if_neg h]
    by_cases h2 : x < 0
    · rw [if_pos h2]; omega
    · rw [if_neg h2]; omega
theorem sg3_zero {x : Int} : sg3 x = 0 ↔ x = 0 := by
  unfold sg3
  by_cases h : 0 < x
  · rw [if_pos h]; omega
  · rw [if_neg h]
    by_cases h2 : x < 0
    · rw [if_pos h2]; omega
    · rw [if_neg h2]; omega

/-! ### one candidate after the other -/
/-- top, under, distance (times the sought one's under) -/
abbrev Cand := Int × Int × Int
def better (c b : Cand) : Prop := c.2.2 * b.2.1 < b.2.2 * c.2.1 ∨ (c.2.2 * b.2.1 = b.2.2 * c.2.1 ∧ c.1 * b.2.1 < b.1 * c.2.1)
instance (c b : Cand) : Decidable (better c b) := by unfold better; infer_instance
def stepB (c : Cand) (b : Option Cand) : Option Cand := match b with
  | none => some c
  | some b => if better c b then some c else some b
structure Ok (d : Int) (c : Cand) : Prop where
  q : 0 < c.2.1
  b1 : c.1.natAbs < 2 ^ 40
  b2 : c.2.1.natAbs < 2 ^ 20
  b3 : c.2.2.natAbs < 2 ^ 60
  f0 : 0 ≤ c.2.2
def encP (d : Int) : Option Cand → D
  | none => .non
  | some c => .tup [frD (red c.2.2 (c.2.1 * d)), frD (red c.1 c.2.1)]
def encL : Option Cand → D
  | none => .non
  | some c => .tup [.int c.1, .int c.2.1, .int c.2.2]
theorem qd_sm {d : Int} {c : Cand} (h : Ok d c) (hd : d.natAbs < 2 ^ 20) : (c.2.1 * d).natAbs < 2 ^ 60 := Nat.lt_of_lt_of_le (mul_pow h.b2 hd) (by decide)
theorem before_b (ρ : Calls) (k0 k1 b0 b1 n0 n1 a0 a1 : D) (o p : Int) (S : Sto) (h1 : ρ 9 [b0] S = .ok n0 S) (h2 : ρ 8 [k0, n0] S = .ok a0 S) (h3 : ρ 12 [a0] S = .ok (.int o) S) (h4 : ρ 9 [b1] S = .ok n1 S) (h5 : ρ 8 [k1, n1] S = .ok a1 S) (h6 : ρ 12 [a1] S = .ok (.int p) S) :
    exSs ρ b_is_before [.val (.tup [k0, k1]), .val (.tup [b0, b1]), .no] S = .ok (.ret (.bl (decide (o < 0 ∨ (o = 0 ∧ p < 0))))) S := by
  by_cases c1 : o < 0
  · simp [b_is_before, h1, h2, h3, h4, h5, h6, c1]
  · by_cases c2 : o = 0
    · simp [b_is_before, h1, h2, h3, h4, h5, h6, c1, c2]
    · simp [b_is_before, h1, h2, h3, h4, h5, h6, c1, c2]
theorem sm_neg {p : Int × Int} (h : Sm p) : Sm (-p.1, p.2) := ⟨by rw [show (-p.1, p.2).1 = -p.1 from rfl, Int.natAbs_neg]; exact h.1, h.2⟩
theorem is_before (k : Nat) (d : Int) (c b : Cand) (S : Sto) (hc : Ok d c) (hb : Ok d b) (h0 : 0 < d) (hd : d.natAbs < 2 ^ 20) :
    callK T (k + 4) 25 [encP d (some c), encP d (some b)] S = .ok (.bl (decide (better c b))) S := by
  have qc := Int.mul_pos hc.q h0
  have qb := Int.mul_pos hb.q h0
  have s0 : Sm (red c.2.2 (c.2.1 * d)) := red_sm (by omega) hc.b3 (qd_sm hc hd)
  have s1 : Sm (red b.2.2 (b.2.1 * d)) := red_sm (by omega) hb.b3 (qd_sm hb hd)
  have hq := hc.q
  have hq2 := hb.q
  have s2 : Sm (red c.1 c.2.1) := red_sm (by omega) (Nat.lt_trans hc.b1 (by decide)) (Nat.lt_trans hc.b2 (by decide))
  have s3 : Sm (red b.1 b.2.1) := red_sm (by omega) (Nat.lt_trans hb.b1 (by decide)) (Nat.lt_trans hb.b2 (by decide))
  have f0 := (red_fr (n := c.2.2) (d := c.2.1 * d) (by omega)).1
  have f1 := (red_fr (n := b.2.2) (d := b.2.1 * d) (by omega)).1
  have f2 := (red_fr (n := c.1) (d := c.2.1) (by omega)).1
  have f3 := (red_fr (n := b.1) (d := b.2.1) (by omega)).1
  have n0 := negated (k + 2) (red b.2.2 (b.2.1 * d)) S
  have a0 := added k (red c.2.2 (c.2.1 * d)) _ S s0 (sm_neg s1) (by omega) (by show (red b.2.2 (b.2.1 * d)).2 ≠ 0; omega)
  have n1 := negated (k + 2) (red b.1 b.2.1) S
  have a1 := added k (red c.1 c.2.1) _ S s2 (sm_neg s3) (by omega) (by show (red b.1 b.2.1).2 ≠ 0; omega)
  have g0 := sign_of (k + 2) (red ((red c.2.2 (c.2.1 * d)).1 * (red b.2.2 (b.2.1 * d)).2 + -(red b.2.2 (b.2.1 * d)).1 * (red c.2.2 (c.2.1 * d)).2) ((red c.2.2 (c.2.1 * d)).2 * (red b.2.2 (b.2.1 * d)).2)) S
  rw [diff_red qc qb] at g0
  have g1 := sign_of (k + 2) (red ((red c.1 c.2.1).1 * (red b.1 b.2.1).2 + -(red b.1 b.2.1).1 * (red c.1 c.2.1).2) ((red c.1 c.2.1).2 * (red b.1 b.2.1).2)) S
  rw [diff_red hc.q hb.q] at g1
  have e : (decide (sg3 (c.2.2 * (b.2.1 * d) - b.2.2 * (c.2.1 * d)) < 0 ∨ (sg3 (c.2.2 * (b.2.1 * d) - b.2.2 * (c.2.1 * d)) = 0 ∧ sg3 (c.1 * b.2.1 - b.1 * c.2.1) < 0))) = decide (better c b) := by
    congr 1
    rw [sg3_neg, sg3_zero, sg3_neg]
    have e1 : c.2.2 * (b.2.1 * d) - b.2.2 * (c.2.1 * d) = (c.2.2 * b.2.1 - b.2.2 * c.2.1) * d := by grind
    have key : sg3 ((c.2.2 * b.2.1 - b.2.2 * c.2.1) * d) = sg3 (c.2.2 * b.2.1 - b.2.2 * c.2.1) := pos_of_mul (b := 1) (d := d) (by rw [Int.mul_one]) (by decide) h0
    have k1 : (c.2.2 * b.2.1 - b.2.2 * c.2.1) * d < 0 ↔ c.2.2 * b.2.1 - b.2.2 * c.2.1 < 0 := by rw [← sg3_neg, key, sg3_neg]
    have k2 : (c.2.2 * b.2.1 - b.2.2 * c.2.1) * d = 0 ↔ c.2.2 * b.2.1 - b.2.2 * c.2.1 = 0 := by rw [← sg3_zero, key, sg3_zero]
    rw [e1, k1, k2]
    unfold better
    apply propext
    constructor
    · rintro (h | ⟨h, h'⟩)
      · exact .inl (by omega)
      · exact .inr ⟨by omega, by omega⟩
    · rintro (h | ⟨h, h'⟩)
      · exact .inl (by omega)
      · exact .inr ⟨by omega, by omega⟩
  rw [← e]
  exact call_of (d := d_is_before) (o := .ret _) rfl rfl (before_b _ _ _ _ _ _ _ _ _ _ _ S n0 a0 g0 n1 a1 g1) rfl rfl
end K30

end
section
set_option maxRecDepth 100000
/-! K30PB: nearest, the program's and the law's, step by step. -/
namespace K30
open PySem DI
abbrev pIn : DSs := (.cons (.asg 6 .val false (.call 8 (.cons (.call 7 (.cons (.slot 5) (.cons (.slot 3) .nil))) (.cons (.call 9 (.cons (.slot 0) .nil)) .nil))))
  (.cons (.asg 7 .val false (.tup (.cons (.call 7 (.cons (.bi .abs (.cons (.idx (.slot 6) (.const (.int 0))) .nil)) (.cons (.idx (.slot 6) (.const (.int 1))) .nil))) (.cons (.call 7 (.cons (.slot 5) (.cons (.slot 3) .nil))) .nil))))
  (.cons (.ifS (.bOr (.cons (.cmp .isN (.slot 2) (.const .non)) (.cons (.call 25 (.cons (.slot 7) (.cons (.slot 2) .nil))) .nil)))
  (.cons (.asg 2 .val false (.slot 7))
  .nil)
  .nil)
  .nil)))
abbrev lIn : DSs := (.cons (.asg 6 .val false (.bi .abs (.cons (.bop .sub (.bop .mul (.slot 5) (.idx (.slot 0) (.const (.int 1)))) (.bop .mul (.idx (.slot 0) (.const (.int 0))) (.slot 3))) .nil)))
  (.cons (.ifS (.bOr (.cons (.cmp .isN (.slot 2) (.const .non)) (.cons (.cmp .lt (.bop .mul (.slot 6) (.idx (.slot 2) (.const (.int 1)))) (.bop .mul (.idx (.slot 2) (.const (.int 2))) (.slot 3))) (.cons (.bAnd (.cons (.cmp .eq (.bop .mul (.slot 6) (.idx (.slot 2) (.const (.int 1)))) (.bop .mul (.idx (.slot 2) (.const (.int 2))) (.slot 3))) (.cons (.cmp .lt (.bop .mul (.slot 5) (.idx (.slot 2) (.const (.int 1)))) (.bop .mul (.idx (.slot 2) (.const (.int 0))) (.slot 3))) .nil))) .nil))))
  (.cons (.asg 2 .val false (.tup (.cons (.slot 5) (.cons (.slot 3) (.cons (.slot 6) .nil)))))
  .nil)
  .nil)
  .nil))
theorem p_none (ρ : Calls) (one r1 ng r0 : D) (m lo x6 x7 : Slot) (t q fx fy : Int) (S : Sto) (h1 : ρ 7 [.int t, .int q] S = .ok r1 S) (h2 : ρ 9 [one] S = .ok ng S) (h3 : ρ 8 [r1, ng] S = .ok (.tup [.int fx, .int fy]) S) (h4 : ρ 7 [.int (fx.natAbs : Int), .int fy] S = .ok r0 S) :
    exSs ρ pIn [.val one, m, .val .non, .val (.int q), lo, .val (.int t), x6, x7] S = .ok (.next [.val one, m, .val (.tup [r0, r1]), .val (.int q), lo, .val (.int t), .val (.tup [.int fx, .int fy]), .val (.tup [r0, r1])]) S := by
  simp [h1, h2, h3, h4]
theorem p_some (ρ : Calls) (one r1 ng r0 b0 b1 : D) (m lo x6 x7 : Slot) (t q fx fy : Int) (c : Bool) (S : Sto) (h1 : ρ 7 [.int t, .int q] S = .ok r1 S) (h2 : ρ 9 [one] S = .ok ng S) (h3 : ρ 8 [r1, ng] S = .ok (.tup [.int fx, .int fy]) S) (h4 : ρ 7 [.int (fx.natAbs : Int), .int fy] S = .ok r0 S) (h5 : ρ 25 [.tup [r0, r1], .tup [b0, b1]] S = .ok (.bl c) S) :
    exSs ρ pIn [.val one, m, .val (.tup [b0, b1]), .val (.int q), lo, .val (.int t), x6, x7] S = .ok (.next [.val one, m, .val (if c = true then .tup [r0, r1] else .tup [b0, b1]), .val (.int q), lo, .val (.int t), .val (.tup [.int fx, .int fy]), .val (.tup [r0, r1])]) S := by
  cases c with
  | true => simp [h1, h2, h3, h4, h5]
  | false => simp [h1, h2, h3, h4, h5]
def cand (n d t q : Int) : Cand := (t, q, ((t * d - n * q).natAbs : Int))
theorem p_step (k : Nat) (p : Int × Int) (t q : Int) (b : Option Cand) (m lo x6 x7 : Slot) (S : Sto) (hp : Good p) (hc : Ok p.2 (cand p.1 p.2 t q)) (hb : ∀ c, b = some c → Ok p.2 c) : ∃ y6 y7,
    exSs (callK T (k + 4)) pIn [.val (frD p), m, .val (encP p.2 b), .val (.int q), lo, .val (.int t), x6, x7] S = .ok (.next [.val (frD p), m, .val (encP p.2 (stepB (cand p.1 p.2 t q) b)), .val (.int q), lo, .val (.int t), y6, y7]) S := by
  have hd := hp.1.1
  have hq : 0 < q := hc.q
  have hdb : p.2.natAbs < 2 ^ 20 := Nat.lt_of_le_of_lt (show p.2.natAbs ≤ 1000000 by have := hp.2.2; omega) (by decide)
  have hqd := Int.mul_pos hq hd
  have hsm1 : Sm (red t q) := red_sm (by omega) (Nat.lt_trans hc.b1 (by decide)) (Nat.lt_trans hc.b2 (by decide))
  have f1 := (red_fr (n := t) (d := q) (by omega)).1
  have hx : (t * p.2 - p.1 * q).natAbs < 2 ^ 60 := by
    have := hc.b3
    show ((t * p.2 - p.1 * q).natAbs) < _
    have e : (((t * p.2 - p.1 * q).natAbs : Nat) : Int).natAbs = (t * p.2 - p.1 * q).natAbs := Int.natAbs_natCast _
    rw [← e]
    exact this
  have hqds : (q * p.2).natAbs < 2 ^ 60 := qd_sm hc hdb
  have h1 := made (k + 2) t q S (by omega) (lt_pow hc.b2 (by decide))
  have h2 := negated (k + 3) p S
  have h3 := added (k + 1) (red t q) (-p.1, p.2) S hsm1 (sm_neg hp.sm) (by omega) hp.ne
  rw [show (red t q).1 * (-p.1, p.2).2 + (-p.1, p.2).1 * (red t q).2 = (red t q).1 * p.2 + -p.1 * (red t q).2 from rfl, show (red t q).2 * (-p.1, p.2).2 = (red t q).2 * p.2 from rfl, far_red hq hd] at h3
  have hfr := red_fr (n := t * p.2 - p.1 * q) (d := q * p.2) (by omega)
  have hle := red_le (n := t * p.2 - p.1 * q) (d := q * p.2) (by omega)
  have h4 := made (k + 2) ((red (t * p.2 - p.1 * q) (q * p.2)).1.natAbs : Int) (red (t * p.2 - p.1 * q) (q * p.2)).2 S (by have := hfr.1; omega) (lt_pow (Nat.lt_of_le_of_lt hle.2 hqds) (by decide))
  rw [abs_red hqd] at h4
  cases b with
  | none => exact ⟨_, _, p_none _ _ _ _ _ m lo x6 x7 t q _ _ S h1 h2 h3 h4⟩
  | some b =>
    have h5 := is_before k p.2 (cand p.1 p.2 t q) b S hc (hb b rfl) hd hdb
    have key := p_some _ _ _ _ _ _ _ m lo x6 x7 t q _ _ _ S h1 h2 h3 h4 h5
    by_cases hbt : better (cand p.1 p.2 t q) b
    · rw [decide_eq_true hbt, if_pos rfl] at key
      rw [show stepB (cand p.1 p.2 t q) (some b) = some (cand p.1 p.2 t q) from if_pos hbt]
      exact ⟨_, _, key⟩
    · rw [decide_eq_false hbt, if_neg Bool.false_ne_true] at key
      rw [show stepB (cand p.1 p.2 t q) (some b) = some b from if_neg hbt]
      exact ⟨_, _, key⟩
theorem l_none (ρ : Calls) (n d t q x y : Int) (m lo x6 : Slot) (S : Sto) (h1 : binop .mul (.int t) (.int d) = some (.int x)) (h2 : binop .mul (.int n) (.int q) = some (.int y)) :
    exSs ρ lIn [.val (.tup [.int n, .int d]), m, .val .non, .val (.int q), lo, .val (.int t), x6] S = .ok (.next [.val (.tup [.int n, .int d]), m, .val (.tup [.int t, .int q, .int ((x - y).natAbs : Int)]), .val (.int q), lo, .val (.int t), .val (.int ((x - y).natAbs : Int))]) S := by
  simp [h1, h2]
theorem jx0 (S : Sto) (a b c : D) : idxD S (.tup [a, b, c]) (.int 0) = some a := rfl
theorem jx1 (S : Sto) (a b c : D) : idxD S (.tup [a, b, c]) (.int 1) = some b := rfl
theorem jx2 (S : Sto) (a b c : D) : idxD S (.tup [a, b, c]) (.int 2) = some c := rfl
theorem l_some (ρ : Calls) (n d t q x y b0 b1 b2 f : Int) (m lo x6 : Slot) (S : Sto) (h1 : binop .mul (.int t) (.int d) = some (.int x)) (h2 : binop .mul (.int n) (.int q) = some (.int y)) (hf : ((x - y).natAbs : Int) = f)
    (h3 : binop .mul (.int f) (.int b1) = some (.int (f * b1))) (h4 : binop .mul (.int b2) (.int q) = some (.int (b2 * q))) (h5 : binop .mul (.int t) (.int b1) = some (.int (t * b1))) (h6 : binop .mul (.int b0) (.int q) = some (.int (b0 * q))) :
    exSs ρ lIn [.val (.tup [.int n, .int d]), m, .val (.tup [.int b0, .int b1, .int b2]), .val (.int q), lo, .val (.int t), x6] S = .ok (.next [.val (.tup [.int n, .int d]), m, .val (if f * b1 < b2 * q ∨ (f * b1 = b2 * q ∧ t * b1 < b0 * q) then .tup [.int t, .int q, .int f] else .tup [.int b0, .int b1, .int b2]), .val (.int q), lo, .val (.int t), .val (.int f)]) S := by
  by_cases c1 : f * b1 < b2 * q
  · simp [h1, h2, hf, h3, h4, h5, h6, jx0, jx1, jx2, c1]
  · by_cases c2 : f * b1 = b2 * q
    · by_cases c3 : t * b1 < b0 * q
      · simp [h1, h2, hf, h3, h4, h5, h6, jx0, jx1, jx2, c1, c2, c3]
      · simp [h1, h2, hf, h3, h4, h5, h6, jx0, jx1, jx2, c1, c2, c3]
    · simp [h1, h2, hf, h3, h4, h5, h6, jx0, jx1, jx2, c1, c2]
theorem l_step (ρ : Calls) (p : Int × Int) (t q : Int) (b : Option Cand) (m lo x6 : Slot) (S : Sto) (hp : Good p) (hc : Ok p.2 (cand p.1 p.2 t q)) (hb : ∀ c, b = some c → Ok p.2 c) : ∃ y6,
    exSs ρ lIn [.val (frD p), m, .val (encL b), .val (.int q), lo, .val (.int t), x6] S = .ok (.next [.val (frD p), m, .val (encL (stepB (cand p.1 p.2 t q) b)), .val (.int q), lo, .val (.int t), y6]) S := by
  have hb1 : t.natAbs < 2 ^ 40 := hc.b1
  have hb2 : q.natAbs < 2 ^ 20 := hc.b2
  have h1 := b_mul (i := t) (j := p.2) (mulOk_l (Nat.lt_trans hb1 (by decide)))
  have h2 := b_mul (i := p.1) (j := q) (mulOk_r (Nat.lt_trans hb2 (by decide)))
  cases b with
  | none => exact ⟨_, l_none ρ p.1 p.2 t q _ _ m lo x6 S h1 h2⟩
  | some b =>
    have hbo := hb b rfl
    have h3 := b_mul (i := ((t * p.2 - p.1 * q).natAbs : Int)) (j := b.2.1) (mulOk_r (Nat.lt_trans hbo.b2 (by decide)))
    have h4 := b_mul (i := b.2.2) (j := q) (mulOk_r (Nat.lt_trans hb2 (by decide)))
    have h5 := b_mul (i := t) (j := b.2.1) (mulOk_r (Nat.lt_trans hbo.b2 (by decide)))
    have h6 := b_mul (i := b.1) (j := q) (mulOk_r (Nat.lt_trans hb2 (by decide)))
    have key := l_some ρ p.1 p.2 t q _ _ b.1 b.2.1 b.2.2 _ m lo x6 S h1 h2 rfl h3 h4 h5 h6
    by_cases hbt : better (cand p.1 p.2 t q) b
    · have hbt' : ((t * p.2 - p.1 * q).natAbs : Int) * b.2.1 < b.2.2 * q ∨ (((t * p.2 - p.1 * q).natAbs : Int) * b.2.1 = b.2.2 * q ∧ t * b.2.1 < b.1 * q) := hbt
      rw [if_pos hbt'] at key
      rw [show stepB (cand p.1 p.2 t q) (some b) = some (cand p.1 p.2 t q) from if_pos hbt]
      exact ⟨_, key⟩
    · have hbt' : ¬ (((t * p.2 - p.1 * q).natAbs : Int) * b.2.1 < b.2.2 * q ∨ (((t * p.2 - p.1 * q).natAbs : Int) * b.2.1 = b.2.2 * q ∧ t * b.2.1 < b.1 * q)) := hbt
      rw [if_neg hbt'] at key
      rw [show stepB (cand p.1 p.2 t q) (some b) = some b from if_neg hbt]
      exact ⟨_, key⟩
end K30

end
section
set_option maxRecDepth 100000
/-! K30PC: nearest, the loops. -/
namespace K30
open PySem DI
abbrev pOut : DSs := (.cons (.asg 4 .val false (.bop .fdiv (.bop .mul (.idx (.slot 0) (.const (.int 0))) (.slot 3)) (.idx (.slot 0) (.const (.int 1)))))
  (.cons (.forS (.one 5) (.seq (.tup (.cons (.slot 4) (.cons (.bop .add (.slot 4) (.const (.int 1))) .nil)))) pIn)
  .nil))
abbrev lOut : DSs := (.cons (.asg 4 .val false (.bop .fdiv (.bop .mul (.idx (.slot 0) (.const (.int 0))) (.slot 3)) (.idx (.slot 0) (.const (.int 1)))))
  (.cons (.forS (.one 5) (.seq (.tup (.cons (.slot 4) (.cons (.bop .add (.slot 4) (.const (.int 1))) .nil)))) lIn)
  .nil))
def outS (n d : Int) (b : Option Cand) (q : Int) : Option Cand := stepB (cand n d (n * q / d + 1) q) (stepB (cand n d (n * q / d) q) b)
theorem ok_cand {p : Int × Int} (hp : Good p) {q t : Int} (h1 : 1 ≤ q) (h2 : q ≤ 1000) (ht : t = p.1 * q / p.2 ∨ t = p.1 * q / p.2 + 1) : Ok p.2 (cand p.1 p.2 t q) := by
  obtain ⟨⟨a1, _⟩, ⟨a2, a3⟩, a4⟩ := hp
  have b1 : p.1 * q ≤ 1000000 * q := Int.mul_le_mul_of_nonneg_right a3 (by omega)
  have b2 : -1000000 * q ≤ p.1 * q := Int.mul_le_mul_of_nonneg_right a2 (by omega)
  have c1 : p.1 * q / p.2 ≤ 1000000000 := Int.ediv_le_of_le_mul a1 (by omega)
  have c2 : -1000000000 ≤ p.1 * q / p.2 := Int.le_ediv_of_mul_le a1 (by omega)
  have d1 : t ≤ 1000000001 := by omega
  have d2 : -1000000000 ≤ t := by omega
  have e1 : t * p.2 ≤ 1000000001 * p.2 := Int.mul_le_mul_of_nonneg_right d1 (by omega)
  have e2 : -1000000000 * p.2 ≤ t * p.2 := Int.mul_le_mul_of_nonneg_right d2 (by omega)
  refine ⟨by show 0 < q; omega, ?_, ?_, ?_, by show (0 : Int) ≤ ((t * p.2 - p.1 * q).natAbs : Int); omega⟩
  · exact Nat.lt_of_le_of_lt (show t.natAbs ≤ 2000000000 by omega) (by decide)
  · exact Nat.lt_of_le_of_lt (show q.natAbs ≤ 1000 by omega) (by decide)
  · show (((t * p.2 - p.1 * q).natAbs : Nat) : Int).natAbs < 2 ^ 60
    rw [Int.natAbs_natCast]
    exact Nat.lt_of_le_of_lt (show (t * p.2 - p.1 * q).natAbs ≤ 10000000000000000 by omega) (by decide)
theorem ok_step {d : Int} {c : Cand} {b : Option Cand} (hc : Ok d c) (hb : ∀ c, b = some c → Ok d c) : ∀ e, stepB c b = some e → Ok d e := by
  intro e h
  cases b with
  | none => cases h; exact hc
  | some b =>
    unfold stepB at h
    by_cases hbt : better c b
    · simp only [if_pos hbt] at h; cases h; exact hc
    · simp only [if_neg hbt] at h; cases h; exact hb _ rfl
theorem step_some (c : Cand) (b : Option Cand) : ∃ e, stepB c b = some e := by
  cases b with
  | none => exact ⟨c, rfl⟩
  | some b =>
    by_cases hbt : better c b
    · exact ⟨c, if_pos hbt⟩
    · exact ⟨b, if_neg hbt⟩
theorem out_b (ρ : Calls) (inn : DSs) (n d q x low : Int) (m b x4 x5 : Slot) (xs σ : List Slot) (S : Sto) (h1 : binop .mul (.int n) (.int q) = some (.int x)) (h2 : binop .fdiv (.int x) (.int d) = some (.int low))
    (hl : forL (.one 5) (fun σ S => exSs ρ inn σ S) [.int low, .int (low + 1)] (.val (.tup [.int n, .int d]) :: m :: b :: .val (.int q) :: .val (.int low) :: x5 :: xs) S = .ok (.next σ) S) :
    exSs ρ (.cons (.asg 4 .val false (.bop .fdiv (.bop .mul (.idx (.slot 0) (.const (.int 0))) (.slot 3)) (.idx (.slot 0) (.const (.int 1)))))
  (.cons (.forS (.one 5) (.seq (.tup (.cons (.slot 4) (.cons (.bop .add (.slot 4) (.const (.int 1))) .nil)))) inn) .nil)) (.val (.tup [.int n, .int d]) :: m :: b :: .val (.int q) :: x4 :: x5 :: xs) S = .ok (.next σ) S := by
  have hf : exS ρ (.forS (.one 5) (.seq (.tup (.cons (.slot 4) (.cons (.bop .add (.slot 4) (.const (.int 1))) .nil)))) inn) (.val (.tup [.int n, .int d]) :: m :: b :: .val (.int q) :: .val (.int low) :: x5 :: xs) S = .ok (.next σ) S := by
    rw [s_for, i_seq]
    have e : evE ρ (.tup (.cons (.slot 4) (.cons (.bop .add (.slot 4) (.const (.int 1))) .nil))) (.val (.tup [.int n, .int d]) :: m :: b :: .val (.int q) :: .val (.int low) :: x5 :: xs) S = .ok (.tup [.int low, .int (low + 1)]) S := by simp
    rw [e, r_bind_ok, show ofO (itemsD (.tup [.int low, .int (low + 1)])) S = .ok [.int low, .int (low + 1)] S from rfl, r_bind_ok]
    exact hl
  simp [-s_for, h1, h2, hf]
theorem forL_two {body : List Slot → Sto → Res Out} {t : DT} {a b : D} {σ σ1 σ2 σ3 σ4 : List Slot} {S : Sto} (h1 : setT t σ a = some σ1) (h2 : body σ1 S = .ok (.next σ2) S) (h3 : setT t σ2 b = some σ3) (h4 : body σ3 S = .ok (.next σ4) S) : forL t body [a, b] σ S = .ok (.next σ4) S := by
  rw [forL, h1]
  simp only [r_ofO_some, r_bind_ok, h2]
  rw [forL, h3]
  simp only [r_ofO_some, r_bind_ok, h4]
  rfl
theorem mul_q {p : Int × Int} {q : Int} (h1 : 1 ≤ q) (h2 : q ≤ 1000) : binop .mul (.int p.1) (.int q) = some (.int (p.1 * q)) := b_mul (mulOk_r (Nat.lt_of_le_of_lt (show q.natAbs ≤ 1000 by omega) (by decide)))
theorem div_d {p : Int × Int} (hp : Good p) (x : Int) : binop .fdiv (.int x) (.int p.2) = some (.int (x / p.2)) := b_div hp.1.1 (log2_small (n := p.2.natAbs) (k := 20) (Nat.lt_of_le_of_lt (show p.2.natAbs ≤ 1000000 by have := hp.2.2; have := hp.1.1; omega) (by decide)) (by decide) (by decide))
theorem p_out (k : Nat) (p : Int × Int) (q : Int) (b : Option Cand) (m x4 x5 x6 x7 : Slot) (S : Sto) (hp : Good p) (h1 : 1 ≤ q) (h2 : q ≤ 1000) (hb : ∀ c, b = some c → Ok p.2 c) : ∃ y4 y5 y6 y7,
    exSs (callK T (k + 4)) pOut [.val (frD p), m, .val (encP p.2 b), .val (.int q), x4, x5, x6, x7] S = .ok (.next [.val (frD p), m, .val (encP p.2 (outS p.1 p.2 b q)), .val (.int q), y4, y5, y6, y7]) S := by
  have c1 := ok_cand hp h1 h2 (t := p.1 * q / p.2) (.inl rfl)
  have c2 := ok_cand hp h1 h2 (t := p.1 * q / p.2 + 1) (.inr rfl)
  obtain ⟨y6, y7, s1⟩ := p_step k p (p.1 * q / p.2) q b m (.val (.int (p.1 * q / p.2))) x6 x7 S hp c1 hb
  obtain ⟨z6, z7, s2⟩ := p_step k p (p.1 * q / p.2 + 1) q _ m (.val (.int (p.1 * q / p.2))) y6 y7 S hp c2 (ok_step c1 hb)
  exact ⟨_, _, _, _, out_b _ pIn p.1 p.2 q _ _ m _ x4 x5 _ _ S (mul_q h1 h2) (div_d hp _) (forL_two rfl s1 rfl s2)⟩
theorem l_out (ρ : Calls) (p : Int × Int) (q : Int) (b : Option Cand) (m x4 x5 x6 : Slot) (S : Sto) (hp : Good p) (h1 : 1 ≤ q) (h2 : q ≤ 1000) (hb : ∀ c, b = some c → Ok p.2 c) : ∃ y4 y5 y6,
    exSs ρ lOut [.val (frD p), m, .val (encL b), .val (.int q), x4, x5, x6] S = .ok (.next [.val (frD p), m, .val (encL (outS p.1 p.2 b q)), .val (.int q), y4, y5, y6]) S := by
  have c1 := ok_cand hp h1 h2 (t := p.1 * q / p.2) (.inl rfl)
  have c2 := ok_cand hp h1 h2 (t := p.1 * q / p.2 + 1) (.inr rfl)
  obtain ⟨y6, s1⟩ := l_step ρ p (p.1 * q / p.2) q b m (.val (.int (p.1 * q / p.2))) x6 S hp c1 hb
  obtain ⟨z6, s2⟩ := l_step ρ p (p.1 * q / p.2 + 1) q _ m (.val (.int (p.1 * q / p.2))) y6 S hp c2 (ok_step c1 hb)
  exact ⟨_, _, _, out_b _ lIn p.1 p.2 q _ _ m _ x4 x5 _ _ S (mul_q h1 h2) (div_d hp _) (forL_two rfl s1 rfl s2)⟩
theorem out_ok {p : Int × Int} (hp : Good p) {q : Int} {b : Option Cand} (h1 : 1 ≤ q) (h2 : q ≤ 1000) (hb : ∀ c, b = some c → Ok p.2 c) : ∀ c, outS p.1 p.2 b q = some c → Ok p.2 c :=
  ok_step (ok_cand hp h1 h2 (.inr rfl)) (ok_step (ok_cand hp h1 h2 (.inl rfl)) hb)
theorem p_loop (k : Nat) (p : Int × Int) (m : Slot) (S : Sto) (hp : Good p) : ∀ (l : List Int) (b : Option Cand) (x3 x4 x5 x6 x7 : Slot), (∀ q ∈ l, 1 ≤ q ∧ q ≤ 1000) → (∀ c, b = some c → Ok p.2 c) → ∃ y3 y4 y5 y6 y7,
    forL (.one 3) (fun σ S => exSs (callK T (k + 4)) pOut σ S) (l.map D.int) [.val (frD p), m, .val (encP p.2 b), x3, x4, x5, x6, x7] S = .ok (.next [.val (frD p), m, .val (encP p.2 (l.foldl (outS p.1 p.2) b)), y3, y4, y5, y6, y7]) S
  | [], b, x3, x4, x5, x6, x7, _, _ => ⟨_, _, _, _, _, rfl⟩
  | q :: l, b, x3, x4, x5, x6, x7, h, hb => by
    obtain ⟨h1, h2⟩ := h q List.mem_cons_self
    obtain ⟨y4, y5, y6, y7, e⟩ := p_out k p q b m x4 x5 x6 x7 S hp h1 h2 hb
    obtain ⟨z3, z4, z5, z6, z7, e2⟩ := p_loop k p m S hp l (outS p.1 p.2 b q) (.val (.int q)) y4 y5 y6 y7 (fun r hr => h r (List.mem_cons_of_mem _ hr)) (out_ok hp h1 h2 hb)
    refine ⟨z3, z4, z5, z6, z7, ?_⟩
    rw [List.map_cons, forL]
    show (Res.ok [Slot.val (frD p), m, .val (encP p.2 b), .val (.int q), x4, x5, x6, x7] S).bind _ = _
    rw [r_bind_ok, e, r_bind_ok]
    exact e2
theorem l_loop (ρ : Calls) (p : Int × Int) (m : Slot) (S : Sto) (hp : Good p) : ∀ (l : List Int) (b : Option Cand) (x3 x4 x5 x6 : Slot), (∀ q ∈ l, 1 ≤ q ∧ q ≤ 1000) → (∀ c, b = some c → Ok p.2 c) → ∃ y3 y4 y5 y6,
    forL (.one 3) (fun σ S => exSs ρ lOut σ S) (l.map D.int) [.val (frD p), m, .val (encL b), x3, x4, x5, x6] S = .ok (.next [.val (frD p), m, .val (encL (l.foldl (outS p.1 p.2) b)), y3, y4, y5, y6]) S
  | [], b, x3, x4, x5, x6, _, _ => ⟨_, _, _, _, rfl⟩
  | q :: l, b, x3, x4, x5, x6, h, hb => by
    obtain ⟨h1, h2⟩ := h q List.mem_cons_self
    obtain ⟨y4, y5, y6, e⟩ := l_out ρ p q b m x4 x5 x6 S hp h1 h2 hb
    obtain ⟨z3, z4, z5, z6, e2⟩ := l_loop ρ p m S hp l (outS p.1 p.2 b q) (.val (.int q)) y4 y5 y6 (fun r hr => h r (List.mem_cons_of_mem _ hr)) (out_ok hp h1 h2 hb)
    refine ⟨z3, z4, z5, z6, ?_⟩
    rw [List.map_cons, forL]
    show (Res.ok [Slot.val (frD p), m, .val (encL b), .val (.int q), x4, x5, x6] S).bind _ = _
    rw [r_bind_ok, e, r_bind_ok]
    exact e2
theorem fold_some (n d : Int) : ∀ (l : List Int) (b : Option Cand), l ≠ [] → ∃ c, l.foldl (outS n d) b = some c
  | [], _, h => absurd rfl h
  | [q], b, _ => step_some _ _
  | q :: r :: l, b, _ => fold_some n d (r :: l) _ (List.cons_ne_nil _ _)
theorem fold_ok {p : Int × Int} (hp : Good p) : ∀ (l : List Int) (b : Option Cand), (∀ q ∈ l, 1 ≤ q ∧ q ≤ 1000) → (∀ c, b = some c → Ok p.2 c) → ∀ c, l.foldl (outS p.1 p.2) b = some c → Ok p.2 c
  | [], b, _, hb => hb
  | q :: l, b, h, hb => fold_ok hp l _ (fun r hr => h r (List.mem_cons_of_mem _ hr)) (out_ok hp (h q List.mem_cons_self).1 (h q List.mem_cons_self).2 hb)
end K30

end
section
set_option maxRecDepth 100000
/-! K30PD: nearest, whole. -/
namespace K30
open PySem DI
def unders (m : Int) : List Int := (List.range m.toNat).map fun (k : Nat) => 1 + (k : Int)
theorem unders_in {m : Int} (h2 : m ≤ 1000) : ∀ q ∈ unders m, 1 ≤ q ∧ q ≤ 1000 := by
  intro q h
  obtain ⟨k, hk, e⟩ := List.mem_map.mp h
  have := List.mem_range.mp hk
  omega
theorem unders_ne {m : Int} (h : 1 ≤ m) : unders m ≠ [] := by
  intro z
  have : (unders m).length = 0 := by rw [z]; rfl
  rw [unders, List.length_map, List.length_range] at this
  omega
theorem rng_unders (m : Int) : rngL 1 (m + 1 - 1).toNat = (unders m).map D.int := by
  have : m + 1 - 1 = m := by omega
  rw [this, unders, List.map_map]; rfl
def near (p : Int × Int) (m : Int) : Int × Int := match (unders m).foldl (outS p.1 p.2) none with
  | some c => red c.1 c.2.1
  | none => (0, 1)
theorem near_for (ρ : Calls) (body : DSs) (v : D) (m : Int) (σ : List Slot) (rest : List Slot) (S : Sto) (h1 : smallI m = true) (h2 : smallI (m + 1) = true)
    (hl : forL (.one 3) (fun σ S => exSs ρ body σ S) ((unders m).map D.int) (.val v :: .val (.int m) :: .val .non :: rest) S = .ok (.next σ) S) :
    exS ρ (.forS (.one 3) (.rng2 (.const (.int 1)) (.bop .add (.slot 1) (.const (.int 1)))) body) (.val v :: .val (.int m) :: .val .non :: rest) S = .ok (.next σ) S := by
  rw [s_for, i_rng2]
  have e : evE ρ (.bop .add (.slot 1) (.const (.int 1))) (.val v :: .val (.int m) :: .val .non :: rest) S = .ok (.int (m + 1)) S := rfl
  rw [e_const, r_bind_ok, e, r_bind_ok]
  show Res.bind (if smallI 1 && smallI (m + 1) then Res.ok (rngL 1 (m + 1 - 1).toNat) S else .bad) _ = _
  rw [h2, show smallI 1 = true from rfl, rng_unders]
  exact hl
theorem near_b (ρ : Calls) (v w : D) (m : Int) (b : D) (y3 y4 y5 y6 y7 : Slot) (S : Sto) (h1 : ρ 6 [v, .str "one"] S = .ok .non S) (h2 : ρ 1 [.int m, .int 1, .int 1000] S = .ok (.bl true) S)
    (hf : exS ρ (.forS (.one 3) (.rng2 (.const (.int 1)) (.bop .add (.slot 1) (.const (.int 1)))) pOut) [.val v, .val (.int m), .val .non, .no, .no, .no, .no, .no] S = .ok (.next [.val v, .val (.int m), .val (.tup [b, w]), y3, y4, y5, y6, y7]) S) :
    exSs ρ b_nearest [.val v, .val (.int m), .no, .no, .no, .no, .no, .no] S = .ok (.ret w) S := by
  simp [-s_for, b_nearest, h1, h2, hf]
theorem small_of {m : Int} (h1 : 0 ≤ m) (h2 : m ≤ 1001) : smallI m = true := by
  have : (1001 : Int) < sizeLine := by decide
  simp [smallI]; omega
theorem nearest (k : Nat) (p : Int × Int) (m : Int) (S : Sto) (hp : Good p) (h1 : 1 ≤ m) (h2 : m ≤ 1000) : callK T (k + 5) 24 [frD p, .int m] S = .ok (frD (near p m)) S := by
  obtain ⟨y3, y4, y5, y6, y7, hl⟩ := p_loop k p (.val (.int m)) S hp (unders m) none .no .no .no .no .no (unders_in h2) (fun c h => nomatch h)
  obtain ⟨c, hc⟩ := fold_some p.1 p.2 (unders m) none (unders_ne h1)
  have hn : near p m = red c.1 c.2.1 := by rw [near, hc]
  rw [hc] at hl
  rw [hn]
  have hin := in_range (k + 2) m 1 1000 S
  rw [decide_eq_true ⟨h1, h2⟩] at hin
  have hd := demand_fraction k p "one" S hp
  exact call_of (d := d_nearest) (o := .ret _) rfl rfl (near_b _ (frD p) _ m _ y3 y4 y5 y6 y7 S hd hin (near_for _ _ _ m _ _ S (small_of (by omega) (by omega)) (small_of (by omega) (by omega)) hl)) rfl rfl
theorem lnear_b (ρ : Calls) (v : D) (m t q f : Int) (w : D) (y3 y4 y5 y6 : Slot) (S : Sto) (h1 : ρ 31 [.int t, .int q] S = .ok w S)
    (hf : exS ρ (.forS (.one 3) (.rng2 (.const (.int 1)) (.bop .add (.slot 1) (.const (.int 1)))) lOut) [.val v, .val (.int m), .val .non, .no, .no, .no, .no] S = .ok (.next [.val v, .val (.int m), .val (.tup [.int t, .int q, .int f]), y3, y4, y5, y6]) S) :
    exSs ρ b__law_nearest [.val v, .val (.int m), .no, .no, .no, .no, .no] S = .ok (.ret w) S := by
  simp [-s_for, b__law_nearest, h1, hf, jx0, jx1]
theorem law_nearest (k : Nat) (p : Int × Int) (m : Int) (S : Sto) (hp : Good p) (h1 : 1 ≤ m) (h2 : m ≤ 1000) : callK T (k + 3) 36 [frD p, .int m] S = .ok (frD (near p m)) S := by
  obtain ⟨y3, y4, y5, y6, hl⟩ := l_loop (callK T (k + 2)) p (.val (.int m)) S hp (unders m) none .no .no .no .no (unders_in h2) (fun c h => nomatch h)
  obtain ⟨c, hc⟩ := fold_some p.1 p.2 (unders m) none (unders_ne h1)
  have hn : near p m = red c.1 c.2.1 := by rw [near, hc]
  have hok := fold_ok hp (unders m) none (unders_in h2) (fun c h => nomatch h) c hc
  rw [hc] at hl
  rw [hn]
  have hm := law_made k c.1 c.2.1 S (by have := hok.q; omega) (Nat.lt_of_lt_of_le hok.b2 (by decide))
  exact call_of (d := d__law_nearest) (o := .ret _) rfl rfl (lnear_b _ (frD p) m _ _ _ _ y3 y4 y5 y6 S hm (near_for _ _ _ m _ _ S (small_of (by omega) (by omega)) (small_of (by omega) (by omega)) hl)) rfl rfl
end K30

end
section
set_option maxRecDepth 100000
/-! K30PE: _law_told. -/
namespace K30
open PySem DI
abbrev argD (x : Str) : D := .tup [.str "argument", .str x]
abbrev toldB : DSs := (.cons (.ifS (.cmp .lt (.slot 0) (.const (.int 5)))
  (.cons (.asg 4 .val false (.lst (.cons (.const (.fn 15)) (.cons (.const (.fn 16)) (.cons (.const (.fn 17)) (.cons (.const (.fn 18)) (.cons (.const (.fn 19)) .nil)))))))
  (.cons (.ret (.callD (.idx (.slot 4) (.slot 0)) (.cons (.slot 1) (.cons (.slot 2) .nil))))
  .nil))
  .nil)
  (.cons (.ret (.ife (.cmp .eq (.slot 0) (.const (.int 5))) (.call 20 (.cons (.slot 1) .nil)) (.ife (.cmp .eq (.slot 0) (.const (.int 6))) (.call 21 (.cons (.slot 1) .nil)) (.ife (.cmp .eq (.slot 0) (.const (.int 7))) (.call 24 (.cons (.slot 1) (.cons (.slot 2) .nil))) (.call 23 (.cons (.slot 1) .nil))))))
  .nil))
abbrev fnsD : D := .lst [.fn 15, .fn 16, .fn 17, .fn 18, .fn 19]
theorem told_lt (ρ : Calls) (c : Int) (f : Nat) (hc : c < 5) (a b v : D) (S : Sto) (hi : idxD S fnsD (.int c) = some (.fn f)) (h : ρ f [a, b] S = .ok v S) : exSs ρ b__law_told [.val (.int c), .val a, .val b, .no, .no] S = .ok (.ret v) S := by
  simp [b__law_told, hc, hi, h]
theorem told_exc (ρ : Calls) (c a b : D) (x : Str) (S : Sto) (h : exSs ρ toldB [.val c, .val a, .val b, .no, .no] S = .exc 0 [.str x] S) : exSs ρ b__law_told [.val c, .val a, .val b, .no, .no] S = .ok (.ret (argD x)) S := by
  rw [b__law_told, s_cons, s_try, h]
  rfl
theorem told_lt_x (ρ : Calls) (c : Int) (f : Nat) (hc : c < 5) (a b : D) (x : Str) (S : Sto) (hi : idxD S fnsD (.int c) = some (.fn f)) (h : ρ f [a, b] S = .exc 0 [.str x] S) : exSs ρ b__law_told [.val (.int c), .val a, .val b, .no, .no] S = .ok (.ret (argD x)) S := by
  refine told_exc ρ _ a b x S ?_
  simp [hc, hi, h]
theorem told5 (ρ : Calls) (a b v : D) (S : Sto) (h : ρ 20 [a] S = .ok v S) : exSs ρ b__law_told [.val (.int 5), .val a, .val b, .no, .no] S = .ok (.ret v) S := by
  simp [b__law_told, h]
theorem told6 (ρ : Calls) (a b v : D) (S : Sto) (h : ρ 21 [a] S = .ok v S) : exSs ρ b__law_told [.val (.int 6), .val a, .val b, .no, .no] S = .ok (.ret v) S := by
  simp [b__law_told, h]
theorem told7 (ρ : Calls) (a b v : D) (S : Sto) (h : ρ 24 [a, b] S = .ok v S) : exSs ρ b__law_told [.val (.int 7), .val a, .val b, .no, .no] S = .ok (.ret v) S := by
  simp [b__law_told, h]
theorem told8 (ρ : Calls) (a b v : D) (S : Sto) (h : ρ 23 [a] S = .ok v S) : exSs ρ b__law_told [.val (.int 8), .val a, .val b, .no, .no] S = .ok (.ret v) S := by
  simp [b__law_told, h]
theorem told_of {k : Nat} {c : Int} {a b v : D} {S : Sto} (h : exSs (callK T k) b__law_told [.val (.int c), .val a, .val b, .no, .no] S = .ok (.ret v) S) : callK T (k + 1) 33 [.int c, a, b] S = .ok v S :=
  call_of (d := d__law_told) (o := .ret v) rfl rfl h rfl rfl
end K30

end
section
set_option maxRecDepth 100000
/-! K30PF: _law_draws. -/
namespace K30
open PySem DI
theorem forL_keep {t : DT} {body : List Slot → Sto → Res Out} {S : Sto} {P : Nat → List Slot → Prop} {N : Nat} : ∀ (l : List D), (∀ d ∈ l, ∀ n σ, n < N → P n σ → ∃ σ1 σ2, setT t σ d = some σ1 ∧ body σ1 S = .ok (.next σ2) S ∧ P (n + 1) σ2) → ∀ n σ, n + l.length ≤ N → P n σ → ∃ σ2, forL t body l σ S = .ok (.next σ2) S ∧ P (n + l.length) σ2
  | [], _, n, σ, _, h => ⟨σ, rfl, h⟩
  | d :: l, hs, n, σ, hN, h => by
    rw [List.length_cons] at hN
    obtain ⟨σ1, σ2, e1, e2, h2⟩ := hs d List.mem_cons_self n σ (by omega) h
    obtain ⟨σ3, e3, h3⟩ := forL_keep l (fun d hd => hs d (List.mem_cons_of_mem _ hd)) (n + 1) σ2 (by omega) h2
    refine ⟨σ3, ?_, by rw [List.length_cons, show n + (l.length + 1) = n + 1 + l.length by omega]; exact h3⟩
    rw [forL, e1]
    simp only [r_ofO_some, r_bind_ok, e2]
    exact e3
abbrev drA : DSs := (.cons (.ifS (.cmp .gt (.slot 3) (.const (.int 0)))
  (.cons (.app 1 (.bop .mod (.bi .int (.cons (.slot 3) .nil)) (.const (.int 1009))))
  (.cons (.asg 3 .val false (.bop .fdiv (.slot 3) (.const (.int 1009))))
  .nil))
  .nil)
  .nil)
abbrev drB : DSs := (.cons (.asg 5 .val false (.bop .mod (.bi .int (.cons (.bop .add (.bop .add (.bop .mul (.slot 5) (.const (.int 16807))) (.bop .mul (.const (.int 69621)) (.slot 4))) (.const (.int 5))) .nil)) (.const (.int 2147483629))))
  (.cons (.app 1 (.bop .fdiv (.slot 5) (.const (.int 1009))))
  .nil))
theorem app_map (ds : List Int) (x : Int) : ds.map D.int ++ [D.int x] = (ds ++ [x]).map D.int := by simp
theorem mulc_r (x c : Int) (h : c.natAbs < 2 ^ 64) : binop .mul (.int x) (.int c) = some (.int (x * c)) := b_mul (mulOk_r h)
theorem mulc_l (x c : Int) (h : c.natAbs < 2 ^ 64) : binop .mul (.int c) (.int x) = some (.int (c * x)) := b_mul (mulOk_l h)
def PA (L : Nat) (v : D) (x2 x5 : Slot) (n : Nat) (σ : List Slot) : Prop := ∃ (ds : List Int) (r : Int) (x4 : Slot), σ = [.val v, .own (ds.map D.int), x2, .val (.int r), x4, x5] ∧ ds.length ≤ L + n
theorem drA_b (ρ : Calls) (v : D) (x2 x4 x5 : Slot) (ds : List Int) (r : Int) (S : Sto) (h : ds.length < 16777216) (h0 : 0 < r) : exSs ρ drA [.val v, .own (ds.map D.int), x2, .val (.int r), x4, x5] S = .ok (.next [.val v, .own ((ds ++ [r % 1009]).map D.int), x2, .val (.int (r / 1009)), x4, x5]) S := by
  have h1 := b_mod (i := r) (j := 1009) (by decide)
  have h2 := b_div (i := r) (j := 1009) (by decide) (by decide)
  have hp : D.plain (.int (r % 1009)) = true := rfl
  simp [h0, h1, h2, h, hp]
theorem drA_0 (ρ : Calls) (v : D) (x2 x4 x5 : Slot) (ds : List Int) (r : Int) (S : Sto) (h0 : ¬ 0 < r) : exSs ρ drA [.val v, .own (ds.map D.int), x2, .val (.int r), x4, x5] S = .ok (.next [.val v, .own (ds.map D.int), x2, .val (.int r), x4, x5]) S := by
  simp [h0]
theorem drB_b (ρ : Calls) (v : D) (x2 x3 : Slot) (m i : Int) (ds : List Int) (S : Sto) (h : ds.length < 16777216) : ∃ y m2, exSs ρ drB [.val v, .own (ds.map D.int), x2, x3, .val (.int i), .val (.int m)] S = .ok (.next [.val v, .own ((ds ++ [y]).map D.int), x2, x3, .val (.int i), .val (.int m2)]) S := by
  have h1 := mulc_r m 16807 (by decide)
  have h2 := mulc_l i 69621 (by decide)
  have h3 := b_mod (i := m * 16807 + 69621 * i + 5) (j := 2147483629) (by decide)
  generalize (m * 16807 + 69621 * i + 5) % 2147483629 = w at h3
  have h4 := b_div (i := w) (j := 1009) (by decide) (by decide)
  have hp : D.plain (.int (w / 1009)) = true := rfl
  refine ⟨w / 1009, w, ?_⟩
  simp [h1, h2, h3, h4, h, hp]
theorem rngL_len (i : Int) (n : Nat) : (rngL i n).length = n := by rw [rngL, List.length_map, List.length_range]
theorem rngL_int {i : Int} {n : Nat} {d : D} (h : d ∈ rngL i n) : ∃ j, d = .int j := by
  obtain ⟨k, _, e⟩ := List.mem_map.mp h
  exact ⟨_, e.symm⟩
theorem loopA (ρ : Calls) (v : D) (x2 x4 x5 : Slot) (ds : List Int) (r : Int) (S : Sto) (h : ds.length < 100000) : ∃ (ds2 : List Int) (r2 : Int) (y4 : Slot), ds2.length ≤ ds.length + 60 ∧ exS ρ (.forS (.one 4) (.rng1 (.const (.int 60))) drA) [.val v, .own (ds.map D.int), x2, .val (.int r), x4, x5] S = .ok (.next [.val v, .own (ds2.map D.int), x2, .val (.int r2), y4, x5]) S := by
  have key := forL_keep (t := .one 4) (body := fun σ S => exSs ρ drA σ S) (S := S) (P := PA ds.length v x2 x5) (N := 60) (rngL 0 60) ?_ 0 [.val v, .own (ds.map D.int), x2, .val (.int r), x4, x5] (by rw [rngL_len]; decide) ⟨ds, r, x4, rfl, by omega⟩
  · obtain ⟨σ2, e, ds2, r2, y4, e2, hl⟩ := key
    rw [rngL_len] at hl
    refine ⟨ds2, r2, y4, by omega, ?_⟩
    rw [← e2, s_for, i_rng1, e_const, r_bind_ok]
    exact e
  · intro d _ n σ hn ⟨ds1, r1, z4, e, hl⟩
    subst e
    by_cases h0 : 0 < r1
    · exact ⟨_, _, rfl, drA_b ρ v x2 _ x5 ds1 r1 S (by omega) h0, _, _, _, rfl, by simp; omega⟩
    · exact ⟨_, _, rfl, drA_0 ρ v x2 _ x5 ds1 r1 S h0, _, _, _, rfl, by omega⟩
def PB (L : Nat) (v : D) (x2 x3 : Slot) (n : Nat) (σ : List Slot) : Prop := ∃ (ds : List Int) (m : Int) (x4 : Slot), σ = [.val v, .own (ds.map D.int), x2, x3, x4, .val (.int m)] ∧ ds.length ≤ L + n
theorem loopB (ρ : Calls) (v : D) (x2 x3 x4 : Slot) (ds : List Int) (m : Int) (S : Sto) (h : ds.length < 100000) : ∃ (ds2 : List Int) (m2 : Int) (y4 : Slot), ds2.length ≤ ds.length + 12 ∧ exS ρ (.forS (.one 4) (.rng1 (.const (.int 12))) drB) [.val v, .own (ds.map D.int), x2, x3, x4, .val (.int m)] S = .ok (.next [.val v, .own (ds2.map D.int), x2, x3, y4, .val (.int m2)]) S := by
  have key := forL_keep (t := .one 4) (body := fun σ S => exSs ρ drB σ S) (S := S) (P := PB ds.length v x2 x3) (N := 12) (rngL 0 12) ?_ 0 [.val v, .own (ds.map D.int), x2, x3, x4, .val (.int m)] (by rw [rngL_len]; decide) ⟨ds, m, x4, rfl, by omega⟩
  · obtain ⟨σ2, e, ds2, r2, y4, e2, hl⟩ := key
    rw [rngL_len] at hl
    refine ⟨ds2, r2, y4, by omega, ?_⟩
    rw [← e2, s_for, i_rng1, e_const, r_bind_ok]
    exact e
  · intro d hd n σ hn ⟨ds1, r1, z4, e, hl⟩
    obtain ⟨i, ei⟩ := rngL_int hd
    subst e; subst ei
    obtain ⟨y, m2, eb⟩ := drB_b ρ v x2 x3 r1 i ds1 S (by omega)
    exact ⟨_, _, rfl, eb, _, _, _, rfl, by simp; omega⟩
abbrev drC : DSs := (.cons (.asg 3 .val false (.bi .abs (.cons (.slot 2) .nil)))
  (.cons (.ifS (.cmp .ge (.slot 3) (.bop .pow (.const (.int 10)) (.const (.int 18))))
  (.cons (.forS (.one 4) (.rng1 (.const (.int 60))) drA)
  .nil)
  (.cons (.asg 5 .val false (.bop .mod (.bi .int (.cons (.bop .add (.bop .mul (.slot 3) (.const (.int 48271))) (.const (.int 11))) .nil)) (.const (.int 2147483647))))
  (.cons (.forS (.one 4) (.rng1 (.const (.int 12))) drB)
  .nil)))
  .nil))
def PC (v : D) (n : Nat) (σ : List Slot) : Prop := ∃ (ds : List Int) (x2 x3 x4 x5 : Slot), σ = [.val v, .own (ds.map D.int), x2, x3, x4, x5] ∧ ds.length ≤ 60 * n
theorem pow_ten : binop .pow (.int 10) (.int 18) = some (.int 1000000000000000000) := by
  show (if decide ((0 : Int) ≤ 18) && (decide ((18 : Int) ≤ 1000000) && decide ((10 : Int).natAbs < 2 ^ 64)) then some (D.int ((10 : Int) ^ (18 : Int).toNat)) else none) = _
  rw [if_pos (by decide)]
  congr 2
theorem drC_1 (ρ : Calls) (v : D) (c r z : Int) (x3 x4 x5 : Slot) (ds : List D) (σ2 : List Slot) (S : Sto) (ha : biD .abs S [.int c] = some (.int r)) (hp : binop .pow (.int 10) (.int 18) = some (.int z)) (hc : z ≤ r)
    (e : exS ρ (.forS (.one 4) (.rng1 (.const (.int 60))) drA) [.val v, .own ds, .val (.int c), .val (.int r), x4, x5] S = .ok (.next σ2) S) : exSs ρ drC [.val v, .own ds, .val (.int c), x3, x4, x5] S = .ok (.next σ2) S := by
  simp [-s_for, -bi_abs, ha, hp, hc, e]
theorem drC_2 (ρ : Calls) (v : D) (c r z u w : Int) (x3 x4 x5 : Slot) (ds : List D) (σ2 : List Slot) (S : Sto) (ha : biD .abs S [.int c] = some (.int r)) (hp : binop .pow (.int 10) (.int 18) = some (.int z)) (hc : ¬ z ≤ r)
    (h1 : binop .mul (.int r) (.int 48271) = some (.int u)) (h2 : binop .mod (.int (u + 11)) (.int 2147483647) = some (.int w))
    (e : exS ρ (.forS (.one 4) (.rng1 (.const (.int 12))) drB) [.val v, .own ds, .val (.int c), .val (.int r), x4, .val (.int w)] S = .ok (.next σ2) S) : exSs ρ drC [.val v, .own ds, .val (.int c), x3, x4, x5] S = .ok (.next σ2) S := by
  simp [-s_for, -bi_abs, ha, hp, hc, e, h1, h2]
theorem drC_b (ρ : Calls) (v : D) (c : Int) (x3 x4 x5 : Slot) (ds : List Int) (S : Sto) (h : ds.length < 100000) : ∃ (ds2 : List Int) (y3 y4 y5 : Slot), ds2.length ≤ ds.length + 60 ∧ exSs ρ drC [.val v, .own (ds.map D.int), .val (.int c), x3, x4, x5] S = .ok (.next [.val v, .own (ds2.map D.int), .val (.int c), y3, y4, y5]) S := by
  by_cases hc : (1000000000000000000 : Int) ≤ (c.natAbs : Int)
  · obtain ⟨ds2, r2, y4, hl, e⟩ := loopA ρ v (.val (.int c)) x4 x5 ds (c.natAbs : Int) S h
    exact ⟨ds2, .val (.int r2), y4, x5, hl, drC_1 ρ v c _ _ x3 x4 x5 _ _ S (bi_abs c) pow_ten hc e⟩
  · have h1 := mulc_r (c.natAbs : Int) 48271 (by decide)
    have h2 := b_mod (i := (c.natAbs : Int) * 48271 + 11) (j := 2147483647) (by decide)
    obtain ⟨ds2, m2, y4, hl, e⟩ := loopB ρ v (.val (.int c)) (.val (.int (c.natAbs : Int))) x4 ds (((c.natAbs : Int) * 48271 + 11) % 2147483647) S h
    exact ⟨ds2, .val (.int (c.natAbs : Int)), y4, .val (.int m2), by omega, drC_2 ρ v c _ _ _ _ x3 x4 x5 _ _ S (bi_abs c) pow_ten hc h1 h2 e⟩
theorem draws_b (ρ : Calls) (v : D) (l : List D) (ds : List D) (x2 x3 x4 x5 : Slot) (S : Sto) (h : slcD v none (some 63) = some (.lst l)) (hf : forL (.one 2) (fun σ S => exSs ρ drC σ S) l [.val v, .own [], .no, .no, .no, .no] S = .ok (.next [.val v, .own ds, x2, x3, x4, x5]) S) :
    exSs ρ b__law_draws [.val v, .no, .no, .no, .no, .no] S = .ok (.ret (.lst ds)) S := by
  have e : exS ρ (.forS (.one 2) (.seq (.slc (.slot 0) .none (.some (.const (.int 63))))) drC) [.val v, .own [], .no, .no, .no, .no] S = .ok (.next [.val v, .own ds, x2, x3, x4, x5]) S := by
    rw [s_for, i_seq]
    have e1 : evE ρ (.slc (.slot 0) .none (.some (.const (.int 63)))) [.val v, .own [], .no, .no, .no, .no] S = .ok (.lst l) S := by
      have hi : intO none = some none := rfl
      have hj : intO (some (.int 63)) = some (some 63) := rfl
      simp [hi, hj, h]
    rw [e1, r_bind_ok]
    exact hf
  have hf2 : DE.fresh (.lst .nil) = true := rfl
  have hp : D.plains [] = true := rfl
  simp [-s_for, b__law_draws, e, hf2, hp]
theorem law_draws (k : Nat) (ns : List Int) (S : Sto) (h : ns.length ≤ 63) : ∃ ds : List Int, ds.length ≤ 3780 ∧ callK T (k + 1) 26 [.scr ns] S = .ok (.lst (ds.map D.int)) S := by
  have hc : (cutL ns none (some 63)).length ≤ 63 := by
    unfold cutL
    exact Nat.le_trans (List.length_take_le' _ _) (by rw [List.length_drop]; omega)
  have key := forL_keep (t := .one 2) (body := fun σ S => exSs (callK T k) drC σ S) (S := S) (P := PC (.scr ns)) (N := 63) ((cutL ns none (some 63)).map D.int) ?_ 0 [.val (.scr ns), .own [], .no, .no, .no, .no] (by rw [List.length_map]; omega) ⟨[], .no, .no, .no, .no, rfl, Nat.le_refl 0⟩
  · obtain ⟨σ2, e, ds, x2, x3, x4, x5, e2, hl⟩ := key
    rw [List.length_map] at hl
    subst e2
    exact ⟨ds, by omega, call_of (d := d__law_draws) (o := .ret _) rfl rfl (draws_b _ _ _ _ x2 x3 x4 x5 S rfl e) rfl rfl⟩
  · intro d hd n σ hn ⟨ds, x2, x3, x4, x5, e, hl⟩
    obtain ⟨c, _, ec⟩ := List.mem_map.mp hd
    subst e; subst ec
    obtain ⟨ds2, y3, y4, y5, hl2, eb⟩ := drC_b (callK T k) (.scr ns) c x3 x4 x5 ds S (by omega)
    exact ⟨_, _, rfl, eb, _, _, _, _, _, rfl, by omega⟩
end K30

end
section
set_option maxRecDepth 100000
/-! K30PG: _law_more, _law_take, _law_one, _law_wholes. -/
namespace K30
open PySem DI
theorem atI_in {xs : List D} {k : Int} (h0 : 0 ≤ k) (h1 : k < xs.length) : ∃ d, d ∈ xs ∧ L2.atI xs k = some d := by
  have h2 : k.toNat < xs.length := by omega
  refine ⟨xs[k.toNat], List.getElem_mem h2, ?_⟩
  show (L2.ixN xs.length k).bind (fun j => xs[j]?) = _
  unfold L2.ixN
  rw [if_pos h0, if_pos h1]
  exact List.getElem?_eq_getElem h2
abbrev moreB : DSs := (.cons (.ifS (.slot 0)
  (.cons (.asg 2 .val false (.bop .add (.slot 2) (.idx (.slot 0) (.bop .mod (.bi .int (.cons (.bop .add (.bop .mul (.slot 1) (.bop .add (.slot 3) (.const (.int 5)))) (.slot 3)) .nil)) (.bi .len (.cons (.slot 0) .nil))))))
  .nil)
  .nil)
  (.cons (.asg 2 .val false (.bop .mod (.bi .int (.cons (.bop .add (.bop .add (.bop .mul (.slot 2) (.const (.int 16807))) (.bop .mul (.const (.int 69621)) (.slot 3))) (.const (.int 5))) .nil)) (.const (.int 2147483629))))
  .nil))
theorem more_1 (ρ : Calls) (xs : List D) (p m i y u w1 w2 w3 j e : Int) (S : Sto) (h0 : xs.isEmpty = false) (h1 : binop .mul (.int p) (.int (i + 5)) = some (.int u)) (h2 : binop .mod (.int (u + i)) (.int xs.length) = some (.int j)) (h3 : idxD S (.lst xs) (.int j) = some (.int e))
    (h4 : binop .mul (.int (m + e)) (.int 16807) = some (.int w1)) (h5 : binop .mul (.int 69621) (.int i) = some (.int w2)) (h6 : binop .mod (.int (w1 + w2 + 5)) (.int 2147483629) = some (.int w3)) :
    exSs ρ moreB [.val (.lst xs), .val (.int p), .val (.int m), .val (.int i)] S = .ok (.next [.val (.lst xs), .val (.int p), .val (.int w3), .val (.int i)]) S := by
  simp [h0, h1, h2, h3, h4, h5, h6]
theorem more_2 (ρ : Calls) (xs : List D) (p m i w1 w2 w3 : Int) (S : Sto) (h0 : xs.isEmpty = true)
    (h4 : binop .mul (.int m) (.int 16807) = some (.int w1)) (h5 : binop .mul (.int 69621) (.int i) = some (.int w2)) (h6 : binop .mod (.int (w1 + w2 + 5)) (.int 2147483629) = some (.int w3)) :
    exSs ρ moreB [.val (.lst xs), .val (.int p), .val (.int m), .val (.int i)] S = .ok (.next [.val (.lst xs), .val (.int p), .val (.int w3), .val (.int i)]) S := by
  simp [h0, h4, h5, h6]
theorem more_s (ρ : Calls) (ds : List Int) (p m i : Int) (S : Sto) (hi : 0 ≤ i ∧ i < 3) : ∃ w, exSs ρ moreB [.val (.lst (ds.map D.int)), .val (.int p), .val (.int m), .val (.int i)] S = .ok (.next [.val (.lst (ds.map D.int)), .val (.int p), .val (.int w), .val (.int i)]) S := by
  by_cases h0 : ds = []
  · subst h0
    exact ⟨_, more_2 ρ _ p m i _ _ _ S rfl (mulc_r _ _ (by decide)) (mulc_l _ _ (by decide)) (b_mod (by decide))⟩
  · have hl : (0 : Int) < ((ds.map D.int).length : Int) := by
      rw [List.length_map]
      have := List.length_pos_iff.mpr h0
      omega
    have h2 := b_mod (i := p * (i + 5) + i) hl
    obtain ⟨d, hd, h3⟩ := atI_in (xs := ds.map D.int) (Int.emod_nonneg (p * (i + 5) + i) (by omega)) (Int.emod_lt_of_pos _ hl)
    obtain ⟨e, _, he⟩ := List.mem_map.mp hd
    subst he
    exact ⟨_, more_1 ρ _ p m i e _ _ _ _ _ e S (by simpa using h0) (b_mul (mulOk_r (Nat.lt_of_le_of_lt (show (i + 5).natAbs ≤ 8 by omega) (by decide)))) h2 h3 (mulc_r _ _ (by decide)) (mulc_l _ _ (by decide)) (b_mod (by decide))⟩
theorem rngL_in {n : Nat} {d : D} (h : d ∈ rngL 0 n) : ∃ j : Int, d = .int j ∧ 0 ≤ j ∧ j < n := by
  obtain ⟨k, hk, e⟩ := List.mem_map.mp h
  have := List.mem_range.mp hk
  exact ⟨_, e.symm, by omega, by omega⟩
def PM (v : D) (p : Int) (n : Nat) (σ : List Slot) : Prop := ∃ (m : Int) (x3 : Slot), σ = [.val v, .val (.int p), .val (.int m), x3]
theorem more_b (ρ : Calls) (xs : List D) (p u m m2 z : Int) (x3 : Slot) (S : Sto) (h1 : binop .mul (.int p) (.int 48271) = some (.int u)) (h2 : binop .mod (.int (u + xs.length + 11)) (.int 2147483629) = some (.int m))
    (hf : forL (.one 3) (fun σ S => exSs ρ moreB σ S) (rngL 0 3) [.val (.lst xs), .val (.int p), .val (.int m), .no] S = .ok (.next [.val (.lst xs), .val (.int p), .val (.int m2), x3]) S) (h3 : binop .fdiv (.int m2) (.int 1009) = some (.int z)) :
    exSs ρ b__law_more [.val (.lst xs), .val (.int p), .no, .no] S = .ok (.ret (.int z)) S := by
  have e : exS ρ (.forS (.one 3) (.rng1 (.const (.int 3))) moreB) [.val (.lst xs), .val (.int p), .val (.int m), .no] S = .ok (.next [.val (.lst xs), .val (.int p), .val (.int m2), x3]) S := by
    rw [s_for, i_rng1, e_const, r_bind_ok]
    exact hf
  simp [-s_for, b__law_more, h1, h2, h3, e]
theorem law_more (k : Nat) (ds : List Int) (p : Int) (S : Sto) : ∃ z, callK T (k + 1) 27 [.lst (ds.map D.int), .int p] S = .ok (.int z) S := by
  have key := forL_keep (t := .one 3) (body := fun σ S => exSs (callK T k) moreB σ S) (S := S) (P := PM (.lst (ds.map D.int)) p) (N := 3) (rngL 0 3) ?_ 0 [.val (.lst (ds.map D.int)), .val (.int p), .val (.int ((p * 48271 + (ds.map D.int).length + 11) % 2147483629)), .no] (by rw [rngL_len]; decide) ⟨_, _, rfl⟩
  · obtain ⟨σ2, e, m2, x3, e2⟩ := key
    subst e2
    exact ⟨_, call_of (d := d__law_more) (o := .ret _) rfl rfl (more_b _ _ p _ _ m2 _ x3 S (mulc_r _ _ (by decide)) (b_mod (by decide)) e (b_div (by decide) (by decide))) rfl rfl⟩
  · intro d hd n σ hn ⟨m, x3, e⟩
    obtain ⟨j, ej, h0, h3⟩ := rngL_in hd
    subst e; subst ej
    obtain ⟨w, eb⟩ := more_s (callK T k) ds p m j S ⟨h0, h3⟩
    exact ⟨_, _, rfl, eb, _, _, rfl⟩
end K30

end
section
set_option maxRecDepth 100000
/-! K30PH: _law_take, _law_one, _law_wholes. -/
namespace K30
open PySem DI
abbrev St (p : Int) : Sto := [[D.int p]]
theorem st_ix (p : Int) : idxD (St p) (.cell 0) (.int 0) = some (.int p) := rfl
theorem st_set (ρ : Calls) (v x : D) (p q : Int) (e : DE) (h : evE ρ e [.val v, .val (.cell 0), .val x, .val (.int p)] (St p) = .ok (.int q) (St p)) :
    exS ρ (.setAt 1 (.const (.int 0)) e) [.val v, .val (.cell 0), .val x, .val (.int p)] (St p) = .ok (.next [.val v, .val (.cell 0), .val x, .val (.int p)]) (St q) := by
  rw [s_setAt, h]
  rfl
theorem take_1 (ρ : Calls) (xs : List D) (m p e r : Int) (h0 : p < xs.length) (h1 : idxD (St (p + 1)) (.lst xs) (.int p) = some (.int e)) (h2 : binop .mod (.int e) (.int m) = some (.int r)) :
    exSs ρ b__law_take [.val (.lst xs), .val (.cell 0), .val (.int m), .no] (St p) = .ok (.ret (.int r)) (St (p + 1)) := by
  have hs := st_set ρ (.lst xs) (.int m) p (p + 1) (.bop .add (.slot 3) (.const (.int 1))) rfl
  simp [-s_setAt, b__law_take, st_ix, hs, h0, h1, h2]
theorem take_2 (ρ : Calls) (xs : List D) (m p e r : Int) (h0 : ¬ p < xs.length) (h1 : ρ 27 [.lst xs, .int p] (St (p + 1)) = .ok (.int e) (St (p + 1))) (h2 : binop .mod (.int e) (.int m) = some (.int r)) :
    exSs ρ b__law_take [.val (.lst xs), .val (.cell 0), .val (.int m), .no] (St p) = .ok (.ret (.int r)) (St (p + 1)) := by
  have hs := st_set ρ (.lst xs) (.int m) p (p + 1) (.bop .add (.slot 3) (.const (.int 1))) rfl
  simp [-s_setAt, b__law_take, st_ix, hs, h0, h1, h2]
theorem law_take (k : Nat) (ds : List Int) (m p : Int) (hp : 0 ≤ p) (hm : 0 < m) : ∃ r, (0 ≤ r ∧ r < m) ∧ callK T (k + 2) 28 [.lst (ds.map D.int), .cell 0, .int m] (St p) = .ok (.int r) (St (p + 1)) := by
  by_cases h0 : p < (ds.map D.int).length
  · obtain ⟨d, hd, h3⟩ := atI_in (xs := ds.map D.int) hp h0
    obtain ⟨e, _, he⟩ := List.mem_map.mp hd
    subst he
    exact ⟨e % m, ⟨Int.emod_nonneg _ (by omega), Int.emod_lt_of_pos _ hm⟩, call_of (d := d__law_take) (o := .ret _) rfl rfl (take_1 _ _ m p e _ h0 h3 (b_mod hm)) rfl rfl⟩
  · obtain ⟨e, he⟩ := law_more k ds p (St (p + 1))
    exact ⟨e % m, ⟨Int.emod_nonneg _ (by omega), Int.emod_lt_of_pos _ hm⟩, call_of (d := d__law_take) (o := .ret _) rfl rfl (take_2 _ _ m p e _ h0 he (b_mod hm)) rfl rfl⟩
theorem one_b (ρ : Calls) (xs : List D) (v d : D) (r : Int) (S S1 : Sto) (h1 : ρ 28 [v, .cell 0, .int xs.length] S = .ok (.int r) S1) (h2 : idxD S1 (.lst xs) (.int r) = some d) :
    exSs ρ b__law_one [.val (.lst xs), .val v, .val (.cell 0)] S = .ok (.ret d) S1 := by
  simp [b__law_one, h1, h2]
theorem law_one (k : Nat) (xs : List D) (ds : List Int) (p : Int) (hp : 0 ≤ p) (hx : 0 < xs.length) : ∃ d, d ∈ xs ∧ callK T (k + 3) 29 [.lst xs, .lst (ds.map D.int), .cell 0] (St p) = .ok d (St (p + 1)) := by
  obtain ⟨r, ⟨h0, h1⟩, e⟩ := law_take k ds (xs.length : Int) p hp (by omega)
  obtain ⟨d, hd, h3⟩ := atI_in (xs := xs) h0 h1
  exact ⟨d, hd, call_of (d := d__law_one) (o := .ret _) rfl rfl (one_b _ xs _ d r _ _ e h3) rfl rfl⟩
abbrev sizesD : D := .lst [.int 1, .int 4, .int 20, .int 1000, .int 1000000]
theorem wholes_1 (ρ : Calls) (v : D) (z u r : Int) (S S1 S2 : Sto) (h1 : ρ 29 [sizesD, v, .cell 0] S = .ok (.int z) S1) (hz : z < 1000) (hm : binop .mul (.int 2) (.int z) = some (.int u)) (h2 : ρ 28 [v, .cell 0, .int (u + 1)] S1 = .ok (.int r) S2) :
    exSs ρ b__law_wholes [.val v, .val (.cell 0), .no] S = .ok (.ret (.int (r - z))) S2 := by
  simp [b__law_wholes, h1, hz, hm, h2]
theorem wholes_2 (ρ : Calls) (v : D) (z s r u : Int) (S S1 S2 S3 : Sto) (h1 : ρ 29 [sizesD, v, .cell 0] S = .ok (.int z) S1) (hz : ¬ z < 1000) (h2 : ρ 29 [.lst [.int 1, .int (-1)], v, .cell 0] S1 = .ok (.int s) S2) (h3 : ρ 28 [v, .cell 0, .int 1000] S2 = .ok (.int r) S3)
    (hm : binop .mul (.int s) (.int (z - r)) = some (.int u)) :
    exSs ρ b__law_wholes [.val v, .val (.cell 0), .no] S = .ok (.ret (.int u)) S3 := by
  simp [b__law_wholes, h1, hz, hm, h2, h3]
theorem law_wholes (k : Nat) (ds : List Int) (p : Int) (hp : 0 ≤ p) : ∃ n q, Wh n ∧ 0 ≤ q ∧ callK T (k + 4) 37 [.lst (ds.map D.int), .cell 0] (St p) = .ok (.int n) (St q) := by
  obtain ⟨d, hd, e⟩ := law_one k [.int 1, .int 4, .int 20, .int 1000, .int 1000000] ds p hp (by decide)
  obtain ⟨z, rfl, hz1, hz2, hz3⟩ : ∃ z, d = .int z ∧ 0 < z ∧ z ≤ 1000000 ∧ (z < 1000 ∨ 1000 ≤ z) := by
    simp only [List.mem_cons, List.not_mem_nil, or_false] at hd
    rcases hd with h | h | h | h | h <;> exact ⟨_, h, by decide, by decide, by decide⟩
  by_cases hz : z < 1000
  · obtain ⟨r, ⟨h0, h1⟩, e2⟩ := law_take (k + 1) ds (2 * z + 1) (p + 1) (by omega) (by omega)
    exact ⟨r - z, _, ⟨by omega, by omega⟩, by omega, call_of (d := d__law_wholes) (o := .ret _) rfl rfl (wholes_1 _ _ z _ r _ _ _ e hz (mulc_l _ _ (by decide)) e2) rfl rfl⟩
  · obtain ⟨d, hd, e2⟩ := law_one k [.int 1, .int (-1)] ds (p + 1) (by omega) (by decide)
    obtain ⟨r, ⟨h0, h1⟩, e3⟩ := law_take (k + 1) ds 1000 (p + 1 + 1) (by omega) (by decide)
    simp only [List.mem_cons, List.not_mem_nil, or_false] at hd
    rcases hd with h | h
    · subst h
      exact ⟨1 * (z - r), _, ⟨by omega, by omega⟩, by omega, call_of (d := d__law_wholes) (o := .ret _) rfl rfl (wholes_2 _ _ z _ r _ _ _ _ _ e hz e2 e3 (mulc_l _ _ (by decide))) rfl rfl⟩
    · subst h
      exact ⟨(-1) * (z - r), _, ⟨by omega, by omega⟩, by omega, call_of (d := d__law_wholes) (o := .ret _) rfl rfl (wholes_2 _ _ z _ r _ _ _ _ _ e hz e2 e3 (mulc_l _ _ (by decide))) rfl rfl⟩
end K30

end
section
set_option maxRecDepth 100000
/-! K30PI: the repr of bounded data is defined. -/
namespace DI
open PySem L2
theorem len_tuple (ts : List Str) : (tupleText ts).length ≤ piled ts + 3 := by
  unfold tupleText
  rw [strLen_append, strLen_append]
  have e1 : ((("(" : String) : Str)).length = 1 := rfl
  have e3 : (((if ts.length == 1 then ",)" else ")" : String) : Str)).length ≤ 2 := by split <;> decide
  rw [e1]
  by_cases h : ts = []
  · subst h
    have : (Str.join ", " []).length = 0 := rfl
    omega
  · have := join_length_add ts h
    omega
theorem len_list : ∀ (ts : List Str), (listText ts).length ≤ piled ts + 3
  | [] => by show 2 ≤ 0 + 3; decide
  | t :: r => by
    have h := textFrom_length_pos r 1 (("[" : Str) ++ (if (0 : Nat) > 0 then ", " else "" : String) ++ t) (Nat.succ_pos 0)
    have e : ((("[" : Str) ++ (if (0 : Nat) > 0 then ", " else "" : String) ++ t)).length = 1 + t.length := by
      rw [strLen_append, strLen_append]; rfl
    have hX : (listText (t :: r)).length = (textFrom 0 "[" (t :: r)).length + 1 := by
      show (textFrom 0 "[" (t :: r) ++ "]").length = _
      rw [strLen_append]; rfl
    have hY : (textFrom 0 "[" (t :: r)).length = (textFrom 1 (("[" : Str) ++ (if (0 : Nat) > 0 then ", " else "" : String) ++ t) r).length := rfl
    rw [hX, hY, h, e, piled_cons]; omega
structure Shw (p : PyData) (n e : Nat) : Prop where
  a : p.showable = true
  b : p.depth ≤ e
  c : p.shown.length ≤ n
structure Shws (ps : List PyData) (n e : Nat) : Prop where
  a : PyData.showableAll ps = true
  b : PyData.depthAll ps ≤ e
  c : piled (PyData.shownAll ps) ≤ n
def Rp (d : D) (n e : Nat) : Prop := ∃ p, d.py = some p ∧ Shw p n e
def Rps (ds : List D) (n e : Nat) : Prop := ∃ ps, D.pys ds = some ps ∧ Shws ps n e
theorem rp_int {i : Int} (h : i.natAbs.log2 < 1920) (e : Nat) : Rp (.int i) 2000 e := by
  refine ⟨.int i, rfl, decide_eq_true h, Nat.zero_le _, ?_⟩
  have := int_text_length_le (k := 1920) (by decide) h
  show (Str.ofString (toString i)).length ≤ _
  rw [ofString_length]
  omega
theorem rp_non (e : Nat) : Rp .non 2000 e := ⟨.none, rfl, rfl, Nat.zero_le _, by decide⟩
theorem rps_nil (n e : Nat) : Rps [] n e := ⟨[], rfl, rfl, Nat.zero_le _, Nat.zero_le _⟩
theorem rps_cons {d : D} {ds : List D} {n m e : Nat} (h : Rp d n e) (hs : Rps ds m e) : Rps (d :: ds) (n + 2 + m) e := by
  obtain ⟨p, hp, a, b, c⟩ := h
  obtain ⟨ps, hps, a2, b2, c2⟩ := hs
  refine ⟨p :: ps, by rw [D.pys, hp, hps]; rfl, ?_, ?_, ?_⟩
  · rw [PyData.showableAll, a, a2]; rfl
  · rw [PyData.depthAll]; omega
  · rw [PyData.shownAll, piled_cons]; omega
theorem rp_tup {ds : List D} {n e : Nat} (h : Rps ds n e) : Rp (.tup ds) (n + 3) (e + 1) := by
  obtain ⟨ps, hps, a2, b2, c2⟩ := h
  refine ⟨.tuple ps, by rw [D.py, hps]; rfl, ?_, ?_, ?_⟩
  · rw [PyData.showable]; exact a2
  · rw [PyData.depth]; omega
  · rw [PyData.shown]; have := len_tuple (PyData.shownAll ps); omega
theorem rp_lst {ds : List D} {n e : Nat} (h : Rps ds n e) : Rp (.lst ds) (n + 3) (e + 1) := by
  obtain ⟨ps, hps, a2, b2, c2⟩ := h
  refine ⟨.list ps, by rw [D.py, hps]; rfl, ?_, ?_, ?_⟩
  · rw [PyData.showable]; exact a2
  · rw [PyData.depth]; omega
  · rw [PyData.shown]; have := len_list (PyData.shownAll ps); omega
theorem rps_ints : ∀ (l : List Int) (e : Nat), (∀ x ∈ l, x.natAbs.log2 < 1920) → Rps (l.map D.int) (2002 * l.length) e
  | [], e, _ => rps_nil _ _
  | x :: l, e, h => by
    have h1 := rps_cons (rp_int (h x List.mem_cons_self) e) (rps_ints l e fun y hy => h y (List.mem_cons_of_mem _ hy))
    have : 2002 * (x :: l).length = 2000 + 2 + 2002 * l.length := by rw [List.length_cons]; omega
    rw [this]
    exact h1
theorem Rp.mono {d : D} {n m e f : Nat} (h : Rp d n e) (h1 : n ≤ m) (h2 : e ≤ f) : Rp d m f := by
  obtain ⟨p, hp, a, b, c⟩ := h
  exact ⟨p, hp, a, by omega, by omega⟩
theorem repr_tup {ds : List D} {n e : Nat} (h : Rp (.tup ds) n e) (h1 : n ≤ 16777216) (h2 : e ≤ 60) : ∃ t, reprD (.tup ds) = some (.str t) := by
  obtain ⟨p, hp, a, b, c⟩ := h
  refine ⟨p.shown, ?_⟩
  show ((D.tup ds).py.bind fun p => if p.showable && (decide (p.depth ≤ 60) && fits p.shown.length) then some (D.str p.shown) else none) = _
  rw [hp]
  show (if p.showable && (decide (p.depth ≤ 60) && fits p.shown.length) then some (D.str p.shown) else none) = _
  rw [a, decide_eq_true (show p.depth ≤ 60 by omega), fits_ok, decide_eq_true (show p.shown.length ≤ 16777216 by omega)]
  rfl
theorem repr_lst {ds : List D} {n e : Nat} (h : Rp (.lst ds) n e) (h1 : n ≤ 16777216) (h2 : e ≤ 60) : ∃ t, reprD (.lst ds) = some (.str t) := by
  obtain ⟨p, hp, a, b, c⟩ := h
  refine ⟨p.shown, ?_⟩
  show ((D.lst ds).py.bind fun p => if p.showable && (decide (p.depth ≤ 60) && fits p.shown.length) then some (D.str p.shown) else none) = _
  rw [hp]
  show (if p.showable && (decide (p.depth ≤ 60) && fits p.shown.length) then some (D.str p.shown) else none) = _
  rw [a, decide_eq_true (show p.depth ≤ 60 by omega), fits_ok, decide_eq_true (show p.shown.length ≤ 16777216 by omega)]
  rfl
theorem ne_str (t : Str) : cmpD .ne (.str t) (.str t) = some (.bl false) := by
  show (some (decide (t = t))).map (fun k => D.bl (!k)) = _
  simp
end DI
namespace K30
open PySem DI
theorem rp_arg : Rp (argD "other") 2000 1 := ⟨.tuple [.str "argument", .str "other"], rfl, by decide +kernel, by decide +kernel, by decide +kernel⟩
theorem rp_frD {p : Int × Int} (h1 : p.1.natAbs.log2 < 1920) (h2 : p.2.natAbs.log2 < 1920) : Rp (frD p) 5000 1 :=
  (rp_tup (rps_cons (rp_int h1 0) (rps_cons (rp_int h2 0) (rps_nil 0 0)))).mono (by decide) (by decide)
end K30

end
section
set_option maxRecDepth 100000
/-! K30PJ: the law's statements, one by one (begun by steps.py). -/
namespace K30
open PySem DI
abbrev ts1 : DS := (.par [7, 8] false (.cons (.call 37 (.cons (.slot 1) (.cons (.slot 2) .nil))) (.cons (.call 37 (.cons (.slot 1) (.cons (.slot 2) .nil))) .nil)))
abbrev ts2 : DS := (.asg 9 .val false (.ife (.cmp .eq (.slot 8) (.const (.int 0))) (.tup (.cons (.const (.str "argument")) (.cons (.const (.str "other")) .nil))) (.call 31 (.cons (.slot 7) (.cons (.slot 8) .nil)))))
abbrev ts3 : DS := (.ifS (.cmp .ne (.bi .repr (.cons (.call 33 (.cons (.const (.int 0)) (.cons (.slot 7) (.cons (.slot 8) .nil)))) .nil)) (.bi .repr (.cons (.slot 9) .nil)))
  (.cons (.ret (.const (.bl false)))
  .nil)
  .nil)
abbrev ts4 : DS := (.asg 8 .val false (.ife (.cmp .ne (.slot 8) (.const (.int 0))) (.slot 8) (.const (.int 1))))
abbrev ts5 : DS := (.asgT [10, 11] false (.tup (.cons (.call 31 (.cons (.slot 7) (.cons (.slot 8) .nil))) (.cons (.call 31 (.cons (.call 37 (.cons (.slot 1) (.cons (.slot 2) .nil))) (.cons (.call 29 (.cons (.lst (.cons (.const (.int 1)) (.cons (.const (.int 2)) (.cons (.const (.int 3)) (.cons (.const (.int 7)) (.cons (.const (.int 999983)) .nil)))))) (.cons (.slot 1) (.cons (.slot 2) .nil)))) .nil))) .nil))))
abbrev ts6 : DS := (.asg 12 .val false (.bop .sub (.bop .mul (.idx (.slot 10) (.const (.int 0))) (.idx (.slot 11) (.const (.int 1)))) (.bop .mul (.idx (.slot 11) (.const (.int 0))) (.idx (.slot 10) (.const (.int 1))))))
abbrev ts7 : DS := (.asg 9 .own false (.lst (.cons (.call 31 (.cons (.bop .add (.bop .mul (.idx (.slot 10) (.const (.int 0))) (.idx (.slot 11) (.const (.int 1)))) (.bop .mul (.idx (.slot 11) (.const (.int 0))) (.idx (.slot 10) (.const (.int 1))))) (.cons (.bop .mul (.idx (.slot 10) (.const (.int 1))) (.idx (.slot 11) (.const (.int 1)))) .nil))) (.cons (.call 31 (.cons (.bop .mul (.idx (.slot 10) (.const (.int 0))) (.idx (.slot 11) (.const (.int 0)))) (.cons (.bop .mul (.idx (.slot 10) (.const (.int 1))) (.idx (.slot 11) (.const (.int 1)))) .nil))) .nil))))
abbrev ts8 : DS := (.app 9 (.ife (.cmp .eq (.idx (.slot 11) (.const (.int 0))) (.const (.int 0))) (.tup (.cons (.const (.str "argument")) (.cons (.const (.str "other")) .nil))) (.call 31 (.cons (.bop .mul (.idx (.slot 10) (.const (.int 0))) (.idx (.slot 11) (.const (.int 1)))) (.cons (.bop .mul (.idx (.slot 10) (.const (.int 1))) (.idx (.slot 11) (.const (.int 0)))) .nil)))))
abbrev ts9 : DS := (.ifS (.cmp .ne (.bi .repr (.cons (.lc [19] (.one 19) (.seq (.tup (.cons (.const (.int 1)) (.cons (.const (.int 2)) (.cons (.const (.int 3)) (.cons (.const (.int 4)) .nil)))))) .none (.call 33 (.cons (.slot 19) (.cons (.slot 10) (.cons (.slot 11) .nil))))) .nil)) (.bi .repr (.cons (.bop .add (.slot 9) (.lst (.cons (.bop .sub (.bi .int (.cons (.cmp .gt (.slot 12) (.const (.int 0))) .nil)) (.bi .int (.cons (.cmp .lt (.slot 12) (.const (.int 0))) .nil))) .nil))) .nil)))
  (.cons (.ret (.const (.bl false)))
  .nil)
  .nil)
abbrev ts10 : DS := (.asg 13 .val false (.call 29 (.cons (.lst (.cons (.slot 10) (.cons (.ife (.bAnd (.cons (.cmp .lt (.bi .abs (.cons (.idx (.slot 10) (.const (.int 0))) .nil)) (.const (.int 1001))) (.cons (.cmp .lt (.idx (.slot 10) (.const (.int 1))) (.const (.int 1001))) .nil))) (.tup (.cons (.bop .mul (.idx (.slot 10) (.const (.int 0))) (.idx (.slot 10) (.const (.int 0)))) (.cons (.bop .mul (.idx (.slot 10) (.const (.int 1))) (.idx (.slot 10) (.const (.int 1)))) .nil))) (.slot 10)) (.cons (.tup (.cons (.bi .abs (.cons (.idx (.slot 10) (.const (.int 0))) .nil)) (.cons (.idx (.slot 10) (.const (.int 1))) .nil))) .nil)))) (.cons (.slot 1) (.cons (.slot 2) .nil)))))
abbrev ts11 : DS := (.asg 14 .val false (.tup (.cons (.call 32 (.cons (.idx (.slot 13) (.const (.int 0))) .nil)) (.cons (.call 32 (.cons (.idx (.slot 13) (.const (.int 1))) .nil)) .nil))))
abbrev ts12 : DS := (.asg 9 .val false (.ife (.cmp .eq (.tup (.cons (.bop .mul (.idx (.slot 14) (.const (.int 0))) (.idx (.slot 14) (.const (.int 0)))) (.cons (.bop .mul (.idx (.slot 14) (.const (.int 1))) (.idx (.slot 14) (.const (.int 1)))) .nil))) (.slot 13)) (.slot 14) (.const .non)))
abbrev ts13 : DS := (.asg 15 .val false (.call 34 (.cons (.slot 10) .nil)))
abbrev ts14 : DS := (.ifS (.bOr (.cons (.cmp .ne (.bi .repr (.cons (.lst (.cons (.call 33 (.cons (.const (.int 5)) (.cons (.slot 13) (.cons (.const .non) .nil)))) (.cons (.call 33 (.cons (.const (.int 6)) (.cons (.slot 10) (.cons (.const .non) .nil)))) .nil))) .nil)) (.bi .repr (.cons (.lst (.cons (.slot 9) (.cons (.slot 15) .nil))) .nil))) (.cons (.cmp .ne (.bi .repr (.cons (.call 33 (.cons (.const (.int 8)) (.cons (.slc (.slot 15) .none (.some (.const (.int 30)))) (.cons (.const .non) .nil)))) .nil)) (.bi .repr (.cons (.call 35 (.cons (.slc (.slot 15) .none (.some (.const (.int 30)))) .nil)) .nil))) .nil)))
  (.cons (.ret (.const (.bl false)))
  .nil)
  .nil)
abbrev ts15 : DS := (.asg 16 .val false (.call 29 (.cons (.lst (.cons (.const (.int 1)) (.cons (.const (.int 2)) (.cons (.const (.int 7)) (.cons (.const (.int 30)) .nil))))) (.cons (.slot 1) (.cons (.slot 2) .nil)))))
abbrev ts16 : DS := (.ifS (.cmp .ne (.bi .repr (.cons (.call 33 (.cons (.const (.int 7)) (.cons (.slot 10) (.cons (.slot 16) .nil)))) .nil)) (.bi .repr (.cons (.call 36 (.cons (.slot 10) (.cons (.slot 16) .nil))) .nil)))
  (.cons (.ret (.const (.bl false)))
  .nil)
  .nil)
abbrev ts17 : DS := (.asg 17 .val false (.bop .add (.tup (.cons (.call 37 (.cons (.slot 1) (.cons (.slot 2) .nil))) .nil)) (.bi .tuple (.cons (.lc [20] (.one 20) (.rng1 (.call 28 (.cons (.slot 1) (.cons (.slot 2) (.cons (.const (.int 8)) .nil))))) .none (.bop .add (.const (.int 1)) (.call 28 (.cons (.slot 1) (.cons (.slot 2) (.cons (.const (.int 9)) .nil)))))) .nil))))
abbrev ts18 : DS := (.ifS (.cmp .ne (.bi .repr (.cons (.call 33 (.cons (.const (.int 8)) (.cons (.slot 17) (.cons (.const .non) .nil)))) .nil)) (.bi .repr (.cons (.call 35 (.cons (.slot 17) .nil)) .nil)))
  (.cons (.ret (.const (.bl false)))
  .nil)
  .nil)
abbrev turnB : DSs := (.cons ts1 (.cons ts2 (.cons ts3 (.cons ts4 (.cons ts5 (.cons ts6 (.cons ts7 (.cons ts8 (.cons ts9 (.cons ts10 (.cons ts11 (.cons ts12 (.cons ts13 (.cons ts14 (.cons ts15 (.cons ts16 (.cons ts17 (.cons ts18 .nil))))))))))))))))))
abbrev ls1 : DS := (.asg 1 .val false (.call 26 (.cons (.slot 0) .nil)))
abbrev ls2 : DS := (.asg 2 .cell false (.lst (.cons (.const (.int 0)) .nil)))
abbrev ls4 : DS := (.asg 4 .val false (.call 29 (.cons (.lst (.cons (.const .non) (.cons (.const (.int 5)) (.cons (.tup (.cons (.const (.int 1)) (.cons (.const (.int 0)) .nil))) (.cons (.tup (.cons (.const (.int 2)) (.cons (.const (.int 4)) .nil))) (.cons (.tup (.cons (.const (.int 1)) (.cons (.neg (.const (.int 2))) .nil))) (.cons (.tup (.cons (.const (.int 0)) (.cons (.const (.int 2)) .nil))) (.cons (.tup (.cons (.const (.bl true)) (.cons (.const (.int 1)) .nil))) (.cons (.tup (.cons (.const (.int 1)) .nil)) (.cons (.tup (.cons (.const (.int 1000001)) (.cons (.const (.int 1)) .nil))) (.cons (.tup (.cons (.const (.int 1)) (.cons (.const (.int 1000001)) .nil))) (.cons (.const (.str "1/2")) .nil)))))))))))) (.cons (.slot 1) (.cons (.slot 2) .nil)))))
abbrev ls5 : DS := (.ifS (.bOr (.cons (.cmp .ne (.lc [19] (.one 19) (.seq (.tup (.cons (.const (.int 1)) (.cons (.const (.int 2)) (.cons (.const (.int 3)) (.cons (.const (.int 4)) (.cons (.const (.int 5)) (.cons (.const (.int 6)) (.cons (.const (.int 7)) .nil))))))))) .none (.call 33 (.cons (.slot 19) (.cons (.slot 4) (.cons (.tup (.cons (.const (.int 1)) (.cons (.const (.int 2)) .nil))) .nil))))) (.bop .mul (.lst (.cons (.tup (.cons (.const (.str "argument")) (.cons (.const (.str "one")) .nil))) .nil)) (.const (.int 7)))) (.cons (.cmp .ne (.lc [19] (.one 19) (.seq (.tup (.cons (.const (.int 1)) (.cons (.const (.int 2)) (.cons (.const (.int 3)) (.cons (.const (.int 4)) .nil)))))) .none (.call 33 (.cons (.slot 19) (.cons (.tup (.cons (.const (.int 1)) (.cons (.const (.int 2)) .nil))) (.cons (.slot 4) .nil))))) (.bop .mul (.lst (.cons (.tup (.cons (.const (.str "argument")) (.cons (.const (.str "other")) .nil))) .nil)) (.const (.int 4)))) .nil)))
  (.cons (.ret (.const (.bl false)))
  .nil)
  .nil)
abbrev ls6 : DS := (.asg 5 .val false (.call 29 (.cons (.lst (.cons (.const .non) (.cons (.const (.bl true)) (.cons (.const (.int 1000001)) (.cons (.neg (.const (.int 1000001))) (.cons (.const (.str "1")) .nil)))))) (.cons (.slot 1) (.cons (.slot 2) .nil)))))
abbrev ls7 : DS := (.ifS (.cmp .ne (.lst (.cons (.call 33 (.cons (.const (.int 0)) (.cons (.slot 5) (.cons (.const (.int 0)) .nil)))) (.cons (.call 33 (.cons (.const (.int 0)) (.cons (.const (.int 1)) (.cons (.slot 5) .nil)))) (.cons (.call 33 (.cons (.const (.int 7)) (.cons (.tup (.cons (.const (.int 1)) (.cons (.const (.int 2)) .nil))) (.cons (.call 29 (.cons (.lst (.cons (.const (.int 0)) (.cons (.const (.int 1001)) (.cons (.const .non) (.cons (.const (.bl true)) .nil))))) (.cons (.slot 1) (.cons (.slot 2) .nil)))) .nil)))) .nil)))) (.lc [18] (.one 18) (.seq (.lst (.cons (.const (.str "number")) (.cons (.const (.str "other")) (.cons (.const (.str "most")) .nil))))) .none (.tup (.cons (.const (.str "argument")) (.cons (.slot 18) .nil)))))
  (.cons (.ret (.const (.bl false)))
  .nil)
  .nil)
abbrev ls8 : DS := (.asg 6 .val false (.call 29 (.cons (.lst (.cons (.const .non) (.cons (.tup .nil) (.cons (.tup (.cons (.const (.int 1)) (.cons (.const (.int 0)) .nil))) (.cons (.tup (.cons (.const (.int 1)) (.cons (.neg (.const (.int 1))) .nil))) (.cons (.tup (.cons (.const (.bl true)) .nil)) (.cons (.tup (.cons (.const (.int 1000001)) .nil)) (.cons (.bop .mul (.tup (.cons (.const (.int 1)) .nil)) (.const (.int 31))) (.cons (.lst (.cons (.const (.int 1)) (.cons (.const (.int 2)) .nil))) (.cons (.tup (.cons (.const (.int 1)) (.cons (.const (.int 1000001)) .nil))) .nil)))))))))) (.cons (.slot 1) (.cons (.slot 2) .nil)))))
abbrev ls9 : DS := (.ret (.cmp .eq (.call 33 (.cons (.const (.int 8)) (.cons (.slot 6) (.cons (.const .non) .nil)))) (.tup (.cons (.const (.str "argument")) (.cons (.const (.str "row")) .nil)))))
abbrev ls3 : DS := .forS (.one 3) (.rng1 (.const (.int 6))) turnB
theorem b_law_eq : b_law = (.cons ls1 (.cons ls2 (.cons ls3 (.cons ls4 (.cons ls5 (.cons ls6 (.cons ls7 (.cons ls8 (.cons ls9 .nil))))))))) := rfl
end K30

end
section
set_option maxRecDepth 100000
/-! K30PK: a rule for each statement of the turn (printed by steps2.py). -/
namespace K30
open PySem DI
theorem bi_repr (S : Sto) (d : D) : biD .repr S [d] = reprD d := rfl
theorem add_lst (a b c d : D) : binop .add (.lst [a, b, c]) (.lst [d]) = some (.lst [a, b, c, d]) := rfl
theorem cmp_pair (a b c d : Int) : cmpD .eq (.tup [.int a, .int b]) (.tup [.int c, .int d]) = some (.bl (decide (a = c) && decide (b = d))) := by
  show (eqD (.tup [.int a, .int b]) (.tup [.int c, .int d])).map D.bl = _
  rw [eqD_pair]; rfl
theorem sq {ρ : Calls} {s : DS} {r : DSs} {σ σ1 : List Slot} {S S1 : Sto} {x : Res Out} (h : exS ρ s σ S = .ok (.next σ1) S1) (h2 : exSs ρ r σ1 S1 = x) : exSs ρ (.cons s r) σ S = x := by
  rw [s_cons, h]
  exact h2
theorem setT_two (σ : List Slot) (a b : D) (h : 11 < σ.length) : setT (.many [10, 11]) σ (.tup [a, b]) = some ((σ.set 10 (.val a)).set 11 (.val b)) := rfl
theorem st1 (ρ : Calls) (v dr : D) {x3 x4 x5 x6 x7 x8 x9 x10 x11 x12 x13 x14 x15 x16 x17 x18 x19 x20 : Slot} (a b : Int) (S S1 S2 : Sto) (h0 : ρ 37 [dr, .cell 0] S = .ok (.int a) S1) (h1 : ρ 37 [dr, .cell 0] S1 = .ok (.int b) S2) :
    exS ρ ts1 [.val v, .val dr, .val (.cell 0), x3, x4, x5, x6, x7, x8, x9, x10, x11, x12, x13, x14, x15, x16, x17, x18, x19, x20] S = .ok (.next [.val v, .val dr, .val (.cell 0), x3, x4, x5, x6, .val (.int a), .val (.int b), x9, x10, x11, x12, x13, x14, x15, x16, x17, x18, x19, x20]) S2 := by
  simp [ts1, h0, h1]
theorem st2a (ρ : Calls) (v dr : D) {x3 x4 x5 x6 x9 x10 x11 x12 x13 x14 x15 x16 x17 x18 x19 x20 : Slot} (a : Int) (S : Sto)  :
    exS ρ ts2 [.val v, .val dr, .val (.cell 0), x3, x4, x5, x6, .val (.int a), .val (.int 0), x9, x10, x11, x12, x13, x14, x15, x16, x17, x18, x19, x20] S = .ok (.next [.val v, .val dr, .val (.cell 0), x3, x4, x5, x6, .val (.int a), .val (.int 0), .val (argD "other"), x10, x11, x12, x13, x14, x15, x16, x17, x18, x19, x20]) S := by
  simp [ts2]
theorem st2b (ρ : Calls) (v dr : D) {x3 x4 x5 x6 x9 x10 x11 x12 x13 x14 x15 x16 x17 x18 x19 x20 : Slot} (a b : Int) (d : D) (S : Sto) (h0 : b ≠ 0) (h1 : ρ 31 [.int a, .int b] S = .ok (d) S) :
    exS ρ ts2 [.val v, .val dr, .val (.cell 0), x3, x4, x5, x6, .val (.int a), .val (.int b), x9, x10, x11, x12, x13, x14, x15, x16, x17, x18, x19, x20] S = .ok (.next [.val v, .val dr, .val (.cell 0), x3, x4, x5, x6, .val (.int a), .val (.int b), .val (d), x10, x11, x12, x13, x14, x15, x16, x17, x18, x19, x20]) S := by
  simp [ts2, h0, h1]
theorem st3 (ρ : Calls) (v dr : D) {x3 x4 x5 x6 x10 x11 x12 x13 x14 x15 x16 x17 x18 x19 x20 : Slot} (a b : Int) (d : D) (t : Str) (S : Sto) (h0 : ρ 33 [.int 0, .int a, .int b] S = .ok (d) S) (h1 : reprD d = some (.str t)) :
    exS ρ ts3 [.val v, .val dr, .val (.cell 0), x3, x4, x5, x6, .val (.int a), .val (.int b), .val (d), x10, x11, x12, x13, x14, x15, x16, x17, x18, x19, x20] S = .ok (.next [.val v, .val dr, .val (.cell 0), x3, x4, x5, x6, .val (.int a), .val (.int b), .val (d), x10, x11, x12, x13, x14, x15, x16, x17, x18, x19, x20]) S := by
  simp [ts3, h0, h1, bi_repr, ne_str]
theorem st4 (ρ : Calls) (v dr : D) {x3 x4 x5 x6 x7 x9 x10 x11 x12 x13 x14 x15 x16 x17 x18 x19 x20 : Slot} (b : Int) (S : Sto)  :
    exS ρ ts4 [.val v, .val dr, .val (.cell 0), x3, x4, x5, x6, x7, .val (.int b), x9, x10, x11, x12, x13, x14, x15, x16, x17, x18, x19, x20] S = .ok (.next [.val v, .val dr, .val (.cell 0), x3, x4, x5, x6, x7, .val (.int (if b = 0 then 1 else b)), x9, x10, x11, x12, x13, x14, x15, x16, x17, x18, x19, x20]) S := by
  by_cases h : b = 0 <;> simp [ts4, h]
theorem st5 (ρ : Calls) (v dr : D) {x3 x4 x5 x6 x9 x10 x11 x12 x13 x14 x15 x16 x17 x18 x19 x20 : Slot} (a b n c : Int) (P Q : D) (S S1 S2 : Sto) (h0 : ρ 31 [.int a, .int b] S = .ok (P) S) (h1 : ρ 37 [dr, .cell 0] S = .ok (.int n) S1) (h2 : ρ 29 [.lst [.int 1, .int 2, .int 3, .int 7, .int 999983], dr, .cell 0] S1 = .ok (.int c) S2) (h3 : ρ 31 [.int n, .int c] S2 = .ok (Q) S2) :
    exS ρ ts5 [.val v, .val dr, .val (.cell 0), x3, x4, x5, x6, .val (.int a), .val (.int b), x9, x10, x11, x12, x13, x14, x15, x16, x17, x18, x19, x20] S = .ok (.next [.val v, .val dr, .val (.cell 0), x3, x4, x5, x6, .val (.int a), .val (.int b), x9, .val (P), .val (Q), x12, x13, x14, x15, x16, x17, x18, x19, x20]) S2 := by
  simp [ts5, h0, h1, h2, h3, setT_two]
theorem st6 (ρ : Calls) (v dr : D) {x3 x4 x5 x6 x7 x8 x9 x12 x13 x14 x15 x16 x17 x18 x19 x20 : Slot} (a b c d x y : Int) (S : Sto) (h0 : binop .mul (.int a) (.int d) = some (.int x)) (h1 : binop .mul (.int c) (.int b) = some (.int y)) :
    exS ρ ts6 [.val v, .val dr, .val (.cell 0), x3, x4, x5, x6, x7, x8, x9, .val (frD (a, b)), .val (frD (c, d)), x12, x13, x14, x15, x16, x17, x18, x19, x20] S = .ok (.next [.val v, .val dr, .val (.cell 0), x3, x4, x5, x6, x7, x8, x9, .val (frD (a, b)), .val (frD (c, d)), .val (.int (x - y)), x13, x14, x15, x16, x17, x18, x19, x20]) S := by
  simp [ts6, h0, h1]
theorem st7 (ρ : Calls) (v dr : D) {x3 x4 x5 x6 x7 x8 x9 x12 x13 x14 x15 x16 x17 x18 x19 x20 : Slot} (a b c d x y z w : Int) (p q r s : Int) (S : Sto) (h0 : binop .mul (.int a) (.int d) = some (.int x)) (h1 : binop .mul (.int c) (.int b) = some (.int y)) (h2 : binop .mul (.int b) (.int d) = some (.int z)) (h3 : binop .mul (.int a) (.int c) = some (.int w)) (h4 : ρ 31 [.int (x + y), .int z] S = .ok (.tup [.int p, .int q]) S) (h5 : ρ 31 [.int w, .int z] S = .ok (.tup [.int r, .int s]) S) :
    exS ρ ts7 [.val v, .val dr, .val (.cell 0), x3, x4, x5, x6, x7, x8, x9, .val (frD (a, b)), .val (frD (c, d)), x12, x13, x14, x15, x16, x17, x18, x19, x20] S = .ok (.next [.val v, .val dr, .val (.cell 0), x3, x4, x5, x6, x7, x8, .own [.tup [.int p, .int q], .tup [.int r, .int s]], .val (frD (a, b)), .val (frD (c, d)), x12, x13, x14, x15, x16, x17, x18, x19, x20]) S := by
  simp [ts7, h0, h1, h2, h3, h4, h5, DE.fresh, D.plains, D.plain]
theorem st8a (ρ : Calls) (v dr : D) {x3 x4 x5 x6 x7 x8 x12 x13 x14 x15 x16 x17 x18 x19 x20 : Slot} (a b d p q r s : Int) (S : Sto)  :
    exS ρ ts8 [.val v, .val dr, .val (.cell 0), x3, x4, x5, x6, x7, x8, .own [.tup [.int p, .int q], .tup [.int r, .int s]], .val (frD (a, b)), .val (frD (0, d)), x12, x13, x14, x15, x16, x17, x18, x19, x20] S = .ok (.next [.val v, .val dr, .val (.cell 0), x3, x4, x5, x6, x7, x8, .own [.tup [.int p, .int q], .tup [.int r, .int s], argD "other"], .val (frD (a, b)), .val (frD (0, d)), x12, x13, x14, x15, x16, x17, x18, x19, x20]) S := by
  simp [ts8, D.plain, D.plains]
theorem st8b (ρ : Calls) (v dr : D) {x3 x4 x5 x6 x7 x8 x12 x13 x14 x15 x16 x17 x18 x19 x20 : Slot} (a b c d x y p q r s t u : Int) (S : Sto) (h0 : c ≠ 0) (h1 : binop .mul (.int a) (.int d) = some (.int x)) (h2 : binop .mul (.int b) (.int c) = some (.int y)) (h3 : ρ 31 [.int x, .int y] S = .ok (.tup [.int t, .int u]) S) :
    exS ρ ts8 [.val v, .val dr, .val (.cell 0), x3, x4, x5, x6, x7, x8, .own [.tup [.int p, .int q], .tup [.int r, .int s]], .val (frD (a, b)), .val (frD (c, d)), x12, x13, x14, x15, x16, x17, x18, x19, x20] S = .ok (.next [.val v, .val dr, .val (.cell 0), x3, x4, x5, x6, x7, x8, .own [.tup [.int p, .int q], .tup [.int r, .int s], .tup [.int t, .int u]], .val (frD (a, b)), .val (frD (c, d)), x12, x13, x14, x15, x16, x17, x18, x19, x20]) S := by
  simp [ts8, h0, h1, h2, h3, D.plain, D.plains]
theorem four (ρ : Calls) (P Q d1 d2 d3 d4 : D) (v dr : D) (x3 x4 x5 x6 x7 x8 x9 x10 x11 x12 x13 x14 x15 x16 x17 x18 x19 x20 : Slot) (S : Sto) (h1 : ρ 33 [.int 1, P, Q] S = .ok d1 S) (h2 : ρ 33 [.int 2, P, Q] S = .ok d2 S) (h3 : ρ 33 [.int 3, P, Q] S = .ok d3 S) (h4 : ρ 33 [.int 4, P, Q] S = .ok d4 S) :
    evE ρ (.lc [19] (.one 19) (.seq (.tup (.cons (.const (.int 1)) (.cons (.const (.int 2)) (.cons (.const (.int 3)) (.cons (.const (.int 4)) .nil)))))) .none (.call 33 (.cons (.slot 19) (.cons (.slot 10) (.cons (.slot 11) .nil))))) [.val v, .val dr, .val (.cell 0), x3, x4, x5, x6, x7, x8, x9, .val (P), .val (Q), x12, x13, x14, x15, x16, x17, x18, x19, x20] S = .ok (.lst [d1, d2, d3, d4]) S := by
  simp [itemsD, lcL, setT, wipeD, h1, h2, h3, h4]
theorem st9 (ρ : Calls) (v dr : D) {x3 x4 x5 x6 x7 x8 x9 x12 x13 x14 x15 x16 x17 x18 x19 x20 : Slot} (P Q d1 d2 d3 : D) (o i j : Int) (t : Str) (S : Sto) (h0 : ∀ x9 x12 : Slot, evE ρ (.lc [19] (.one 19) (.seq (.tup (.cons (.const (.int 1)) (.cons (.const (.int 2)) (.cons (.const (.int 3)) (.cons (.const (.int 4)) .nil)))))) .none (.call 33 (.cons (.slot 19) (.cons (.slot 10) (.cons (.slot 11) .nil))))) [.val v, .val dr, .val (.cell 0), x3, x4, x5, x6, x7, x8, x9, .val (P), .val (Q), x12, x13, x14, x15, x16, x17, x18, x19, x20] S = .ok (.lst [d1, d2, d3, .int (i - j)]) S) (h1 : (if 0 < o then (1 : Int) else 0) = i) (h2 : (if o < 0 then (1 : Int) else 0) = j) (h3 : reprD (.lst [d1, d2, d3, .int (i - j)]) = some (.str t)) :
    exS ρ ts9 [.val v, .val dr, .val (.cell 0), x3, x4, x5, x6, x7, x8, .own [d1, d2, d3], .val (P), .val (Q), .val (.int o), x13, x14, x15, x16, x17, x18, x19, x20] S = .ok (.next [.val v, .val dr, .val (.cell 0), x3, x4, x5, x6, x7, x8, .own [d1, d2, d3], .val (P), .val (Q), .val (.int o), x13, x14, x15, x16, x17, x18, x19, x20]) S := by
  simp [-e_lc, ts9, h0, h1, h2, h3, bi_repr, ne_str, add_lst]
theorem st10 (ρ : Calls) (v dr : D) {x3 x4 x5 x6 x7 x8 x9 x11 x12 x13 x14 x15 x16 x17 x18 x19 x20 : Slot} (a b x y : Int) (q : D) (S S1 : Sto) (h0 : binop .mul (.int a) (.int a) = some (.int x)) (h1 : binop .mul (.int b) (.int b) = some (.int y)) (h2 : ρ 29 [.lst [frD (a, b), (if (a.natAbs : Int) < 1001 ∧ b < 1001 then frD (x, y) else frD (a, b)), frD ((a.natAbs : Int), b)], dr, .cell 0] S = .ok (q) S1) :
    exS ρ ts10 [.val v, .val dr, .val (.cell 0), x3, x4, x5, x6, x7, x8, x9, .val (frD (a, b)), x11, x12, x13, x14, x15, x16, x17, x18, x19, x20] S = .ok (.next [.val v, .val dr, .val (.cell 0), x3, x4, x5, x6, x7, x8, x9, .val (frD (a, b)), x11, x12, .val (q), x14, x15, x16, x17, x18, x19, x20]) S1 := by
  by_cases hA : (a.natAbs : Int) < 1001 <;> by_cases hB : b < 1001 <;> simp [hA, hB] at h2 <;> simp [ts10, h0, h1, h2, hA, hB]
theorem st11 (ρ : Calls) (v dr : D) {x3 x4 x5 x6 x7 x8 x9 x10 x11 x12 x14 x15 x16 x17 x18 x19 x20 : Slot} (a b s t : Int) (S : Sto) (h0 : ρ 32 [.int a] S = .ok (.int s) S) (h1 : ρ 32 [.int b] S = .ok (.int t) S) :
    exS ρ ts11 [.val v, .val dr, .val (.cell 0), x3, x4, x5, x6, x7, x8, x9, x10, x11, x12, .val (frD (a, b)), x14, x15, x16, x17, x18, x19, x20] S = .ok (.next [.val v, .val dr, .val (.cell 0), x3, x4, x5, x6, x7, x8, x9, x10, x11, x12, .val (frD (a, b)), .val (frD (s, t)), x15, x16, x17, x18, x19, x20]) S := by
  simp [ts11, h0, h1]
theorem st12 (ρ : Calls) (v dr : D) {x3 x4 x5 x6 x7 x8 x9 x10 x11 x12 x15 x16 x17 x18 x19 x20 : Slot} (a b s t x y : Int) (S : Sto) (h0 : binop .mul (.int s) (.int s) = some (.int x)) (h1 : binop .mul (.int t) (.int t) = some (.int y)) :
    exS ρ ts12 [.val v, .val dr, .val (.cell 0), x3, x4, x5, x6, x7, x8, x9, x10, x11, x12, .val (frD (a, b)), .val (frD (s, t)), x15, x16, x17, x18, x19, x20] S = .ok (.next [.val v, .val dr, .val (.cell 0), x3, x4, x5, x6, x7, x8, .val (if x = a ∧ y = b then frD (s, t) else .non), x10, x11, x12, .val (frD (a, b)), .val (frD (s, t)), x15, x16, x17, x18, x19, x20]) S := by
  by_cases hA : x = a <;> by_cases hB : y = b <;> simp [ts12, h0, h1, hA, hB, cmp_pair]
theorem st13 (ρ : Calls) (v dr : D) {x3 x4 x5 x6 x7 x8 x9 x11 x12 x13 x14 x15 x16 x17 x18 x19 x20 : Slot} (P R : D) (S : Sto) (h0 : ρ 34 [P] S = .ok (R) S) :
    exS ρ ts13 [.val v, .val dr, .val (.cell 0), x3, x4, x5, x6, x7, x8, x9, .val (P), x11, x12, x13, x14, x15, x16, x17, x18, x19, x20] S = .ok (.next [.val v, .val dr, .val (.cell 0), x3, x4, x5, x6, x7, x8, x9, .val (P), x11, x12, x13, x14, .val (R), x16, x17, x18, x19, x20]) S := by
  simp [ts13, h0]
theorem st14 (ρ : Calls) (v dr : D) {x3 x4 x5 x6 x7 x8 x11 x12 x14 x16 x17 x18 x19 x20 : Slot} (P q d w : D) (xs : List D) (t u : Str) (S : Sto) (h0 : ρ 33 [.int 5, q, .non] S = .ok (d) S) (h1 : ρ 33 [.int 6, P, .non] S = .ok (.tup xs) S) (h2 : reprD (.lst [d, .tup xs]) = some (.str t)) (h3 : slcD (.tup xs) none (some 30) = some (.tup (xs.take 30))) (h4 : ρ 33 [.int 8, .tup (xs.take 30), .non] S = .ok (w) S) (h5 : ρ 35 [.tup (xs.take 30)] S = .ok (w) S) (h6 : reprD w = some (.str u)) :
    exS ρ ts14 [.val v, .val dr, .val (.cell 0), x3, x4, x5, x6, x7, x8, .val (d), .val (P), x11, x12, .val (q), x14, .val (.tup xs), x16, x17, x18, x19, x20] S = .ok (.next [.val v, .val dr, .val (.cell 0), x3, x4, x5, x6, x7, x8, .val (d), .val (P), x11, x12, .val (q), x14, .val (.tup xs), x16, x17, x18, x19, x20]) S := by
  simp [ts14, h0, h1, h2, h3, h4, h5, h6, bi_repr, ne_str, intO]
theorem st15 (ρ : Calls) (v dr : D) {x3 x4 x5 x6 x7 x8 x9 x10 x11 x12 x13 x14 x15 x16 x17 x18 x19 x20 : Slot} (m : Int) (S S1 : Sto) (h0 : ρ 29 [.lst [.int 1, .int 2, .int 7, .int 30], dr, .cell 0] S = .ok (.int m) S1) :
    exS ρ ts15 [.val v, .val dr, .val (.cell 0), x3, x4, x5, x6, x7, x8, x9, x10, x11, x12, x13, x14, x15, x16, x17, x18, x19, x20] S = .ok (.next [.val v, .val dr, .val (.cell 0), x3, x4, x5, x6, x7, x8, x9, x10, x11, x12, x13, x14, x15, .val (.int m), x17, x18, x19, x20]) S1 := by
  simp [ts15, h0]
theorem st16 (ρ : Calls) (v dr : D) {x3 x4 x5 x6 x7 x8 x9 x11 x12 x13 x14 x15 x17 x18 x19 x20 : Slot} (P w : D) (m : Int) (t : Str) (S : Sto) (h0 : ρ 33 [.int 7, P, .int m] S = .ok (w) S) (h1 : ρ 36 [P, .int m] S = .ok (w) S) (h2 : reprD w = some (.str t)) :
    exS ρ ts16 [.val v, .val dr, .val (.cell 0), x3, x4, x5, x6, x7, x8, x9, .val (P), x11, x12, x13, x14, x15, .val (.int m), x17, x18, x19, x20] S = .ok (.next [.val v, .val dr, .val (.cell 0), x3, x4, x5, x6, x7, x8, x9, .val (P), x11, x12, x13, x14, x15, .val (.int m), x17, x18, x19, x20]) S := by
  simp [ts16, h0, h1, h2, bi_repr, ne_str]
theorem st17 (ρ : Calls) (v dr : D) {x3 x4 x5 x6 x7 x8 x9 x10 x11 x12 x13 x14 x15 x16 x17 x18 x19 x20 : Slot} (n : Int) (xs : List D) (S S1 S2 : Sto) (h0 : ρ 37 [dr, .cell 0] S = .ok (.int n) S1) (h1 : evE ρ (.lc [20] (.one 20) (.rng1 (.call 28 (.cons (.slot 1) (.cons (.slot 2) (.cons (.const (.int 8)) .nil))))) .none (.bop .add (.const (.int 1)) (.call 28 (.cons (.slot 1) (.cons (.slot 2) (.cons (.const (.int 9)) .nil)))))) [.val v, .val dr, .val (.cell 0), x3, x4, x5, x6, x7, x8, x9, x10, x11, x12, x13, x14, x15, x16, x17, x18, x19, x20] S1 = .ok (.lst xs) S2) (h2 : binop .add (.tup [.int n]) (.tup xs) = some (.tup (.int n :: xs))) :
    exS ρ ts17 [.val v, .val dr, .val (.cell 0), x3, x4, x5, x6, x7, x8, x9, x10, x11, x12, x13, x14, x15, x16, x17, x18, x19, x20] S = .ok (.next [.val v, .val dr, .val (.cell 0), x3, x4, x5, x6, x7, x8, x9, x10, x11, x12, x13, x14, x15, x16, .val (.tup (.int n :: xs)), x18, x19, x20]) S2 := by
  simp [-e_lc, ts17, h0, h1, h2]
theorem st18 (ρ : Calls) (v dr : D) {x3 x4 x5 x6 x7 x8 x9 x10 x11 x12 x13 x14 x15 x16 x18 x19 x20 : Slot} (r w : D) (t : Str) (S : Sto) (h0 : ρ 33 [.int 8, r, .non] S = .ok (w) S) (h1 : ρ 35 [r] S = .ok (w) S) (h2 : reprD w = some (.str t)) :
    exS ρ ts18 [.val v, .val dr, .val (.cell 0), x3, x4, x5, x6, x7, x8, x9, x10, x11, x12, x13, x14, x15, x16, .val (r), x18, x19, x20] S = .ok (.next [.val v, .val dr, .val (.cell 0), x3, x4, x5, x6, x7, x8, x9, x10, x11, x12, x13, x14, x15, x16, .val (r), x18, x19, x20]) S := by
  simp [ts18, h0, h1, h2, bi_repr, ne_str]
end K30

end
section
set_option maxRecDepth 100000
/-! K30PL: what the law's body calls. -/
namespace K30
open PySem DI
def RK : Calls := callK T 99
theorem lt4000 {n : Nat} (h : n < 2 ^ 60) : n < 2 ^ 4000 := Nat.lt_of_lt_of_le h (Nat.pow_le_pow_right (by decide) (by decide))
theorem log60 {n : Nat} (h : n < 2 ^ 60) : n.log2 < 1920 := by
  by_cases hn : n = 0
  · subst hn; decide
  · have := (Nat.log2_lt hn).mpr h
    omega
theorem log600 {n : Nat} (h : n ≤ 2 ^ 600) : n.log2 < 1920 := by
  by_cases hn : n = 0
  · subst hn; decide
  · have := (Nat.log2_lt (k := 601) hn).mpr (Nat.lt_of_le_of_lt h (Nat.pow_lt_pow_right (by decide) (by decide)))
    omega
theorem r37 (ds : List Int) (p : Int) (hp : 0 ≤ p) : ∃ n q, Wh n ∧ 0 ≤ q ∧ RK 37 [.lst (ds.map D.int), .cell 0] (St p) = .ok (.int n) (St q) := law_wholes 95 ds p hp
theorem r28 (ds : List Int) (m p : Int) (hp : 0 ≤ p) (hm : 0 < m) : ∃ r, (0 ≤ r ∧ r < m) ∧ RK 28 [.lst (ds.map D.int), .cell 0, .int m] (St p) = .ok (.int r) (St (p + 1)) := law_take 97 ds m p hp hm
theorem r29 (xs : List D) (ds : List Int) (p : Int) (hp : 0 ≤ p) (hx : 0 < xs.length) : ∃ d, d ∈ xs ∧ RK 29 [.lst xs, .lst (ds.map D.int), .cell 0] (St p) = .ok d (St (p + 1)) := law_one 96 xs ds p hp hx
theorem r31 (n d : Int) (S : Sto) (h0 : d ≠ 0) (hb : d.natAbs < 2 ^ 60) : RK 31 [.int n, .int d] S = .ok (frD (red n d)) S := law_made 97 n d S h0 (lt4000 hb)
theorem r35 (r : List Int) (S : Sto) (h : Row r) : RK 35 [.tup (r.map D.int)] S = .ok (frD (conv r)) S :=
  law_from 97 r S h.ne (fun x hx => (h.tl x hx).1) h.big (Nat.le_trans h.len (by decide)) (Nat.le_trans h.len (by decide))
theorem r36 (p : Int × Int) (m : Int) (S : Sto) (hp : Good p) (h1 : 1 ≤ m) (h2 : m ≤ 1000) : RK 36 [frD p, .int m] S = .ok (frD (near p m)) S := law_nearest 96 p m S hp h1 h2
theorem r32 (n s : Int) (S : Sto) (h0 : 1 ≤ n) (h1 : n ≤ 1000000) (hs : IsR n s) : RK 32 [.int n] S = .ok (.int s) S := isqrt 98 n s S h0 h1 hs
theorem r32z (n : Int) (S : Sto) (h : n < 1) : RK 32 [.int n] S = .ok (.int 0) S := isqrt0 98 n S h
theorem toNat_of {p : Int × Int} (h : Good p) : ((p.2.toNat : Nat) : Int) = p.2 ∧ p.2.toNat ≠ 0 ∧ p.2.toNat < 2 ^ 20 := by
  have := h.1.1
  have := h.2.2
  exact ⟨by omega, by omega, Nat.lt_of_le_of_lt (show p.2.toNat ≤ 1000000 by omega) (by decide)⟩
theorem r34 (p : Int × Int) (S : Sto) (h : Good p) : RK 34 [frD p] S = .ok (.tup ((cf p.1 p.2.toNat).map D.int)) S := by
  obtain ⟨h1, h2, h3⟩ := toNat_of h
  have hl := cf_len 20 p.1 _ h3
  have := law_quot 99 p.2.toNat p.1 S h2 h3 (by omega) (by omega)
  rw [h1] at this
  exact this
theorem t0 (a b : Int) (S : Sto) (h : Wh a) (h2 : Wh b) (h0 : b ≠ 0) : RK 33 [.int 0, .int a, .int b] S = .ok (frD (red a b)) S :=
  told_of (k := 98) (told_lt _ 0 15 (by decide) _ _ _ S rfl (fraction 95 a b S h h2 h0))
theorem t0z (a : Int) (S : Sto) (h : Wh a) : RK 33 [.int 0, .int a, .int 0] S = .ok (argD "other") S :=
  told_of (k := 98) (told_lt_x _ 0 15 (by decide) _ _ _ S rfl (fraction0 95 a S h))
theorem t1 (p q : Int × Int) (S : Sto) (h : Good p) (h2 : Good q) : RK 33 [.int 1, frD p, frD q] S = .ok (frD (red (p.1 * q.2 + q.1 * p.2) (p.2 * q.2))) S :=
  told_of (k := 98) (told_lt _ 1 16 (by decide) _ _ _ S rfl (plus 92 p q S h h2))
theorem t2 (p q : Int × Int) (S : Sto) (h : Good p) (h2 : Good q) : RK 33 [.int 2, frD p, frD q] S = .ok (frD (red (p.1 * q.1) (p.2 * q.2))) S :=
  told_of (k := 98) (told_lt _ 2 17 (by decide) _ _ _ S rfl (times 92 p q S h h2))
theorem t3 (p q : Int × Int) (S : Sto) (h : Good p) (h2 : Good q) (h0 : q.1 ≠ 0) : RK 33 [.int 3, frD p, frD q] S = .ok (frD (red (p.1 * q.2) (p.2 * q.1))) S :=
  told_of (k := 98) (told_lt _ 3 18 (by decide) _ _ _ S rfl (over 92 p q S h h2 h0))
theorem t3z (p q : Int × Int) (S : Sto) (h : Good p) (h2 : Good q) (h0 : q.1 = 0) : RK 33 [.int 3, frD p, frD q] S = .ok (argD "other") S :=
  told_of (k := 98) (told_lt_x _ 3 18 (by decide) _ _ _ S rfl (over0 92 p q S h h2 h0))
theorem t4 (p q : Int × Int) (S : Sto) (h : Good p) (h2 : Good q) : RK 33 [.int 4, frD p, frD q] S = .ok (.int (sg3 (p.1 * q.2 - q.1 * p.2))) S :=
  told_of (k := 98) (told_lt _ 4 19 (by decide) _ _ _ S rfl (compare 92 p q S h h2))
theorem t5 (p : Int × Int) (s t : Int) (S : Sto) (h : Good p) (hs : 0 ≤ p.1 → IsR p.1 s) (ht : IsR p.2 t) : RK 33 [.int 5, frD p, .non] S = .ok (rootD p s t) S :=
  told_of (k := 98) (told5 _ _ _ _ S (root 93 p s t S h hs ht))
theorem t6 (p : Int × Int) (S : Sto) (h : Good p) : RK 33 [.int 6, frD p, .non] S = .ok (.tup ((cf p.1 p.2.toNat).map D.int)) S :=
  told_of (k := 98) (told6 _ _ _ _ S (quotients 93 p S h))
theorem t7 (p : Int × Int) (m : Int) (S : Sto) (hp : Good p) (h1 : 1 ≤ m) (h2 : m ≤ 1000) : RK 33 [.int 7, frD p, .int m] S = .ok (frD (near p m)) S :=
  told_of (k := 98) (told7 _ _ _ _ S (nearest 93 p m S hp h1 h2))
theorem t8 (r : List Int) (S : Sto) (h : Row r) : RK 33 [.int 8, .tup (r.map D.int), .non] S = .ok (frD (conv r)) S :=
  told_of (k := 98) (told8 _ _ _ _ S (from_quotients 94 r S h))
/-! ### reprs -/
theorem rp_red {n d : Int} (h0 : d ≠ 0) (h1 : n.natAbs < 2 ^ 60) (h2 : d.natAbs < 2 ^ 60) : Rp (frD (red n d)) 5000 1 :=
  rp_frD (log60 (red_sm h0 h1 h2).1) (log60 (red_sm h0 h1 h2).2)
theorem rp_good {p : Int × Int} (h : Good p) : Rp (frD p) 5000 1 := rp_frD (log60 h.sm.1) (log60 h.sm.2)
theorem rp_conv {r : List Int} (h : Row r) : Rp (frD (conv r)) 5000 1 := by
  obtain ⟨h1, h2⟩ := conv_big r h.big
  rw [← Nat.pow_mul] at h1 h2
  have : 2 ^ (20 * r.length) ≤ 2 ^ 600 := Nat.pow_le_pow_right (by decide) (by have := h.len; omega)
  exact rp_frD (log600 (Nat.le_trans h1 this)) (log600 (Nat.le_trans h2 this))
theorem rp_near {p : Int × Int} {m : Int} (hp : Good p) (h1 : 1 ≤ m) (h2 : m ≤ 1000) : Rp (frD (near p m)) 5000 1 := by
  obtain ⟨c, hc⟩ := fold_some p.1 p.2 (unders m) none (unders_ne h1)
  have hok := fold_ok hp (unders m) none (unders_in h2) (fun c h => nomatch h) c hc
  have hn : near p m = red c.1 c.2.1 := by rw [near, hc]
  rw [hn]
  exact rp_red (by have := hok.q; omega) (Nat.lt_of_lt_of_le hok.b1 (Nat.pow_le_pow_right (by decide) (by decide))) (Nat.lt_of_lt_of_le hok.b2 (Nat.pow_le_pow_right (by decide) (by decide)))
end K30

end
section
set_option maxRecDepth 100000
/-! K30PM: one turn of the law. -/
namespace K30
open PySem DI
def Inv (v dr : D) (σ : List Slot) : Prop := ∃ x3 x4 x5 x6 x7 x8 x9 x10 x11 x12 x13 x14 x15 x16 x17 x18 x19 x20 : Slot, σ = [.val v, .val dr, .val (.cell 0), x3, x4, x5, x6, x7, x8, x9, x10, x11, x12, x13, x14, x15, x16, x17, x18, x19, x20]
def Done (v dr : D) (r : DSs) (σ : List Slot) (S : Sto) : Prop := ∃ σ2 q, 0 ≤ q ∧ Inv v dr σ2 ∧ exSs RK r σ S = .ok (.next σ2) (St q)
theorem sqG {v dr : D} {s : DS} {r : DSs} {σ σ1 : List Slot} {S S1 : Sto} (h : exS RK s σ S = .ok (.next σ1) S1) (h2 : Done v dr r σ1 S1) : Done v dr (.cons s r) σ S := by
  obtain ⟨σ2, q, hq, hi, e⟩ := h2
  exact ⟨σ2, q, hq, hi, sq h e⟩
theorem mulW {x : Int} (y : Int) (h : x.natAbs < 2 ^ 60) : binop .mul (.int x) (.int y) = some (.int (x * y)) := sm_l y h
theorem prod_lt {x y : Int} (h : x.natAbs ≤ 1000000) (h2 : y.natAbs ≤ 1000000) : (x * y).natAbs ≤ 1000000000000 := by
  rw [Int.natAbs_mul]
  exact Nat.mul_le_mul h h2
theorem lt60 {n : Nat} (h : n ≤ 2000000000000) : n < 2 ^ 60 := Nat.lt_of_le_of_lt h (by decide)
theorem Good.n1 {p : Int × Int} (h : Good p) : p.1.natAbs ≤ 1000000 := by have := h.2.1; omega
theorem Good.n2 {p : Int × Int} (h : Good p) : p.2.natAbs ≤ 1000000 := by have := h.2.2; have := h.1.1; omega
theorem due0 (a b : Int) (S : Sto) (h : Wh a) (h2 : Wh b) : ∃ d t, (∀ (v dr : D) (x3 x4 x5 x6 x7 x8 x9 x10 x11 x12 x13 x14 x15 x16 x17 x18 x19 x20 : Slot), x7 = .val (.int a) → x8 = .val (.int b) → exS RK ts2 [.val v, .val dr, .val (.cell 0), x3, x4, x5, x6, x7, x8, x9, x10, x11, x12, x13, x14, x15, x16, x17, x18, x19, x20] S = .ok (.next (([.val v, .val dr, .val (.cell 0), x3, x4, x5, x6, x7, x8, x9, x10, x11, x12, x13, x14, x15, x16, x17, x18, x19, x20]).set 9 (.val d))) S) ∧ RK 33 [.int 0, .int a, .int b] S = .ok d S ∧ reprD d = some (.str t) := by
  by_cases h0 : b = 0
  · subst h0
    obtain ⟨t, ht⟩ := repr_tup rp_arg (by decide) (by decide)
    refine ⟨argD "other", t, ?_, t0z a S h, ht⟩
    intro v dr x3 x4 x5 x6 x7 x8 x9 x10 x11 x12 x13 x14 x15 x16 x17 x18 x19 x20 e7 e8
    subst e7; subst e8
    exact st2a RK v dr a S
  · obtain ⟨t, ht⟩ := repr_tup (rp_good (good_red h h2 h0)) (by decide) (by decide)
    refine ⟨frD (red a b), t, ?_, t0 a b S h h2 h0, ht⟩
    intro v dr x3 x4 x5 x6 x7 x8 x9 x10 x11 x12 x13 x14 x15 x16 x17 x18 x19 x20 e7 e8
    subst e7; subst e8
    exact st2b RK v dr a b _ S h0 (r31 a b S h0 h2.sm)
theorem four_due (p q : Int × Int) (S : Sto) (h : Good p) (h2 : Good q) : ∃ d t, RK 33 [.int 3, frD p, frD q] S = .ok d S ∧
    (∀ (v dr : D) (x3 x4 x5 x6 x7 x8 x9 x10 x11 x12 x13 x14 x15 x16 x17 x18 x19 x20 : Slot) (a1 b1 a2 b2 : Int), x10 = .val (frD p) → x11 = .val (frD q) → x9 = .own [.tup [.int a1, .int b1], .tup [.int a2, .int b2]] → exS RK ts8 [.val v, .val dr, .val (.cell 0), x3, x4, x5, x6, x7, x8, x9, x10, x11, x12, x13, x14, x15, x16, x17, x18, x19, x20] S = .ok (.next (([.val v, .val dr, .val (.cell 0), x3, x4, x5, x6, x7, x8, x9, x10, x11, x12, x13, x14, x15, x16, x17, x18, x19, x20]).set 9 (.own [.tup [.int a1, .int b1], .tup [.int a2, .int b2], d]))) S) ∧
    reprD (.lst [frD (red (p.1 * q.2 + q.1 * p.2) (p.2 * q.2)), frD (red (p.1 * q.1) (p.2 * q.2)), d, .int (sg3 (p.1 * q.2 - q.1 * p.2))]) = some (.str t) := by
  have k1 := prod_lt h.n1 h2.n2
  have k2 := prod_lt h2.n1 h.n2
  have k3 := prod_lt h.n2 h2.n2
  have k4 := prod_lt h.n1 h2.n1
  have k5 := prod_lt h.n2 h2.n1
  have z : p.2 * q.2 ≠ 0 := by
    have := Int.mul_pos h.1.1 h2.1.1
    omega
  have u1 := rp_red (n := p.1 * q.2 + q.1 * p.2) z (lt60 (by omega)) (lt60 (by omega))
  have u2 := rp_red (n := p.1 * q.1) z (lt60 (by omega)) (lt60 (by omega))
  have u4 : Rp (.int (sg3 (p.1 * q.2 - q.1 * p.2))) 2000 1 := by
    refine rp_int ?_ 1
    unfold sg3
    split
    · decide
    · split <;> decide
  by_cases h0 : q.1 = 0
  · obtain ⟨t, ht⟩ := repr_lst (rp_lst (rps_cons u1 (rps_cons u2 (rps_cons rp_arg (rps_cons u4 (rps_nil 0 1)))))) (by decide) (by decide)
    refine ⟨argD "other", t, t3z p q S h h2 h0, ?_, ht⟩
    intro v dr x3 x4 x5 x6 x7 x8 x9 x10 x11 x12 x13 x14 x15 x16 x17 x18 x19 x20 a1 b1 a2 b2 e10 e11 e9
    obtain ⟨c, d⟩ := q
    dsimp only at h0
    subst h0; subst e10; subst e11; subst e9
    exact st8a RK v dr p.1 p.2 d a1 b1 a2 b2 S
  · have z2 : p.2 * q.1 ≠ 0 := Int.mul_ne_zero (by have := h.1.1; omega) h0
    have u3 := rp_red (n := p.1 * q.2) z2 (lt60 (by omega)) (lt60 (by omega))
    obtain ⟨t, ht⟩ := repr_lst (rp_lst (rps_cons u1 (rps_cons u2 (rps_cons u3 (rps_cons u4 (rps_nil 0 1)))))) (by decide) (by decide)
    refine ⟨_, t, t3 p q S h h2 h0, ?_, ht⟩
    intro v dr x3 x4 x5 x6 x7 x8 x9 x10 x11 x12 x13 x14 x15 x16 x17 x18 x19 x20 a1 b1 a2 b2 e10 e11 e9
    subst e10; subst e11; subst e9
    exact st8b RK v dr p.1 p.2 q.1 q.2 _ _ a1 b1 a2 b2 _ _ S h0 (mulW _ (lt60 (by have := h.n1; omega))) (mulW _ (lt60 (by have := h.n2; omega))) (r31 _ _ S z2 (lt60 (by omega)))
end K30

end
section
set_option maxRecDepth 100000
/-! K30PN: squares and rows of the turn. -/
namespace K30
open PySem DI
theorem cop_sq {x y : Int} (h : Int.gcd x y = 1) : Int.gcd (x * x) (y * y) = 1 := by
  unfold Int.gcd at *
  rw [Int.natAbs_mul, Int.natAbs_mul]
  have h1 : Nat.Coprime x.natAbs y.natAbs := h
  exact Nat.Coprime.mul_left (Nat.Coprime.mul_right h1 h1) (Nat.Coprime.mul_right h1 h1)
theorem good_sq {p : Int × Int} (h : Good p) (h1 : (p.1.natAbs : Int) < 1001) (h2 : p.2 < 1001) : Good (p.1 * p.1, p.2 * p.2) := by
  obtain ⟨⟨a1, a2⟩, _, _⟩ := h
  obtain ⟨a, b⟩ := p
  dsimp only at *
  have k1 : (a * a).natAbs ≤ 1000 * 1000 := by rw [Int.natAbs_mul]; exact Nat.mul_le_mul (by omega) (by omega)
  have k2 : (b * b).natAbs ≤ 1000 * 1000 := by rw [Int.natAbs_mul]; exact Nat.mul_le_mul (by omega) (by omega)
  have k3 := Int.mul_pos a1 a1
  refine ⟨⟨k3, cop_sq a2⟩, ⟨?_, ?_⟩, ?_⟩ <;> dsimp only <;> omega
theorem good_abs {p : Int × Int} (h : Good p) : Good ((p.1.natAbs : Int), p.2) := by
  obtain ⟨⟨a1, a2⟩, _, _⟩ := h
  obtain ⟨a, b⟩ := p
  dsimp only at *
  refine ⟨⟨a1, ?_⟩, ⟨?_, ?_⟩, ?_⟩ <;> dsimp only <;> try omega
  unfold Int.gcd at *
  rw [Int.natAbs_natCast]
  exact a2
theorem square_of {p : Int × Int} (h : Good p) (q : D) (hq : q ∈ [frD (p.1, p.2), (if (p.1.natAbs : Int) < 1001 ∧ p.2 < 1001 then frD (p.1 * p.1, p.2 * p.2) else frD (p.1, p.2)), frD ((p.1.natAbs : Int), p.2)]) : ∃ s : Int × Int, q = frD (s.1, s.2) ∧ Good s := by
  simp only [List.mem_cons, List.not_mem_nil, or_false] at hq
  rcases hq with e | e | e
  · exact ⟨p, e, h⟩
  · by_cases hc : (p.1.natAbs : Int) < 1001 ∧ p.2 < 1001
    · rw [if_pos hc] at e
      exact ⟨_, e, good_sq h hc.1 hc.2⟩
    · rw [if_neg hc] at e
      exact ⟨p, e, h⟩
  · exact ⟨_, e, good_abs h⟩
theorem isqrt_one (n : Int) (S : Sto) (h : n ≤ 1000000) : ∃ s, (0 ≤ n → IsR n s) ∧ (n < 0 → s = 0) ∧ s.natAbs ≤ 1000 ∧ RK 32 [.int n] S = .ok (.int s) S := by
  by_cases h0 : n < 1
  · refine ⟨0, fun hn => ?_, fun _ => rfl, by decide, r32z n S h0⟩
    have : n = 0 := by omega
    subst this
    exact ⟨by decide, by decide, by decide⟩
  · obtain ⟨s, hs, _⟩ := whole_root 0 n [] (by omega) h
    have := isR_sm hs h
    exact ⟨s, fun _ => hs, fun z => by omega, by omega, r32 n s S (by omega) h hs⟩
theorem parts_of {p : Int × Int} (h : Good p) (S : Sto) : ∃ s t : Int, RK 32 [.int p.1] S = .ok (.int s) S ∧ RK 32 [.int p.2] S = .ok (.int t) S ∧ s.natAbs ≤ 1000 ∧ t.natAbs ≤ 1000 ∧
    RK 33 [.int 5, frD p, .non] S = .ok (if s * s = p.1 ∧ t * t = p.2 then frD (s, t) else .non) S := by
  obtain ⟨s, a1, a2, a3, a4⟩ := isqrt_one p.1 S h.2.1.2
  obtain ⟨t, b1, b2, b3, b4⟩ := isqrt_one p.2 S h.2.2
  refine ⟨s, t, a4, b4, a3, b3, ?_⟩
  have e := t5 p s t S h a1 (b1 (Int.le_of_lt h.1.1))
  rw [e]
  congr 1
  unfold rootD
  by_cases hn : p.1 < 0
  · rw [if_pos hn, a2 hn, if_neg]
    intro z
    omega
  · rw [if_neg hn]
theorem rp_root {s t : Int} (c : Prop) [Decidable c] (h : s.natAbs ≤ 1000) (h2 : t.natAbs ≤ 1000) : Rp (if c then frD (s, t) else .non) 5000 1 := by
  split
  · exact rp_frD (log60 (Nat.lt_of_le_of_lt h (by decide))) (log60 (Nat.lt_of_le_of_lt h2 (by decide)))
  · exact (rp_non 1).mono (by decide) (by decide)
theorem lcL_go {t : DT} {cond : List Slot → Sto → Res Bool} {elt : List Slot → Sto → Res D} {σ σ1 : List Slot} {d x : D} {l xs : List D} {S S1 S2 : Sto} (h : setT t σ d = some σ1) (hc : cond σ1 S = .ok true S) (he : elt σ1 S = .ok x S1) (hr : lcL t cond elt σ l S1 = .ok xs S2) : lcL t cond elt σ (d :: l) S = .ok (x :: xs) S2 := by
  rw [lcL, h]
  simp only [r_ofO_some, r_bind_ok, hc, he, hr]
  rfl
theorem row_loop (v : D) (ds : List Int) (x3 x4 x5 x6 x7 x8 x9 x10 x11 x12 x13 x14 x15 x16 x17 x18 x19 x20 : Slot) : ∀ (l : List D) (p : Int), 0 ≤ p → ∃ (xs : List Int) (q : Int), 0 ≤ q ∧ xs.length = l.length ∧ (∀ x ∈ xs, 1 ≤ x ∧ x ≤ 9) ∧
    lcL (.one 20) (fun σ S => (evO RK .none σ S).bind fun o S => (match o with
      | none => .ok true S
      | some x => ofO (truth x) S)) (fun σ S => evE RK (.bop .add (.const (.int 1)) (.call 28 (.cons (.slot 1) (.cons (.slot 2) (.cons (.const (.int 9)) .nil))))) σ S) [.val v, .val (.lst (ds.map D.int)), .val (.cell 0), x3, x4, x5, x6, x7, x8, x9, x10, x11, x12, x13, x14, x15, x16, x17, x18, x19, .no] l (St p) = .ok (xs.map D.int) (St q)
  | [], p, hp => ⟨[], p, hp, rfl, by simp, rfl⟩
  | d :: l, p, hp => by
    obtain ⟨r, ⟨h0, h1⟩, e⟩ := r28 ds 9 p hp (by decide)
    obtain ⟨xs, q, hq, hl, hx, e2⟩ := row_loop v ds x3 x4 x5 x6 x7 x8 x9 x10 x11 x12 x13 x14 x15 x16 x17 x18 x19 x20 l (p + 1) (by omega)
    refine ⟨(1 + r) :: xs, q, hq, by rw [List.length_cons, List.length_cons, hl], ?_, ?_⟩
    · intro x hx2
      rcases List.mem_cons.mp hx2 with z | z
      · omega
      · exact hx x z
    · refine lcL_go rfl rfl ?_ e2
      generalize ds.map D.int = dd at *
      simp [e]
end K30

end
section
set_option maxRecDepth 100000
/-! K30PO: one turn of the law. -/
namespace K30
open PySem DI
theorem row_lc (v : D) (ds : List Int) (x3 x4 x5 x6 x7 x8 x9 x10 x11 x12 x13 x14 x15 x16 x17 x18 x19 x20 : Slot) (p : Int) (hp : 0 ≤ p) : ∃ (xs : List Int) (q : Int), 0 ≤ q ∧ xs.length ≤ 7 ∧ (∀ x ∈ xs, 1 ≤ x ∧ x ≤ 9) ∧
    evE RK (.lc [20] (.one 20) (.rng1 (.call 28 (.cons (.slot 1) (.cons (.slot 2) (.cons (.const (.int 8)) .nil))))) .none (.bop .add (.const (.int 1)) (.call 28 (.cons (.slot 1) (.cons (.slot 2) (.cons (.const (.int 9)) .nil)))))) [.val v, .val (.lst (ds.map D.int)), .val (.cell 0), x3, x4, x5, x6, x7, x8, x9, x10, x11, x12, x13, x14, x15, x16, x17, x18, x19, x20] (St p) = .ok (.lst (xs.map D.int)) (St q) := by
  obtain ⟨r, ⟨h0, h1⟩, e⟩ := r28 ds 8 p hp (by decide)
  obtain ⟨xs, q, hq, hl, hx, e2⟩ := row_loop v ds x3 x4 x5 x6 x7 x8 x9 x10 x11 x12 x13 x14 x15 x16 x17 x18 x19 x20 (rngL 0 r.toNat) (p + 1) (by omega)
  rw [rngL_len] at hl
  refine ⟨xs, q, hq, by omega, hx, ?_⟩
  have hi : evI RK (.rng1 (.call 28 (.cons (.slot 1) (.cons (.slot 2) (.cons (.const (.int 8)) .nil))))) [.val v, .val (.lst (ds.map D.int)), .val (.cell 0), x3, x4, x5, x6, x7, x8, x9, x10, x11, x12, x13, x14, x15, x16, x17, x18, x19, x20] (St p) = .ok (rngL 0 r.toNat) (St (p + 1)) := by
    rw [i_rng1]
    have : evE RK (.call 28 (.cons (.slot 1) (.cons (.slot 2) (.cons (.const (.int 8)) .nil)))) [.val v, .val (.lst (ds.map D.int)), .val (.cell 0), x3, x4, x5, x6, x7, x8, x9, x10, x11, x12, x13, x14, x15, x16, x17, x18, x19, x20] (St p) = .ok (.int r) (St (p + 1)) := by
      generalize ds.map D.int = dd at *
      simp [e]
    rw [this, r_bind_ok]
    show (if smallI r then _ else _) = _
    rw [if_pos (small_of (by omega) (by omega))]
  rw [e_lc, hi, r_bind_ok]
  have hw : wipeD [.val v, .val (.lst (ds.map D.int)), .val (.cell 0), x3, x4, x5, x6, x7, x8, x9, x10, x11, x12, x13, x14, x15, x16, x17, x18, x19, x20] [20] = [.val v, .val (.lst (ds.map D.int)), .val (.cell 0), x3, x4, x5, x6, x7, x8, x9, x10, x11, x12, x13, x14, x15, x16, x17, x18, x19, .no] := rfl
  rw [hw]
  refine (congrArg (fun z => Res.bind (Res.quiet z) (fun xs S2 => if fits xs.length then Res.ok (D.lst xs) S2 else .bad)) e2).trans ?_
  show Res.bind (Res.ok (xs.map D.int) (St q)) _ = _
  rw [r_bind_ok, fits_ok, List.length_map, decide_eq_true (show xs.length ≤ 16777216 by omega)]
  rfl
theorem sg3_sub (o : Int) : sg3 o = (if 0 < o then (1 : Int) else 0) - (if o < 0 then (1 : Int) else 0) := by
  unfold sg3
  by_cases h : 0 < o
  · rw [if_pos h, if_pos h, if_neg (by omega)]; rfl
  · rw [if_neg h, if_neg h]
    by_cases h2 : o < 0
    · rw [if_pos h2, if_pos h2]; rfl
    · rw [if_neg h2, if_neg h2]; rfl
theorem slc30 (xs : List D) : slcD (.tup xs) none (some 30) = some (.tup (xs.take 30)) := by
  show some (D.tup ((xs.drop (HT.sIx xs.length 0 none)).take (HT.sIx xs.length xs.length (some 30) - HT.sIx xs.length 0 none))) = _
  have h := HT.sIx_nat xs.length xs.length 30
  rw [show ((30 : Nat) : Int) = 30 from rfl] at h
  rw [h, HT.sIx_none, List.drop_zero, Nat.sub_zero]
  congr 2
  rcases Nat.le_total 30 xs.length with z | z
  · rw [Nat.min_eq_left z]
  · rw [Nat.min_eq_right z, List.take_of_length_le (Nat.le_refl _), List.take_of_length_le z]
theorem cf_small {p : Int × Int} (h : Good p) : ∀ x ∈ cf p.1 p.2.toNat, x.natAbs ≤ 1000000 := by
  obtain ⟨hc, h0, _⟩ := toNat_of h
  obtain ⟨_, ⟨a1, a2⟩, a3⟩ := h
  generalize p.2.toNat = b at *
  generalize p.1 = a at *
  rw [cf_pos _ h0]
  have hb : (0 : Int) < (b : Int) := by omega
  intro x hx
  rcases List.mem_cons.mp hx with z | z
  · subst z
    have u1 : -1000000 ≤ a / (b : Int) := Int.le_ediv_of_mul_le hb (by omega)
    have u2 : a / (b : Int) ≤ 1000000 := Int.ediv_le_of_le_mul hb (by omega)
    omega
  · have := cf_bound _ _ (mod_lt a h0) x z
    omega
theorem turn (v : D) (ds : List Int) (σ : List Slot) (p : Int) (hp : 0 ≤ p) (hi : Inv v (.lst (ds.map D.int)) σ) : Done v (.lst (ds.map D.int)) turnB σ (St p) := by
  obtain ⟨x3, x4, x5, x6, x7, x8, x9, x10, x11, x12, x13, x14, x15, x16, x17, x18, x19, x20, rfl⟩ := hi
  obtain ⟨a, p1, ha, hp1, e1⟩ := r37 ds p hp
  obtain ⟨b0, p2, hb0, hp2, e2⟩ := r37 ds p1 hp1
  refine sqG (st1 RK v _ a b0 _ _ _ e1 e2) ?_
  obtain ⟨d0, t0, f1, f2, f3⟩ := due0 a b0 (St p2) ha hb0
  refine sqG (f1 v _ _ _ _ _ _ _ _ _ _ _ _ _ _ _ _ _ _ _ rfl rfl) ?_
  refine sqG (st3 RK v _ a b0 d0 t0 _ f2 f3) ?_
  refine sqG (st4 RK v _ b0 _) ?_
  obtain ⟨b, hbe, hb, hbn⟩ : ∃ b, (if b0 = 0 then 1 else b0) = b ∧ Wh b ∧ b ≠ 0 := by
    by_cases h : b0 = 0
    · exact ⟨1, if_pos h, ⟨by decide, by decide⟩, by decide⟩
    · exact ⟨b0, if_neg h, hb0, h⟩
  rw [hbe]
  obtain ⟨n, p3, hn, hp3, e3⟩ := r37 ds p2 hp2
  obtain ⟨cd, hcd, e4⟩ := r29 [.int 1, .int 2, .int 3, .int 7, .int 999983] ds p3 hp3 (by decide)
  obtain ⟨c, rfl, hc1, hc2⟩ : ∃ c, cd = .int c ∧ 1 ≤ c ∧ c ≤ 1000000 := by
    simp only [List.mem_cons, List.not_mem_nil, or_false] at hcd
    rcases hcd with h | h | h | h | h <;> exact ⟨_, h, by decide, by decide⟩
  have hcw : Wh c := ⟨by omega, by omega⟩
  have e5 := r31 a b (St p2) hbn hb.sm
  have e6 := r31 n c (St (p3 + 1)) (by omega) hcw.sm
  have g1 := good_red ha hb hbn
  have g2 := good_red hn hcw (by omega)
  refine sqG (st5 RK v _ a b n c _ _ _ _ _ e5 e3 e4 e6) ?_
  generalize red a b = one at g1 ⊢
  generalize red n c = oth at g2 ⊢
  clear e5 e6 e1 e2 e3 e4 f1 f2 f3
  have hp4 : 0 ≤ p3 + 1 := by omega
  generalize p3 + 1 = p4 at hp4 ⊢
  have n1 := lt60 (show one.1.natAbs ≤ 2000000000000 by have := g1.n1; omega)
  have n2 := lt60 (show one.2.natAbs ≤ 2000000000000 by have := g1.n2; omega)
  have n3 := lt60 (show oth.1.natAbs ≤ 2000000000000 by have := g2.n1; omega)
  have k3 := prod_lt g1.n2 g2.n2
  have z : one.2 * oth.2 ≠ 0 := by
    have := Int.mul_pos g1.1.1 g2.1.1
    omega
  refine sqG (st6 RK v _ one.1 one.2 oth.1 oth.2 _ _ _ (mulW _ n1) (mulW _ n3)) ?_
  refine sqG (st7 RK v _ one.1 one.2 oth.1 oth.2 _ _ _ _ _ _ _ _ _ (mulW _ n1) (mulW _ n3) (mulW _ n2) (mulW _ n1) (r31 _ _ _ z (lt60 (by omega))) (r31 _ _ _ z (lt60 (by omega)))) ?_
  obtain ⟨d3, t3, f1, f2, f3⟩ := four_due one oth (St p4) g1 g2
  refine sqG (f2 v _ _ _ _ _ _ _ _ _ _ _ _ _ _ _ _ _ _ _ _ _ _ _ rfl rfl rfl) ?_
  have h4 := t4 one oth (St p4) g1 g2
  rw [sg3_sub] at h4 f3
  refine sqG (st9 (x9 := .no) (x12 := .no) RK v _ (frD one) (frD oth) _ _ _ _ _ _ t3 _ (fun x9 x12 => four RK (frD one) (frD oth) _ _ _ _ v _ _ _ _ _ _ _ x9 .no .no x12 _ _ _ _ _ _ _ _ _ (t1 one oth _ g1 g2) (t2 one oth _ g1 g2) f1 h4) rfl rfl f3) ?_
  clear h4 f3 f2 f1 z k3 n3
  obtain ⟨q, hq, e7⟩ := r29 [frD (one.1, one.2), (if (one.1.natAbs : Int) < 1001 ∧ one.2 < 1001 then frD (one.1 * one.1, one.2 * one.2) else frD (one.1, one.2)), frD ((one.1.natAbs : Int), one.2)] ds p4 hp4 (Nat.succ_pos 2)
  obtain ⟨s, rfl, gs⟩ := square_of g1 q hq
  refine sqG (st10 RK v _ one.1 one.2 _ _ _ _ _ (mulW _ n1) (mulW _ n2) e7) ?_
  clear e7 hq
  have hp5 : 0 ≤ p4 + 1 := by omega
  generalize p4 + 1 = p5 at hp5 ⊢
  obtain ⟨s1, s2, h1, h2, b1, b2, h5⟩ := parts_of gs (St p5)
  refine sqG (st11 RK v _ s.1 s.2 s1 s2 _ h1 h2) ?_
  refine sqG (st12 RK v _ s.1 s.2 s1 s2 _ _ _ (mulW _ (lt60 (by omega))) (mulW _ (lt60 (by omega)))) ?_
  refine sqG (st13 RK v _ (frD one) _ _ (r34 one _ g1)) ?_
  have hrow := row_own g1
  have hlen := cf_len 20 one.1 _ (toNat_of g1).2.2
  obtain ⟨t, ht⟩ := repr_lst (rp_lst (rps_cons (rp_root (s1 * s1 = s.1 ∧ s2 * s2 = s.2) b1 b2) (rps_cons (rp_tup (rps_ints (cf one.1 one.2.toNat) 0 fun x hx => log60 (Nat.lt_of_le_of_lt (cf_small g1 x hx) (by decide)))) (rps_nil 0 1)))) (by omega) (by decide)
  obtain ⟨u, hu⟩ := repr_tup (rp_conv hrow) (by decide) (by decide)
  have v8 := t8 _ (St p5) hrow
  have v9 := r35 _ (St p5) hrow
  rw [List.map_take] at v8 v9
  refine sqG (st14 RK v _ (frD one) (frD s) _ _ _ t u _ h5 (t6 one _ g1) ht (slc30 _) v8 v9 hu) ?_
  clear v8 v9 hu ht h5 h1 h2
  obtain ⟨md, hmd, e8⟩ := r29 [.int 1, .int 2, .int 7, .int 30] ds p5 hp5 (by decide)
  obtain ⟨m, rfl, hm1, hm2⟩ : ∃ m, md = .int m ∧ 1 ≤ m ∧ m ≤ 1000 := by
    simp only [List.mem_cons, List.not_mem_nil, or_false] at hmd
    rcases hmd with h | h | h | h <;> exact ⟨_, h, by decide, by decide⟩
  refine sqG (st15 RK v _ m _ _ e8) ?_
  have hp6 : 0 ≤ p5 + 1 := by omega
  clear e8
  generalize p5 + 1 = p6 at hp6 ⊢
  obtain ⟨t6, ht6⟩ := repr_tup (rp_near g1 hm1 hm2) (by decide) (by decide)
  refine sqG (st16 RK v _ (frD one) _ m t6 _ (t7 one m _ g1 hm1 hm2) (r36 one m _ g1 hm1 hm2) ht6) ?_
  obtain ⟨w, p7, hw, hp7, e9⟩ := r37 ds p6 hp6
  obtain ⟨xs, p8, hp8, hl, hx, e10⟩ := row_lc v ds _ _ _ _ _ _ _ _ _ _ _ _ _ _ _ _ _ _ p7 hp7
  have hrow2 : Row (w :: xs) := ⟨List.cons_ne_nil _ _, by rw [List.length_cons]; omega, fun y hy => by cases hy; exact hw, fun y hy => by have := hx y hy; omega⟩
  refine sqG (st17 RK v _ w _ _ _ _ e9 e10 ?_) ?_
  · show (if fits (1 + (xs.map D.int).length) then _ else _) = _
    rw [if_pos (by rw [fits_ok, List.length_map]; exact decide_eq_true (by omega))]
    rfl
  obtain ⟨t9, ht9⟩ := repr_tup (rp_conv hrow2) (by decide) (by decide)
  refine sqG (st18 RK v _ (.tup ((w :: xs).map D.int)) _ t9 _ (t8 _ _ hrow2) (r35 _ _ hrow2) ht9) ?_
  exact ⟨_, p8, hp8, ⟨_, _, _, _, _, _, _, _, _, _, _, _, _, _, _, _, _, _, rfl⟩, rfl⟩
end K30

end
section
set_option maxRecDepth 100000
/-! K30PQ: what is refused. -/
namespace K30
open PySem DI
def badL : List D := [.non, .int 5, .tup [.int 1, .int 0], .tup [.int 2, .int 4], .tup [.int 1, .int (-2)], .tup [.int 0, .int 2], .tup [.bl true, .int 1], .tup [.int 1], .tup [.int 1000001, .int 1], .tup [.int 1, .int 1000001], .str "1/2"]
def oddL : List D := [.non, .bl true, .int 1000001, .int (-1000001), .str "1"]
def mostL : List D := [.int 0, .int 1001, .non, .bl true]
def w31 : D := .tup (List.replicate 31 (.int 1))
def wrongL : List D := [.non, .tup [], .tup [.int 1, .int 0], .tup [.int 1, .int (-1)], .tup [.bl true], .tup [.int 1000001], w31, .lst [.int 1, .int 2], .tup [.int 1, .int 1000001]]
theorem l4 (ρ : Calls) (v dr d : D) {x3 x4 x5 x6 x7 x8 x9 x10 x11 x12 x13 x14 x15 x16 x17 x18 x19 x20 : Slot} (S S1 : Sto) (h : ρ 29 [.lst badL, dr, .cell 0] S = .ok d S1) : exS ρ ls4 [.val v, .val dr, .val (.cell 0), x3, x4, x5, x6, x7, x8, x9, x10, x11, x12, x13, x14, x15, x16, x17, x18, x19, x20] S = .ok (.next [.val v, .val dr, .val (.cell 0), x3, .val d, x5, x6, x7, x8, x9, x10, x11, x12, x13, x14, x15, x16, x17, x18, x19, x20]) S1 := by
  unfold badL at h
  simp [ls4, h]
theorem l5 (v dr b : D) (x3 x4 x5 x6 x7 x8 x9 x10 x11 x12 x13 x14 x15 x16 x17 x18 x19 x20 : Slot) (q : Int) (hb : b ∈ badL) : exS RK ls5 [.val v, .val dr, .val (.cell 0), x3, .val b, x5, x6, x7, x8, x9, x10, x11, x12, x13, x14, x15, x16, x17, x18, x19, x20] (St q) = .ok (.next [.val v, .val dr, .val (.cell 0), x3, .val b, x5, x6, x7, x8, x9, x10, x11, x12, x13, x14, x15, x16, x17, x18, x19, x20]) (St q) := by
  unfold badL at hb
  simp only [List.mem_cons, List.not_mem_nil, or_false] at hb
  rcases hb with rfl | rfl | rfl | rfl | rfl | rfl | rfl | rfl | rfl | rfl | rfl <;> kernel_rfl
theorem l6 (ρ : Calls) (v dr d : D) {x3 x4 x5 x6 x7 x8 x9 x10 x11 x12 x13 x14 x15 x16 x17 x18 x19 x20 : Slot} (S S1 : Sto) (h : ρ 29 [.lst oddL, dr, .cell 0] S = .ok d S1) : exS ρ ls6 [.val v, .val dr, .val (.cell 0), x3, x4, x5, x6, x7, x8, x9, x10, x11, x12, x13, x14, x15, x16, x17, x18, x19, x20] S = .ok (.next [.val v, .val dr, .val (.cell 0), x3, x4, .val d, x6, x7, x8, x9, x10, x11, x12, x13, x14, x15, x16, x17, x18, x19, x20]) S1 := by
  unfold oddL at h
  simp [ls6, h]
theorem three : cmpD .ne (.lst [argD "number", argD "other", argD "most"]) (.lst [argD "number", argD "other", argD "most"]) = some (.bl false) := by
  kernel_rfl
theorem l7 (ρ : Calls) (v dr d m : D) {x3 x4 x5 x6 x7 x8 x9 x10 x11 x12 x13 x14 x15 x16 x17 x18 x19 x20 : Slot} (S S1 : Sto) (e5 : x5 = .val d) (h : ρ 33 [.int 0, d, .int 0] S = .ok (argD "number") S) (h2 : ρ 33 [.int 0, .int 1, d] S = .ok (argD "other") S) (h3 : ρ 29 [.lst mostL, dr, .cell 0] S = .ok m S1) (h4 : ρ 33 [.int 7, .tup [.int 1, .int 2], m] S1 = .ok (argD "most") S1) :
    exS ρ ls7 [.val v, .val dr, .val (.cell 0), x3, x4, x5, x6, x7, x8, x9, x10, x11, x12, x13, x14, x15, x16, x17, x18, x19, x20] S = .ok (.next [.val v, .val dr, .val (.cell 0), x3, x4, x5, x6, x7, x8, x9, x10, x11, x12, x13, x14, x15, x16, x17, x18, x19, x20]) S1 := by
  subst e5
  unfold mostL at h3
  have ht := three
  simp [ls7, h, h2, h3, h4, itemsD, lcL, setT, wipeD, ht]
theorem o1 (d : D) (q : Int) (hb : d ∈ oddL) : RK 33 [.int 0, d, .int 0] (St q) = .ok (argD "number") (St q) := by
  unfold oddL at hb
  simp only [List.mem_cons, List.not_mem_nil, or_false] at hb
  rcases hb with rfl | rfl | rfl | rfl | rfl <;> kernel_rfl
theorem o2 (d : D) (q : Int) (hb : d ∈ oddL) : RK 33 [.int 0, .int 1, d] (St q) = .ok (argD "other") (St q) := by
  unfold oddL at hb
  simp only [List.mem_cons, List.not_mem_nil, or_false] at hb
  rcases hb with rfl | rfl | rfl | rfl | rfl <;> kernel_rfl
theorem o3 (d : D) (q : Int) (hb : d ∈ mostL) : RK 33 [.int 7, .tup [.int 1, .int 2], d] (St q) = .ok (argD "most") (St q) := by
  unfold mostL at hb
  simp only [List.mem_cons, List.not_mem_nil, or_false] at hb
  rcases hb with rfl | rfl | rfl | rfl <;> kernel_rfl
theorem m31 : binop .mul (.tup [.int 1]) (.int 31) = some w31 := by kernel_rfl
theorem l8 (ρ : Calls) (v dr d : D) {x3 x4 x5 x6 x7 x8 x9 x10 x11 x12 x13 x14 x15 x16 x17 x18 x19 x20 : Slot} (S S1 : Sto) (h : ρ 29 [.lst wrongL, dr, .cell 0] S = .ok d S1) : exS ρ ls8 [.val v, .val dr, .val (.cell 0), x3, x4, x5, x6, x7, x8, x9, x10, x11, x12, x13, x14, x15, x16, x17, x18, x19, x20] S = .ok (.next [.val v, .val dr, .val (.cell 0), x3, x4, x5, .val d, x7, x8, x9, x10, x11, x12, x13, x14, x15, x16, x17, x18, x19, x20]) S1 := by
  unfold wrongL at h
  have hm := m31
  simp [ls8, hm, h]
theorem l9 (v dr b : D) (x3 x4 x5 x6 x7 x8 x9 x10 x11 x12 x13 x14 x15 x16 x17 x18 x19 x20 : Slot) (q : Int) (hb : b ∈ wrongL) (e6 : x6 = .val b) : exS RK ls9 [.val v, .val dr, .val (.cell 0), x3, x4, x5, x6, x7, x8, x9, x10, x11, x12, x13, x14, x15, x16, x17, x18, x19, x20] (St q) = .ok (.ret (.bl true)) (St q) := by
  subst e6
  unfold wrongL at hb
  simp only [List.mem_cons, List.not_mem_nil, or_false] at hb
  rcases hb with rfl | rfl | rfl | rfl | rfl | rfl | rfl | rfl | rfl <;> kernel_rfl
end K30

end
section
set_option maxRecDepth 100000
/-! K30PR: the law's body answers True. -/
namespace K30
open PySem DI
def DoneR (r : DSs) (σ : List Slot) (S : Sto) : Prop := ∃ S2 : Sto, S2.length = 1 ∧ exSs RK r σ S = .ok (.ret (.bl true)) S2
theorem sqR {s : DS} {r : DSs} {σ σ1 : List Slot} {S S1 : Sto} (h : exS RK s σ S = .ok (.next σ1) S1) (h2 : DoneR r σ1 S1) : DoneR (.cons s r) σ S := by
  obtain ⟨S2, hq, e⟩ := h2
  exact ⟨S2, hq, sq h e⟩
theorem turns_all (v : D) (ds : List Int) : ∀ (l : List D) (σ : List Slot) (p : Int), 0 ≤ p → Inv v (.lst (ds.map D.int)) σ → ∃ σ2 q, 0 ≤ q ∧ Inv v (.lst (ds.map D.int)) σ2 ∧ forL (.one 3) (fun σ S => exSs RK turnB σ S) l σ (St p) = .ok (.next σ2) (St q)
  | [], σ, p, hp, h => ⟨σ, p, hp, h, rfl⟩
  | d :: l, σ, p, hp, h => by
    obtain ⟨x3, x4, x5, x6, x7, x8, x9, x10, x11, x12, x13, x14, x15, x16, x17, x18, x19, x20, rfl⟩ := h
    obtain ⟨σ2, q, hq, hi, e⟩ := turn v ds [.val v, .val (.lst (ds.map D.int)), .val (.cell 0), .val d, x4, x5, x6, x7, x8, x9, x10, x11, x12, x13, x14, x15, x16, x17, x18, x19, x20] p hp ⟨_, x4, x5, x6, x7, x8, x9, x10, x11, x12, x13, x14, x15, x16, x17, x18, x19, x20, rfl⟩
    obtain ⟨σ3, q3, hq3, hi3, e3⟩ := turns_all v ds l σ2 q hq hi
    refine ⟨σ3, q3, hq3, hi3, ?_⟩
    rw [forL]
    show (Res.ok [Slot.val v, .val (.lst (ds.map D.int)), .val (.cell 0), .val d, x4, x5, x6, x7, x8, x9, x10, x11, x12, x13, x14, x15, x16, x17, x18, x19, x20] (St p)).bind _ = _
    rw [r_bind_ok, e, r_bind_ok]
    exact e3
theorem l1 (ρ : Calls) (v dr : D) (x3 x4 x5 x6 x7 x8 x9 x10 x11 x12 x13 x14 x15 x16 x17 x18 x19 x20 : Slot) (x1 x2 : Slot) (S : Sto) (h : ρ 26 [v] S = .ok dr S) : exS ρ ls1 [.val v, x1, x2, x3, x4, x5, x6, x7, x8, x9, x10, x11, x12, x13, x14, x15, x16, x17, x18, x19, x20] S = .ok (.next [.val v, .val dr, x2, x3, x4, x5, x6, x7, x8, x9, x10, x11, x12, x13, x14, x15, x16, x17, x18, x19, x20]) S := by
  simp [ls1, h]
theorem l2 (ρ : Calls) (v dr : D) (x3 x4 x5 x6 x7 x8 x9 x10 x11 x12 x13 x14 x15 x16 x17 x18 x19 x20 : Slot) (x2 : Slot) : exS ρ ls2 [.val v, .val dr, x2, x3, x4, x5, x6, x7, x8, x9, x10, x11, x12, x13, x14, x15, x16, x17, x18, x19, x20] [] = .ok (.next [.val v, .val dr, .val (.cell 0), x3, x4, x5, x6, x7, x8, x9, x10, x11, x12, x13, x14, x15, x16, x17, x18, x19, x20]) (St 0) := by
  simp [ls2, DE.fresh, D.plains, D.plain]
theorem law_b (ns : List Int) (h : ns.length ≤ 63) : ∃ S2 : Sto, S2.length = 1 ∧ exSs RK b_law [.val (.scr ns), .no, .no, .no, .no, .no, .no, .no, .no, .no, .no, .no, .no, .no, .no, .no, .no, .no, .no, .no, .no] [] = .ok (.ret (.bl true)) S2 := by
  rw [b_law_eq]
  obtain ⟨ds, _, e1⟩ := law_draws 98 ns [] h
  refine sqR (l1 RK (.scr ns) _ .no .no .no .no .no .no .no .no .no .no .no .no .no .no .no .no .no .no _ _ [] e1) ?_
  refine sqR (l2 RK (.scr ns) _ .no .no .no .no .no .no .no .no .no .no .no .no .no .no .no .no .no .no _) ?_
  obtain ⟨σ2, q, hq, hi, e⟩ := turns_all (.scr ns) ds (rngL 0 6) [.val (.scr ns), .val (.lst (ds.map D.int)), .val (.cell 0), .no, .no, .no, .no, .no, .no, .no, .no, .no, .no, .no, .no, .no, .no, .no, .no, .no, .no] 0 (Int.le_refl 0) ⟨_, _, _, _, _, _, _, _, _, _, _, _, _, _, _, _, _, _, rfl⟩
  have e3 : exS RK ls3 [.val (.scr ns), .val (.lst (ds.map D.int)), .val (.cell 0), .no, .no, .no, .no, .no, .no, .no, .no, .no, .no, .no, .no, .no, .no, .no, .no, .no, .no] (St 0) = .ok (.next σ2) (St q) := by
    rw [ls3, s_for, i_rng1, e_const, r_bind_ok]
    exact e
  refine sqR e3 ?_
  clear e3 e e1
  obtain ⟨x3, x4, x5, x6, x7, x8, x9, x10, x11, x12, x13, x14, x15, x16, x17, x18, x19, x20, rfl⟩ := hi
  obtain ⟨b, hb, e4⟩ := r29 badL ds q hq (by decide)
  refine sqR (l4 RK (.scr ns) _ b _ _ e4) ?_
  refine sqR (l5 (.scr ns) _ b _ .no _ _ _ _ _ _ _ _ _ _ _ _ _ _ _ _ (q + 1) hb) ?_
  obtain ⟨d, hd, e6⟩ := r29 oddL ds (q + 1) (by omega) (by decide)
  refine sqR (l6 RK (.scr ns) _ d _ _ e6) ?_
  obtain ⟨m, hm, e7⟩ := r29 mostL ds (q + 1 + 1) (by omega) (by decide)
  refine sqR (l7 RK (.scr ns) _ d m _ _ rfl (o1 d _ hd) (o2 d _ hd) e7 (o3 m _ hm)) ?_
  obtain ⟨w, hw, e8⟩ := r29 wrongL ds (q + 1 + 1 + 1) (by omega) (by decide)
  refine sqR (l8 RK (.scr ns) _ w _ _ e8) ?_
  refine ⟨St (q + 1 + 1 + 1 + 1), rfl, ?_⟩
  rw [s_cons, l9 (.scr ns) _ w _ _ _ _ _ _ _ _ _ _ _ _ _ _ _ _ _ _ (q + 1 + 1 + 1 + 1) hw rfl]
  rfl
theorem law_true (ns : List Int) (h : ns.length ≤ 63) : ∃ S', callK T 100 lawIx [.scr ns] [] = .ok (.bl true) S' := by
  obtain ⟨S2, hl, e⟩ := law_b ns h
  have e2 : callK T 100 lawIx [.scr ns] [] = (match exSs RK b_law [.val (.scr ns), .no, .no, .no, .no, .no, .no, .no, .no, .no, .no, .no, .no, .no, .no, .no, .no, .no, .no, .no, .no] [] with
    | .ok (.ret x) S1 => fin1 [] x S1
    | .ok (.next _) S1 => fin1 [] .non S1
    | .exc c fs S1 => finX [] c fs S1
    | .bad => .bad) := rfl
  rw [e2, e]
  obtain ⟨x, rfl⟩ := List.length_eq_one_iff.mp hl
  refine ⟨[], ?_⟩
  show fin1 [] (.bl true) [x] = .ok (.bl true) []
  rfl
end K30

end
section
set_option maxRecDepth 100000
set_option maxHeartbeats 0
namespace K30
open PySem PySem.Spec PyProof.Rows L2 PySem.W DI
theorem ini (w : World) : ∀ e ∈ L.errs, ∃ p ∈ L.ins, p.own = e.own ∧ InitOk (PySem.Challenge.rw_drawnwrought_k30_whole_fractions).prog w L p e.fld := by
  have h : InitOk (PySem.Challenge.rw_drawnwrought_k30_whole_fractions).prog w L (L.ins.getD 0 ⟨"", "", ⟨[], [], none, [], [], none, []⟩, [], ⟨.function, [], false, false, []⟩⟩) "reason" :=
    initOk_of (px := "self") (py := "reason") rfl (by decide +kernel) rfl rfl rfl rfl rfl rfl (by decide +kernel) (by decide +kernel) (by decide +kernel) (by decide +kernel) (by decide +kernel) (by decide +kernel) (by decide +kernel) (by decide +kernel) (fun env => ⟨_, rfl⟩) (fun _ _ _ _ _ _ _ us hl => match us, hl with | [_, _], _ => rfl)
  have all : L.errs.all (fun e => decide (e.own = "ReasonError") && decide (e.fld = "reason")) = true := by decide +kernel
  intro e he
  have := List.all_eq_true.mp all e he
  simp only [Bool.and_eq_true, decide_eq_true_eq] at this
  exact ⟨_, List.mem_cons_self, this.1.symm, by rw [this.2]; exact h⟩
end K30
open PySem PySem.W PySem.Calls PyProof.Rows in
theorem k30_holds : PySem.Challenge.rw_drawnwrought_k30_whole_fractions.Holds := by
  w_on; o_law
  refine HandSHeadRun.head_any (r := OpenLaw.row PySem.Challenge.rw_drawnwrought_k30_whole_fractions) (q := view (OpenLaw.row PySem.Challenge.rw_drawnwrought_k30_whole_fractions).prog [K30.lawTop]) (H := K30.hk) (ob := K30.ob) (M := 6000) (loose := K30.loose) (d := HandSHeadRun.topDef (OpenLaw.row PySem.Challenge.rw_drawnwrought_k30_whole_fractions).prog K30.lawTop) (kwd := []) K30.ob_eq
    (by kernel_rfl) (fun s => by kernel_rfl) K30.run (by kernel_rfl) (by kernel_rfl) (by kernel_rfl) (by rfl) (by first | assumption | decide +kernel) (by decide +kernel) ⟨rfl, rfl, rfl, rfl, rfl, by decide +kernel⟩ ?hw ?hc
  case hw => w_witness2
  case hc =>
    exact DI.walk_J (l := PySem.Challenge.rw_drawnwrought_k30_whole_fractions) (n := 63) (N := 100) (L := K30.L) (f := K30.lawIx) rfl (by decide) (by kernel_rfl) ⟨rfl, by decide, by decide⟩ K30.looks K30.binds (by decide +kernel) K30.ini (by kernel_rfl) K30.law_true

end
theorem PySem.Challenge.cw_drawnwrought_k30_whole_fractions_holds : PySem.Challenge.rw_drawnwrought_k30_whole_fractions.Holds := by
  exact k30_holds
