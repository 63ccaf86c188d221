import PyProof.Rows.All
import Wide.All
import OpenK.AllK
import Wide.FinOn
import HandS.ForMost
import HandS.ForExc
import HandS.Wide
import HandS.WideBits
import HandS.IsInst
import HandS.Style
import HandS.Defaults
import HandS.Small
import HandS.ExcValue
import HandS.ExcIs
import HandS.Deep
import HandS.SuiteRaise
import HandS.RaiseFrom
import HandS.Zip
import HandS.TryOnly
import HandS.Flow
import HandS.Head0
import HandS.Head1
import HandS.Head2
import HandS.HeadEnd
import HandS.HeadHook1
import HandS.HeadHook2
import PySem.Challenge.RW_oneleash_k06_whole_roots_parted
set_option Elab.async false
set_option linter.all false
set_option maxRecDepth 100000
set_option maxHeartbeats 0
set_option exponentiation.threshold 20000
/-! Plain data, a small language over it, and what its texts do: no heap in sight. -/
namespace OL
open PySem PySem.Spec PyProof.Rows L2
/-- plain data -/
inductive D where
  | non | bl (b : Bool) | int (i : Int) | str (x : Str) | tup (xs : List D) | lst (xs : List D)
  | scr (ns : List Int) | dic (n : Nat) | exc (c : String)
/-- an answer: data, an error of a class, or nothing that is told -/
inductive R (α : Type) where
  | ok (a : α) | exc (c : String) | bad
@[reducible] def R.bind {α β : Type} (r : R α) (f : α → R β) : R β :=
  match r with | .ok a => f a | .exc c => .exc c | .bad => .bad
def R.all {α : Type} (r : R α) (p : α → Prop) (e : String → Prop) : Prop :=
  match r with | .ok a => p a | .exc c => e c | .bad => False
theorem R.bind_ok {α β : Type} (a : α) (f : α → R β) : (R.ok a).bind f = f a := rfl
theorem R.bind_exc {α β : Type} (c : String) (f : α → R β) : (R.exc c : R α).bind f = .exc c := rfl
theorem R.bind_bad {α β : Type} (f : α → R β) : (R.bad : R α).bind f = .bad := rfl
/-- what a def is to its callers: its name, what it hands back of data, whether a list that it hands back is new, the written defaults that fill a call up -/
structure Fn where
  name : String
  run : List D → R D
  fr : Bool
  dfl : List D
inductive Op where | add | sub | mul | div | mod | pow | shl | shr | band
inductive Cp where | lt | le | gt | ge | eq | ne | is | isn | inn | nin
inductive Blt where | len | abs | max | min | int | str | list | tuple | all | any | bool
inductive Mth where | bitlen
inductive Tg where
  | nm (i : Nat) | tp (ts : List Tg)
inductive Ex where
  | nop | var (i : Nat) | bor (i : Nat) | lit (d : D) | glob (n : String) (d : D)
  | tup (xs : List Ex) | lst (xs : List Ex)
  | bin (op : Op) (x y : Ex) | neg (x : Ex) | cmp (op : Cp) (x y : Ex) | chain (op op' : Cp) (x y z : Ex)
  | and (xs : List Ex) | or (xs : List Ex) | not (x : Ex) | ite (c x y : Ex)
  | ix (x i : Ex) | sl (x lo hi : Ex)
  | call (f : Fn) (fl : Bool) (xs : List Ex)
  | blt (b : Blt) (xs : List Ex) | mth (m : Mth) (x : Ex) (xs : List Ex)
  | isi (x : Ex) (cs : List String) | isx (x : Ex) (cs : List String) | rvl (x : Ex)
  | lc (elt : Ex) (tg : Tg) (it : Ex) (cond : Ex)
  | rng (xs : List Ex) | enum (x : Ex) | zip (x y : Ex) | revd (x : Ex)
inductive St where
  | asg (i : Nat) (own : Bool) (x : Ex) | unp (ts : List Tg) (x : Ex) | par (i j : Nat) (x y : Ex) | aug (i : Nat) (op : Op) (x : Ex)
  | ret (x : Ex) | retN | exp (x : Ex)
  | app (i : Nat) (x : Ex) | rev (i : Nat) | clr (i : Nat) | ins (i : Nat) (k x : Ex) | popE (i : Nat) (k : Ex) | sti (i : Nat) (k x : Ex)
  | ife (c : Ex) (a b : List St) | whl (c : Ex) (b : List St) | for (t : Tg) (it : Ex) (b : List St)
  | rai (c : String) | tri (b : List St) (c : String) (h : List St) | tas (b : List St) (c : String) (i : Nat) (h : List St) | par3 (i j l : Nat) (x y z : Ex)
  | frz (i : Nat) | brk | cnt | pas
/-! ### data -/
def itemsOf : D → R (List D)
  | .lst xs => .ok xs
  | .tup xs => .ok xs
  | .scr ns => .ok (ns.map .int)
  | .str x => .ok (x.cps.toList.map fun c => .str ⟨#[c]⟩)
  | _ => .bad
/-- a list as items, no text, no tuple -/
def lstOnly : D → Bool
  | .lst _ => true
  | .scr _ => true
  | _ => false
mutual
/-- without a list, a dict within -/
def flat : D → Bool
  | .tup xs => flatL xs
  | .lst _ => false
  | .scr _ => false
  | .dic _ => false
  | .exc _ => false
  | _ => true
def flatL : List D → Bool
  | [] => true
  | x :: xs => flat x && flatL xs
end
mutual
def toP : D → PyData
  | .non => .none
  | .bl b => .bool b
  | .int i => .int i
  | .str x => .str x
  | .tup xs => .tuple (toPL xs)
  | .lst xs => .list (toPL xs)
  | .scr ns => .list (ns.map .int)
  | .dic _ => .dict []
  | .exc _ => .dict []
def toPL : List D → List PyData
  | [] => []
  | x :: xs => toP x :: toPL xs
end
def shp (d : D) : Bool := SeqAt.shaped (toP d)
def eqd (d e : D) : Bool := PyData.eqv (toP d) (toP e)
/-- one sign of a text, None, a bool, an int, a text -/
def scalD : D → Bool
  | .non => true
  | .bl _ => true
  | .int _ => true
  | .str _ => true
  | _ => false
def valD : D → V
  | .bl b => .bl b
  | .int i => .int i
  | .str x => .str x
  | _ => .non
def truD : D → Option Bool
  | .non => some false
  | .bl b => some b
  | .int i => some (i != 0)
  | .str x => if x.length ≤ 16777216 then some ((x.length : Int) != 0) else none
  | .tup xs => some (!xs.isEmpty)
  | .lst xs => some (!xs.isEmpty)
  | .scr ns => some (!ns.isEmpty)
  | _ => none
def mulOk (i j : Int) : Bool := decide (i.natAbs.log2 + j.natAbs.log2 < 1000000)
def divOk (j : Int) : Bool := decide (j ≠ 0) && decide (j.natAbs.log2 < 9000)
def powOk (i j : Int) : Bool := decide (0 ≤ j) && decide (j ≤ 1000000) && decide (i.natAbs < 2 ^ 64)
def pwOk (i j : Int) : Bool := decide (0 ≤ j) && decide ((Builtin.Int.intBits i : Int) * j ≤ 134217728)
def binD : Op → D → D → R D
  | .add, .int i, .int j => .ok (.int (i + j))
  | .add, .str x, .str y => if x.length + y.length ≤ 16777216 then .ok (.str (x ++ y)) else .bad
  | .add, .lst xs, .lst ys => if xs.length + ys.length ≤ 16777216 then .ok (.lst (xs ++ ys)) else .bad
  | .sub, .int i, .int j => .ok (.int (i - j))
  | .mul, .int i, .int j => if mulOk i j then .ok (.int (i * j)) else .bad
  | .mul, .lst xs, .int k => if 0 ≤ k ∧ k < 2 ^ 63 ∧ xs.length * k.toNat ≤ 16777216 then .ok (.lst (List.replicate k.toNat xs).flatten) else .bad
  | .div, .int i, .int j => if divOk j then .ok (.int (i.fdiv j)) else .bad
  | .mod, .int i, .int j => if j ≠ 0 then .ok (.int (i.fmod j)) else .bad
  | .pow, .int i, .int j => if pwOk i j then .ok (.int (i ^ j.toNat)) else .bad
  | .shl, .int i, .int j => if powOk i j then .ok (.int (i * 2 ^ j.toNat)) else .bad
  | .shr, .int i, .int j => if 0 ≤ j then .ok (.int (i / 2 ^ j.toNat)) else .bad
  | .band, .int i, .int j => .ok (.int (Builtin.bitAnd i j))
  | _, _, _ => .bad
/-- x in xs, items without a list or tuple -/
def inD (x : D) (xs : List D) : Bool := xs.any fun y => eqV (valD y) (valD x)
def cpD : Cp → D → D → R D
  | .lt, .int i, .int j => .ok (.bl (decide (i < j)))
  | .le, .int i, .int j => .ok (.bl (decide (i ≤ j)))
  | .gt, .int i, .int j => .ok (.bl (decide (j < i)))
  | .ge, .int i, .int j => .ok (.bl (decide (j ≤ i)))
  | .eq, x, y => if shp x && shp y then .ok (.bl (eqd x y)) else .bad
  | .ne, x, y => if shp x && shp y then .ok (.bl (!eqd x y)) else .bad
  | .is, .bl a, .bl b => .ok (.bl (decide (a = b)))
  | .isn, .bl a, .bl b => .ok (.bl (!decide (a = b)))
  | .is, .non, .non => .ok (.bl true)
  | .is, .bl _, .non => .ok (.bl false)
  | .is, .int _, .non => .ok (.bl false)
  | .is, .str _, .non => .ok (.bl false)
  | .is, .tup _, .non => .ok (.bl false)
  | .is, .lst _, .non => .ok (.bl false)
  | .isn, .non, .non => .ok (.bl false)
  | .isn, .bl _, .non => .ok (.bl true)
  | .isn, .int _, .non => .ok (.bl true)
  | .isn, .str _, .non => .ok (.bl true)
  | .isn, .tup _, .non => .ok (.bl true)
  | .isn, .lst _, .non => .ok (.bl true)
  | .inn, .str x, .str y => .ok (.bl (!(Builtin.Str.occurrences y x 0 y.length 1).isEmpty))
  | .nin, .str x, .str y => .ok (.bl (!(!(Builtin.Str.occurrences y x 0 y.length 1).isEmpty)))
  | .inn, x, .tup ys => if scalD x && ys.all scalD then .ok (.bl (inD x ys)) else .bad
  | .nin, x, .tup ys => if scalD x && ys.all scalD then .ok (.bl (!inD x ys)) else .bad
  | .inn, x, .lst ys => if scalD x && ys.all scalD then .ok (.bl (inD x ys)) else if shp x && shp (.lst ys) then .ok (.bl ((toPL ys).any fun z => PyData.eqv z (toP x))) else .bad
  | .nin, x, .lst ys => if scalD x && ys.all scalD then .ok (.bl (!inD x ys)) else if shp x && shp (.lst ys) then .ok (.bl (!(toPL ys).any fun z => PyData.eqv z (toP x))) else .bad
  | _, _, _ => .bad
def ixD : D → D → R D
  | .tup xs, .int i => match atI xs i with | some d => .ok d | none => .bad
  | .lst xs, .int i => match atI xs i with | some d => .ok d | none => .bad
  | .scr ns, .int i => match atI ns i with | some n => .ok (.int n) | none => .bad
  | .str z, .int i => if z.length ≤ 16777216 then (match atI z.cps.toList i with | some c => .ok (.str ⟨#[c]⟩) | none => .bad) else .bad
  | _, _ => .bad
/-- a part of a list, as Python cuts it -/
def cutD {α : Type} (xs : List α) (lo hi : Option Int) : List α := (xs.drop (HT.sIx xs.length 0 lo)).take (HT.sIx xs.length xs.length hi - HT.sIx xs.length 0 lo)
def slD : D → Option Int → Option Int → R D
  | .lst xs, lo, hi => .ok (.lst (cutD xs lo hi))
  | .scr ns, lo, hi => .ok (.lst ((cutD ns lo hi).map .int))
  | .str z, lo, hi => if z.length ≤ 16777216 then .ok (.str (cutS z lo hi)) else .bad
  | _, _, _ => .bad
def bltD : Blt → List D → R D
  | .len, [.tup xs] => .ok (.int xs.length)
  | .len, [.lst xs] => .ok (.int xs.length)
  | .len, [.scr ns] => .ok (.int ns.length)
  | .len, [.str z] => if z.length ≤ 16777216 then .ok (.int z.length) else .bad
  | .abs, [.int i] => .ok (.int (if i < 0 then -i else i))
  | .max, [.int i, .int j] => .ok (.int (if j > i then j else i))
  | .min, [.int i, .int j] => .ok (.int (if j < i then j else i))
  | .int, [.int i] => .ok (.int i)
  | .int, [.bl b] => .ok (.int (if b then 1 else 0))
  | .str, [.int i] => if i.natAbs.log2 < 1920 then .ok (.str (toString i)) else .bad
  | .list, [.lst xs] => .ok (.lst xs)
  | .list, [.tup xs] => .ok (.lst xs)
  | .list, [.scr ns] => .ok (.lst (ns.map .int))
  | .tuple, [.lst xs] => .ok (.tup xs)
  | .all, [.lst xs] => match xs.mapM (fun | .bl b => some b | _ => none) with | some bs => .ok (.bl (bs.all id)) | none => .bad
  | .any, [.lst xs] => match xs.mapM (fun | .bl b => some b | _ => none) with | some bs => .ok (.bl (bs.any id)) | none => .bad
  | _, _ => .bad
def mthD : Mth → D → List D → R D
  | .bitlen, .int i, [] => .ok (.int (Builtin.Int.intBits i : Nat))
  | _, _, _ => .bad
def negD : D → R D
  | .int i => .ok (.int (-i))
  | _ => .bad
/-- the built-in type's name -/
def tyD : D → Option String
  | .non => some "NoneType"
  | .bl _ => some "bool"
  | .int _ => some "int"
  | .str _ => some "str"
  | .tup _ => some "tuple"
  | .lst _ => some "list"
  | .scr _ => some "list"
  | .dic _ => some "dict"
  | .exc _ => none
def isT : String → String → Bool
  | "bool", "int" => true
  | a, b => a == b
def isiD (d : D) (cs : List String) : R D := match tyD d with
  | some t => .ok (.bl (cs.any (isT t)))
  | none => .bad
/-- the one class lies under the other (of the program's errors) -/
def subX (c k : String) : Bool := c == k || k == "LeashError"
def subY (c k : String) : Bool := k == "ValueError" || subX c k
def isxD (d : D) (cs : List String) : R D := match d with
  | .exc k => .ok (.bl (cs.any (subY k)))
  | d => match tyD d with
    | some _ => .ok (.bl false)
    | none => .bad
def rvlD : D → R D
  | .lst xs => .ok (.lst xs.reverse)
  | _ => .bad
def rngD : List D → R D
  | [.int j] => if -(2 ^ 62) ≤ j ∧ j < 2 ^ 62 then .ok (.lst ((List.range j.toNat).map fun (k : Nat) => D.int k)) else .bad
  | [.int i, .int j] => if -(2 ^ 62) ≤ i ∧ i < 2 ^ 62 ∧ -(2 ^ 62) ≤ j ∧ j < 2 ^ 62 then .ok (.lst ((List.range (j - i).toNat).map fun (k : Nat) => D.int (i + k))) else .bad
  | _ => .bad
def enumD (xs : List D) : List D := (List.range xs.length).zipWith (fun (k : Nat) x => .tup [.int k, x]) xs
def zipD (xs ys : List D) : List D := xs.zipWith (fun x y => .tup [x, y]) ys
/-! ### the slots -/
/-- a slot: empty, data that stands still, a list of one's own -/
inductive Sl where
  | n | v (d : D) | o (ds : List D)
abbrev En := List Sl
def getv (ρ : En) (i : Nat) : R D := match ρ[i]? with
  | some (.v d) => .ok d
  | _ => .bad
def getb (ρ : En) (i : Nat) : R D := match ρ[i]? with
  | some (.o ds) => .ok (.lst ds)
  | _ => .bad
mutual
def setT : Tg → D → En → R En
  | .nm i, d, ρ => match ρ[i]? with
    | some _ => .ok (ρ.set i (.v d))
    | none => .bad
  | .tp ts, .tup ds, ρ => setTs ts ds ρ
  | .tp ts, .lst ds, ρ => setTs ts ds ρ
  | .tp _, _, _ => .bad
def setTs : List Tg → List D → En → R En
  | [], [], ρ => .ok ρ
  | t :: ts, d :: ds, ρ => (setT t d ρ).bind (setTs ts ds)
  | _, _, _ => .bad
end
mutual
def slotsT : Tg → List Nat
  | .nm i => [i]
  | .tp ts => slotsTs ts
def slotsTs : List Tg → List Nat
  | [] => []
  | t :: ts => slotsT t ++ slotsTs ts
end
def notOwn (ρ : En) (i : Nat) : Bool := match ρ[i]? with
  | some (.o _) => false
  | _ => true
def wipeN (ρ : En) : List Nat → En
  | [] => ρ
  | v :: vs => (wipeN ρ vs).set v .n
def optI : D → R (Option Int)
  | .int i => .ok (some i)
  | _ => .bad
/-! ### expressions -/
def lcR (ds : List D) (cond elt : D → R D) : R (List D) := match ds with
  | [] => .ok []
  | d :: r => match cond d with
    | .ok c => match truD c with
      | some true => match elt d with
        | .ok y => (lcR r cond elt).bind fun ys => .ok (y :: ys)
        | _ => .bad
      | some false => lcR r cond elt
      | none => .bad
    | _ => .bad
def isNop : Ex → Bool
  | .nop => true
  | _ => false
mutual
def ev (ρ : En) : Ex → R D
  | .nop => .bad
  | .var i => getv ρ i
  | .bor i => getb ρ i
  | .lit d => .ok d
  | .glob _ d => .ok d
  | .tup xs => (evs ρ xs).bind fun ds => if ds.length ≤ 16777216 then .ok (.tup ds) else .bad
  | .lst xs => (evs ρ xs).bind fun ds => if ds.length ≤ 16777216 then .ok (.lst ds) else .bad
  | .bin op x y => (ev ρ x).bind fun a => (ev ρ y).bind fun b => binD op a b
  | .neg x => (ev ρ x).bind negD
  | .cmp op x y => (ev ρ x).bind fun a => (ev ρ y).bind fun b => cpD op a b
  | .chain op op' x y z => (ev ρ x).bind fun a => (ev ρ y).bind fun b => (cpD op a b).bind fun t => match t with
    | .bl true => (ev ρ z).bind fun c => cpD op' b c
    | .bl false => .ok (.bl false)
    | _ => .bad
  | .and xs => evAnd ρ xs
  | .or xs => evOr ρ xs
  | .not x => (ev ρ x).bind fun d => match truD d with | some b => .ok (.bl (!b)) | none => .bad
  | .ite c x y => (ev ρ c).bind fun d => match truD d with | some true => ev ρ x | some false => ev ρ y | none => .bad
  | .ix x i => (ev ρ x).bind fun a => (ev ρ i).bind fun b => ixD a b
  | .sl x lo hi => (ev ρ x).bind fun a => (if isNop lo then .ok none else (ev ρ lo).bind optI).bind fun l => (if isNop hi then .ok none else (ev ρ hi).bind optI).bind fun h => slD a l h
  | .call f fl xs => (evs ρ xs).bind fun ds => (f.run (ds ++ f.dfl)).bind fun d => if fl && !flat d then .bad else .ok d
  | .blt b xs => (evs ρ xs).bind fun ds => bltD b ds
  | .mth m x xs => (ev ρ x).bind fun d => (evs ρ xs).bind fun ds => mthD m d ds
  | .isi x cs => (ev ρ x).bind fun d => isiD d cs
  | .isx x cs => (ev ρ x).bind fun d => isxD d cs
  | .rvl x => (ev ρ x).bind rvlD
  | .lc elt tg it cond => ((ev ρ it).bind itemsOf).bind fun ds => if !(slotsT tg).all (notOwn ρ) then .bad else
      (lcR ds (fun d => if isNop cond then .ok (.bl true) else (setT tg d (wipeN ρ (slotsT tg))).bind fun ρ' => ev ρ' cond)
        (fun d => (setT tg d (wipeN ρ (slotsT tg))).bind fun ρ' => ev ρ' elt)).bind fun ys => if ys.length ≤ 16777216 then .ok (.lst ys) else .bad
  | .rng xs => (evs ρ xs).bind rngD
  | .enum x => (ev ρ x).bind fun d => (if lstOnly d then itemsOf d else .bad).bind fun ds => .ok (.lst (enumD ds))
  | .zip x y => (ev ρ x).bind fun d => (ev ρ y).bind fun d2 => if lstOnly d && lstOnly d2 then (itemsOf d).bind fun ds => (itemsOf d2).bind fun es => .ok (.lst (zipD ds es)) else .bad
  | .revd x => (ev ρ x).bind fun d => (if lstOnly d then itemsOf d else .bad).bind fun ds => .ok (.lst ds.reverse)
def evs (ρ : En) : List Ex → R (List D)
  | [] => .ok []
  | x :: xs => (ev ρ x).bind fun d => (evs ρ xs).bind fun ds => .ok (d :: ds)
def evAnd (ρ : En) : List Ex → R D
  | [] => .bad
  | [x] => ev ρ x
  | x :: y :: xs => (ev ρ x).bind fun d => match d with
    | .bl true => evAnd ρ (y :: xs)
    | .bl false => .ok (.bl false)
    | _ => .bad
def evOr (ρ : En) : List Ex → R D
  | [] => .bad
  | [x] => ev ρ x
  | x :: y :: xs => (ev ρ x).bind fun d => match d with
    | .bl true => .ok (.bl true)
    | .bl false => evOr ρ (y :: xs)
    | _ => .bad
end
/-- a test's outcome -/
def tst (ρ : En) (x : Ex) : R Bool := (ev ρ x).bind fun d => match truD d with
  | some b => .ok b
  | none => .bad
/-! ### statements -/
inductive O where
  | nx (ρ : En) | rt (d : D) | bk (ρ : En) | ct (ρ : En) | exc (c : String) (ρ : En) | bad
def O.of {α : Type} (ρ : En) (r : R α) (f : α → O) : O := match r with
  | .ok a => f a
  | .exc c => .exc c ρ
  | .bad => .bad
/-- at most n turns of a while -/
def wrun (t : En → R Bool) (b : En → O) : Nat → En → Option O
  | 0, _ => none
  | n + 1, ρ => match t ρ with
    | .ok true => match b ρ with
      | .nx ρ' => wrun t b n ρ'
      | .ct ρ' => wrun t b n ρ'
      | .bk ρ' => some (.nx ρ')
      | o => some o
    | .ok false => some (.nx ρ)
    | .exc c => some (.exc c ρ)
    | .bad => some .bad
open Classical in
noncomputable def whileO (t : En → R Bool) (b : En → O) (ρ : En) : O :=
  if h : ∃ (n : Nat) (o : O), wrun t b n ρ = some o then (Classical.choose_spec h).choose else .bad
def forO (b : D → En → O) : List D → En → O
  | [], ρ => .nx ρ
  | d :: ds, ρ => match b d ρ with
    | .nx ρ' => forO b ds ρ'
    | .ct ρ' => forO b ds ρ'
    | .bk ρ' => .nx ρ'
    | o => o
def ownL (ρ : En) (i : Nat) (f : List D → O) : O := match ρ[i]? with
  | some (.o ds) => f ds
  | _ => .bad
def setS (ρ : En) (i : Nat) (s : Sl) : O := if i < ρ.length then .nx (ρ.set i s) else .bad
/-- an except suite raises nothing -/
def noX : O → O
  | .exc _ _ => .bad
  | o => o
/-- the clause's name goes -/
def drO (i : Nat) : O → O
  | .nx ρ => if notOwn ρ i then .nx (ρ.set i .n) else .bad
  | .bk ρ => if notOwn ρ i then .bk (ρ.set i .n) else .bad
  | .ct ρ => if notOwn ρ i then .ct (ρ.set i .n) else .bad
  | o => o
def augD : Op → D → D → R D
  | .add, .int p, .int q => .ok (.int (p + q))
  | .sub, .int p, .int q => .ok (.int (p - q))
  | _, _, _ => .bad
mutual
noncomputable def exe (ρ : En) : St → O
  | .asg i own x => .of ρ (ev ρ x) fun d => if own then (match d with | .lst ds => setS ρ i (.o ds) | _ => .bad) else setS ρ i (.v d)
  | .unp ts x => .of ρ (ev ρ x) fun d => .of ρ (setT (.tp ts) d ρ) .nx
  | .par i j x y => .of ρ (ev ρ x) fun a => .of ρ (ev ρ y) fun b => if i < ρ.length ∧ j < ρ.length then .nx ((ρ.set i (.v a)).set j (.v b)) else .bad
  | .aug i op x => .of ρ (getv ρ i) fun a => .of ρ (ev ρ x) fun b => .of ρ (augD op a b) fun d => setS ρ i (.v d)
  | .ret x => .of ρ (ev ρ x) .rt
  | .retN => .rt .non
  | .exp x => .of ρ (ev ρ x) fun _ => .nx ρ
  | .app i x => ownL ρ i fun ds => .of ρ (ev ρ x) fun d => if ds.length < 16777216 then .nx (ρ.set i (.o (ds ++ [d]))) else .bad
  | .rev i => ownL ρ i fun ds => .nx (ρ.set i (.o ds.reverse))
  | .clr i => ownL ρ i fun _ => .nx (ρ.set i (.o []))
  | .ins _ _ _ => .bad
  | .popE _ _ => .bad
  | .sti i k x => .of ρ (ev ρ x) fun d => ownL ρ i fun ds => .of ρ (ev ρ k) fun kd => match kd with
    | .int k => match ixN ds.length k with
      | some j => .nx (ρ.set i (.o (ds.set j d)))
      | none => .bad
    | _ => .bad
  | .ife c a b => .of ρ (tst ρ c) fun t => if t then exs ρ a else exs ρ b
  | .whl c b => whileO (fun ρ => tst ρ c) (fun ρ => exs ρ b) ρ
  | .for t it b => .of ρ ((ev ρ it).bind itemsOf) fun ds => forO (fun d ρ => .of ρ (setT t d ρ) fun ρ' => exs ρ' b) ds ρ
  | .rai c => .exc c ρ
  | .tri b c h => match exs ρ b with
    | .exc k ρ' => if subX k c then noX (exs ρ' h) else .exc k ρ'
    | o => o
  | .tas b c i h => match exs ρ b with
    | .exc k ρ' => if subX k c then (if i < ρ'.length then drO i (noX (exs (ρ'.set i (.v (.exc k))) h)) else .bad) else .exc k ρ'
    | o => o
  | .par3 i j l x y z => .of ρ (ev ρ x) fun a => .of ρ (ev ρ y) fun b => .of ρ (ev ρ z) fun c => if i < ρ.length ∧ j < ρ.length ∧ l < ρ.length then .nx (((ρ.set i (.v a)).set j (.v b)).set l (.v c)) else .bad
  | .frz i => match ρ[i]? with
    | some (.o ds) => .nx (ρ.set i (.v (.lst ds)))
    | _ => .bad
  | .brk => .bk ρ
  | .cnt => .ct ρ
  | .pas => .nx ρ
noncomputable def exs (ρ : En) : List St → O
  | [] => .nx ρ
  | s :: ss => match exe ρ s with
    | .nx ρ' => exs ρ' ss
    | o => o
end
def O.end : O → R D
  | .nx _ => .ok .non
  | .rt d => .ok d
  | .exc c _ => .exc c
  | _ => .bad
/-- a def: how many slots, its body -/
noncomputable def defR (n k : Nat) (b : List St) (args : List D) : R D :=
  if args.length = k ∧ k ≤ n then (exs (args.map .v ++ List.replicate (n - k) .n) b).end else .bad
end OL
/-! How plain data lies in the heap, and what stays of that. -/
namespace OL
open PySem PySem.Spec PyProof.Rows L2
/-- a list that nobody changes: frozen, or the module's own -/
def ScA (K : PySem.W.Frag) (H : Hp) (a : Addr) (xs : List V) : Prop := (∃ o : Obj, H a = some (.frz o (.lst xs))) ∨
  ∃ (o : Obj) (its : Array Value) (n : Nat), K.lookup a = some o ∧ o.cls = .type "list" ∧ o.dict = none ∧ o.data = .seq its n ∧ its.size ≤ sizeLine ∧ Vals xs its.toList
theorem ScA.sq {K : PySem.W.Frag} {H : Hp} {a : Addr} {xs : List V} (h : ScA K H a xs) : SqL K H a xs := h.elim (fun ⟨o, e⟩ => .inl (.inr ⟨o, e⟩)) .inr
def isExc (k : String) : Bool := ["LeashError", "NoRatio", "NoLine", "NoPlace", "NoWay", "NoWalk", "NoFence", "NoSquare", "NoLines", "NoText", "NoName", "Twice", "TooMany", "NoRow", "NoDeed"].contains k
/-- an error's object, as isinstance wants it -/
def ErP (cls : Value) (a : Addr) (h : Heap) : Prop := ∃ (ob : Obj) (fs : Array Value), h.get? a = some ob ∧ Zc cls none ob ∧ ob.data = .fields fs
def KeO (cls : Value) (a : Addr) : HO := .ext (ErP cls a)
mutual
/-- the value v bears the data d in the heap H; its lists stand at addresses of Z -/
inductive Rp (K : PySem.W.Frag) (mg : Str → Option Value) (H : Hp) (Z : Addr → Prop) : D → V → Prop
  | non : Rp K mg H Z .non .non
  | bl (b : Bool) : Rp K mg H Z (.bl b) (.bl b)
  | int (i : Int) : Rp K mg H Z (.int i) (.int i)
  | str (x : Str) : Rp K mg H Z (.str x) (.str x)
  | tup {a : Addr} {xs : List V} {ds : List D} : SqT K H a xs → RpA K mg H Z ds xs → Rp K mg H Z (.tup ds) (.ref a)
  | lst {a : Addr} {xs : List V} {ds : List D} : H a = some (.lst xs) → Z a → RpA K mg H Z ds xs → Rp K mg H Z (.lst ds) (.ref a)
  | scr {a : Addr} {ns : List Int} : ScA K H a (ns.map V.int) → Rp K mg H Z (.scr ns) (.ref a)
  | dic {a : Addr} {kvs : List (Key × V)} {n : Nat} : H a = some (.dK kvs) → Z a → Rp K mg H Z (.dic n) (.ref a)
  | exc {a C : Addr} {c : String} {φ : Heap → Prop} : H a = some (.ext φ) → (∀ h, φ h → ErP (.ref C) a h) → mg (Str.ofString c) = some (.ref C) → OL.isExc c = true → Rp K mg H Z (.exc c) (.ref a)
inductive RpA (K : PySem.W.Frag) (mg : Str → Option Value) (H : Hp) (Z : Addr → Prop) : List D → List V → Prop
  | nil : RpA K mg H Z [] []
  | cons {d : D} {ds : List D} {v : V} {vs : List V} : Rp K mg H Z d v → RpA K mg H Z ds vs → RpA K mg H Z (d :: ds) (v :: vs)
end
/-- what may change in place -/
def mutO : HO → Bool
  | .lst _ => true
  | .dK _ => true
  | .dT _ => true
  | .ins _ _ _ => true
  | .set _ _ => true
  | _ => false
/-- what is not changed: all but what may change outside of Z -/
def Stay (H : Hp) (Z : Addr → Prop) (H' : Hp) : Prop := ∀ a o, H a = some o → (mutO o = true → Z a) → H' a = some o
theorem Stay.of_same {H H' : Hp} {Z : Addr → Prop} (h : Same H H') : Stay H Z H' := fun a o e _ => h a o e
theorem Stay.sqT {K : PySem.W.Frag} {H H' : Hp} {Z : Addr → Prop} {a : Addr} {xs : List V} (h : Stay H Z H') (s : SqT K H a xs) : SqT K H' a xs := by
  rcases s with (s | ⟨o, s⟩) | s
  · exact .inl (.inl (h _ _ s (fun z => by cases z)))
  · exact .inl (.inr ⟨o, h _ _ s (fun z => by cases z)⟩)
  · exact .inr s
theorem Stay.scA {K : PySem.W.Frag} {H H' : Hp} {Z : Addr → Prop} {a : Addr} {xs : List V} (h : Stay H Z H') (s : ScA K H a xs) : ScA K H' a xs := by
  rcases s with ⟨o, s⟩ | s
  · exact .inl ⟨o, h _ _ s (fun z => by cases z)⟩
  · exact .inr s
section
variable {K : PySem.W.Frag} {mg : Str → Option Value} {H H' : Hp} {Z Z' : Addr → Prop}
mutual
theorem Rp.mono (h : Stay H Z H') (hz : ∀ a o, H a = some o → Z a → Z' a) : ∀ {d : D} {v : V}, Rp K mg H Z d v → Rp K mg H' Z' d v
  | _, _, .non => .non
  | _, _, .bl b => .bl b
  | _, _, .int i => .int i
  | _, _, .str x => .str x
  | _, _, .tup s r => .tup (h.sqT s) (RpA.mono h hz r)
  | _, _, .lst e z r => .lst (h _ _ e fun _ => z) (hz _ _ e z) (RpA.mono h hz r)
  | _, _, .scr e => .scr (h.scA e)
  | _, _, .dic e z => .dic (h _ _ e fun _ => z) (hz _ _ e z)
  | _, _, .exc e f m k => .exc (h _ _ e (fun z => by cases z)) f m k
theorem RpA.mono (h : Stay H Z H') (hz : ∀ a o, H a = some o → Z a → Z' a) : ∀ {ds : List D} {vs : List V}, RpA K mg H Z ds vs → RpA K mg H' Z' ds vs
  | _, _, .nil => .nil
  | _, _, .cons r t => .cons (Rp.mono h hz r) (RpA.mono h hz t)
end
theorem Rp.same {d : D} {v : V} (r : Rp K mg H Z d v) (h : Same H H') : Rp K mg H' Z d v := r.mono (.of_same h) fun _ _ _ z => z
theorem RpA.same {ds : List D} {vs : List V} (r : RpA K mg H Z ds vs) (h : Same H H') : RpA K mg H' Z ds vs := r.mono (.of_same h) fun _ _ _ z => z
theorem Rp.weak {d : D} {v : V} (r : Rp K mg H Z d v) (hz : ∀ a o, H a = some o → Z a → Z' a) : Rp K mg H Z' d v := r.mono (.of_same (Same.refl _)) hz
theorem RpA.weak {ds : List D} {vs : List V} (r : RpA K mg H Z ds vs) (hz : ∀ a o, H a = some o → Z a → Z' a) : RpA K mg H Z' ds vs := r.mono (.of_same (Same.refl _)) hz
theorem RpA.length : ∀ {ds : List D} {vs : List V}, RpA K mg H Z ds vs → ds.length = vs.length
  | _, _, .nil => rfl
  | _, _, .cons _ t => congrArg (· + 1) (RpA.length t)
theorem RpA.get : ∀ {ds : List D} {vs : List V} {i : Nat} {d : D}, RpA K mg H Z ds vs → ds[i]? = some d → ∃ v, vs[i]? = some v ∧ Rp K mg H Z d v
  | _, _, _, _, .nil, e => by simp at e
  | _, _, 0, _, .cons r _, e => by simp at e; subst e; exact ⟨_, rfl, r⟩
  | _, _, i + 1, d, .cons _ t, e => by
    obtain ⟨v, h1, h2⟩ := RpA.get (i := i) (d := d) t (by simpa using e)
    exact ⟨v, by simpa using h1, h2⟩
theorem RpA.getV : ∀ {ds : List D} {vs : List V} {i : Nat} {v : V}, RpA K mg H Z ds vs → vs[i]? = some v → ∃ d, ds[i]? = some d ∧ Rp K mg H Z d v
  | _, _, _, _, .nil, e => by simp at e
  | _, _, 0, _, .cons r _, e => by simp at e; subst e; exact ⟨_, rfl, r⟩
  | _, _, i + 1, d, .cons _ t, e => by
    obtain ⟨v, h1, h2⟩ := RpA.getV (i := i) t (by simpa using e)
    exact ⟨v, by simpa using h1, h2⟩
theorem RpA.append : ∀ {ds es : List D} {vs us : List V}, RpA K mg H Z ds vs → RpA K mg H Z es us → RpA K mg H Z (ds ++ es) (vs ++ us)
  | _, _, _, _, .nil, s => s
  | _, _, _, _, .cons r t, s => .cons r (RpA.append t s)
theorem RpA.take : ∀ {ds : List D} {vs : List V} (n : Nat), RpA K mg H Z ds vs → RpA K mg H Z (ds.take n) (vs.take n)
  | _, _, 0, _ => .nil
  | _, _, _ + 1, .nil => .nil
  | _, _, n + 1, .cons r t => .cons r (RpA.take n t)
theorem RpA.drop : ∀ {ds : List D} {vs : List V} (n : Nat), RpA K mg H Z ds vs → RpA K mg H Z (ds.drop n) (vs.drop n)
  | _, _, 0, r => r
  | _, _, _ + 1, .nil => .nil
  | _, _, n + 1, .cons _ t => RpA.drop n t
theorem RpA.reverse {ds : List D} {vs : List V} (r : RpA K mg H Z ds vs) : RpA K mg H Z ds.reverse vs.reverse := by
  induction ds generalizing vs with
  | nil => cases r; exact .nil
  | cons d ds ih =>
    cases r with
    | cons a b =>
      rw [List.reverse_cons, List.reverse_cons]
      exact (ih b).append (.cons a .nil)
theorem RpA.set {d : D} {v : V} (r : Rp K mg H Z d v) : ∀ {ds : List D} {vs : List V} (i : Nat), RpA K mg H Z ds vs → RpA K mg H Z (ds.set i d) (vs.set i v)
  | _, _, _, .nil => .nil
  | _, _, 0, .cons _ t => .cons r t
  | _, _, i + 1, .cons q t => .cons q (RpA.set r i t)
theorem RpA.rep {ds : List D} {vs : List V} (r : RpA K mg H Z ds vs) : ∀ k : Nat, RpA K mg H Z (List.replicate k ds).flatten (List.replicate k vs).flatten
  | 0 => .nil
  | k + 1 => by
    rw [List.replicate_succ, List.replicate_succ, List.flatten_cons, List.flatten_cons]
    exact r.append (RpA.rep r k)
theorem RpA.ints : ∀ (ns : List Int), RpA K mg H Z (ns.map .int) (ns.map V.int)
  | [] => .nil
  | n :: ns => .cons (.int n) (RpA.ints ns)
theorem RpA.cut {ds : List D} {vs : List V} (r : RpA K mg H Z ds vs) (lo hi : Option Int) : RpA K mg H Z (cutD ds lo hi) (cutV vs lo hi) := by
  unfold cutD cutV
  rw [r.length]
  exact (r.drop _).take _
theorem RpA.atI {ds : List D} {vs : List V} {i : Int} {d : D} (r : RpA K mg H Z ds vs) (h : L2.atI ds i = some d) : ∃ v, L2.atI vs i = some v ∧ Rp K mg H Z d v := by
  unfold L2.atI at h ⊢
  rw [r.length] at h
  cases e : ixN vs.length i with
  | none => rw [e] at h; cases h
  | some j =>
    rw [e] at h
    exact r.get h
mutual
/-- data without lists stands whatever Z -/
theorem Rp.flat : ∀ {d : D} {v : V}, Rp K mg H Z d v → OL.flat d = true → Rp K mg H Z' d v
  | _, _, .non, _ => .non
  | _, _, .bl b, _ => .bl b
  | _, _, .int i, _ => .int i
  | _, _, .str x, _ => .str x
  | _, _, .tup s r, f => .tup s (RpA.flat r (by unfold OL.flat at f; exact f))
  | _, _, .lst _ _ _, f => by unfold OL.flat at f; cases f
  | _, _, .scr _, f => by unfold OL.flat at f; cases f
  | _, _, .dic _ _, f => by unfold OL.flat at f; cases f
  | _, _, .exc _ _ _ _, f => by unfold OL.flat at f; cases f
theorem RpA.flat : ∀ {ds : List D} {vs : List V}, RpA K mg H Z ds vs → OL.flatL ds = true → RpA K mg H Z' ds vs
  | _, _, .nil, _ => .nil
  | _, _, .cons r t, f => by
    unfold OL.flatL at f
    rw [Bool.and_eq_true] at f
    exact .cons (Rp.flat r f.1) (RpA.flat t f.2)
end
mutual
theorem Rp.dp : ∀ {d : D} {v : V}, Rp K mg H Z d v → PyData.canLay0 (toP d) = true → Dp K H v (toP d)
  | _, _, .non, _ => .non
  | _, _, .bl b, _ => .bl b
  | _, _, .int i, _ => .int i
  | _, _, .str x, _ => .str x
  | _, _, .tup s r, f => .tup s (RpA.dp r (by unfold toP PyData.canLay0 at f; exact f))
  | _, _, .lst e _ r, f => .lst (SqL.of e) (RpA.dp r (by unfold toP PyData.canLay0 at f; exact f))
  | _, _, .scr (ns := ns) e, f => by
    unfold toP
    refine .lst e.sq ?_
    induction ns with
    | nil => exact .nil
    | cons n ns ih => exact .cons (.int n) (scr_dp ns)
  | _, _, .dic _ _, f => by unfold toP PyData.canLay0 at f; cases f
  | _, _, .exc _ _ _ _, f => by unfold toP PyData.canLay0 at f; cases f
theorem RpA.dp : ∀ {ds : List D} {vs : List V}, RpA K mg H Z ds vs → PyData.canLayAll0 (toPL ds) = true → DpAll K H vs (toPL ds)
  | _, _, .nil, _ => by unfold toPL; exact .nil
  | _, _, .cons r t, f => by
    unfold toPL at f ⊢
    unfold PyData.canLayAll0 at f
    rw [Bool.and_eq_true] at f
    exact .cons (Rp.dp r f.1) (RpA.dp t f.2)
theorem scr_dp : ∀ (ns : List Int), DpAll K H (ns.map V.int) (ns.map PyData.int)
  | [] => .nil
  | n :: ns => .cons (.int n) (scr_dp ns)
end
end
end OL
/-! The slots of a frame against the small language's slots; readings of expressions. -/
namespace OL
open PySem PySem.Spec PyProof.Rows L2
/-- what a body stands on: the written part, the module's names, the heap at its entry, where lists may stand -/
structure Cn where
  K : PySem.W.Frag
  mg : Str → Option Value
  H0 : Hp
  Gp : Addr → Prop
abbrev Sg := List (Option V)
def own (σ : Sg) (ρ : En) (a : Addr) : Prop := ∃ (i : Nat) (ds : List D), ρ[i]? = some (.o ds) ∧ σ[i]? = some (some (V.ref a))
def Gd (c : Cn) (a : Addr) : Prop := c.Gp a
def Zf (c : Cn) (σ : Sg) (ρ : En) (a : Addr) : Prop := Gd c a ∧ ¬ own σ ρ a
structure ER (c : Cn) (H : Hp) (σ : Sg) (ρ : En) : Prop where
  len : σ.length = ρ.length
  sm : Same c.H0 H
  nw : ∀ p, H p = none → c.Gp p
  val : ∀ (i : Nat) (d : D), ρ[i]? = some (.v d) → ∃ v, σ[i]? = some (some v) ∧ Rp c.K c.mg H (Zf c σ ρ) d v
  lst : ∀ (i : Nat) (ds : List D), ρ[i]? = some (.o ds) → ∃ (a : Addr) (xs : List V), σ[i]? = some (some (V.ref a)) ∧ H a = some (.lst xs) ∧ (c.H0 a = none ∧ c.Gp a) ∧ RpA c.K c.mg H (Zf c σ ρ) ds xs
  uniq : ∀ (i j : Nat) (a : Addr) (ds es : List D), ρ[i]? = some (.o ds) → ρ[j]? = some (.o es) → σ[i]? = some (some (V.ref a)) → σ[j]? = some (some (V.ref a)) → i = j
section
variable {c : Cn} {H H' : Hp} {σ : Sg} {ρ : En}
theorem ER.same (h : ER c H σ ρ) (s : Same H H') : ER c H' σ ρ where
  len := h.len
  sm := h.sm.trans s
  nw := fun p hp => h.nw p (s.free hp)
  val := fun i d e => let ⟨v, e1, r⟩ := h.val i d e; ⟨v, e1, r.same s⟩
  lst := fun i ds e => let ⟨a, xs, e1, e2, e3, r⟩ := h.lst i ds e; ⟨a, xs, e1, s _ _ e2, e3, r.same s⟩
  uniq := h.uniq
theorem ER.newZ (h : ER c H σ ρ) {p : Addr} (hp : H p = none) : Zf c σ ρ p :=
  ⟨h.nw p hp, fun ⟨i, ds, e1, e2⟩ => by
    obtain ⟨a, xs, e3, e4, _⟩ := h.lst i ds e1
    rw [e2] at e3
    cases e3
    rw [hp] at e4
    cases e4⟩
end
/-- readable data: as above, or a list of one's own -/
inductive Rb (K : PySem.W.Frag) (mg : Str → Option Value) (H : Hp) (Z : Addr → Prop) : D → V → Prop
  | p {d : D} {v : V} : Rp K mg H Z d v → Rb K mg H Z d v
  | o {a : Addr} {xs : List V} {ds : List D} : H a = some (.lst xs) → RpA K mg H Z ds xs → Rb K mg H Z (.lst ds) (.ref a)
inductive RbA (K : PySem.W.Frag) (mg : Str → Option Value) (H : Hp) (Z : Addr → Prop) : List D → List V → Prop
  | nil : RbA K mg H Z [] []
  | cons {d : D} {ds : List D} {v : V} {vs : List V} : Rb K mg H Z d v → RbA K mg H Z ds vs → RbA K mg H Z (d :: ds) (v :: vs)
section
variable {K : PySem.W.Frag} {mg : Str → Option Value} {H H' : Hp} {Z Z' : Addr → Prop}
theorem Rb.same {d : D} {v : V} (r : Rb K mg H Z d v) (h : Same H H') : Rb K mg H' Z d v := by
  cases r with
  | p r => exact .p (r.same h)
  | o e r => exact .o (h _ _ e) (r.same h)
theorem RbA.same : ∀ {ds : List D} {vs : List V}, RbA K mg H Z ds vs → Same H H' → RbA K mg H' Z ds vs
  | _, _, .nil, _ => .nil
  | _, _, .cons r t, h => .cons (r.same h) (RbA.same t h)
theorem Rb.top {d : D} {v : V} (r : Rb K mg H Z d v) : Rp K mg H (fun _ => True) d v := by
  cases r with
  | p r => exact r.weak fun _ _ _ _ => trivial
  | o e r => exact .lst e trivial (r.weak fun _ _ _ _ => trivial)
theorem RbA.top : ∀ {ds : List D} {vs : List V}, RbA K mg H Z ds vs → RpA K mg H (fun _ => True) ds vs
  | _, _, .nil => .nil
  | _, _, .cons r t => .cons r.top (RbA.top t)
theorem RbA.of : ∀ {ds : List D} {vs : List V}, RpA K mg H Z ds vs → RbA K mg H Z ds vs
  | _, _, .nil => .nil
  | _, _, .cons r t => .cons (.p r) (RbA.of t)
/-- a readable list: its values -/
theorem Rb.lst {ds : List D} {v : V} (r : Rb K mg H Z (.lst ds) v) : ∃ a xs, v = .ref a ∧ H a = some (.lst xs) ∧ RpA K mg H Z ds xs := by
  cases r with
  | p r => cases r with | lst e _ r => exact ⟨_, _, rfl, e, r⟩
  | o e r => exact ⟨_, _, rfl, e, r⟩
theorem Rb.tup {ds : List D} {v : V} (r : Rb K mg H Z (.tup ds) v) : ∃ a xs, v = .ref a ∧ SqT K H a xs ∧ RpA K mg H Z ds xs := by
  cases r with | p r => cases r with | tup e r => exact ⟨_, _, rfl, e, r⟩
theorem Rb.int {i : Int} {v : V} (r : Rb K mg H Z (.int i) v) : v = .int i := by
  cases r with | p r => cases r; rfl
theorem Rb.str {i : Str} {v : V} (r : Rb K mg H Z (.str i) v) : v = .str i := by
  cases r with | p r => cases r; rfl
theorem Rb.bl {i : Bool} {v : V} (r : Rb K mg H Z (.bl i) v) : v = .bl i := by
  cases r with | p r => cases r; rfl
theorem Rb.non {v : V} (r : Rb K mg H Z .non v) : v = .non := by
  cases r with | p r => cases r; rfl
theorem Rb.scr {ns : List Int} {v : V} (r : Rb K mg H Z (.scr ns) v) : ∃ a, v = .ref a ∧ ScA K H a (ns.map V.int) := by
  cases r with | p r => cases r with | scr e => exact ⟨_, rfl, e⟩
theorem Rb.val {d : D} {v : V} (r : Rb K mg H Z d v) (s : scalD d = true) : v = valD d := by
  cases r with
  | p r => cases r <;> first | rfl | cases s
  | o _ _ => cases s
end
/-- not a list of one's own -/
def nb : Ex → Bool
  | .bor _ => false
  | _ => true
/-- hands back a new list, if a list at all -/
def frx : Ex → Bool
  | .lst _ => true
  | .lc .. => true
  | .sl .. => true
  | .blt .list _ => true
  | .bin .. => true
  | .rvl _ => true
  | .call f _ _ => f.fr
  | _ => false
/-- behind an expression -/
structure Po (c : Cn) (σ : Sg) (ρ : En) (x : Ex) (H H' : Hp) (d : D) (v : V) : Prop where
  same : Same H H'
  rb : Rb c.K c.mg H' (Zf c σ ρ) d v
  rp : nb x = true → Rp c.K c.mg H' (Zf c σ ρ) d v
  fr : frx x = true → ∀ ds, d = .lst ds → ∃ a xs, v = .ref a ∧ H a = none ∧ H' a = some (.lst xs) ∧ RpA c.K c.mg H' (fun b => Zf c σ ρ b ∧ b ≠ a) ds xs
structure PoA (c : Cn) (σ : Sg) (ρ : En) (xs : List Ex) (H H' : Hp) (ds : List D) (vs : List V) : Prop where
  same : Same H H'
  rb : RbA c.K c.mg H' (Zf c σ ρ) ds vs
  rp : xs.all nb = true → RpA c.K c.mg H' (Zf c σ ρ) ds vs
theorem Po.plain {c : Cn} {σ : Sg} {ρ : En} {x : Ex} {H H' : Hp} {d : D} {v : V} (s : Same H H') (r : Rp c.K c.mg H' (Zf c σ ρ) d v) (f : frx x = false) : Po c σ ρ x H H' d v :=
  ⟨s, .p r, fun _ => r, fun z => by rw [f] at z; cases z⟩
/-- an answer that is no list -/
theorem Po.noL {c : Cn} {σ : Sg} {ρ : En} {x : Ex} {H H' : Hp} {d : D} {v : V} (s : Same H H') (r : Rp c.K c.mg H' (Zf c σ ρ) d v) (f : ∀ ds, d ≠ .lst ds) : Po c σ ρ x H H' d v :=
  ⟨s, .p r, fun _ => r, fun _ ds z => absurd z (f ds)⟩
/-- a new list -/
theorem Po.newL {c : Cn} {σ : Sg} {ρ : En} {x : Ex} {H H1 : Hp} {ds : List D} {xs : List V} {p : Addr} (h : ER c H σ ρ) (s : Same H H1) (hp : H1 p = none) (r : RpA c.K c.mg H1 (Zf c σ ρ) ds xs) : Po c σ ρ x H (upd H1 p (.lst xs)) (.lst ds) (.ref p) := by
  have s1 : Same H1 (upd H1 p (.lst xs)) := fun b o e => by rw [upd_ne (ne_of_none e hp)]; exact e
  have z : Zf c σ ρ p := (h.same s).newZ hp
  have r1 : RpA c.K c.mg (upd H1 p (.lst xs)) (fun b => Zf c σ ρ b ∧ b ≠ p) ds xs := (r.mono (Z' := fun b => Zf c σ ρ b ∧ b ≠ p) (.of_same s1) fun a o e q => ⟨q, ne_of_none e hp⟩)
  have r2 : Rp c.K c.mg (upd H1 p (.lst xs)) (Zf c σ ρ) (.lst ds) (.ref p) := .lst upd_same z (r1.weak fun _ _ _ q => q.1)
  refine ⟨s.trans s1, .p r2, fun _ => r2, fun _ es e => ?_⟩
  cases e
  exact ⟨p, xs, rfl, s.free hp, upd_same, r1⟩
theorem same_upd {H : Hp} {p : Addr} {o : HO} (h : H p = none) : Same H (upd H p o) := fun b x e => by
  rw [upd_ne (ne_of_none e h)]
  exact e
/-- what is wished of an error of the class named k -/
def XW (c : Cn) (W : WX) (k : String) (σ : Sg) (H : Hp) : Prop := ∀ C, isExc k = true → c.mg (Str.ofString k) = some (.ref C) → W (.ref C) none σ H
def tX (c : Cn) (W : WX) (x : Ex) : TE := fun σ H Q => ∃ ρ, ER c H σ ρ ∧ (ev ρ x).all (fun d => ∀ v H', Po c σ ρ x H H' d v → Q v H') (fun k => ∀ H', Same H H' → XW c W k σ H')
def tA (c : Cn) (W : WX) (xs : List Ex) : TA := fun σ H Q => ∃ ρ, ER c H σ ρ ∧ (evs ρ xs).all (fun ds => ∀ vs H', PoA c σ ρ xs H H' ds vs → Q vs H') (fun k => ∀ H', Same H H' → XW c W k σ H')
def tT (c : Cn) (W : WX) (x : Ex) : TT := fun σ H Q => ∃ ρ, ER c H σ ρ ∧ (tst ρ x).all (fun b => ∀ H', Same H H' → Q b H') (fun k => ∀ H', Same H H' → XW c W k σ H')
theorem pe_imp {X : Cx} {e : Expr} {t t' : TE} (h : PE X e t) (i : ∀ σ H Q, t' σ H Q → t σ H Q) : PE X e t' := ⟨fun pins s σ H Q I q => h.run pins s σ H Q I (i σ H Q q)⟩
theorem pt_imp {X : Cx} {e : Expr} {t t' : TT} (h : PT X e t) (i : ∀ σ H Q, t' σ H Q → t σ H Q) : PT X e t' := ⟨fun pins s σ H Q I q => h.run pins s σ H Q I (i σ H Q q)⟩
theorem pa_imp {X : Cx} {e : List Expr} {t t' : TA} (h : PA X e t) (i : ∀ σ H Q, t' σ H Q → t σ H Q) : PA X e t' := ⟨fun pos pins s σ H Q I q => h.run pos pins s σ H Q I (i σ H Q q)⟩
theorem ps_imp {X : Cx} {e : Stmt} {t t' : TS} (h : PS X e t) (i : ∀ D σ H, t' D σ H → t D σ H) : PS X e t' := ⟨fun pins s σ H D I q => h.run pins s σ H D I (i D σ H q)⟩
theorem pss_imp {X : Cx} {e : List Stmt} {t t' : TS} (h : PSs X e t) (i : ∀ D σ H, t' D σ H → t D σ H) : PSs X e t' := ⟨fun pins s σ H D I q => h.run pins s σ H D I (i D σ H q)⟩
/-- the step of a sequence of parts: the first part, then what is wanted behind it -/
theorem tX_then {c : Cn} {W : WX} {x : Ex} {σ : Sg} {H : Hp} {ρ : En} {Q : VK} {β : Type} {f : D → R β} {p : β → Prop} (h : ER c H σ ρ)
    (q : ((ev ρ x).bind f).all p (fun k => ∀ H', Same H H' → XW c W k σ H'))
    (hk : ∀ d v H', ev ρ x = .ok d → Po c σ ρ x H H' d v → ER c H' σ ρ → (f d).all p (fun k => ∀ H'', Same H' H'' → XW c W k σ H'') → Q v H') : tX c W x σ H Q := by
  refine ⟨ρ, h, ?_⟩
  cases e : ev ρ x with
  | ok d =>
    rw [e] at q
    intro v H' po
    refine hk d v H' e po (h.same po.same) ?_
    have q' : (f d).all p (fun k => ∀ H', Same H H' → XW c W k σ H') := q
    cases e2 : f d with
    | ok b => rw [e2] at q'; exact q'
    | exc k => rw [e2] at q'; exact fun H'' s => q' H'' (po.same.trans s)
    | bad => rw [e2] at q'; exact q'.elim
  | exc k => rw [e] at q; exact q
  | bad => rw [e] at q; exact q.elim
theorem tA_then {c : Cn} {W : WX} {xs : List Ex} {σ : Sg} {H : Hp} {ρ : En} {Q : List V → Hp → Prop} {β : Type} {f : List D → R β} {p : β → Prop} (h : ER c H σ ρ)
    (q : ((evs ρ xs).bind f).all p (fun k => ∀ H', Same H H' → XW c W k σ H'))
    (hk : ∀ ds vs H', evs ρ xs = .ok ds → PoA c σ ρ xs H H' ds vs → ER c H' σ ρ → (f ds).all p (fun k => ∀ H'', Same H' H'' → XW c W k σ H'') → Q vs H') : tA c W xs σ H Q := by
  refine ⟨ρ, h, ?_⟩
  cases e : evs ρ xs with
  | ok d =>
    rw [e] at q
    intro v H' po
    refine hk d v H' e po (h.same po.same) ?_
    have q' : (f d).all p (fun k => ∀ H', Same H H' → XW c W k σ H') := q
    cases e2 : f d with
    | ok b => rw [e2] at q'; exact q'
    | exc k => rw [e2] at q'; exact fun H'' s => q' H'' (po.same.trans s)
    | bad => rw [e2] at q'; exact q'.elim
  | exc k => rw [e] at q; exact q
  | bad => rw [e] at q; exact q.elim
end OL
/-! The operations on values, by what they do to plain data. -/
namespace OL
open PySem PySem.Spec PyProof.Rows L2
/-- what an operation hands back of the heap H: a scalar, or a new list -/
inductive Nw (K : PySem.W.Frag) (mg : Str → Option Value) (H : Hp) (Z : Addr → Prop) : D → V → Hp → Prop
  | sc {d : D} : scalD d = true → Nw K mg H Z d (valD d) H
  | nl {p : Addr} {xs : List V} {ds : List D} : H p = none → RpA K mg H Z ds xs → Nw K mg H Z (.lst ds) (.ref p) (upd H p (.lst xs))
  | nt {p : Addr} {xs : List V} {ds : List D} : H p = none → RpA K mg H Z ds xs → Nw K mg H Z (.tup ds) (.ref p) (upd H p (.tup xs))
theorem rp_scal {K : PySem.W.Frag} {mg : Str → Option Value} {H : Hp} {Z : Addr → Prop} : ∀ {d : D}, scalD d = true → Rp K mg H Z d (valD d)
  | .non, _ => .non
  | .bl b, _ => .bl b
  | .int i, _ => .int i
  | .str x, _ => .str x
  | .tup _, h => by cases h
  | .lst _, h => by cases h
  | .scr _, h => by cases h
  | .dic _, h => by cases h
  | .exc _, h => by cases h
theorem Nw.po {c : Cn} {σ : Sg} {ρ : En} {x : Ex} {H H1 H' : Hp} {d : D} {v : V} (h : ER c H σ ρ) (s : Same H H1) (n : Nw c.K c.mg H1 (Zf c σ ρ) d v H') : Po c σ ρ x H H' d v := by
  cases n with
  | sc e => exact .noL s (rp_scal e) fun ds z => by rw [z] at e; cases e
  | nl hp r => exact .newL h s hp r
  | nt hp r =>
    exact .noL (s.trans (same_upd hp)) (.tup (SqT.of upd_same) (r.same (same_upd hp))) fun ds z => by cases z
def opOf : Op → Operator
  | .add => .Add | .sub => .Sub | .mul => .Mult | .div => .FloorDiv | .mod => .Mod | .pow => .Pow | .shl => .LShift | .shr => .RShift | .band => .BitAnd
def rBin (K : PySem.W.Frag) (mg : Str → Option Value) (op : Op) : R2 := fun x y H Q => ∃ (Z : Addr → Prop) (E : String → Prop) (a b : D), Rb K mg H Z a x ∧ Rb K mg H Z b y ∧
  (binD op a b).all (fun d => ∀ v H', Nw K mg H Z d v H' → Q v H') E
theorem line_eq : sizeLine = 16777216 := sizeLine_eq
section
variable {X : Cx}
theorem op_divG : OpR X (binaryOp .FloorDiv) (rI (fun _ j => j ≠ 0 ∧ j.natAbs.log2 < 9000) fun i j => .int (i.fdiv j)) :=
  opI fun _ _ _ _ _ _ _ hc q => floordiv_int hc.1 q (.inl (PyProof.noPylong_of_log2 hc.2))
theorem op_powW : OpR X (binaryOp .Pow) (rI (fun i j => 0 ≤ j ∧ (Builtin.Int.intBits i : Int) * j ≤ 134217728) fun i j => .int (i ^ j.toNat)) := opI fun _ _ _ _ _ _ _ hc q => pow_int hc.1 hc.2 q
theorem op_bin (op : Op) : OpR X (binaryOp (opOf op)) (rBin X.K X.mg op) := by
  intro pins s σ H x y v u Q I rx ry h
  obtain ⟨Z, E, a, b, ra, rb, h⟩ := h
  unfold binD at h
  split at h
  · cases ra.int; cases rb.int
    exact op_add pins s σ H _ _ v u Q I rx ry ⟨_, _, rfl, rfl, h _ _ (.sc rfl)⟩
  · cases ra.str; cases rb.str
    split at h
    · rename_i hl
      exact op_add_str pins s σ H _ _ v u Q I rx ry ⟨_, _, rfl, rfl, by rw [line_eq]; exact hl, h _ _ (.sc rfl)⟩
    · exact h.elim
  · split at h
    · rename_i hl
      obtain ⟨p, xs, rfl, e1, r1⟩ := ra.lst
      obtain ⟨q, ys, rfl, e2, r2⟩ := rb.lst
      exact op_cat pins s σ H _ _ v u Q I rx ry ⟨_, _, _, _, rfl, rfl, e1, e2, by rw [line_eq, ← r1.length, ← r2.length]; exact hl, fun n hn => h _ _ (.nl hn (r1.append r2))⟩
    · exact h.elim
  · cases ra.int; cases rb.int
    exact op_sub pins s σ H _ _ v u Q I rx ry ⟨_, _, rfl, rfl, h _ _ (.sc rfl)⟩
  · cases ra.int; cases rb.int
    split at h
    · rename_i hl
      unfold mulOk at hl
      have hl2 := of_decide_eq_true hl
      exact op_mulW pins s σ H _ _ v u Q I rx ry ⟨_, _, rfl, rfl, hl2, h _ _ (.sc rfl)⟩
    · exact h.elim
  · split at h
    · rename_i hl
      obtain ⟨p, xs, rfl, e1, r1⟩ := ra.lst
      cases rb.int
      exact op_rep pins s σ H _ _ v u Q I rx ry ⟨_, _, _, rfl, rfl, e1, by have := hl.1; omega, hl.2.1, by rw [line_eq, ← r1.length]; exact hl.2.2, fun n hn => h _ _ (.nl hn (r1.rep _))⟩
    · exact h.elim
  · cases ra.int; cases rb.int
    split at h
    · rename_i hl
      unfold divOk at hl
      rw [Bool.and_eq_true] at hl
      exact op_divG pins s σ H _ _ v u Q I rx ry ⟨_, _, rfl, rfl, ⟨of_decide_eq_true hl.1, of_decide_eq_true hl.2⟩, h _ _ (.sc rfl)⟩
    · exact h.elim
  · cases ra.int; cases rb.int
    split at h
    · rename_i hl
      exact op_modN pins s σ H _ _ v u Q I rx ry ⟨_, _, rfl, rfl, hl, h _ _ (.sc rfl)⟩
    · exact h.elim
  · cases ra.int; cases rb.int
    split at h
    · rename_i hl
      unfold pwOk at hl
      rw [Bool.and_eq_true] at hl
      exact op_powW pins s σ H _ _ v u Q I rx ry ⟨_, _, rfl, rfl, ⟨of_decide_eq_true hl.1, of_decide_eq_true hl.2⟩, h _ _ (.sc rfl)⟩
    · exact h.elim
  · cases ra.int; cases rb.int
    split at h
    · rename_i hl
      unfold powOk at hl
      rw [Bool.and_eq_true, Bool.and_eq_true] at hl
      exact op_shl pins s σ H _ _ v u Q I rx ry ⟨_, _, rfl, rfl, ⟨of_decide_eq_true hl.1.1, of_decide_eq_true hl.1.2, of_decide_eq_true hl.2⟩, h _ _ (.sc rfl)⟩
    · exact h.elim
  · cases ra.int; cases rb.int
    split at h
    · rename_i hl
      exact op_shr pins s σ H _ _ v u Q I rx ry ⟨_, _, rfl, rfl, hl, h _ _ (.sc rfl)⟩
    · exact h.elim
  · cases ra.int; cases rb.int
    exact op_and pins s σ H _ _ v u Q I rx ry ⟨_, _, rfl, rfl, h _ _ (.sc rfl)⟩
  · exact h.elim
def cpOf : Cp → CmpOp
  | .lt => .Lt | .le => .LtE | .gt => .Gt | .ge => .GtE | .eq => .Eq | .ne => .NotEq | .is => .Is | .isn => .IsNot | .inn => .In | .nin => .NotIn
def rCmp (K : PySem.W.Frag) (mg : Str → Option Value) (op : Cp) : R2 := fun x y H Q => ∃ (Z : Addr → Prop) (E : String → Prop) (a b : D), Rb K mg H Z a x ∧ Rb K mg H Z b y ∧
  (cpD op a b).all (fun d => ∀ v H', Nw K mg H Z d v H' → Q v H') E
theorem flat_val : ∀ {d : D}, scalD d = true → flatV (valD d) = true
  | .non, _ => rfl
  | .bl b, _ => rfl
  | .int i, _ => rfl
  | .str x, _ => rfl
  | .tup _, h => by cases h
  | .lst _, h => by cases h
  | .scr _, h => by cases h
  | .dic _, h => by cases h
  | .exc _, h => by cases h
theorem RpA.vals {K : PySem.W.Frag} {mg : Str → Option Value} {H : Hp} {Z : Addr → Prop} : ∀ {ds : List D} {vs : List V}, RpA K mg H Z ds vs → ds.all scalD = true → vs = ds.map valD
  | _, _, .nil, _ => rfl
  | _, _, .cons r t, h => by
    rw [List.all_cons, Bool.and_eq_true] at h
    rw [List.map_cons, ← RpA.vals t h.2, ← (Rb.p r).val h.1]
theorem all_flat : ∀ {ds : List D}, ds.all scalD = true → (ds.map valD).all flatV = true
  | [], _ => rfl
  | d :: ds, h => by
    rw [List.all_cons, Bool.and_eq_true] at h
    rw [List.map_cons, List.all_cons, flat_val h.1, all_flat h.2]
    rfl
theorem inV_map (x : D) (ds : List D) : inV (valD x) (ds.map valD) = inD x ds := by
  unfold inV inD
  rw [List.any_map]
  rfl
theorem lay_of {d : D} (h : shp d = true) : PyData.canLay0 (toP d) = true := SeqAt.canLay_of_shaped h
theorem Rb.dp {K : PySem.W.Frag} {mg : Str → Option Value} {H : Hp} {Z : Addr → Prop} {d : D} {v : V} (r : Rb K mg H Z d v) (h : shp d = true) : Dp K H v (toP d) := r.top.dp (lay_of h)
theorem op_cmp (hu : X.A.units + 65 < cLine) (op : Cp) : OpR X (compareOp (cpOf op)) (rCmp X.K X.mg op) := by
  intro pins s σ H x y v u Q I rx ry h
  obtain ⟨Z, E, a, b, ra, rb, h⟩ := h
  have isN : ∀ {a : D} {x : V} {k : Bool}, Rb X.K X.mg H Z a x → RelV x v → Q (.bl k) H → (decide (x = V.non) = k) → wpAny (model X.prog X.w) X.A (compareOp .Is v u) (EP X pins σ Q) X.xe s ∨ True := fun _ _ _ _ => .inr trivial
  unfold cpD at h
  split at h
  · cases ra.int; cases rb.int
    exact op_lt pins s σ H _ _ v u Q I rx ry ⟨_, _, rfl, rfl, h _ _ (.sc rfl)⟩
  · cases ra.int; cases rb.int
    exact op_le pins s σ H _ _ v u Q I rx ry ⟨_, _, rfl, rfl, h _ _ (.sc rfl)⟩
  · cases ra.int; cases rb.int
    exact op_gt pins s σ H _ _ v u Q I rx ry ⟨_, _, rfl, rfl, h _ _ (.sc rfl)⟩
  · cases ra.int; cases rb.int
    exact op_ge pins s σ H _ _ v u Q I rx ry ⟨_, _, rfl, rfl, h _ _ (.sc rfl)⟩
  · split at h
    · rename_i hs
      rw [Bool.and_eq_true] at hs
      exact op_eqD (by omega) pins s σ H _ _ v u Q I rx ry ⟨_, _, ra.dp hs.1, rb.dp hs.2, hs.1, hs.2, h _ _ (.sc rfl)⟩
    · exact h.elim
  · split at h
    · rename_i hs
      rw [Bool.and_eq_true] at hs
      exact op_neD (by omega) pins s σ H _ _ v u Q I rx ry ⟨_, _, ra.dp hs.1, rb.dp hs.2, hs.1, hs.2, h _ _ (.sc rfl)⟩
    · exact h.elim
  · cases ra.bl; cases rb.bl
    exact op_isBl pins s σ H _ _ v u Q I rx ry ⟨_, _, rfl, rfl, h _ _ (.sc rfl)⟩
  · cases ra.bl; cases rb.bl
    exact op_notBl pins s σ H _ _ v u Q I rx ry ⟨_, _, rfl, rfl, h _ _ (.sc rfl)⟩
  · cases ra.non; cases rb.non
    exact op_isN pins s σ H _ _ v u Q I rx ry ⟨rfl, h _ _ (.sc rfl)⟩
  · cases ra.bl; cases rb.non
    exact op_isN pins s σ H _ _ v u Q I rx ry ⟨rfl, h _ _ (.sc rfl)⟩
  · cases ra.int; cases rb.non
    exact op_isN pins s σ H _ _ v u Q I rx ry ⟨rfl, h _ _ (.sc rfl)⟩
  · cases ra.str; cases rb.non
    exact op_isN pins s σ H _ _ v u Q I rx ry ⟨rfl, h _ _ (.sc rfl)⟩
  · obtain ⟨p, xs, rfl, _⟩ := ra.tup; cases rb.non
    exact op_isN pins s σ H _ _ v u Q I rx ry ⟨rfl, h _ _ (.sc rfl)⟩
  · obtain ⟨p, xs, rfl, _⟩ := ra.lst; cases rb.non
    exact op_isN pins s σ H _ _ v u Q I rx ry ⟨rfl, h _ _ (.sc rfl)⟩
  · cases ra.non; cases rb.non
    exact op_notN pins s σ H _ _ v u Q I rx ry ⟨rfl, h _ _ (.sc rfl)⟩
  · cases ra.bl; cases rb.non
    exact op_notN pins s σ H _ _ v u Q I rx ry ⟨rfl, h _ _ (.sc rfl)⟩
  · cases ra.int; cases rb.non
    exact op_notN pins s σ H _ _ v u Q I rx ry ⟨rfl, h _ _ (.sc rfl)⟩
  · cases ra.str; cases rb.non
    exact op_notN pins s σ H _ _ v u Q I rx ry ⟨rfl, h _ _ (.sc rfl)⟩
  · obtain ⟨p, xs, rfl, _⟩ := ra.tup; cases rb.non
    exact op_notN pins s σ H _ _ v u Q I rx ry ⟨rfl, h _ _ (.sc rfl)⟩
  · obtain ⟨p, xs, rfl, _⟩ := ra.lst; cases rb.non
    exact op_notN pins s σ H _ _ v u Q I rx ry ⟨rfl, h _ _ (.sc rfl)⟩
  · cases ra.str; cases rb.str
    exact op_in_str pins s σ H _ _ v u Q I rx ry ⟨_, _, rfl, rfl, h _ _ (.sc rfl)⟩
  · cases ra.str; cases rb.str
    exact op_notin_str pins s σ H _ _ v u Q I rx ry ⟨_, _, rfl, rfl, h _ _ (.sc rfl)⟩
  · obtain ⟨p, ys, rfl, e, r⟩ := rb.tup
    split at h
    · rename_i hs
      rw [Bool.and_eq_true] at hs
      cases ra.val hs.1
      cases r.vals hs.2
      exact op_in_seq pins s σ H _ _ v u Q I rx ry ⟨_, _, rfl, .inr e, flat_val hs.1, all_flat hs.2, by rw [inV_map]; exact h _ _ (.sc rfl)⟩
    · exact h.elim
  · obtain ⟨p, ys, rfl, e, r⟩ := rb.tup
    split at h
    · rename_i hs
      rw [Bool.and_eq_true] at hs
      cases ra.val hs.1
      cases r.vals hs.2
      exact op_notIn_seq pins s σ H _ _ v u Q I rx ry ⟨_, _, rfl, .inr e, flat_val hs.1, all_flat hs.2, by rw [inV_map]; exact h _ _ (.sc rfl)⟩
    · exact h.elim
  · split at h
    · rename_i hs
      obtain ⟨p, ys, rfl, e, r⟩ := rb.lst
      rw [Bool.and_eq_true] at hs
      cases ra.val hs.1
      cases r.vals hs.2
      exact op_in_seq pins s σ H _ _ v u Q I rx ry ⟨_, _, rfl, .inl (SqL.of e), flat_val hs.1, all_flat hs.2, by rw [inV_map]; exact h _ _ (.sc rfl)⟩
    · split at h
      · rename_i hs
        rw [Bool.and_eq_true] at hs
        have r2 := rb.dp hs.2
        have s2 := hs.2
        unfold shp at s2
        unfold toP at r2 s2
        exact op_inD hu pins s σ H _ _ v u Q I rx ry ⟨_, _, ra.dp hs.1, r2, hs.1, s2, h _ _ (.sc rfl)⟩
      · exact h.elim
  · split at h
    · rename_i hs
      obtain ⟨p, ys, rfl, e, r⟩ := rb.lst
      rw [Bool.and_eq_true] at hs
      cases ra.val hs.1
      cases r.vals hs.2
      exact op_notIn_seq pins s σ H _ _ v u Q I rx ry ⟨_, _, rfl, .inl (SqL.of e), flat_val hs.1, all_flat hs.2, by rw [inV_map]; exact h _ _ (.sc rfl)⟩
    · split at h
      · rename_i hs
        rw [Bool.and_eq_true] at hs
        have r2 := rb.dp hs.2
        have s2 := hs.2
        unfold shp at s2
        unfold toP at r2 s2
        exact op_notInD hu pins s σ H _ _ v u Q I rx ry ⟨_, _, ra.dp hs.1, r2, hs.1, s2, h _ _ (.sc rfl)⟩
      · exact h.elim
  · exact h.elim
end
end OL
/-! Which text of the small language a text of the program is; what a body may lean on. -/
namespace OL
open PySem PySem.Spec PyProof.Rows L2
def visB (sc : Scope) (x : Str) : Bool := match sc.names.lookup x with
  | some .local => true
  | some .cell => true
  | some .free => true
  | _ => false
def glB (sc : Scope) (x : Str) : Bool := match sc.names.lookup x with
  | some .globalImplicit => true
  | _ => false
def dbg (x : Str) : Bool := !(x == ("__debug__" : Str)) && !(x == ("__classdict__" : Str)) && !(x == ("__name__" : Str))
def litOk : D → Const → Bool
  | .non, .none => true
  | .bl a, .bool b => a == b
  | .int i, .int j => decide (i = j)
  | .str x, .str y => decide (x = y)
  | _, _ => false
def noSlice : Expr → Bool
  | .Slice .. => false
  | _ => true
def noStar : Expr → Bool
  | .Starred .. => false
  | _ => true
def bltName : Blt → Str
  | .len => "len" | .abs => "abs" | .max => "max" | .min => "min" | .int => "int" | .str => "str" | .list => "list" | .tuple => "tuple" | .all => "all" | .any => "any" | .bool => "bool"
def tyName : String → Bool
  | "int" => true | "bool" => true | "str" => true | "list" => true | "tuple" => true | "dict" => true
  | _ => false
def ckTy (sc : Scope) : List String → List Expr → Bool
  | [], [] => true
  | c :: cs, .Name x _ :: es => x == Str.ofString c && tyName c && glB sc x && noStar (.Name x ⟨0, 0, 0, 0⟩) && ckTy sc cs es
  | _, _ => false
def ckTys (sc : Scope) : List String → Expr → Bool
  | [c], .Name x _ => x == Str.ofString c && tyName c && glB sc x
  | c :: d :: cs, .Tuple es _ _ => decide (cs.length ≤ 100) && ckTy sc (c :: d :: cs) es
  | _, _ => false
/-- classes of errors -/
def ckXs (sc : Scope) : List String → List Expr → Bool
  | [], [] => true
  | c :: cs, .Name x _ :: es => x == Str.ofString c && (c == "ValueError" || isExc c) && glB sc x && dbg x && noStar (.Name x ⟨0, 0, 0, 0⟩) && ckXs sc cs es
  | _, _ => false
def ckX (sc : Scope) : List String → Expr → Bool
  | [c], .Name x _ => x == Str.ofString c && (c == "ValueError" || isExc c) && glB sc x && dbg x
  | c :: d :: cs, .Tuple es _ _ => decide (cs.length ≤ 100) && ckXs sc (c :: d :: cs) es
  | _, _ => false
mutual
def ckG (N : List Str) (cel : Bool) (sc : Scope) : Tg → Expr → Bool
  | .nm i, .Name x _ => decide (N[i]? = some x) && (match sc.names.lookup x with | some .local => true | some .cell => cel | _ => false)
  | .tp ts, .Tuple es _ _ => ckGs N cel sc ts es
  | _, _ => false
def ckGs (N : List Str) (cel : Bool) (sc : Scope) : List Tg → List Expr → Bool
  | [], [] => true
  | t :: ts, e :: es => ckG N cel sc t e && noStar e && ckGs N cel sc ts es
  | _, _ => false
end
def isTup : Expr → Bool
  | .Tuple .. => true
  | _ => false
/- the names of a target with their slots -/
mutual
def ownT : Tg → Expr → List (Str × Nat)
  | .nm i, .Name x _ => [(x, i)]
  | .tp ts, .Tuple es _ _ => ownTs ts es
  | _, _ => []
def ownTs : List Tg → List Expr → List (Str × Nat)
  | t :: ts, e :: es => ownT t e ++ ownTs ts es
  | _, _ => []
end
/-- a plain iterable: no call of the walked kinds -/
def ckIt : Ex → Bool
  | .rng _ => true
  | .enum _ => true
  | .zip _ _ => true
  | .revd _ => true
  | _ => false
def optC (nop : Bool) (o : Option Expr) (f : Expr → Bool) : Bool := match nop, o with
  | true, none => true
  | true, some _ => false
  | false, some e => f e
  | false, none => false
def cdC (nop : Bool) (o : List Expr) (f : Expr → Bool) : Bool := match nop, o with
  | true, [] => true
  | true, _ :: _ => false
  | false, [e] => f e
  | false, _ => false
mutual
def ck (N : List Str) : Ex → Scope → Expr → Bool
  | .var i, sc, .Name x _ => decide (N[i]? = some x) && visB sc x && dbg x
  | .bor i, sc, .Name x _ => decide (N[i]? = some x) && visB sc x && dbg x
  | .lit d, _, .Constant k _ _ => litOk d k
  | .glob n d, sc, .Name x _ => x == Str.ofString n && glB sc x && dbg x
  | .tup xs, sc, .Tuple es _ _ => ckL N xs sc es && xs.all nb
  | .lst xs, sc, .List es _ => ckL N xs sc es && xs.all nb
  | .bin op x y, sc, .BinOp a o b _ => decide (o = opOf op) && ck N x sc a && ck N y sc b
  | .neg x, sc, .UnaryOp o a _ => decide (o = .USub) && ck N x sc a
  | .cmp op x y, sc, .Compare a [o] [b] _ => decide (o = cpOf op) && !(behindInMarks o b) && ck N x sc a && ck N y sc b
  | .chain op op' x y z, sc, .Compare a [o, o'] [b, e] _ => decide (o = cpOf op) && decide (o' = cpOf op') && !(lastMarks [o, o'] [b, e]) && ck N x sc a && ck N y sc b && ck N z sc e
  | .and xs, sc, .BoolOp o es _ => decide (o = .And) && ckL N xs sc es && !xs.isEmpty && xs.all nb
  | .or xs, sc, .BoolOp o es _ => decide (o = .Or) && ckL N xs sc es && !xs.isEmpty && xs.all nb
  | .not x, sc, .UnaryOp o a _ => decide (o = .Not) && ck N x sc a
  | .ite t x y, sc, .IfExp e a b _ => ck N t sc e && ck N x sc a && ck N y sc b && nb x && nb y
  | .ix x i, sc, .Subscript a b _ => noSlice b && ck N x sc a && ck N i sc b
  | .sl x lo hi, sc, .Subscript a (.Slice l h none _) _ => ck N x sc a && optC (isNop lo) l (fun e => ck N lo sc e) && optC (isNop hi) h (fun e => ck N hi sc e)
  | .call f fl xs, sc, .Call (.Name x _) es [] _ => x == Str.ofString f.name && glB sc x && dbg x && ckL N xs sc es && !xs.isEmpty && (fl || xs.all nb)
  | .blt b xs, sc, .Call (.Name x _) es [] _ => x == bltName b && glB sc x && ckL N xs sc es && !xs.isEmpty
  | .mth .bitlen x [], sc, .Call (.Attribute o a ap) [] [] p => a == ("bit_length" : Str) && (ap.endLine == p.line) && ck N x sc o
  | .isi x cs, sc, .Call (.Name f _) [a, t] [] _ => f == ("isinstance" : Str) && glB sc f && noStar a && noStar t && ck N x sc a && ckTys sc cs t
  | .isx x cs, sc, .Call (.Name f _) [a, t] [] _ => f == ("isinstance" : Str) && glB sc f && noStar a && noStar t && ck N x sc a && ckX sc cs t
  | .rvl x, sc, .Subscript a (.Slice none none (some (.UnaryOp .USub (.Constant (.int 1) _ _) _)) _) _ => ck N x sc a
  | .lc elt tg it cond, sc, .ListComp e [⟨t, i, ifs, n⟩] scope _ => decide (n = 0) && blkC N sc scope (ownT tg t) && ckG N false (relS scope sc) tg t && ck N elt (relS scope sc) e && cdC (isNop cond) ifs (fun e => ck N cond (relS scope sc) e) && nb elt &&
      decide ((ownT tg t).map (·.2) = slotsT tg) && (match ckIt it with | true => ckJ N it sc i (isTup t) | false => ck N it sc i && nb it) && !(match i with | .Set .. => true | _ => false)
  | _, _, _ => false
def ckL (N : List Str) : List Ex → Scope → List Expr → Bool
  | [], _, [] => true
  | x :: xs, sc, e :: es => ck N x sc e && noStar e && ckL N xs sc es
  | _, _, _ => false
/-- what is walked; tup: the target is a written tuple -/
def ckJ (N : List Str) : Ex → Scope → Expr → Bool → Bool
  | .rng [x], sc, .Call (.Name f _) [a] [] _, _ => f == ("range" : Str) && glB sc f && noStar a && ck N x sc a
  | .rng [x, y], sc, .Call (.Name f _) [a, b] [] _, _ => f == ("range" : Str) && glB sc f && noStar a && noStar b && ck N x sc a && ck N y sc b
  | .enum x, sc, .Call (.Name f _) [a] [] _, tup => tup && f == ("enumerate" : Str) && glB sc f && noStar a && ck N x sc a && nb x
  | .zip x y, sc, .Call (.Name f _) [a, b] [] _, tup => tup && f == ("zip" : Str) && glB sc f && noStar a && noStar b && ck N x sc a && ck N y sc b && nb x && nb y
  | .revd x, sc, .Call (.Name f _) [a] [] _, _ => f == ("reversed" : Str) && glB sc f && noStar a && ck N x sc a && nb x
  | _, _, _, _ => false
end
def ckO (N : List Str) (x : Ex) (sc : Scope) (o : Option Expr) : Bool := optC (isNop x) o (ck N x sc)
def ckCd (N : List Str) (x : Ex) (sc : Scope) (es : List Expr) : Bool := cdC (isNop x) es (ck N x sc)
def ckI (N : List Str) (it : Ex) (sc : Scope) (i : Expr) (tup : Bool) : Bool := match ckIt it with | true => ckJ N it sc i tup | false => ck N it sc i && nb it
mutual
/-- may stand in an except suite -/
def hotOk : Ex → Bool
  | .nop => true
  | .var _ => true
  | .bor _ => true
  | .lit _ => true
  | .glob _ _ => true
  | .tup xs => hotOkL xs
  | .lst xs => hotOkL xs
  | .bin _ x y => hotOk x && hotOk y
  | .neg x => hotOk x
  | .cmp _ x y => hotOk x && hotOk y
  | .chain _ _ x y z => hotOk x && hotOk y && hotOk z
  | .and xs => hotOkL xs
  | .or xs => hotOkL xs
  | .not x => hotOk x
  | .ix x i => hotOk x && hotOk i
  | .isx x _ => hotOk x
  | _ => false
def hotOkL : List Ex → Bool
  | [] => true
  | x :: xs => hotOk x && hotOkL xs
end
def isE : D → Bool
  | .exc _ => true
  | _ => false
mutual
/-- the defs and constants that it leans on -/
def cal (tb : Fn → Prop) (tg : String → D → Prop) : Ex → Prop
  | .glob n d => tg n d ∧ isE d = false
  | .tup xs => calL tb tg xs
  | .lst xs => calL tb tg xs
  | .bin _ x y => cal tb tg x ∧ cal tb tg y
  | .neg x => cal tb tg x
  | .cmp _ x y => cal tb tg x ∧ cal tb tg y
  | .chain _ _ x y z => cal tb tg x ∧ cal tb tg y ∧ cal tb tg z
  | .and xs => calL tb tg xs
  | .or xs => calL tb tg xs
  | .not x => cal tb tg x
  | .ite c x y => cal tb tg c ∧ cal tb tg x ∧ cal tb tg y
  | .ix x i => cal tb tg x ∧ cal tb tg i
  | .sl x lo hi => cal tb tg x ∧ cal tb tg lo ∧ cal tb tg hi
  | .call f _ xs => tb f ∧ calL tb tg xs
  | .blt _ xs => calL tb tg xs
  | .mth _ x xs => cal tb tg x ∧ calL tb tg xs
  | .isi x _ => cal tb tg x
  | .isx x cs => cal tb tg x ∧ ∀ k ∈ cs, k = "ValueError" ∨ tg k (.exc k)
  | .rvl x => cal tb tg x
  | .lc elt _ it cond => cal tb tg elt ∧ cal tb tg it ∧ cal tb tg cond
  | .rng xs => calL tb tg xs
  | .enum x => cal tb tg x
  | .zip x y => cal tb tg x ∧ cal tb tg y
  | .revd x => cal tb tg x
  | _ => True
def calL (tb : Fn → Prop) (tg : String → D → Prop) : List Ex → Prop
  | [] => True
  | x :: xs => cal tb tg x ∧ calL tb tg xs
end
/-- a def's promise: it does to plain data what F says -/
def spF (K : PySem.W.Frag) (mg : Str → Option Value) (F : List D → R D) (fr : Bool) (n : Nat) : Sp := fun vs H Q E => vs.length = n ∧ ∃ (Z : Addr → Prop) (ds : List D), RpA K mg H Z ds vs ∧
  (F ds).all (fun d => ∀ v H', Same H H' → Rp K mg H' (fun a => Z a ∨ H a = none) d v →
      (fr = true → ∀ es, d = .lst es → ∃ a xs, v = .ref a ∧ H a = none ∧ H' a = some (.lst xs) ∧ RpA K mg H' (fun b => (Z b ∨ H b = none) ∧ b ≠ a) es xs) → Q v H')
    (fun k => ∀ C H', isExc k = true → mg (Str.ofString k) = some (.ref C) → Same H H' → E (.ref C) none H')
structure CallOk (X : Cx) (f : Fn) : Prop where
  ex : ∃ (k : Nat) (fa : Addr) (fd : FuncData) (ps : List Str) (ds : List Value), FnOk X.prog X.w X.K X.mg X.base (L2.CX X.prog X.w) k fa fd ps (spF X.K X.mg f.run f.fr ps.length) ∧ Room k X.A ∧
    X.mg (Str.ofString f.name) = some (.ref fa) ∧ PySem.W.keepIn X.K (.ref fa) = true ∧ Binds X.K fd ps ds ∧ Vals (f.dfl.map valD) ds ∧ ∀ zs, f.run zs ≠ .bad → zs.length = ps.length
  dfl : f.dfl.all scalD = true
def othN : List Str := ["ValueError", "isinstance", "range", "enumerate", "zip", "reversed", "int", "bool", "str", "list", "tuple", "dict"]
/-- the errors' classes, as isinstance asks them -/
structure XKit (K : PySem.W.Frag) (mg : Str → Option Value) : Prop where
  ec : ∀ k C, isExc k = true → mg (Str.ofString k) = some (.ref C) → ExcC K C
  kk : ∀ k k' C C', isExc k = true → isExc k' = true → mg (Str.ofString k) = some (.ref C) → mg (Str.ofString k') = some (.ref C') → PySem.W.kitOne K (.ref C) (.ref C') = some (subX k k')
  kv : ∀ k C, isExc k = true → mg (Str.ofString k) = some (.ref C) → PySem.W.kitOne K (.ref C) (.type "ValueError") = some true
  kn : ∀ t ∈ ["NoneType", "bool", "int", "str", "tuple", "list", "dict"], ∀ k C, isExc k = true → mg (Str.ofString k) = some (.ref C) → PySem.W.kitOne K (.type t) (.ref C) = some false
structure Good (tb : Fn → Prop) (tg : String → D → Prop) (X : Cx) (hot : Bool) : Prop where
  nd : X.N.Nodup
  un : X.A.units + 65 < cLine
  calm : hot = false → X.calm = true
  calls : hot = false → ∀ f, tb f → CallOk X f
  blt : ∀ b : Blt, X.mg (bltName b) = none
  oth : ∀ x ∈ othN, X.mg x = none
  xk : XKit X.K X.mg
  gle : ∀ n m, tg n (.exc m) → ∃ C, X.mg (Str.ofString n) = some (.ref C)
  glb : ∀ n d, tg n d → isE d = false → ∃ u v, X.mg (Str.ofString n) = some u ∧ RelV v u ∧ ∀ H Z, Rp X.K X.mg H Z d v
abbrev cn (X : Cx) (H0 : Hp) (Gp : Addr → Prop) : Cn := ⟨X.K, X.mg, H0, Gp⟩
/-! ### reading the checks off -/
theorem vis_of {sc : Scope} {x : Str} (h : visB sc x = true) : Vis sc x := by
  unfold visB at h
  split at h
  · exact .inl (by assumption)
  · exact .inr (.inl (by assumption))
  · exact .inr (.inr (by assumption))
  · cases h
theorem gl_of {X : Cx} {x : Str} (h : glB X.env.scope x = true) : Gl X x := by
  unfold glB at h
  split at h
  · assumption
  · cases h
theorem dbg_of {x : Str} (h : dbg x = true) : (x == ("__debug__" : Str)) = false ∧ (x == ("__classdict__" : Str)) = false ∧ x ≠ "__name__" := by
  unfold dbg at h
  simp only [Bool.and_eq_true, Bool.not_eq_true'] at h
  exact ⟨h.1.1, h.1.2, by simpa using h.2⟩
theorem star_of {e : Expr} (h : noStar e = true) (es : List Expr) (env : Env) : starEach (e :: es) env = (false, eval e env) :: starEach es env := by
  cases e <;> first | rfl | cases h
theorem nostars {N : List Str} : ∀ {xs : List Ex} {sc : Scope} {es : List Expr}, ckL N xs sc es = true → ∀ (env : Env) (pos : Pos), (backTo pos (starEach es env)).any (·.1) = false
  | [], _, [], _, _, _ => rfl
  | [], _, _ :: _, h, _, _ => by unfold ckL at h; cases h
  | _ :: _, _, [], h, _, _ => by unfold ckL at h; cases h
  | x :: xs, sc, e :: es, h, env, pos => by
    unfold ckL at h
    rw [Bool.and_eq_true, Bool.and_eq_true] at h
    rw [star_of h.1.2]
    show (false || (backTo pos (starEach es env)).any (·.1)) = false
    rw [nostars h.2 env pos]
    rfl
theorem plainIx_of {b : Expr} (h : noSlice b = true) : PlainIx b := by
  intro o i
  cases b <;> first | rfl | cases h
end OL
namespace OL
open PySem PySem.Spec PyProof.Rows L2
section
variable {N : List Str} {sc : Scope} {e : Expr} {x y z : Ex} {xs : List Ex} {i : Nat} {op : Op} {cp cp' : Cp}
theorem ck_var (h : ck N (.var i) sc e = true) : ∃ n p, e = .Name n p ∧ N[i]? = some n ∧ visB sc n = true ∧ dbg n = true := by
  cases e <;> (try simp [ck] at h)
  exact ⟨_, _, rfl, h.1.1, h.1.2, h.2⟩
theorem ck_bor (h : ck N (.bor i) sc e = true) : ∃ n p, e = .Name n p ∧ N[i]? = some n ∧ visB sc n = true ∧ dbg n = true := by
  cases e <;> (try simp [ck] at h)
  exact ⟨_, _, rfl, h.1.1, h.1.2, h.2⟩
theorem ck_lit {d : D} (h : ck N (.lit d) sc e = true) : ∃ k j p, e = .Constant k j p ∧ litOk d k = true := by
  cases e <;> (try simp [ck] at h)
  exact ⟨_, _, _, rfl, h⟩
theorem ck_glob {n : String} {d : D} (h : ck N (.glob n d) sc e = true) : ∃ p, e = .Name (Str.ofString n) p ∧ glB sc (Str.ofString n) = true ∧ dbg (Str.ofString n) = true := by
  cases e <;> (try simp [ck] at h)
  obtain ⟨⟨rfl, h1⟩, h2⟩ := h
  exact ⟨_, rfl, h1, h2⟩
theorem ck_tup (h : ck N (.tup xs) sc e = true) : ∃ es k p, e = .Tuple es k p ∧ ckL N xs sc es = true ∧ xs.all nb = true := by
  cases e <;> (try simp [ck] at h)
  exact ⟨_, _, _, rfl, h.1, by simpa using h.2⟩
theorem ck_lst (h : ck N (.lst xs) sc e = true) : ∃ es p, e = .List es p ∧ ckL N xs sc es = true ∧ xs.all nb = true := by
  cases e <;> (try simp [ck] at h)
  exact ⟨_, _, rfl, h.1, by simpa using h.2⟩
theorem ck_bin (h : ck N (.bin op x y) sc e = true) : ∃ a b p, e = .BinOp a (opOf op) b p ∧ ck N x sc a = true ∧ ck N y sc b = true := by
  cases e <;> (try simp [ck] at h)
  obtain ⟨⟨rfl, h1⟩, h2⟩ := h
  exact ⟨_, _, _, rfl, h1, h2⟩
theorem ck_neg (h : ck N (.neg x) sc e = true) : ∃ a p, e = .UnaryOp .USub a p ∧ ck N x sc a = true := by
  cases e <;> (try simp [ck] at h)
  obtain ⟨rfl, h1⟩ := h
  exact ⟨_, _, rfl, h1⟩
theorem ck_not (h : ck N (.not x) sc e = true) : ∃ a p, e = .UnaryOp .Not a p ∧ ck N x sc a = true := by
  cases e <;> (try simp [ck] at h)
  obtain ⟨rfl, h1⟩ := h
  exact ⟨_, _, rfl, h1⟩
theorem ck_cmp (h : ck N (.cmp cp x y) sc e = true) : ∃ a b p, e = .Compare a [cpOf cp] [b] p ∧ behindInMarks (cpOf cp) b = false ∧ ck N x sc a = true ∧ ck N y sc b = true := by
  cases e <;> (try simp [ck] at h)
  rename_i l ops bs p
  match ops, bs, h with
  | [o], [b], h =>
    first | simp [ck] at h | simp at h
    obtain ⟨⟨⟨rfl, h1⟩, h2⟩, h3⟩ := h
    exact ⟨_, _, _, rfl, h1, h2, h3⟩
  | [], _, h => first | (simp [ck] at h; done) | (simp at h; done) | skip
  | [o], [], h => first | (simp [ck] at h; done) | (simp at h; done) | skip
  | [o], _ :: _ :: _, h => first | (simp [ck] at h; done) | (simp at h; done) | skip
  | _ :: _ :: _, _, h => first | (simp [ck] at h; done) | (simp at h; done) | skip
theorem ck_chain (h : ck N (.chain cp cp' x y z) sc e = true) : ∃ a b d p, e = .Compare a [cpOf cp, cpOf cp'] [b, d] p ∧ lastMarks [cpOf cp, cpOf cp'] [b, d] = false ∧ ck N x sc a = true ∧ ck N y sc b = true ∧ ck N z sc d = true := by
  cases e <;> (try simp [ck] at h)
  rename_i l ops bs p
  match ops, bs, h with
  | [o, o'], [b, d], h =>
    first | simp [ck] at h | simp at h
    obtain ⟨⟨⟨⟨⟨rfl, rfl⟩, h1⟩, h2⟩, h3⟩, h4⟩ := h
    exact ⟨_, _, _, _, rfl, h1, h2, h3, h4⟩
  | [], _, h => first | (simp [ck] at h; done) | (simp at h; done) | skip
  | [_], _, h => first | (simp [ck] at h; done) | (simp at h; done) | skip
  | [_, _], [], h => first | (simp [ck] at h; done) | (simp at h; done) | skip
  | [_, _], [_], h => first | (simp [ck] at h; done) | (simp at h; done) | skip
  | [_, _], _ :: _ :: _ :: _, h => first | (simp [ck] at h; done) | (simp at h; done) | skip
  | _ :: _ :: _ :: _, _, h => first | (simp [ck] at h; done) | (simp at h; done) | skip
theorem ck_and (h : ck N (.and xs) sc e = true) : ∃ es p, e = .BoolOp .And es p ∧ ckL N xs sc es = true ∧ xs ≠ [] ∧ xs.all nb = true := by
  cases e <;> (try simp [ck] at h)
  obtain ⟨⟨⟨rfl, h1⟩, h2⟩, h3⟩ := h
  exact ⟨_, _, rfl, h1, h2, by simpa using h3⟩
theorem ck_or (h : ck N (.or xs) sc e = true) : ∃ es p, e = .BoolOp .Or es p ∧ ckL N xs sc es = true ∧ xs ≠ [] ∧ xs.all nb = true := by
  cases e <;> (try simp [ck] at h)
  obtain ⟨⟨⟨rfl, h1⟩, h2⟩, h3⟩ := h
  exact ⟨_, _, rfl, h1, h2, by simpa using h3⟩
theorem ck_ite (h : ck N (.ite x y z) sc e = true) : ∃ a b d p, e = .IfExp a b d p ∧ ck N x sc a = true ∧ ck N y sc b = true ∧ ck N z sc d = true ∧ nb y = true ∧ nb z = true := by
  cases e <;> (try simp [ck] at h)
  exact ⟨_, _, _, _, rfl, h.1.1.1.1, h.1.1.1.2, h.1.1.2, h.1.2, h.2⟩
theorem ck_ix (h : ck N (.ix x y) sc e = true) : ∃ a b p, e = .Subscript a b p ∧ noSlice b = true ∧ ck N x sc a = true ∧ ck N y sc b = true := by
  cases e <;> (try simp [ck] at h)
  exact ⟨_, _, _, rfl, h.1.1, h.1.2, h.2⟩
theorem ck_sl (h : ck N (.sl x y z) sc e = true) : ∃ a l u q p, e = .Subscript a (.Slice l u none q) p ∧ ck N x sc a = true ∧ ckO N y sc l = true ∧ ckO N z sc u = true := by
  cases e <;> (try simp [ck] at h)
  rename_i a s p
  cases s <;> (try simp [ck] at h)
  rename_i l u st q
  cases st <;> (try simp [ck] at h)
  exact ⟨_, _, _, _, _, rfl, h.1.1, h.1.2, h.2⟩
theorem ck_call {f : Fn} {fl : Bool} (h : ck N (.call f fl xs) sc e = true) : ∃ q es p, e = .Call (.Name (Str.ofString f.name) q) es [] p ∧ glB sc (Str.ofString f.name) = true ∧ dbg (Str.ofString f.name) = true ∧ ckL N xs sc es = true ∧ xs ≠ [] ∧ (fl = true ∨ xs.all nb = true) := by
  cases e <;> (try simp [ck] at h)
  rename_i fn es ks p
  cases fn <;> (try simp [ck] at h)
  cases ks <;> (try simp [ck] at h)
  obtain ⟨⟨⟨⟨⟨rfl, h1⟩, h2⟩, h3⟩, h4⟩, h5⟩ := h
  exact ⟨_, _, _, rfl, h1, h2, h3, h4, by simpa using h5⟩
theorem ck_blt {b : Blt} (h : ck N (.blt b xs) sc e = true) : ∃ q es p, e = .Call (.Name (bltName b) q) es [] p ∧ glB sc (bltName b) = true ∧ ckL N xs sc es = true ∧ xs ≠ [] := by
  cases e <;> (try simp [ck] at h)
  rename_i fn es ks p
  cases fn <;> (try simp [ck] at h)
  cases ks <;> (try simp [ck] at h)
  obtain ⟨⟨⟨rfl, h1⟩, h2⟩, h3⟩ := h
  exact ⟨_, _, _, rfl, h1, h2, h3⟩
theorem ck_bitlen (h : ck N (.mth .bitlen x xs) sc e = true) : xs = [] ∧ ∃ o ap p, e = .Call (.Attribute o ("bit_length" : Str) ap) [] [] p ∧ (ap.endLine == p.line) = true ∧ ck N x sc o = true := by
  cases xs with
  | cons _ _ => cases e <;> (try simp [ck] at h)
  | nil =>
    cases e <;> (try simp [ck] at h)
    rename_i fn es ks p
    cases fn <;> (try simp [ck] at h)
    cases es <;> (try simp [ck] at h)
    cases ks <;> (try simp [ck] at h)
    obtain ⟨⟨rfl, h1⟩, h2⟩ := h
    exact ⟨rfl, _, _, _, rfl, by simpa using h1, h2⟩
theorem ck_isi {cs : List String} (h : ck N (.isi x cs) sc e = true) : ∃ q a t p, e = .Call (.Name ("isinstance" : Str) q) [a, t] [] p ∧ glB sc ("isinstance" : Str) = true ∧ noStar a = true ∧ noStar t = true ∧ ck N x sc a = true ∧ ckTys sc cs t = true := by
  cases e <;> (try simp [ck] at h)
  rename_i fn es ks p
  cases fn <;> (try simp [ck] at h)
  match es, ks, h with
  | [a, t], [], h =>
    first | simp [ck] at h | simp at h
    obtain ⟨⟨⟨⟨⟨rfl, h1⟩, h2⟩, h3⟩, h4⟩, h5⟩ := h
    exact ⟨_, _, _, _, rfl, h1, h2, h3, h4, h5⟩
  | [], _, h => first | (simp [ck] at h; done) | (simp at h; done) | skip
  | [_], _, h => first | (simp [ck] at h; done) | (simp at h; done) | skip
  | _ :: _ :: _ :: _, _, h => first | (simp [ck] at h; done) | (simp at h; done) | skip
  | [_, _], _ :: _, h => first | (simp [ck] at h; done) | (simp at h; done) | skip
theorem ck_isx {cs : List String} (h : ck N (.isx x cs) sc e = true) : ∃ q a t p, e = .Call (.Name ("isinstance" : Str) q) [a, t] [] p ∧ glB sc ("isinstance" : Str) = true ∧ noStar a = true ∧ noStar t = true ∧ ck N x sc a = true ∧ ckX sc cs t = true := by
  cases e <;> (try simp [ck] at h)
  rename_i fn es ks p
  cases fn <;> (try simp [ck] at h)
  match es, ks, h with
  | [a, t], [], h =>
    first | simp [ck] at h | simp at h
    obtain ⟨⟨⟨⟨⟨rfl, h1⟩, h2⟩, h3⟩, h4⟩, h5⟩ := h
    exact ⟨_, _, _, _, rfl, h1, h2, h3, h4, h5⟩
  | [], _, h => first | (simp [ck] at h; done) | (simp at h; done) | skip
  | [_], _, h => first | (simp [ck] at h; done) | (simp at h; done) | skip
  | _ :: _ :: _ :: _, _, h => first | (simp [ck] at h; done) | (simp at h; done) | skip
  | [_, _], _ :: _, h => first | (simp [ck] at h; done) | (simp at h; done) | skip
theorem ck_rvl (h : ck N (.rvl x) sc e = true) : ∃ a k p1 p2 p3 p, e = .Subscript a (.Slice none none (some (.UnaryOp .USub (.Constant (.int 1) k p1) p2)) p3) p ∧ ck N x sc a = true := by
  unfold ck at h
  split at h <;> first | (cases h; done) | skip
  all_goals first | (rename_i heq; cases heq; done) | skip
  all_goals (rename_i heq; cases heq)
  exact ⟨_, _, _, _, _, _, rfl, h⟩
theorem ck_lc {tg : Tg} {it cond : Ex} (h : ck N (.lc x tg it cond) sc e = true) : ∃ a t i ifs scope p, e = .ListComp a [⟨t, i, ifs, 0⟩] scope p ∧ blkC N sc scope (ownT tg t) = true ∧ ckG N false (relS scope sc) tg t = true ∧ ck N x (relS scope sc) a = true ∧ ckCd N cond (relS scope sc) ifs = true ∧ nb x = true ∧ (ownT tg t).map (·.2) = slotsT tg ∧ ckI N it sc i (isTup t) = true ∧ (∀ es k q, i ≠ .Set es k q) := by
  cases e <;> (try simp [ck] at h)
  rename_i a gs scope p
  match gs, h with
  | [⟨t, i, ifs, n⟩], h =>
    unfold ck at h
    simp at h
    obtain ⟨⟨⟨⟨⟨⟨⟨⟨h0, h1⟩, h2⟩, h3⟩, h4⟩, h5⟩, h6⟩, h7⟩, h8⟩ := h
    subst h0
    exact ⟨_, _, _, _, _, _, rfl, h1, h2, h3, h4, h5, h6, h7, fun es k q z => by subst z; simp at h8⟩
  | [], h => first | (simp [ck] at h; done) | (simp at h; done) | skip
  | _ :: _ :: _, h => first | (simp [ck] at h; done) | (simp at h; done) | skip
end
end OL
namespace OL
open PySem PySem.Spec PyProof.Rows L2
section
variable {X : Cx}
def rIxG (K : PySem.W.Frag) (mg : Str → Option Value) : R2 := fun x y H Q => ∃ (Z : Addr → Prop) (E : String → Prop) (a b : D), Rb K mg H Z a x ∧ Rb K mg H Z b y ∧ (ixD a b).all (fun d => ∀ v, Rp K mg H Z d v → Q v H) E
theorem ix_all : IxR X (rIxG X.K X.mg) := by
  intro va sl pins s σ H x y v u Q I rx ry h hs
  obtain ⟨Z, E, a, b, ra, rb, h⟩ := h
  unfold ixD at h
  split at h
  · rename_i xs i
    cases rb.int
    obtain ⟨p, vs, rfl, e, r⟩ := ra.tup
    split at h
    · rename_i d he
      obtain ⟨w, hw, rw'⟩ := r.atI he
      exact ix_seq va sl pins s σ H _ _ v u Q I rx ry (.inr (.inl ⟨_, _, _, _, rfl, rfl, e, hw, h _ rw'⟩)) hs
    · exact h.elim
  · cases rb.int
    obtain ⟨p, vs, rfl, e, r⟩ := ra.lst
    split at h
    · rename_i d he
      obtain ⟨w, hw, rw'⟩ := r.atI he
      exact ix_seq va sl pins s σ H _ _ v u Q I rx ry (.inl ⟨_, _, _, _, rfl, rfl, SqL.of e, hw, h _ rw'⟩) hs
    · exact h.elim
  · rename_i ns i
    cases rb.int
    obtain ⟨p, rfl, e⟩ := ra.scr
    split at h
    · rename_i d he
      have hw : atI (ns.map V.int) i = some (V.int d) := by
        unfold atI at he ⊢
        rw [List.length_map]
        cases q : ixN ns.length i with
        | none => rw [q] at he; cases he
        | some j =>
          rw [q] at he
          show (ns.map V.int)[j]? = _
          rw [List.getElem?_map, show ns[j]? = some d from he]
          rfl
      exact ix_seq va sl pins s σ H _ _ v u Q I rx ry (.inl ⟨_, _, _, _, rfl, rfl, e.sq, hw, h _ (.int _)⟩) hs
    · exact h.elim
  · cases rb.int
    cases ra.str
    split at h
    · rename_i hl
      split at h
      · rename_i c he
        exact ix_seq va sl pins s σ H _ _ v u Q I rx ry (.inr (.inr ⟨_, _, _, rfl, rfl, by rw [line_eq]; exact hl, he, h _ (.str _)⟩)) hs
      · exact h.elim
    · exact h.elim
  · exact h.elim
def rSlG (K : PySem.W.Frag) (mg : Str → Option Value) : V → Option Int → Option Int → Hp → VK → Prop := fun x lo hi H Q => ∃ (Z : Addr → Prop) (E : String → Prop) (a : D), Rb K mg H Z a x ∧
  (slD a lo hi).all (fun d => ∀ v H', Nw K mg H Z d v H' → Q v H') E
theorem sl_all : SlR X (rSlG X.K X.mg) := by
  intro pins s σ H x v vl vu lo hi sl Q I rx hs pl pu h
  obtain ⟨Z, E, a, ra, h⟩ := h
  unfold slD at h
  split at h
  · obtain ⟨p, vs, rfl, e, r⟩ := ra.lst
    exact sl_list pins s σ H _ v vl vu lo hi sl Q I rx hs pl pu ⟨_, _, rfl, SqL.of e, fun n hn => h _ _ (.nl hn (r.cut _ _))⟩
  · rename_i ns
    obtain ⟨p, rfl, e⟩ := ra.scr
    refine sl_list pins s σ H _ v vl vu lo hi sl Q I rx hs pl pu ⟨_, _, rfl, e.sq, fun n hn => h _ _ (.nl hn ?_)⟩
    have q := RpA.cut (RpA.ints (K := X.K) (mg := X.mg) (H := H) (Z := Z) ns) lo hi
    have e2 : cutD (ns.map D.int) lo hi = (cutD ns lo hi).map D.int := by
      unfold cutD
      rw [List.length_map, List.map_take, List.map_drop]
    rw [← e2]
    exact q
  · cases ra.str
    split at h
    · rename_i hl
      exact sl_str pins s σ H _ v vl vu lo hi sl Q I rx hs pl pu ⟨_, rfl, by rw [line_eq]; exact hl, h _ _ (.sc rfl)⟩
    · exact h.elim
  · exact h.elim
def rBlt (K : PySem.W.Frag) (mg : Str → Option Value) (b : Blt) : List V → Hp → VK → Prop := fun vs H Q => ∃ (Z : Addr → Prop) (E : String → Prop) (ds : List D), RbA K mg H Z ds vs ∧
  (bltD b ds).all (fun d => ∀ v H', Nw K mg H Z d v H' → Q v H') E
def bltV : Blt → Value
  | .len => .builtin "len" | .abs => .builtin "abs" | .max => .builtin "max" | .min => .builtin "min" | .all => .builtin "all" | .any => .builtin "any"
  | .int => .type "int" | .str => .type "str" | .list => .type "list" | .tuple => .type "tuple" | .bool => .type "bool"
section
variable {K : PySem.W.Frag} {mg : Str → Option Value} {H : Hp} {Z : Addr → Prop}
theorem RbA.one {d : D} {vs : List V} (r : RbA K mg H Z [d] vs) : ∃ v, vs = [v] ∧ Rb K mg H Z d v := by
  cases r with | cons a b => cases b; exact ⟨_, rfl, a⟩
theorem RbA.two {d e : D} {vs : List V} (r : RbA K mg H Z [d, e] vs) : ∃ v w, vs = [v, w] ∧ Rb K mg H Z d v ∧ Rb K mg H Z e w := by
  cases r with | cons a b => cases b with | cons c f => cases f; exact ⟨_, _, rfl, a, c⟩
theorem bools_of : ∀ {ds : List D} {bs : List Bool} {vs : List V}, RpA K mg H Z ds vs → (ds.mapM fun | .bl b => some b | _ => none) = some bs → vs = bs.map V.bl
  | [], bs, _, .nil, e => by
    cases bs with
    | nil => rfl
    | cons _ _ => cases e
  | d :: ds, bs, _, .cons r t, e => by
    cases d with
    | bl b =>
      cases r
      rw [List.mapM_cons] at e
      cases q : (ds.mapM fun | D.bl b => some b | _ => none) with
      | none => rw [q] at e; cases e
      | some cs =>
        rw [q] at e
        have e' : some (b :: cs) = some bs := e
        cases e'
        rw [bools_of t q]
        rfl
    | _ => rw [List.mapM_cons] at e; cases e
end
theorem call_blt (b : Blt) (hc : (b = .max ∨ b = .min ∨ b = .all ∨ b = .any) → X.calm = true) : CallR X (bltV b) (rBlt X.K X.mg b) := by
  intro pins s σ H xs us Q I r h
  obtain ⟨Z, E, ds, rd, h⟩ := h
  unfold bltD at h
  split at h
  · obtain ⟨v, rfl, rv⟩ := rd.one
    obtain ⟨p, ys, rfl, e, ra⟩ := rv.tup
    exact call_len_seq pins s σ H _ us Q I r ⟨_, _, rfl, .inr e, by rw [← ra.length]; exact h _ _ (.sc rfl)⟩
  · obtain ⟨v, rfl, rv⟩ := rd.one
    obtain ⟨p, ys, rfl, e, ra⟩ := rv.lst
    exact call_len_seq pins s σ H _ us Q I r ⟨_, _, rfl, .inl (SqL.of e), by rw [← ra.length]; exact h _ _ (.sc rfl)⟩
  · obtain ⟨v, rfl, rv⟩ := rd.one
    obtain ⟨p, rfl, e⟩ := rv.scr
    exact call_len_seq pins s σ H _ us Q I r ⟨_, _, rfl, .inl e.sq, by rw [List.length_map]; exact h _ _ (.sc rfl)⟩
  · obtain ⟨v, rfl, rv⟩ := rd.one
    cases rv.str
    split at h
    · rename_i hl
      exact call_len_str pins s σ H _ us Q I r ⟨_, rfl, by rw [line_eq]; exact hl, h _ _ (.sc rfl)⟩
    · exact h.elim
  · obtain ⟨v, rfl, rv⟩ := rd.one
    cases rv.int
    exact call_abs pins s σ H _ us Q I r ⟨_, rfl, h _ _ (.sc rfl)⟩
  · obtain ⟨v, w, rfl, rv, rw'⟩ := rd.two
    cases rv.int; cases rw'.int
    exact call_max2 (hc (.inl rfl)) pins s σ H _ us Q I r ⟨_, _, rfl, h _ _ (.sc rfl)⟩
  · obtain ⟨v, w, rfl, rv, rw'⟩ := rd.two
    cases rv.int; cases rw'.int
    exact call_min2 (hc (.inr (.inl rfl))) pins s σ H _ us Q I r ⟨_, _, rfl, h _ _ (.sc rfl)⟩
  · obtain ⟨v, rfl, rv⟩ := rd.one
    cases rv.int
    exact call_int1 pins s σ H _ us Q I r (.inl ⟨_, rfl, h _ _ (.sc rfl)⟩)
  · obtain ⟨v, rfl, rv⟩ := rd.one
    cases rv.bl
    exact call_int1 pins s σ H _ us Q I r (.inr ⟨_, rfl, h _ _ (.sc rfl)⟩)
  · obtain ⟨v, rfl, rv⟩ := rd.one
    cases rv.int
    split at h
    · rename_i hl
      exact call_str_int pins s σ H _ us Q I r ⟨_, rfl, hl, h _ _ (.sc rfl)⟩
    · exact h.elim
  · obtain ⟨v, rfl, rv⟩ := rd.one
    obtain ⟨p, ys, rfl, e, ra⟩ := rv.lst
    exact call_list_of pins s σ H _ us Q I r ⟨_, _, rfl, .inl (SqL.of e), fun n hn => h _ _ (.nl hn ra)⟩
  · obtain ⟨v, rfl, rv⟩ := rd.one
    obtain ⟨p, ys, rfl, e, ra⟩ := rv.tup
    exact call_list_of pins s σ H _ us Q I r ⟨_, _, rfl, .inr e, fun n hn => h _ _ (.nl hn ra)⟩
  · obtain ⟨v, rfl, rv⟩ := rd.one
    obtain ⟨p, rfl, e⟩ := rv.scr
    exact call_list_of pins s σ H _ us Q I r ⟨_, _, rfl, .inl e.sq, fun n hn => h _ _ (.nl hn (RpA.ints _))⟩
  · obtain ⟨v, rfl, rv⟩ := rd.one
    obtain ⟨p, ys, rfl, e, ra⟩ := rv.lst
    exact call_tuple_of pins s σ H _ us Q I r ⟨_, _, rfl, .inl ⟨SqL.of e, fun n hn => h _ _ (.nt hn ra)⟩⟩
  · obtain ⟨v, rfl, rv⟩ := rd.one
    obtain ⟨p, ys, rfl, e, ra⟩ := rv.lst
    split at h
    · rename_i bs hb
      exact cr_all (hc (.inr (.inr (.inl rfl)))) pins s σ H _ us Q I r ⟨_, _, rfl, by rw [← bools_of ra hb]; exact SqL.of e, h _ _ (.sc rfl)⟩
    · exact h.elim
  · obtain ⟨v, rfl, rv⟩ := rd.one
    obtain ⟨p, ys, rfl, e, ra⟩ := rv.lst
    split at h
    · rename_i bs hb
      exact cr_any (hc (.inr (.inr (.inr rfl)))) pins s σ H _ us Q I r ⟨_, _, rfl, by rw [← bools_of ra hb]; exact SqL.of e, h _ _ (.sc rfl)⟩
    · exact h.elim
  · exact h.elim
/-! ### types -/
theorem kit_fin : ∀ t ∈ ["NoneType", "bool", "int", "str", "tuple", "list", "dict"], ∀ k ∈ ["int", "bool", "str", "list", "tuple", "dict"], kitB t k = some (isT t k) := by decide +kernel
theorem tyD_mem {d : D} {t : String} (h : tyD d = some t) : t ∈ ["NoneType", "bool", "int", "str", "tuple", "list", "dict"] := by
  cases d <;> cases h <;> decide
theorem tyName_mem {k : String} (h : tyName k = true) : k ∈ ["int", "bool", "str", "list", "tuple", "dict"] := by
  unfold tyName at h
  split at h <;> first | decide | cases h
theorem kit_of_ty {K : PySem.W.Frag} {d : D} {t k : String} (h : tyD d = some t) (hk : tyName k = true) : PySem.W.kitOne K (.type t) (.type k) = some (isT t k) := kit_ty (kit_fin t (tyD_mem h) k (tyName_mem hk))
theorem kit_any {K : PySem.W.Frag} {d : D} {t : String} (h : tyD d = some t) : ∀ {ks : List String}, (∀ k ∈ ks, tyName k = true) → PySem.W.kitAny K (.type t) (ks.map Value.type) = some (ks.any (isT t))
  | [], _ => rfl
  | k :: ks, hk => by
    refine kitAny_cons (b := isT t k) (kit_of_ty h (hk k List.mem_cons_self)) (fun e => ?_) fun e => ?_
    · rw [kit_any h fun q hq => hk q (List.mem_cons_of_mem _ hq), List.any_cons, e]
      rfl
    · rw [List.any_cons, e]
      rfl
theorem Rb.ty {H : Hp} {Z : Addr → Prop} {d : D} {v : V} {t : String} (r : Rb X.K X.mg H Z d v) (h : tyD d = some t) : TyX X.K H v (.type t) := by
  cases r with
  | o e _ => cases h; exact .base (.lst e)
  | p r =>
    cases r with
    | non => cases h; exact .base .non
    | bl b => cases h; exact .base (.bl b)
    | int i => cases h; exact .base (.int i)
    | str x => cases h; exact .base (.str x)
    | tup s _ =>
      cases h
      rcases s with (s | ⟨o, s⟩) | ⟨o, its, n, e, hc, _⟩
      · exact .base (.tup s)
      · exact .fTuple s
      · exact .kTuple e hc
    | lst e _ _ => cases h; exact .base (.lst e)
    | scr e => cases h; exact e.elim (fun ⟨_, e⟩ => .base (.frz e)) fun ⟨_, _, _, e, c, _⟩ => .kList e c
    | dic e _ => cases h; exact .base (.dK e)
    | exc _ _ _ _ => cases h
end
end OL
/-! Slots stored; targets; what is walked. -/
namespace OL
open PySem PySem.Spec PyProof.Rows L2
section
variable {c : Cn} {H H' : Hp} {σ : Sg} {ρ : En}
theorem get_set_cases {α : Type} {l : List α} {i j : Nat} {x y : α} (h : (l.set i x)[j]? = some y) : (j = i ∧ y = x ∧ i < l.length) ∨ (j ≠ i ∧ l[j]? = some y) := by
  by_cases e : i = j
  · subst e
    by_cases hl : i < l.length
    · rw [List.getElem?_set_self hl] at h
      exact .inl ⟨rfl, (Option.some.inj h).symm, hl⟩
    · rw [List.getElem?_eq_none (by simpa using hl)] at h
      cases h
  · rw [List.getElem?_set_ne e] at h
    exact .inr ⟨fun z => e z.symm, h⟩
theorem own_set {i : Nat} {v : Option V} {d : D} {a : Addr} (h : own (σ.set i v) (ρ.set i (.v d)) a) : own σ ρ a := by
  obtain ⟨j, ds, e1, e2⟩ := h
  rcases get_set_cases e1 with ⟨_, q, _⟩ | ⟨ne, q⟩
  · cases q
  · rcases get_set_cases e2 with ⟨z, _, _⟩ | ⟨_, q2⟩
    · exact absurd z ne
    · exact ⟨j, ds, q, q2⟩
/-- data is stored -/
theorem ER.set (h : ER c H σ ρ) {i : Nat} {d : D} {v : V} (r : Rp c.K c.mg H (Zf c σ ρ) d v) (hi : i < ρ.length) : ER c H (σ.set i (some v)) (ρ.set i (.v d)) where
  len := by rw [List.length_set, List.length_set]; exact h.len
  sm := h.sm
  nw := h.nw
  val := fun j e q => by
    have wk : ∀ a o, H a = some o → Zf c σ ρ a → Zf c (σ.set i (some v)) (ρ.set i (.v d)) a := fun a o _ z => ⟨z.1, fun w => z.2 (own_set w)⟩
    rcases get_set_cases q with ⟨rfl, z, _⟩ | ⟨ne, q⟩
    · cases z
      exact ⟨v, List.getElem?_set_self (by rw [h.len]; exact hi), r.weak wk⟩
    · obtain ⟨w, e1, r1⟩ := h.val j e q
      exact ⟨w, by rw [List.getElem?_set_ne (Ne.symm ne)]; exact e1, r1.weak wk⟩
  lst := fun j es q => by
    have wk : ∀ a o, H a = some o → Zf c σ ρ a → Zf c (σ.set i (some v)) (ρ.set i (.v d)) a := fun a o _ z => ⟨z.1, fun w => z.2 (own_set w)⟩
    rcases get_set_cases q with ⟨_, z, _⟩ | ⟨ne, q⟩
    · cases z
    · obtain ⟨a, xs, e1, e2, e3, r1⟩ := h.lst j es q
      exact ⟨a, xs, by rw [List.getElem?_set_ne (Ne.symm ne)]; exact e1, e2, e3, r1.weak wk⟩
  uniq := fun j k a ds es q1 q2 e1 e2 => by
    rcases get_set_cases q1 with ⟨_, z, _⟩ | ⟨n1, q1⟩
    · cases z
    rcases get_set_cases q2 with ⟨_, z, _⟩ | ⟨n2, q2⟩
    · cases z
    rw [List.getElem?_set_ne (Ne.symm n1)] at e1
    rw [List.getElem?_set_ne (Ne.symm n2)] at e2
    exact h.uniq j k a ds es q1 q2 e1 e2
theorem own_setO {i : Nat} {p a : Addr} {ds : List D} (h : own (σ.set i (some (.ref p))) (ρ.set i (.o ds)) a) : a = p ∨ own σ ρ a := by
  obtain ⟨j, es, e1, e2⟩ := h
  rcases get_set_cases e1 with ⟨rfl, q, _⟩ | ⟨ne, q⟩
  · rcases get_set_cases e2 with ⟨_, z, _⟩ | ⟨n2, _⟩
    · cases z; exact .inl rfl
    · exact absurd rfl n2
  · rcases get_set_cases e2 with ⟨z, _, _⟩ | ⟨_, q2⟩
    · exact absurd z ne
    · exact .inr ⟨j, es, q, q2⟩
/-- a new list is stored as one's own -/
theorem ER.setO (h : ER c H σ ρ) (s : Same H H') {i : Nat} {ds : List D} {p : Addr} {xs : List V} (hp : H p = none) (e : H' p = some (.lst xs)) (r : RpA c.K c.mg H' (fun b => Zf c σ ρ b ∧ b ≠ p) ds xs) (hi : i < ρ.length) :
    ER c H' (σ.set i (some (.ref p))) (ρ.set i (.o ds)) := by
  have wk : ∀ a, (Zf c σ ρ a ∧ a ≠ p) → Zf c (σ.set i (some (.ref p))) (ρ.set i (.o ds)) a := fun a z => ⟨z.1.1, fun w => by
    rcases own_setO w with q | q
    · exact z.2 q
    · exact z.1.2 q⟩
  have wk1 : ∀ a o, H a = some o → Zf c σ ρ a → Zf c (σ.set i (some (.ref p))) (ρ.set i (.o ds)) a := fun a o e z => wk a ⟨z, ne_of_none e hp⟩
  refine ⟨by rw [List.length_set, List.length_set]; exact h.len, h.sm.trans s, fun q hq => h.nw q (s.free hq), fun j e q => ?_, fun j es q => ?_, fun j k a ds' es q1 q2 e1 e2 => ?_⟩
  · rcases get_set_cases q with ⟨rfl, z, _⟩ | ⟨ne, q⟩
    · cases z
    · obtain ⟨w, e1, r1⟩ := h.val j e q
      exact ⟨w, by rw [List.getElem?_set_ne (Ne.symm ne)]; exact e1, r1.mono (.of_same s) wk1⟩
  · rcases get_set_cases q with ⟨rfl, z, _⟩ | ⟨ne, q⟩
    · cases z
      exact ⟨p, xs, List.getElem?_set_self (by rw [h.len]; exact hi), e, ⟨h.sm.free hp, h.nw p hp⟩, r.weak fun a o _ z => wk a z⟩
    · obtain ⟨a, ys, e1, e2, e3, r1⟩ := h.lst j es q
      exact ⟨a, ys, by rw [List.getElem?_set_ne (Ne.symm ne)]; exact e1, s _ _ e2, e3, r1.mono (.of_same s) wk1⟩
  · have nop : ∀ {j : Nat} {es : List D}, ρ[j]? = some (.o es) → σ[j]? = some (some (V.ref p)) → False := fun {j es} q z => by
      obtain ⟨a, ys, e1, e2, _⟩ := h.lst j es q
      rw [z] at e1; cases e1
      rw [hp] at e2; cases e2
    rcases get_set_cases q1 with ⟨rfl, z, _⟩ | ⟨n1, q1⟩
    · rcases get_set_cases e1 with ⟨_, z1, _⟩ | ⟨n, _⟩
      · cases z1
        rcases get_set_cases q2 with ⟨rfl, _, _⟩ | ⟨n2, q2⟩
        · rfl
        · rw [List.getElem?_set_ne (Ne.symm n2)] at e2
          exact (nop q2 e2).elim
      · exact absurd rfl n
    · rw [List.getElem?_set_ne (Ne.symm n1)] at e1
      rcases get_set_cases q2 with ⟨rfl, _, _⟩ | ⟨n2, q2⟩
      · rcases get_set_cases e2 with ⟨_, z1, _⟩ | ⟨n, _⟩
        · cases z1
          rcases get_set_cases q1 with ⟨z3, _, _⟩ | ⟨_, q3⟩
          · exact z3
          · exact (nop q3 e1).elim
        · exact absurd rfl n
      · rw [List.getElem?_set_ne (Ne.symm n2)] at e2
        exact h.uniq j k a ds' es q1 q2 e1 e2
/-- one's own list is changed -/
theorem ER.upd (h : ER c H σ ρ) {i : Nat} {ds es : List D} {p : Addr} {xs ys : List V} (q : ρ[i]? = some (.o ds)) (e : σ[i]? = some (some (V.ref p))) (hx : H p = some (.lst xs)) (r : RpA c.K c.mg H (Zf c σ ρ) es ys) :
    ER c (L2.upd H p (.lst ys)) σ (ρ.set i (.o es)) := by
  have hi : i < ρ.length := (List.getElem?_eq_some_iff.mp q).1
  have ow : own σ ρ p := ⟨i, ds, q, e⟩
  have eqo : ∀ a, own σ (ρ.set i (.o es)) a → own σ ρ a := fun a ⟨j, fs, e1, e2⟩ => by
    rcases get_set_cases e1 with ⟨rfl, _, _⟩ | ⟨_, q1⟩
    · exact ⟨j, ds, q, e2⟩
    · exact ⟨j, fs, q1, e2⟩
  have st : Stay H (Zf c σ ρ) (L2.upd H p (.lst ys)) := fun a o e1 z => by
    by_cases hp : a = p
    · subst hp
      rw [hx] at e1; cases e1
      exact absurd ow (z rfl).2
    · rw [upd_ne hp]; exact e1
  have wk : ∀ a o, H a = some o → Zf c σ ρ a → Zf c σ (ρ.set i (.o es)) a := fun a o _ z => ⟨z.1, fun w => z.2 (eqo a w)⟩
  refine ⟨by rw [List.length_set]; exact h.len, fun b o e1 => ?_, fun b hb => ?_, fun j d q1 => ?_, fun j fs q1 => ?_, fun j k a fs gs q1 q2 e1 e2 => ?_⟩
  · obtain ⟨a, zs, e2, _, e4, _⟩ := h.lst i ds q
    rw [e] at e2; cases e2
    rw [upd_ne (ne_of_none e1 e4.1)]
    exact h.sm b o e1
  · by_cases z : b = p
    · subst z; rw [upd_same] at hb; cases hb
    · rw [upd_ne z] at hb; exact h.nw b hb
  · rcases get_set_cases q1 with ⟨_, z, _⟩ | ⟨_, q1⟩
    · cases z
    · obtain ⟨w, e1, r1⟩ := h.val j d q1
      exact ⟨w, e1, r1.mono st wk⟩
  · obtain ⟨a0, zs, e2, _, e4, _⟩ := h.lst i ds q
    rw [e] at e2; cases e2
    rcases get_set_cases q1 with ⟨rfl, z, _⟩ | ⟨ne, q1⟩
    · cases z
      exact ⟨p, ys, e, upd_same, e4, r.mono st wk⟩
    · obtain ⟨a, us, e1, e2, e3, r1⟩ := h.lst j fs q1
      have hne : a ≠ p := fun z => by subst z; exact ne (h.uniq j i a fs ds q1 q e1 e)
      exact ⟨a, us, e1, by rw [upd_ne hne]; exact e2, e3, r1.mono st wk⟩
  · have : ∀ {j : Nat} {fs : List D}, (ρ.set i (.o es))[j]? = some (.o fs) → ∃ fs', ρ[j]? = some (Sl.o fs') := fun {j fs} z => by
      rcases get_set_cases z with ⟨rfl, _, _⟩ | ⟨_, z⟩
      · exact ⟨ds, q⟩
      · exact ⟨fs, z⟩
    obtain ⟨f1, q1'⟩ := this q1
    obtain ⟨f2, q2'⟩ := this q2
    exact h.uniq j k a f1 f2 q1' q2' e1 e2
/-- one's own list stands still from here on -/
theorem ER.frz (h : ER c H σ ρ) {i : Nat} {ds : List D} (q : ρ[i]? = some (.o ds)) : ER c H σ (ρ.set i (.v (.lst ds))) := by
  have hi : i < ρ.length := (List.getElem?_eq_some_iff.mp q).1
  obtain ⟨p, xs, e1, e2, e3, r⟩ := h.lst i ds q
  have eqo : ∀ a, own σ (ρ.set i (.v (.lst ds))) a → own σ ρ a ∧ a ≠ p := fun a ⟨j, fs, q1, q2⟩ => by
    rcases get_set_cases q1 with ⟨_, z, _⟩ | ⟨ne, q1⟩
    · cases z
    · exact ⟨⟨j, fs, q1, q2⟩, fun z => by subst z; exact ne (h.uniq j i a fs ds q1 q q2 e1)⟩
  have wk : ∀ a o, H a = some o → Zf c σ ρ a → Zf c σ (ρ.set i (.v (.lst ds))) a := fun a o _ z => ⟨z.1, fun w => z.2 (eqo a w).1⟩
  refine ⟨by rw [List.length_set]; exact h.len, h.sm, h.nw, fun j d q1 => ?_, fun j fs q1 => ?_, fun j k a fs gs q1 q2 f1 f2 => ?_⟩
  · rcases get_set_cases q1 with ⟨rfl, z, _⟩ | ⟨_, q1⟩
    · cases z
      exact ⟨_, e1,   .lst e2 ⟨e3.2, fun w => (eqo p w).2 rfl⟩ (r.weak wk)⟩
    · obtain ⟨w, f1, r1⟩ := h.val j d q1
      exact ⟨w, f1, r1.weak wk⟩
  · rcases get_set_cases q1 with ⟨_, z, _⟩ | ⟨_, q1⟩
    · cases z
    · obtain ⟨a, us, f1, f2, f3, r1⟩ := h.lst j fs q1
      exact ⟨a, us, f1, f2, f3, r1.weak wk⟩
  · rcases get_set_cases q1 with ⟨_, z, _⟩ | ⟨_, q1⟩
    · cases z
    rcases get_set_cases q2 with ⟨_, z, _⟩ | ⟨_, q2⟩
    · cases z
    exact h.uniq j k a fs gs q1 q2 f1 f2
theorem notOwn_of {i : Nat} (h : notOwn ρ i = true) (ds : List D) : ρ[i]? ≠ some (.o ds) := fun e => by
  unfold notOwn at h
  rw [e] at h
  cases h
/-- slots without one's own lists are forgotten -/
theorem wipe_at {vs : List Nat} {i : Nat} {s : Sl} : ∀ {ρ : En}, (wipeN ρ vs)[i]? = some s → (i ∈ vs ∧ s = .n) ∨ (i ∉ vs ∧ ρ[i]? = some s) := by
  induction vs with
  | nil => intro ρ h; exact .inr ⟨by simp, h⟩
  | cons v vs ih =>
    intro ρ h
    unfold wipeN at h
    rcases get_set_cases h with ⟨rfl, q, _⟩ | ⟨ne, q⟩
    · exact .inl ⟨by simp, q⟩
    · rcases ih q with ⟨m, e⟩ | ⟨m, e⟩
      · exact .inl ⟨List.mem_cons_of_mem _ m, e⟩
      · exact .inr ⟨by simp [ne, m], e⟩
theorem wipe_out {vs : List Nat} {i : Nat} : ∀ {σ : Sg}, i ∉ vs → (wipe σ vs)[i]? = σ[i]? := by
  induction vs with
  | nil => intro σ _; rfl
  | cons v vs ih =>
    intro σ h
    unfold wipe
    rw [List.getElem?_set_ne (by intro z; exact h (by simp [z]))]
    exact ih fun z => h (List.mem_cons_of_mem _ z)
theorem wipeN_length : ∀ (vs : List Nat) (ρ : En), (wipeN ρ vs).length = ρ.length
  | [], _ => rfl
  | v :: vs, ρ => by unfold wipeN; rw [List.length_set, wipeN_length vs ρ]
theorem wipeN_out {vs : List Nat} {i : Nat} : ∀ {ρ : En}, i ∉ vs → (wipeN ρ vs)[i]? = ρ[i]? := by
  induction vs with
  | nil => intro ρ _; rfl
  | cons v vs ih =>
    intro ρ h
    unfold wipeN
    rw [List.getElem?_set_ne (by intro z; exact h (by simp [z]))]
    exact ih fun z => h (List.mem_cons_of_mem _ z)
theorem own_wipe {vs : List Nat} (hn : vs.all (notOwn ρ) = true) (a : Addr) : own (wipe σ vs) (wipeN ρ vs) a ↔ own σ ρ a := by
  constructor
  · rintro ⟨j, ds, e1, e2⟩
    rcases wipe_at e1 with ⟨_, z⟩ | ⟨m, z⟩
    · cases z
    · rw [wipe_out m] at e2
      exact ⟨j, ds, z, e2⟩
  · rintro ⟨j, ds, e1, e2⟩
    have m : j ∉ vs := fun m => notOwn_of (List.all_eq_true.mp hn j m) ds e1
    refine ⟨j, ds, ?_, by rw [wipe_out m]; exact e2⟩
    rw [wipeN_out m]
    exact e1
theorem ER.wipe (h : ER c H σ ρ) {vs : List Nat} (hn : vs.all (notOwn ρ) = true) : ER c H (L2.wipe σ vs) (wipeN ρ vs) := by
  have wk : ∀ a o, H a = some o → Zf c σ ρ a → Zf c (L2.wipe σ vs) (wipeN ρ vs) a := fun a o _ z => ⟨z.1, fun w => z.2 ((own_wipe hn a).mp w)⟩
  refine ⟨by rw [wipe_length, wipeN_length]; exact h.len, h.sm, h.nw, fun j d q => ?_, fun j ds q => ?_, fun j k a ds es q1 q2 e1 e2 => ?_⟩
  · rcases wipe_at q with ⟨_, z⟩ | ⟨m, z⟩
    · cases z
    · obtain ⟨w, e1, r⟩ := h.val j d z
      exact ⟨w, by rw [wipe_out m]; exact e1, r.weak wk⟩
  · rcases wipe_at q with ⟨_, z⟩ | ⟨m, z⟩
    · cases z
    · obtain ⟨a, xs, e1, e2, e3, r⟩ := h.lst j ds z
      exact ⟨a, xs, by rw [wipe_out m]; exact e1, e2, e3, r.weak wk⟩
  · rcases wipe_at q1 with ⟨_, z⟩ | ⟨m1, z1⟩
    · cases z
    rcases wipe_at q2 with ⟨_, z⟩ | ⟨m2, z2⟩
    · cases z
    rw [wipe_out m1] at e1
    rw [wipe_out m2] at e2
    exact h.uniq j k a ds es z1 z2 e1 e2
end
/-! ### targets -/
theorem pg_or {X : Cx} {e : Expr} {t t' : TG} (h : PG X e t) (h' : PG X e t') : PG X e (fun v σ H Q => t v σ H Q ∨ t' v σ H Q) := ⟨fun pins s σ H v u Q I r q => q.elim (h.run pins s σ H v u Q I r) (h'.run pins s σ H v u Q I r)⟩
mutual
def gOf (K : PySem.W.Frag) : Tg → TG
  | .nm i => gName i
  | .tp ts => fun v σ H Q => gTup K ts.length (gOfs K ts) v σ H Q ∨ gLst K ts.length (gOfs K ts) v σ H Q
def gOfs (K : PySem.W.Frag) : List Tg → TGs
  | [] => gNil
  | t :: ts => gCons (gOf K t) (gOfs K ts)
end
theorem ckGs_length {N : List Str} {cel : Bool} {sc : Scope} : ∀ {ts : List Tg} {es : List Expr}, ckGs N cel sc ts es = true → ∀ env : Env, (assignEach es env).length = ts.length
  | [], [], _, _ => rfl
  | [], _ :: _, h, _ => by unfold ckGs at h; cases h
  | _ :: _, [], h, _ => by unfold ckGs at h; cases h
  | t :: ts, e :: es, h, env => by
    unfold ckGs at h
    simp only [Bool.and_eq_true] at h
    have q := ckGs_length h.2 env
    cases e <;> first | (exact congrArg (· + 1) q) | (have z := h.1.2; cases z)
theorem ckGs_star {N : List Str} {cel : Bool} {sc : Scope} : ∀ {ts : List Tg} {es : List Expr}, ckGs N cel sc ts es = true → ∀ env : Env, (assignEach es env).findIdx? (·.1) = none
  | [], [], _, _ => rfl
  | [], _ :: _, h, _ => by unfold ckGs at h; cases h
  | _ :: _, [], h, _ => by unfold ckGs at h; cases h
  | t :: ts, e :: es, h, env => by
    unfold ckGs at h
    simp only [Bool.and_eq_true] at h
    have q := ckGs_star h.2 env
    rw [List.findIdx?_eq_none_iff] at q ⊢
    intro x hx
    have e1 : assignEach (e :: es) env = (false, assign e env) :: assignEach es env := by
      cases e <;> first | rfl | (have z := h.1.2; cases z)
    rw [e1] at hx
    rcases List.mem_cons.mp hx with z | z
    · rw [z]
    · exact q x z
section
variable {X : Cx}
mutual
theorem pg_of (hN : X.N.Nodup) (hc : X.calm = true) {cel : Bool} (hf : cel = true → ∀ x, X.fn x = true) : ∀ {t : Tg} {e : Expr}, ckG X.N cel X.env.scope t e = true → PG X e (gOf X.K t)
  | .nm i, e, h => by
    cases e <;> (try (unfold ckG at h; cases h; done))
    rename_i x p
    unfold ckG at h
    rw [Bool.and_eq_true] at h
    have h2 := h.2
    unfold gOf
    split at h2
    · rename_i q
      exact pg_name hN (of_decide_eq_true h.1) (.inl q) (.inr q)
    · rename_i q
      exact pg_name hN (of_decide_eq_true h.1) (.inr q) (.inl (hf h2 _))
    · cases h2
  | .tp ts, e, h => by
    cases e <;> (try (unfold ckG at h; cases h; done))
    rename_i es k p
    unfold ckG at h
    unfold gOf
    exact pg_or (pg_tup hc (pgs_of hN hc hf h) (ckGs_length h _) (ckGs_star h _)) (pg_lst hc (pgs_of hN hc hf h) (ckGs_length h _) (ckGs_star h _))
theorem pgs_of (hN : X.N.Nodup) (hc : X.calm = true) {cel : Bool} (hf : cel = true → ∀ x, X.fn x = true) : ∀ {ts : List Tg} {es : List Expr}, ckGs X.N cel X.env.scope ts es = true → PGs X es (gOfs X.K ts)
  | [], [], _ => by unfold gOfs; exact pgs_nil
  | [], _ :: _, h => by unfold ckGs at h; cases h
  | _ :: _, [], h => by unfold ckGs at h; cases h
  | t :: ts, e :: es, h => by
    unfold ckGs at h
    simp only [Bool.and_eq_true] at h
    unfold gOfs
    refine pgs_cons (pg_of hN hc hf h.1.1) (pgs_of hN hc hf h.2) ?_
    cases e <;> first | rfl | (have z := h.1.2; cases z)
end
end
/-! what a target's store does -/
section
variable {c : Cn} {H : Hp}
mutual
theorem gOf_ok : ∀ {t : Tg} {d : D} {v : V} {σ : Sg} {ρ ρ' : En} {Q : Sg → Hp → Prop}, ER c H σ ρ → Rp c.K c.mg H (Zf c σ ρ) d v → setT t d ρ = .ok ρ' →
    (∀ σ', ER c H σ' ρ' → (∀ a, own σ' ρ' a → own σ ρ a) → (∀ i, i ∉ slotsT t → σ'[i]? = σ[i]? ∧ ρ'[i]? = ρ[i]?) → σ'.length = σ.length → Q σ' H) → gOf c.K t v σ H Q
  | .nm i, d, v, σ, ρ, ρ', Q, h, r, e, k => by
    unfold setT at e
    unfold gOf
    split at e
    · rename_i s hs
      cases e
      exact k _ (h.set r (List.getElem?_eq_some_iff.mp hs).1) (fun a w => own_set w) (fun j hj => by
        unfold slotsT at hj
        have ne : i ≠ j := fun z => hj (by simp [z])
        exact ⟨List.getElem?_set_ne ne, List.getElem?_set_ne ne⟩) (List.length_set ..)
    · cases e
  | .tp ts, d, v, σ, ρ, ρ', Q, h, r, e, k => by
    cases d <;> (try (unfold setT at e; cases e; done))
    · rename_i ds
      unfold setT at e
      unfold gOf
      cases r with
      | tup s ra =>
        rename_i a xs
        have hl : ds.length = ts.length := setTs_length e
        refine .inl ⟨a, xs, rfl, s, by rw [← ra.length]; exact hl, gOfs_ok h ra e fun σ' h' ho hs hl' => k σ' h' ho (fun i hi => hs i (by unfold slotsT at hi; exact hi)) hl'⟩
    · rename_i ds
      unfold setT at e
      unfold gOf
      cases r with
      | lst s z ra =>
        rename_i a xs
        have hl : ds.length = ts.length := setTs_length e
        refine .inr ⟨a, xs, rfl, SqL.of s, by rw [← ra.length]; exact hl, gOfs_ok h ra e fun σ' h' ho hs hl' => k σ' h' ho (fun i hi => hs i (by unfold slotsT at hi; exact hi)) hl'⟩
theorem gOfs_ok : ∀ {ts : List Tg} {ds : List D} {vs : List V} {σ : Sg} {ρ ρ' : En} {Q : Sg → Hp → Prop}, ER c H σ ρ → RpA c.K c.mg H (Zf c σ ρ) ds vs → setTs ts ds ρ = .ok ρ' →
    (∀ σ', ER c H σ' ρ' → (∀ a, own σ' ρ' a → own σ ρ a) → (∀ i, i ∉ slotsTs ts → σ'[i]? = σ[i]? ∧ ρ'[i]? = ρ[i]?) → σ'.length = σ.length → Q σ' H) → gOfs c.K ts vs σ H Q
  | [], ds, vs, σ, ρ, ρ', Q, h, r, e, k => by
    cases ds <;> (try (unfold setTs at e; cases e; done))
    unfold setTs at e
    cases e
    cases r
    unfold gOfs
    exact ⟨rfl, k σ h (fun _ z => z) (fun _ _ => ⟨rfl, rfl⟩) rfl⟩
  | t :: ts, ds, vs, σ, ρ, ρ', Q, h, r, e, k => by
    cases ds with
    | nil => unfold setTs at e; cases e
    | cons d ds =>
      unfold setTs at e
      cases r with
      | cons r1 r2 =>
        cases e1 : setT t d ρ with
        | ok ρ1 =>
          rw [e1] at e
          unfold gOfs
          refine ⟨_, _, rfl, gOf_ok h r1 e1 fun σ1 h1 o1 s1 l1 => gOfs_ok h1 (r2.weak fun a o _ z => ⟨z.1, fun w => z.2 (o1 a w)⟩) e fun σ2 h2 o2 s2 l2 => k σ2 h2 (fun a w => o1 a (o2 a w)) (fun i hi => ?_) (l2.trans l1)⟩
          unfold slotsTs at hi
          rw [List.mem_append, not_or] at hi
          exact ⟨(s2 i hi.2).1.trans (s1 i hi.1).1, (s2 i hi.2).2.trans (s1 i hi.1).2⟩
        | exc _ => rw [e1] at e; cases e
        | bad => rw [e1] at e; cases e
theorem setTs_length : ∀ {ts : List Tg} {ds : List D} {ρ ρ' : En}, setTs ts ds ρ = .ok ρ' → ds.length = ts.length
  | [], ds, ρ, ρ', e => by
    cases ds <;> (try (unfold setTs at e; cases e; done))
    rfl
  | t :: ts, ds, ρ, ρ', e => by
    cases ds with
    | nil => unfold setTs at e; cases e
    | cons d ds =>
      unfold setTs at e
      cases e1 : setT t d ρ with
      | ok ρ1 =>
        rw [e1] at e
        rw [List.length_cons, List.length_cons, setTs_length e]
      | exc _ => rw [e1] at e; cases e
      | bad => rw [e1] at e; cases e
end
end
end OL
/-! What is walked; calls of defs. -/
namespace OL
open PySem PySem.Spec PyProof.Rows L2
/-- J yields the items ds, one behind another, as long as what stood in H (outside of one's own) stands -/
structure Wk (K : PySem.W.Frag) (mg : Str → Option Value) (H : Hp) (Z : Addr → Prop) (J : It) (ds : List D) : Prop where
  go : ∀ H1 i, Stay H Z H1 → i < ds.length → J.go i H1
  yld : ∀ H1 i x H2, Stay H Z H1 → J.yld i H1 x H2 → ∀ d, ds[i]? = some d → Same H1 H2 ∧ Rp K mg H2 (fun a => (Z a ∧ ∃ o, H a = some o) ∨ H1 a = none) d x
  stop : ∀ H1 i, Stay H Z H1 → ds.length ≤ i → J.stop i H1
section
variable {K : PySem.W.Frag} {mg : Str → Option Value} {H : Hp} {Z : Addr → Prop}
theorem Rp.stay {H1 : Hp} {d : D} {v : V} (h : Stay H Z H1) (r : Rp K mg H Z d v) : Rp K mg H1 (fun a => (Z a ∧ ∃ o, H a = some o) ∨ H1 a = none) d v := r.mono h fun a o e z => .inl ⟨z, o, e⟩
theorem wk_seq {a : Addr} {xs : List V} {ds : List D} (hl : ∀ H1, Stay H Z H1 → SqL K H1 a xs) (r : RpA K mg H Z ds xs) : Wk K mg H Z (Itl K a) ds where
  go := fun H1 i s hi => ⟨xs, _, hl H1 s, List.getElem?_eq_getElem (by rw [← r.length]; exact hi)⟩
  yld := fun H1 i x H2 s y d hd => by
    obtain ⟨rfl, y⟩ := y
    obtain ⟨v, hv, rv⟩ := r.get hd
    have e := (y xs (hl _ s)).symm.trans hv
    cases e
    exact ⟨Same.refl _, rv.stay s⟩
  stop := fun H1 i s hi => ⟨xs, hl H1 s, by rw [← r.length]; exact hi⟩
theorem wk_tup {a : Addr} {xs : List V} {ds : List D} (hl : SqT K H a xs) (r : RpA K mg H Z ds xs) : Wk K mg H Z (Itt K a) ds where
  go := fun H1 i s hi => ⟨xs, _, s.sqT hl, List.getElem?_eq_getElem (by rw [← r.length]; exact hi)⟩
  yld := fun H1 i x H2 s y d hd => by
    obtain ⟨rfl, y⟩ := y
    obtain ⟨v, hv, rv⟩ := r.get hd
    have e := (y xs (s.sqT hl)).symm.trans hv
    cases e
    exact ⟨Same.refl _, rv.stay s⟩
  stop := fun H1 i s hi => ⟨xs, s.sqT hl, by rw [← r.length]; exact hi⟩
theorem wk_str (z : Str) : Wk K mg H Z (Its z) (z.cps.toList.map fun q => .str ⟨#[q]⟩) where
  go := fun H1 i s hi => by rw [List.length_map, Array.length_toList] at hi; exact hi
  yld := fun H1 i x H2 s y d hd => by
    obtain ⟨rfl, q, hq, rfl⟩ := y
    rw [List.getElem?_map, Array.getElem?_toList, hq] at hd
    cases hd
    exact ⟨Same.refl _, .str _⟩
  stop := fun H1 i s hi => by rw [List.length_map, Array.length_toList] at hi; exact hi
theorem wk_rng (lo : Int) (n : Nat) : Wk K mg H Z (Itr lo n) ((List.range n).map fun (k : Nat) => .int (lo + k)) where
  go := fun H1 i s hi => by rw [List.length_map, List.length_range] at hi; exact hi
  yld := fun H1 i x H2 s y d hd => by
    obtain ⟨rfl, rfl⟩ := y
    rw [List.getElem?_map] at hd
    cases q : (List.range n)[i]? with
    | none => rw [q] at hd; cases hd
    | some j =>
      rw [q] at hd
      cases hd
      have hj : j = i := by
        obtain ⟨h1, h2⟩ := List.getElem?_eq_some_iff.mp q
        rw [List.getElem_range] at h2
        exact h2.symm
      subst hj
      exact ⟨Same.refl _, .int _⟩
  stop := fun H1 i s hi => by rw [List.length_map, List.length_range] at hi; exact hi
theorem wk_rev {a : Addr} {xs : List V} {ds : List D} (hl : ∀ H1, Stay H Z H1 → SqL K H1 a xs) (r : RpA K mg H Z ds xs) : Wk K mg H Z (Itv K a xs.length) ds.reverse where
  go := fun H1 i s hi => by
    rw [List.length_reverse, r.length] at hi
    exact ⟨hi, xs, _, hl H1 s, List.getElem?_eq_getElem (by omega)⟩
  yld := fun H1 i x H2 s y d hd => by
    obtain ⟨rfl, y⟩ := y
    have hi : i < ds.length := by
      have := (List.getElem?_eq_some_iff.mp hd).1
      rw [List.length_reverse] at this
      exact this
    rw [List.getElem?_reverse hi] at hd
    obtain ⟨v, hv, rv⟩ := r.get hd
    have hv' : xs[xs.length - 1 - i]? = some v := by rw [← r.length]; exact hv
    have e := (y xs (hl _ s)).symm.trans hv'
    cases e
    exact ⟨Same.refl _, rv.stay s⟩
  stop := fun H1 i s hi => by rw [List.length_reverse, r.length] at hi; exact hi
theorem enum_get {ds : List D} {i : Nat} {d : D} (h : (enumD ds)[i]? = some d) : ∃ e, ds[i]? = some e ∧ d = .tup [.int i, e] := by
  unfold enumD at h
  rw [List.getElem?_zipWith] at h
  cases q : (List.range ds.length)[i]? with
  | none => rw [q] at h; cases h
  | some j =>
    have hj : j = i := by
      obtain ⟨h1, h2⟩ := List.getElem?_eq_some_iff.mp q
      rw [List.getElem_range] at h2
      exact h2.symm
    subst hj
    rw [q] at h
    cases q2 : ds[j]? with
    | none => rw [q2] at h; cases h
    | some e =>
      rw [q2] at h
      cases h
      exact ⟨e, rfl, rfl⟩
theorem enum_length (ds : List D) : (enumD ds).length = ds.length := by
  unfold enumD
  rw [List.length_zipWith, List.length_range, Nat.min_self]
theorem wk_enum {a : Addr} {xs : List V} {ds : List D} (hl : ∀ H1, Stay H Z H1 → SqL K H1 a xs) (r : RpA K mg H Z ds xs) : Wk K mg H Z (Ite K a) (enumD ds) where
  go := fun H1 i s hi => ⟨xs, _, hl H1 s, List.getElem?_eq_getElem (by rw [← r.length, ← enum_length]; exact hi)⟩
  yld := fun H1 i x H2 s y d hd => by
    obtain ⟨T, w, rfl, hT, rfl, y⟩ := y
    obtain ⟨e, he, rfl⟩ := enum_get hd
    obtain ⟨v, hv, rv⟩ := r.get he
    have e := (y xs (hl _ s)).symm.trans hv
    cases e
    exact ⟨same_upd hT, .tup (SqT.of upd_same) (.cons (.int _) (.cons ((rv.stay s).same (same_upd hT)) .nil))⟩
  stop := fun H1 i s hi => ⟨xs, hl H1 s, by rw [← r.length, ← enum_length]; exact hi⟩
theorem zip_get {ds es : List D} {i : Nat} {d : D} (h : (zipD ds es)[i]? = some d) : ∃ x y, ds[i]? = some x ∧ es[i]? = some y ∧ d = .tup [x, y] := by
  unfold zipD at h
  rw [List.getElem?_zipWith] at h
  cases q : ds[i]? with
  | none => rw [q] at h; cases h
  | some x =>
    rw [q] at h
    cases q2 : es[i]? with
    | none => rw [q2] at h; cases h
    | some y =>
      rw [q2] at h
      cases h
      exact ⟨x, y, rfl, rfl, rfl⟩
theorem wk_zip {a b : Addr} {xs ys : List V} {ds es : List D} (hl : ∀ H1, Stay H Z H1 → SqL K H1 a xs) (hl2 : ∀ H1, Stay H Z H1 → SqL K H1 b ys) (r : RpA K mg H Z ds xs) (r2 : RpA K mg H Z es ys) : Wk K mg H Z (Itz K a b) (zipD ds es) where
  go := fun H1 i s hi => by
    unfold zipD at hi
    rw [List.length_zipWith, r.length, r2.length] at hi
    exact ⟨xs, ys, _, _, hl H1 s, hl2 H1 s, List.getElem?_eq_getElem (by omega), List.getElem?_eq_getElem (by omega)⟩
  yld := fun H1 i x H2 s y d hd => by
    obtain ⟨T, w, u, rfl, hT, rfl, y1, y2⟩ := y
    obtain ⟨e, f, he, hf, rfl⟩ := zip_get hd
    obtain ⟨v, hv, rv⟩ := r.get he
    obtain ⟨v2, hv2, rv2⟩ := r2.get hf
    have e1 := (y1 xs (hl _ s)).symm.trans hv
    have e2 := (y2 ys (hl2 _ s)).symm.trans hv2
    cases e1; cases e2
    exact ⟨same_upd hT, .tup (SqT.of upd_same) (.cons ((rv.stay s).same (same_upd hT)) (.cons ((rv2.stay s).same (same_upd hT)) .nil))⟩
  stop := fun H1 i s hi => by
    unfold zipD at hi
    rw [List.length_zipWith, r.length, r2.length] at hi
    exact ⟨xs, ys, hl H1 s, hl2 H1 s, by omega⟩
end
/-- the reading of what is walked -/
def tI (c : Cn) (W : WX) (x : Ex) : TI := fun σ H R => ∃ ρ, ER c H σ ρ ∧ ((ev ρ x).bind itemsOf).all (fun ds => ∀ J H', Same H H' → Wk c.K c.mg H' (Zf c σ ρ) J ds → R J H') (fun k => ∀ H', Same H H' → XW c W k σ H')
theorem pi_or {X : Cx} {tg e : Expr} {w w' : TI} (h : PI X tg e w) (h' : PI X tg e w') : PI X tg e (fun σ H R => w σ H R ∨ w' σ H R) := ⟨fun pins s σ H R I q => q.elim (h.run pins s σ H R I) (h'.run pins s σ H R I)⟩
theorem pi_imp {X : Cx} {tg e : Expr} {w w' : TI} (h : PI X tg e w) (i : ∀ σ H R, w' σ H R → w σ H R) : PI X tg e w' := ⟨fun pins s σ H R I q => h.run pins s σ H R I (i σ H R q)⟩
theorem stay_lst {K : PySem.W.Frag} {H : Hp} {Z : Addr → Prop} {a : Addr} {xs : List V} (e : H a = some (.lst xs)) (z : Z a) : ∀ H1, Stay H Z H1 → SqL K H1 a xs := fun H1 s => SqL.of (s a _ e fun _ => z)
theorem stay_frz {K : PySem.W.Frag} {H : Hp} {Z : Addr → Prop} {a : Addr} {xs : List V} (e : ScA K H a xs) : ∀ H1, Stay H Z H1 → SqL K H1 a xs := fun H1 s => (s.scA e).sq
/-- a plain iterable: a list, a tuple, a text, the script -/
theorem pi_plain {X : Cx} {tg e : Expr} {H0 : Hp} {Gp : Addr → Prop} {W : WX} {x : Ex} (h : PE X e (tX (cn X H0 Gp) W x)) (hb : nb x = true) : PI X tg e (tI (cn X H0 Gp) W x) := by
  refine pi_imp (pi_or (pi_list h) (pi_or (pi_tup h) (pi_str h))) fun σ H R q => ?_
  obtain ⟨ρ, er, q⟩ := q
  cases e1 : ev ρ x with
  | ok d =>
    rw [e1] at q
    have q : (itemsOf d).all (fun ds => ∀ J H', Same H H' → Wk X.K X.mg H' (Zf (cn X H0 Gp) σ ρ) J ds → R J H') (fun k => ∀ H', Same H H' → XW (cn X H0 Gp) W k σ H') := q
    unfold itemsOf at q
    split at q
    · refine .inl ⟨ρ, er, ?_⟩
      rw [e1]
      intro v H' po
      have r := po.rp hb
      cases r with
      | lst e2 z ra => exact ⟨_, rfl, ⟨_, SqL.of e2⟩, q _ _ po.same (wk_seq (stay_lst e2 z) ra)⟩
    · refine .inr (.inl ⟨ρ, er, ?_⟩)
      rw [e1]
      intro v H' po
      have r := po.rp hb
      cases r with
      | tup s ra => exact ⟨_, rfl, ⟨_, s⟩, q _ _ po.same (wk_tup s ra)⟩
    · refine .inl ⟨ρ, er, ?_⟩
      rw [e1]
      intro v H' po
      have r := po.rp hb
      cases r with
      | scr e2 => exact ⟨_, rfl, ⟨_, e2.sq⟩, q _ _ po.same (wk_seq (stay_frz e2) (RpA.ints _))⟩
    · refine .inr (.inr ⟨ρ, er, ?_⟩)
      rw [e1]
      intro v H' po
      have r := po.rp hb
      cases r with
      | str => exact ⟨_, rfl, q _ _ po.same (wk_str _)⟩
    · exact q.elim
  | exc k =>
    rw [e1] at q
    exact .inl ⟨ρ, er, by rw [e1]; exact q⟩
  | bad => rw [e1] at q; exact q.elim
/-- a list, a readable one, at hand -/
theorem items_lst {c : Cn} {H : Hp} {σ : Sg} {ρ : En} {d : D} {v : V} {ds : List D} (r : Rp c.K c.mg H (Zf c σ ρ) d v) (e : itemsOf d = .ok ds) (hd : ∀ z, d ≠ .str z) (ht : ∀ ts, d ≠ .tup ts) :
    ∃ a xs, v = .ref a ∧ SqL c.K H a xs ∧ (∀ H1, Stay H (Zf c σ ρ) H1 → SqL c.K H1 a xs) ∧ RpA c.K c.mg H (Zf c σ ρ) ds xs := by
  unfold itemsOf at e
  split at e
  · cases e
    cases r with | lst e2 z ra => exact ⟨_, _, rfl, SqL.of e2, stay_lst e2 z, ra⟩
  · exact absurd rfl (ht _)
  · cases e
    cases r with | scr e2 => exact ⟨_, _, rfl, e2.sq, stay_frz e2, RpA.ints _⟩
  · exact absurd rfl (hd _)
  · cases e
/-! ### a def is called -/
section
variable {X : Cx} {CX : CXT} {k : Nat} {f : Addr} {fd : FuncData} {ps : List Str} {sp : Sp} {dvs : List V} {ds : List Value}
theorem run_fnD {pins : List (Addr × Obj)} {σ : Sg} {H : Hp} {s : Shared} {Q : VK} {E : XK} {us : List Value} {vs : List V} (F : FnOk X.prog X.w X.K X.mg X.base CX k f fd ps sp) (hr : Room k X.A) (hb : Binds X.K fd ps ds)
    (hd : Vals dvs ds) (hx : PassesAt CX X σ E) (I : Inv X pins σ H s) (r : Vals vs us) (h : sp (vs ++ dvs) H Q E) :
    wpAny (model X.prog X.w) X.A (call (.ref f) us) (EP X pins σ Q) X.xe s := by
  have r2 := Vals.append r hd
  have hl : (us ++ ds).length = ps.length := r2.length.symm.trans (F.len _ _ _ _ h)
  have go := F.run X.A X.stack s H ⟨us, []⟩ (us ++ ds) (vs ++ dvs) Q E hr I.env0 (hb s us I.kIn hl) r2 h
  refine wpAny_call (codeAny_mono go ?_)
  rintro (e | fl) s' hq
  · exact hx pins H s e s' I hq
  · cases fl <;> first | exact I.after hq | exact False.elim hq
theorem pe_callD {n : Str} {p pos : Pos} {e : Expr} {es : List Expr} {t : TA} {E : L2.St → XK} (F : FnOk X.prog X.w X.K X.mg X.base CX k f fd ps sp) (hr : Room k X.A) (hb : Binds X.K fd ps ds) (hd : Vals dvs ds)
    (hg : Gl X n) (hm : X.mg n = some (.ref f)) (hk : PySem.W.keepIn X.K (.ref f) = true) (hx : ∀ σ, PassesAt CX X σ (E σ)) (ha : PA X (e :: es) t) (hdb : (n == ("__debug__" : Str)) = false)
    (he : starEach (e :: es) X.env = (false, eval e X.env) :: starEach es X.env) (hpl : (backTo pos (starEach es X.env)).any (·.1) = false) :
    PE X (.Call (.Name n p) (e :: es) [] pos) (fun σ H Q => t σ H fun vs H1 => sp (vs ++ dvs) H1 Q (E σ)) := by
  constructor
  intro pins s σ H Q I h
  apply wpAny_Call_Name_kw
  apply ld_glob I hg hm _ hdb
  apply PySem.W.callWith_K (h₀ := X.base) I.ok.mod.kin hk _ he hpl
  apply thn (ha.run pos pins s σ H _ I h)
  rintro us s1 ⟨vs, H1, I1, r, q⟩
  exact ⟨I1.kIn, run_fnD F hr hb hd (hx σ) I1 r q⟩
end
end OL
/-! What an expression of the program does, it does by the small language's words. -/
namespace OL
open PySem PySem.Spec PyProof.Rows L2
/-- sound: the reading of x is a reading of each expression that is x -/
structure Snd (x : Ex) : Prop where
  pe : ∀ {X : Cx} {H0 : Hp} {Gp : Addr → Prop} {W : WX} {tb : Fn → Prop} {tg : String → D → Prop} {hot : Bool} {e : Expr}, Good tb tg X hot → Takes X W → (hot = true → hotOk x = true) → cal tb tg x → ck X.N x X.env.scope e = true → PE X e (tX (cn X H0 Gp) W x)
  pt : ∀ {X : Cx} {H0 : Hp} {Gp : Addr → Prop} {W : WX} {tb : Fn → Prop} {tg : String → D → Prop} {hot : Bool} {e : Expr}, Good tb tg X hot → Takes X W → (hot = true → hotOk x = true) → cal tb tg x → ck X.N x X.env.scope e = true → PT X e (tT (cn X H0 Gp) W x)
theorem emp_of {α β : Type} : ∀ {xs : List α} {ys : List β}, xs.length = ys.length → (!xs.isEmpty) = !ys.isEmpty
  | [], [], _ => rfl
  | _ :: _, _ :: _, _ => rfl
  | [], _ :: _, h => by simp at h
  | _ :: _, [], h => by simp at h
theorem tru_of {K : PySem.W.Frag} {mg : Str → Option Value} {H : Hp} {Z : Addr → Prop} {d : D} {v : V} {b : Bool} (r : Rb K mg H Z d v) (h : truD d = some b) : TruV K v H b := by
  unfold truD at h
  split at h
  · cases h; cases r.non; exact rfl
  · cases h; cases r.bl; exact rfl
  · cases h; cases r.int; exact rfl
  · cases r.str
    split at h
    · rename_i hl
      cases h
      exact ⟨by rw [line_eq]; exact hl, rfl⟩
    · cases h
  · cases h
    obtain ⟨a, xs, rfl, s, ra⟩ := r.tup
    exact .inr (.inl ⟨xs, s, emp_of ra.length⟩)
  · cases h
    obtain ⟨a, xs, rfl, s, ra⟩ := r.lst
    exact .inl ⟨xs, SqL.of s, emp_of ra.length⟩
  · cases h
    obtain ⟨a, rfl, s⟩ := r.scr
    refine .inl ⟨_, s.sq, ?_⟩
    rename_i ns
    cases ns <;> rfl
  · cases h
theorem pt_gen {X : Cx} {H0 : Hp} {Gp : Addr → Prop} {W : WX} {x : Ex} {e : Expr} (h : PE X e (tX (cn X H0 Gp) W x)) (he : ∀ whole, isTrue e X.env whole = (do let v ← whole; standAt e.pos; holding [v] (truthy v))) : PT X e (tT (cn X H0 Gp) W x) := by
  refine pt_imp (pt_truth h he) fun σ H Q q => ?_
  obtain ⟨ρ, er, q⟩ := q
  refine tX_then er q fun d v H' e1 po er' q' => ?_
  split at q'
  · rename_i b hb
    exact ⟨b, tru_of po.rb hb, q' H' (po.same)⟩
  · exact q'.elim
/-- an answer that is a truth, of a test -/
theorem tT_of {c : Cn} {W : WX} {σ : Sg} {H : Hp} {Q : Bool → Hp → Prop} {r : R D} (q : (r.bind fun d => match truD d with | some b => R.ok b | none => R.bad).all (fun b => ∀ H', Same H H' → Q b H') (fun k => ∀ H', Same H H' → XW c W k σ H')) :
    r.all (fun d => ∃ b, truD d = some b ∧ ∀ H', Same H H' → Q b H') (fun k => ∀ H', Same H H' → XW c W k σ H') := by
  cases r with
  | ok d =>
    have q' : (match truD d with | some b => R.ok b | none => R.bad).all (fun b => ∀ H', Same H H' → Q b H') (fun k => ∀ H', Same H H' → XW c W k σ H') := q
    split at q'
    · rename_i b hb; exact ⟨b, hb, q'⟩
    · exact q'.elim
  | exc k => exact q
  | bad => exact q.elim
section
variable {X : Cx} {H0 : Hp} {Gp : Addr → Prop} {W : WX} {tb : Fn → Prop} {tg : String → D → Prop} {hot : Bool}
/-- the arguments of a call, the items of a display -/
theorem pa_of (G : Good tb tg X hot) (tk : Takes X W) : ∀ {xs : List Ex} {es : List Expr}, (∀ x ∈ xs, Snd x) → (hot = true → hotOkL xs = true) → calL tb tg xs → ckL X.N xs X.env.scope es = true → PA X es (tA (cn X H0 Gp) W xs)
  | [], [], _, _, _, _ => pa_imp pa_nil fun σ H Q ⟨ρ, er, q⟩ => q [] H ⟨Same.refl _, .nil, fun _ => .nil⟩
  | [], _ :: _, _, _, _, h => by unfold ckL at h; cases h
  | _ :: _, [], _, _, _, h => by unfold ckL at h; cases h
  | x :: xs, e :: es, hs, hh, hc, h => by
    unfold ckL at h
    rw [Bool.and_eq_true, Bool.and_eq_true] at h
    unfold calL at hc
    have hh1 : hot = true → hotOk x = true := fun z => by have := hh z; unfold hotOkL at this; rw [Bool.and_eq_true] at this; exact this.1
    have hh2 : hot = true → hotOkL xs = true := fun z => by have := hh z; unfold hotOkL at this; rw [Bool.and_eq_true] at this; exact this.2
    refine pa_imp (pa_cons ((hs x List.mem_cons_self).pe (H0 := H0) (Gp := Gp) G tk hh1 hc.1 h.1.1) (pa_of G tk (fun y hy => hs y (List.mem_cons_of_mem _ hy)) hh2 hc.2 h.2) (star_of h.1.2 es X.env)) fun σ H Q q => ?_
    obtain ⟨ρ, er, q⟩ := q
    unfold evs at q
    refine tX_then er q fun d v H1 e1 po er1 q1 => ?_
    refine tA_then er1 q1 fun ds vs H2 e2 po2 er2 q2 => ?_
    refine q2 _ _ ⟨po.same.trans po2.same, .cons (po.rb.same po2.same) po2.rb, fun z => ?_⟩
    rw [List.all_cons, Bool.and_eq_true] at z
    exact .cons ((po.rp z.1).same po2.same) (po2.rp z.2)
end
end OL
namespace OL
open PySem PySem.Spec PyProof.Rows L2
theorem name_tru {x : Str} {p : Pos} {env : Env} (whole : Sem Value) : isTrue (.Name x p) env whole = (do let v ← whole; standAt (Expr.Name x p).pos; holding [v] (truthy v)) := rfl
theorem snd_var (i : Nat) : Snd (.var i) := by
  have pe : ∀ {X : Cx} {H0 : Hp} {Gp : Addr → Prop} {W : WX} {e : Expr}, ck X.N (.var i) X.env.scope e = true → PE X e (tX (cn X H0 Gp) W (.var i)) := by
    intro X H0 Gp W e h
    obtain ⟨n, p, rfl, h1, h2, h3⟩ := ck_var h
    obtain ⟨d1, d2, _⟩ := dbg_of h3
    refine pe_imp (pe_var h1 (vis_of h2) d1 d2) fun σ H Q q => ?_
    obtain ⟨ρ, er, q⟩ := q
    unfold ev getv at q
    split at q
    · rename_i d hd
      obtain ⟨v, e1, r⟩ := er.val i d hd
      exact ⟨v, e1, q v H (.plain (Same.refl _) r rfl)⟩
    · exact q.elim
  refine ⟨fun _ _ _ _ h => pe h, fun _ _ _ _ h => ?_⟩
  obtain ⟨n, p, rfl, _⟩ := ck_var h
  exact pt_gen (pe h) fun _ => rfl
theorem snd_bor (i : Nat) : Snd (.bor i) := by
  have pe : ∀ {X : Cx} {H0 : Hp} {Gp : Addr → Prop} {W : WX} {e : Expr}, ck X.N (.bor i) X.env.scope e = true → PE X e (tX (cn X H0 Gp) W (.bor i)) := by
    intro X H0 Gp W e h
    obtain ⟨n, p, rfl, h1, h2, h3⟩ := ck_bor h
    obtain ⟨d1, d2, _⟩ := dbg_of h3
    refine pe_imp (pe_var h1 (vis_of h2) d1 d2) fun σ H Q q => ?_
    obtain ⟨ρ, er, q⟩ := q
    unfold ev getb at q
    split at q
    · rename_i d hd
      obtain ⟨a, xs, e1, e2, e3, r⟩ := er.lst i d hd
      exact ⟨_, e1, q _ H ⟨Same.refl _, .o e2 r, fun z => by (cases z), fun z => by (cases z)⟩⟩
    · exact q.elim
  refine ⟨fun _ _ _ _ h => pe h, fun _ _ _ _ h => ?_⟩
  obtain ⟨n, p, rfl, _⟩ := ck_bor h
  exact pt_gen (pe h) fun _ => rfl
theorem snd_nop : Snd .nop := ⟨fun _ _ _ _ h => by (cases ‹Expr› <;> (unfold ck at h; cases h)), fun _ _ _ _ h => by (cases ‹Expr› <;> (unfold ck at h; cases h))⟩
theorem snd_lit (d : D) : Snd (.lit d) := by
  have pe : ∀ {X : Cx} {H0 : Hp} {Gp : Addr → Prop} {W : WX} {e : Expr}, ck X.N (.lit d) X.env.scope e = true → PE X e (tX (cn X H0 Gp) W (.lit d)) := by
    intro X H0 Gp W e h
    obtain ⟨k, j, p, rfl, hl⟩ := ck_lit h
    unfold litOk at hl
    split at hl
    · exact pe_imp pe_non fun σ H Q ⟨ρ, er, q⟩ => q _ H (.plain (Same.refl _) .non rfl)
    · rename_i a b
      have : a = b := by simpa using hl
      subst this
      exact pe_imp pe_bl fun σ H Q ⟨ρ, er, q⟩ => q _ H (.plain (Same.refl _) (.bl _) rfl)
    · have := of_decide_eq_true hl
      subst this
      exact pe_imp pe_int fun σ H Q ⟨ρ, er, q⟩ => q _ H (.plain (Same.refl _) (.int _) rfl)
    · have := of_decide_eq_true hl
      subst this
      exact pe_imp pe_str fun σ H Q ⟨ρ, er, q⟩ => q _ H (.plain (Same.refl _) (.str _) rfl)
    · cases hl
  refine ⟨fun _ _ _ _ h => pe h, fun _ _ _ _ h => ?_⟩
  obtain ⟨n, j, p, rfl, _⟩ := ck_lit h
  exact pt_gen (pe h) fun _ => rfl
theorem snd_glob (n : String) (d : D) : Snd (.glob n d) := by
  have pe : ∀ {X : Cx} {H0 : Hp} {Gp : Addr → Prop} {W : WX} {tb : Fn → Prop} {tg : String → D → Prop} {hot : Bool} {e : Expr}, Good tb tg X hot → cal tb tg (.glob n d) → ck X.N (.glob n d) X.env.scope e = true → PE X e (tX (cn X H0 Gp) W (.glob n d)) := by
    intro X H0 Gp W tb tg hot e G hc h
    obtain ⟨p, rfl, h1, h2⟩ := ck_glob h
    unfold cal at hc
    obtain ⟨u, v, e1, e2, r⟩ := G.glb n d hc.1 hc.2
    exact pe_imp (pe_glob (gl_of h1) e1 e2 (dbg_of h2).1) fun σ H Q ⟨ρ, er, q⟩ => q _ H (.plain (Same.refl _) (r _ _) rfl)
  refine ⟨fun G _ _ c h => pe G c h, fun G _ _ c h => ?_⟩
  obtain ⟨p, rfl, _⟩ := ck_glob h
  exact pt_gen (pe G c h) fun _ => rfl
theorem snd_tup {xs : List Ex} (hs : ∀ x ∈ xs, Snd x) : Snd (.tup xs) := by
  have pe : ∀ {X : Cx} {H0 : Hp} {Gp : Addr → Prop} {W : WX} {tb : Fn → Prop} {tg : String → D → Prop} {hot : Bool} {e : Expr}, Good tb tg X hot → Takes X W → (hot = true → hotOk (.tup xs) = true) → cal tb tg (.tup xs) → ck X.N (.tup xs) X.env.scope e = true → PE X e (tX (cn X H0 Gp) W (.tup xs)) := by
    intro X H0 Gp W tb tg hot e G tk hh hc h
    obtain ⟨es, k, p, rfl, h1, h2⟩ := ck_tup h
    unfold cal at hc
    refine pe_imp (pe_tup (pa_of (H0 := H0) (Gp := Gp) G tk hs (fun z => by have := hh z; unfold hotOk at this; exact this) hc h1)) fun σ H Q q => ?_
    obtain ⟨ρ, er, q⟩ := q
    unfold ev at q
    refine tA_then er q fun ds vs H1 e1 po er1 q1 => ?_
    split at q1
    · rename_i hl
      have ra := po.rp h2
      refine ⟨by rw [line_eq, ← ra.length]; exact hl, fun p hp => q1 _ _ (Nw.po er po.same (.nt hp ra))⟩
    · exact q1.elim
  refine ⟨fun G tk hh c h => pe G tk hh c h, fun G tk hh c h => ?_⟩
  obtain ⟨es, k, p, rfl, _⟩ := ck_tup h
  exact pt_gen (pe G tk hh c h) fun _ => rfl
theorem snd_lst {xs : List Ex} (hs : ∀ x ∈ xs, Snd x) : Snd (.lst xs) := by
  have pe : ∀ {X : Cx} {H0 : Hp} {Gp : Addr → Prop} {W : WX} {tb : Fn → Prop} {tg : String → D → Prop} {hot : Bool} {e : Expr}, Good tb tg X hot → Takes X W → (hot = true → hotOk (.lst xs) = true) → cal tb tg (.lst xs) → ck X.N (.lst xs) X.env.scope e = true → PE X e (tX (cn X H0 Gp) W (.lst xs)) := by
    intro X H0 Gp W tb tg hot e G tk hh hc h
    obtain ⟨es, p, rfl, h1, h2⟩ := ck_lst h
    unfold cal at hc
    refine pe_imp (pe_lst (pa_of (H0 := H0) (Gp := Gp) G tk hs (fun z => by have := hh z; unfold hotOk at this; exact this) hc h1)) fun σ H Q q => ?_
    obtain ⟨ρ, er, q⟩ := q
    unfold ev at q
    refine tA_then er q fun ds vs H1 e1 po er1 q1 => ?_
    split at q1
    · rename_i hl
      have ra := po.rp h2
      refine ⟨by rw [line_eq, ← ra.length]; exact hl, fun p hp => q1 _ _ (Nw.po er po.same (.nl hp ra))⟩
    · exact q1.elim
  refine ⟨fun G tk hh c h => pe G tk hh c h, fun G tk hh c h => ?_⟩
  obtain ⟨es, p, rfl, _⟩ := ck_lst h
  exact pt_gen (pe G tk hh c h) fun _ => rfl
theorem snd_bin {op : Op} {x y : Ex} (hx : Snd x) (hy : Snd y) : Snd (.bin op x y) := by
  have pe : ∀ {X : Cx} {H0 : Hp} {Gp : Addr → Prop} {W : WX} {tb : Fn → Prop} {tg : String → D → Prop} {hot : Bool} {e : Expr}, Good tb tg X hot → Takes X W → (hot = true → hotOk (.bin op x y) = true) → cal tb tg (.bin op x y) → ck X.N (.bin op x y) X.env.scope e = true → PE X e (tX (cn X H0 Gp) W (.bin op x y)) := by
    intro X H0 Gp W tb tg hot e G tk hh hc h
    obtain ⟨a, b, p, rfl, h1, h2⟩ := ck_bin h
    unfold cal at hc
    have hh1 : hot = true → hotOk x = true ∧ hotOk y = true := fun z => by have := hh z; unfold hotOk at this; rw [Bool.and_eq_true] at this; exact this
    refine pe_imp (pe_op (op_bin op) (hx.pe (H0 := H0) (Gp := Gp) G tk (fun z => (hh1 z).1) hc.1 h1) (hy.pe (H0 := H0) (Gp := Gp) G tk (fun z => (hh1 z).2) hc.2 h2)) fun σ H Q q => ?_
    obtain ⟨ρ, er, q⟩ := q
    unfold ev at q
    refine tX_then er q fun d v H1 e1 po er1 q1 => ?_
    refine tX_then er1 q1 fun d2 v2 H2 e2 po2 er2 q2 => ?_
    refine ⟨_, fun _ => True, d, d2, po.rb.same po2.same, po2.rb, ?_⟩
    cases e3 : binD op d d2 with
    | ok w => rw [e3] at q2; exact fun u H' nw => q2 u H' (nw.po er (po.same.trans po2.same))
    | exc k => exact trivial
    | bad => rw [e3] at q2; exact q2.elim
  refine ⟨fun G tk hh c h => pe G tk hh c h, fun G tk hh c h => ?_⟩
  obtain ⟨a, b, p, rfl, _⟩ := ck_bin h
  exact pt_gen (pe G tk hh c h) fun _ => rfl
theorem snd_neg {x : Ex} (hx : Snd x) : Snd (.neg x) := by
  have pe : ∀ {X : Cx} {H0 : Hp} {Gp : Addr → Prop} {W : WX} {tb : Fn → Prop} {tg : String → D → Prop} {hot : Bool} {e : Expr}, Good tb tg X hot → Takes X W → (hot = true → hotOk (.neg x) = true) → cal tb tg (.neg x) → ck X.N (.neg x) X.env.scope e = true → PE X e (tX (cn X H0 Gp) W (.neg x)) := by
    intro X H0 Gp W tb tg hot e G tk hh hc h
    obtain ⟨a, p, rfl, h1⟩ := ck_neg h
    unfold cal at hc
    refine pe_imp (pe_un un_neg (hx.pe (H0 := H0) (Gp := Gp) G tk (fun z => by have := hh z; unfold hotOk at this; exact this) hc h1)) fun σ H Q q => ?_
    obtain ⟨ρ, er, q⟩ := q
    unfold ev at q
    refine tX_then er q fun d v H1 e1 po er1 q1 => ?_
    unfold negD at q1
    split at q1
    · cases po.rb.int
      exact ⟨_, rfl, q1 _ _ (.plain po.same (.int _) rfl)⟩
    · exact q1.elim
  refine ⟨fun G tk hh c h => pe G tk hh c h, fun G tk hh c h => ?_⟩
  obtain ⟨a, p, rfl, _⟩ := ck_neg h
  exact pt_gen (pe G tk hh c h) fun _ => rfl
theorem cp_bool {op : Cp} {d e w : D} (h : cpD op d e = .ok w) : ∃ b, w = .bl b := by
  unfold cpD at h
  split at h <;> first | (cases h; exact ⟨_, rfl⟩) | (split at h <;> first | (cases h; exact ⟨_, rfl⟩) | cases h | (split at h <;> first | (cases h; exact ⟨_, rfl⟩) | cases h)) | cases h
theorem snd_cmp {op : Cp} {x y : Ex} (hx : Snd x) (hy : Snd y) : Snd (.cmp op x y) := by
  refine ⟨fun {X H0 Gp W tb tg hot e} G tk hh hc h => ?_, fun {X H0 Gp W tb tg hot e} G tk hh hc h => ?_⟩
  all_goals
    obtain ⟨a, b, p, rfl, hm, h1, h2⟩ := ck_cmp h
    unfold cal at hc
    have hh1 : hot = true → hotOk x = true ∧ hotOk y = true := fun z => by have := hh z; unfold hotOk at this; rw [Bool.and_eq_true] at this; exact this
    have px := hx.pe (H0 := H0) (Gp := Gp) G tk (fun z => (hh1 z).1) hc.1 h1
    have py := hy.pe (H0 := H0) (Gp := Gp) G tk (fun z => (hh1 z).2) hc.2 h2
  · refine pe_imp (pe_cmpR (op_cmp G.un op) px py hm) fun σ H Q q => ?_
    obtain ⟨ρ, er, q⟩ := q
    unfold ev at q
    refine tX_then er q fun d v H1 e1 po er1 q1 => ?_
    refine tX_then er1 q1 fun d2 v2 H2 e2 po2 er2 q2 => ?_
    refine ⟨_, fun _ => True, d, d2, po.rb.same po2.same, po2.rb, ?_⟩
    cases e3 : cpD op d d2 with
    | ok w => rw [e3] at q2; exact fun u H' nw => q2 u H' (nw.po er (po.same.trans po2.same))
    | exc k => exact trivial
    | bad => rw [e3] at q2; exact q2.elim
  · refine pt_imp (pt_cmpR (op_cmp G.un op) px py hm) fun σ H Q q => ?_
    obtain ⟨ρ, er, q⟩ := q
    unfold tst ev at q
    have q := tT_of q
    refine tX_then er q fun d v H1 e1 po er1 q1 => ?_
    refine tX_then er1 q1 fun d2 v2 H2 e2 po2 er2 q2 => ?_
    refine ⟨_, fun _ => True, d, d2, po.rb.same po2.same, po2.rb, ?_⟩
    cases e3 : cpD op d d2 with
    | ok w =>
      rw [e3] at q2
      intro u H' nw
      obtain ⟨b, rfl⟩ := cp_bool e3
      obtain ⟨b', hb, q3⟩ := q2
      cases hb
      have po3 := nw.po (x := .cmp op x y) er (po.same.trans po2.same)
      exact ⟨b, po3.rb.bl, q3 H' po3.same⟩
    | exc k => exact trivial
    | bad => rw [e3] at q2; exact q2.elim
theorem snd_chain {op op' : Cp} {x y z : Ex} (hx : Snd x) (hy : Snd y) (hz : Snd z) : Snd (.chain op op' x y z) := by
  refine ⟨fun {X H0 Gp W tb tg hot e} G tk hh hc h => ?_, fun {X H0 Gp W tb tg hot e} G tk hh hc h => ?_⟩
  all_goals
    obtain ⟨a, b, d, p, rfl, hm, h1, h2, h3⟩ := ck_chain h
    unfold cal at hc
    have hh1 : hot = true → hotOk x = true ∧ hotOk y = true ∧ hotOk z = true := fun w => by have := hh w; unfold hotOk at this; rw [Bool.and_eq_true, Bool.and_eq_true] at this; exact ⟨this.1.1, this.1.2, this.2⟩
    have px := hx.pe (H0 := H0) (Gp := Gp) G tk (fun w => (hh1 w).1) hc.1 h1
    have py := hy.pe (H0 := H0) (Gp := Gp) G tk (fun w => (hh1 w).2.1) hc.2.1 h2
    have pz := hz.pe (H0 := H0) (Gp := Gp) G tk (fun w => (hh1 w).2.2) hc.2.2 h3
  · refine pe_imp (pe_chain (op_cmp G.un op) (op_cmp G.un op') px py pz hm) fun σ H Q q => ?_
    obtain ⟨ρ, er, q⟩ := q
    unfold ev at q
    refine tX_then er q fun d v H1 e1 po er1 q1 => ?_
    refine tX_then er1 q1 fun d2 v2 H2 e2 po2 er2 q2 => ?_
    refine ⟨_, fun _ => True, d, d2, po.rb.same po2.same, po2.rb, ?_⟩
    cases e3 : cpD op d d2 with
    | ok w =>
      rw [e3] at q2
      intro u H' nw
      obtain ⟨b, rfl⟩ := cp_bool e3
      have po3 := nw.po (x := .cmp op x y) er (po.same.trans po2.same)
      refine ⟨b, po3.rb.bl, ?_⟩
      have s3 : Same H2 H' := by cases nw <;> first | exact Same.refl _ | (exact same_upd (by assumption))
      have er3 := er2.same s3
      cases b with
      | false => exact iteF (q2 _ _ (.noL po3.same (.bl _) fun _ w => by cases w))
      | true =>
        refine iteT ?_
        have q3 : ((ev ρ z).bind fun c => cpD op' d2 c).all (fun d => ∀ v H', Po (cn X H0 Gp) σ ρ (.chain op op' x y z) H H' d v → Q v H') (fun k => ∀ H'', Same H2 H'' → XW (cn X H0 Gp) W k σ H'') := q2
        have q4 : ((ev ρ z).bind fun c => cpD op' d2 c).all (fun d => ∀ v H', Po (cn X H0 Gp) σ ρ (.chain op op' x y z) H H' d v → Q v H') (fun k => ∀ H'', Same H' H'' → XW (cn X H0 Gp) W k σ H'') := by
          cases e5 : (ev ρ z).bind fun c => cpD op' d2 c with
          | ok _ => rw [e5] at q3; exact q3
          | exc k => rw [e5] at q3; exact fun H'' s => q3 H'' (s3.trans s)
          | bad => rw [e5] at q3; exact q3
        refine tX_then er3 q4 fun d4 v4 H4 e4 po4 er4 q5 => ?_
        refine ⟨_, fun _ => True, d2, d4, (po2.rb.same s3).same po4.same, po4.rb, ?_⟩
        cases e6 : cpD op' d2 d4 with
        | ok w =>
          rw [e6] at q5
          intro u2 H5 nw2
          obtain ⟨b2, rfl⟩ := cp_bool e6
          have po5 := nw2.po (x := .cmp op x y) er (po3.same.trans po4.same)
          exact q5 _ _ (.noL po5.same (by cases po5.rb.bl; exact .bl _) fun _ w => by cases w)
        | exc k => exact trivial
        | bad => rw [e6] at q5; exact q5.elim
    | exc k => exact trivial
    | bad => rw [e3] at q2; exact q2.elim
  · refine pt_imp (pt_chain (op_cmp G.un op) (op_cmp G.un op') px py pz hm) fun σ H Q q => ?_
    obtain ⟨ρ, er, q⟩ := q
    unfold tst ev at q
    have q := tT_of q
    refine tX_then er q fun d v H1 e1 po er1 q1 => ?_
    refine tX_then er1 q1 fun d2 v2 H2 e2 po2 er2 q2 => ?_
    refine ⟨_, fun _ => True, d, d2, po.rb.same po2.same, po2.rb, ?_⟩
    cases e3 : cpD op d d2 with
    | ok w =>
      rw [e3] at q2
      intro u H' nw
      obtain ⟨b, rfl⟩ := cp_bool e3
      have po3 := nw.po (x := .cmp op x y) er (po.same.trans po2.same)
      refine ⟨b, po3.rb.bl, ?_⟩
      have s3 : Same H2 H' := by cases nw <;> first | exact Same.refl _ | (exact same_upd (by assumption))
      have er3 := er2.same s3
      cases b with
      | false =>
        obtain ⟨b', hb, q3⟩ := q2
        cases hb
        exact iteF ⟨_, rfl, q3 _ po3.same⟩
      | true =>
        refine iteT ?_
        have q3 : ((ev ρ z).bind fun c => cpD op' d2 c).all (fun d => ∃ b, truD d = some b ∧ ∀ H', Same H H' → Q b H') (fun k => ∀ H'', Same H2 H'' → XW (cn X H0 Gp) W k σ H'') := q2
        have q4 : ((ev ρ z).bind fun c => cpD op' d2 c).all (fun d => ∃ b, truD d = some b ∧ ∀ H', Same H H' → Q b H') (fun k => ∀ H'', Same H' H'' → XW (cn X H0 Gp) W k σ H'') := by
          cases e5 : (ev ρ z).bind fun c => cpD op' d2 c with
          | ok _ => rw [e5] at q3; exact q3
          | exc k => rw [e5] at q3; exact fun H'' s => q3 H'' (s3.trans s)
          | bad => rw [e5] at q3; exact q3
        refine tX_then er3 q4 fun d4 v4 H4 e4 po4 er4 q5 => ?_
        refine ⟨_, fun _ => True, d2, d4, (po2.rb.same s3).same po4.same, po4.rb, ?_⟩
        cases e6 : cpD op' d2 d4 with
        | ok w =>
          rw [e6] at q5
          intro u2 H5 nw2
          obtain ⟨b2, rfl⟩ := cp_bool e6
          have po5 := nw2.po (x := .cmp op x y) er (po3.same.trans po4.same)
          obtain ⟨b', hb, q6⟩ := q5
          cases hb
          exact ⟨_, po5.rb.bl, q6 _ po5.same⟩
        | exc k => exact trivial
        | bad => rw [e6] at q5; exact q5.elim
    | exc k => exact trivial
    | bad => rw [e3] at q2; exact q2.elim
end OL
namespace OL
open PySem PySem.Spec PyProof.Rows L2
/-- the wish of the step behind: from the heap H on, or from a later one -/
theorem R.all_later {α : Type} {c : Cn} {W : WX} {σ : Sg} {H H1 : Hp} {r : R α} {p : α → Prop} (s : Same H H1) (q : r.all p (fun k => ∀ H', Same H H' → XW c W k σ H')) : r.all p (fun k => ∀ H', Same H1 H' → XW c W k σ H') := by
  cases r with
  | ok _ => exact q
  | exc k => exact fun H' s' => q H' (s.trans s')
  | bad => exact q
theorem truD_bl (b : Bool) : truD (.bl b) = some b := rfl
section
variable {X : Cx} {H0 : Hp} {Gp : Addr → Prop} {W : WX} {tb : Fn → Prop} {tg : String → D → Prop} {hot : Bool}
theorem pe_andL (G : Good tb tg X hot) (tk : Takes X W) {p : Pos} : ∀ {xs : List Ex} {es : List Expr}, xs ≠ [] → xs.all nb = true → (∀ x ∈ xs, Snd x) → (hot = true → hotOkL xs = true) → calL tb tg xs → ckL X.N xs X.env.scope es = true → PE X (.BoolOp .And es p) (tX (cn X H0 Gp) W (.and xs))
  | [], _, h, _, _, _, _, _ => absurd rfl h
  | x :: xs, [], _, _, _, _, _, h => by unfold ckL at h; cases h
  | [x], [e], _, hb, hs, hh, hc, h => by
    unfold ckL at h
    rw [Bool.and_eq_true, Bool.and_eq_true] at h
    unfold calL at hc
    have hh1 : hot = true → hotOk x = true := fun z => by have := hh z; unfold hotOkL at this; rw [Bool.and_eq_true] at this; exact this.1
    have hb1 : nb x = true := by simpa using hb
    refine pe_imp (pe_one ((hs x List.mem_cons_self).pe (H0 := H0) (Gp := Gp) G tk hh1 hc.1 h.1.1)) fun σ H Q q => ?_
    obtain ⟨ρ, er, q⟩ := q
    unfold ev evAnd at q
    refine ⟨ρ, er, ?_⟩
    cases e1 : ev ρ x with
    | ok d => rw [e1] at q; exact fun v H' po => q v H' (.plain po.same (po.rp hb1) rfl)
    | exc k => rw [e1] at q; exact q
    | bad => rw [e1] at q; exact q
  | [x], _ :: _ :: _, _, _, _, _, _, h => by unfold ckL at h; rw [Bool.and_eq_true] at h; have := h.2; unfold ckL at this; cases this
  | x :: y :: xs, [e], _, _, _, _, _, h => by unfold ckL at h; rw [Bool.and_eq_true] at h; have := h.2; unfold ckL at this; cases this
  | x :: y :: xs, e :: f :: es, _, hb, hs, hh, hc, h => by
    unfold ckL at h
    rw [Bool.and_eq_true, Bool.and_eq_true] at h
    unfold calL at hc
    have hh1 : hot = true → hotOk x = true := fun z => by have := hh z; unfold hotOkL at this; rw [Bool.and_eq_true] at this; exact this.1
    have hh2 : hot = true → hotOkL (y :: xs) = true := fun z => by have := hh z; unfold hotOkL at this; rw [Bool.and_eq_true] at this; exact this.2
    rw [List.all_cons, Bool.and_eq_true] at hb
    refine pe_imp (pe_and ((hs x List.mem_cons_self).pe (H0 := H0) (Gp := Gp) G tk hh1 hc.1 h.1.1) (pe_andL G tk (by simp) hb.2 (fun z hz => hs z (List.mem_cons_of_mem _ hz)) hh2 hc.2 h.2)) fun σ H Q q => ?_
    obtain ⟨ρ, er, q⟩ := q
    unfold ev evAnd at q
    refine tX_then er q fun d v H1 e1 po er1 q1 => ?_
    split at q1
    · cases po.rb.bl
      refine ⟨true, rfl, iteT ⟨ρ, er1, ?_⟩⟩
      unfold ev
      cases e2 : evAnd ρ (y :: xs) with
      | ok d => rw [e2] at q1; exact fun v H' po2 => q1 v H' (.plain (po.same.trans po2.same) (po2.rp rfl) rfl)
      | exc k => rw [e2] at q1; exact q1
      | bad => rw [e2] at q1; exact q1
    · cases po.rb.bl
      exact ⟨false, rfl, iteF (q1 _ _ (.plain po.same (.bl _) rfl))⟩
    · exact q1.elim
theorem pe_orL (G : Good tb tg X hot) (tk : Takes X W) {p : Pos} : ∀ {xs : List Ex} {es : List Expr}, xs ≠ [] → xs.all nb = true → (∀ x ∈ xs, Snd x) → (hot = true → hotOkL xs = true) → calL tb tg xs → ckL X.N xs X.env.scope es = true → PE X (.BoolOp .Or es p) (tX (cn X H0 Gp) W (.or xs))
  | [], _, h, _, _, _, _, _ => absurd rfl h
  | x :: xs, [], _, _, _, _, _, h => by unfold ckL at h; cases h
  | [x], [e], _, hb, hs, hh, hc, h => by
    unfold ckL at h
    rw [Bool.and_eq_true, Bool.and_eq_true] at h
    unfold calL at hc
    have hh1 : hot = true → hotOk x = true := fun z => by have := hh z; unfold hotOkL at this; rw [Bool.and_eq_true] at this; exact this.1
    have hb1 : nb x = true := by simpa using hb
    refine pe_imp (pe_one ((hs x List.mem_cons_self).pe (H0 := H0) (Gp := Gp) G tk hh1 hc.1 h.1.1)) fun σ H Q q => ?_
    obtain ⟨ρ, er, q⟩ := q
    unfold ev evOr at q
    refine ⟨ρ, er, ?_⟩
    cases e1 : ev ρ x with
    | ok d => rw [e1] at q; exact fun v H' po => q v H' (.plain po.same (po.rp hb1) rfl)
    | exc k => rw [e1] at q; exact q
    | bad => rw [e1] at q; exact q
  | [x], _ :: _ :: _, _, _, _, _, _, h => by unfold ckL at h; rw [Bool.and_eq_true] at h; have := h.2; unfold ckL at this; cases this
  | x :: y :: xs, [e], _, _, _, _, _, h => by unfold ckL at h; rw [Bool.and_eq_true] at h; have := h.2; unfold ckL at this; cases this
  | x :: y :: xs, e :: f :: es, _, hb, hs, hh, hc, h => by
    unfold ckL at h
    rw [Bool.and_eq_true, Bool.and_eq_true] at h
    unfold calL at hc
    have hh1 : hot = true → hotOk x = true := fun z => by have := hh z; unfold hotOkL at this; rw [Bool.and_eq_true] at this; exact this.1
    have hh2 : hot = true → hotOkL (y :: xs) = true := fun z => by have := hh z; unfold hotOkL at this; rw [Bool.and_eq_true] at this; exact this.2
    rw [List.all_cons, Bool.and_eq_true] at hb
    refine pe_imp (pe_or ((hs x List.mem_cons_self).pe (H0 := H0) (Gp := Gp) G tk hh1 hc.1 h.1.1) (pe_orL G tk (by simp) hb.2 (fun z hz => hs z (List.mem_cons_of_mem _ hz)) hh2 hc.2 h.2)) fun σ H Q q => ?_
    obtain ⟨ρ, er, q⟩ := q
    unfold ev evOr at q
    refine tX_then er q fun d v H1 e1 po er1 q1 => ?_
    split at q1
    · cases po.rb.bl
      exact ⟨true, rfl, iteT (q1 _ _ (.plain po.same (.bl _) rfl))⟩
    · cases po.rb.bl
      refine ⟨false, rfl, iteF ⟨ρ, er1, ?_⟩⟩
      unfold ev
      cases e2 : evOr ρ (y :: xs) with
      | ok d => rw [e2] at q1; exact fun v H' po2 => q1 v H' (.plain (po.same.trans po2.same) (po2.rp rfl) rfl)
      | exc k => rw [e2] at q1; exact q1
      | bad => rw [e2] at q1; exact q1
    · exact q1.elim
theorem pw_andL (G : Good tb tg X hot) (tk : Takes X W) {p : Pos} : ∀ {xs : List Ex} {es : List Expr}, xs ≠ [] → (∀ x ∈ xs, Snd x) → (hot = true → hotOkL xs = true) → calL tb tg xs → ckL X.N xs X.env.scope es = true → PW X (.BoolOp .And es p) (tT (cn X H0 Gp) W (.and xs))
  | [], _, h, _, _, _, _ => absurd rfl h
  | x :: xs, [], _, _, _, _, h => by unfold ckL at h; cases h
  | [x], [e], _, hs, hh, hc, h => by
    unfold ckL at h
    rw [Bool.and_eq_true, Bool.and_eq_true] at h
    unfold calL at hc
    have hh1 : hot = true → hotOk x = true := fun z => by have := hh z; unfold hotOkL at this; rw [Bool.and_eq_true] at this; exact this.1
    have b := pw_and1 (pos := p) ((hs x List.mem_cons_self).pt (H0 := H0) (Gp := Gp) G tk hh1 hc.1 h.1.1)
    refine ⟨fun whole pins s σ H Q I q => b.run whole pins s σ H Q I ?_⟩
    obtain ⟨ρ, er, q⟩ := q
    unfold tst ev evAnd at q
    exact ⟨ρ, er, q⟩
  | [x], _ :: _ :: _, _, _, _, _, h => by unfold ckL at h; rw [Bool.and_eq_true] at h; have := h.2; unfold ckL at this; cases this
  | x :: y :: xs, [e], _, _, _, _, h => by unfold ckL at h; rw [Bool.and_eq_true] at h; have := h.2; unfold ckL at this; cases this
  | x :: y :: xs, e :: f :: es, _, hs, hh, hc, h => by
    unfold ckL at h
    rw [Bool.and_eq_true, Bool.and_eq_true] at h
    unfold calL at hc
    have hh1 : hot = true → hotOk x = true := fun z => by have := hh z; unfold hotOkL at this; rw [Bool.and_eq_true] at this; exact this.1
    have hh2 : hot = true → hotOkL (y :: xs) = true := fun z => by have := hh z; unfold hotOkL at this; rw [Bool.and_eq_true] at this; exact this.2
    have b := pw_and (pos := p) ((hs x List.mem_cons_self).pt (H0 := H0) (Gp := Gp) G tk hh1 hc.1 h.1.1) (pw_andL G tk (by simp) (fun z hz => hs z (List.mem_cons_of_mem _ hz)) hh2 hc.2 h.2)
    refine ⟨fun whole pins s σ H Q I q => b.run whole pins s σ H Q I ?_⟩
    obtain ⟨ρ, er, q⟩ := q
    unfold tst ev evAnd at q
    refine ⟨ρ, er, ?_⟩
    unfold tst
    cases e1 : ev ρ x with
    | ok d =>
      rw [e1] at q
      cases d with
      | bl b =>
        intro H1 s1
        cases b with
        | true =>
          refine iteT ⟨ρ, er.same s1, ?_⟩
          unfold tst ev
          have q' : ((evAnd ρ (y :: xs)).bind fun d => match truD d with | some b => R.ok b | none => R.bad).all (fun b => ∀ H', Same H H' → Q b H') (fun k => ∀ H', Same H H' → XW (cn X H0 Gp) W k σ H') := q
          have q'' := R.all_later s1 q'
          cases e2 : (evAnd ρ (y :: xs)).bind fun d => match truD d with | some b => R.ok b | none => R.bad with
          | ok b => rw [e2] at q''; exact fun H' s2 => q'' H' (s1.trans s2)
          | exc k => rw [e2] at q''; exact q''
          | bad => rw [e2] at q''; exact q''
        | false => exact iteF (q H1 s1)
      | _ => exact False.elim q
    | exc k => rw [e1] at q; exact q
    | bad => rw [e1] at q; exact q
theorem pw_orL (G : Good tb tg X hot) (tk : Takes X W) {p : Pos} : ∀ {xs : List Ex} {es : List Expr}, xs ≠ [] → (∀ x ∈ xs, Snd x) → (hot = true → hotOkL xs = true) → calL tb tg xs → ckL X.N xs X.env.scope es = true → PW X (.BoolOp .Or es p) (tT (cn X H0 Gp) W (.or xs))
  | [], _, h, _, _, _, _ => absurd rfl h
  | x :: xs, [], _, _, _, _, h => by unfold ckL at h; cases h
  | [x], [e], _, hs, hh, hc, h => by
    unfold ckL at h
    rw [Bool.and_eq_true, Bool.and_eq_true] at h
    unfold calL at hc
    have hh1 : hot = true → hotOk x = true := fun z => by have := hh z; unfold hotOkL at this; rw [Bool.and_eq_true] at this; exact this.1
    have b := pw_or1 (pos := p) ((hs x List.mem_cons_self).pt (H0 := H0) (Gp := Gp) G tk hh1 hc.1 h.1.1)
    refine ⟨fun whole pins s σ H Q I q => b.run whole pins s σ H Q I ?_⟩
    obtain ⟨ρ, er, q⟩ := q
    unfold tst ev evOr at q
    exact ⟨ρ, er, q⟩
  | [x], _ :: _ :: _, _, _, _, _, h => by unfold ckL at h; rw [Bool.and_eq_true] at h; have := h.2; unfold ckL at this; cases this
  | x :: y :: xs, [e], _, _, _, _, h => by unfold ckL at h; rw [Bool.and_eq_true] at h; have := h.2; unfold ckL at this; cases this
  | x :: y :: xs, e :: f :: es, _, hs, hh, hc, h => by
    unfold ckL at h
    rw [Bool.and_eq_true, Bool.and_eq_true] at h
    unfold calL at hc
    have hh1 : hot = true → hotOk x = true := fun z => by have := hh z; unfold hotOkL at this; rw [Bool.and_eq_true] at this; exact this.1
    have hh2 : hot = true → hotOkL (y :: xs) = true := fun z => by have := hh z; unfold hotOkL at this; rw [Bool.and_eq_true] at this; exact this.2
    have b := pw_or (pos := p) ((hs x List.mem_cons_self).pt (H0 := H0) (Gp := Gp) G tk hh1 hc.1 h.1.1) (pw_orL G tk (by simp) (fun z hz => hs z (List.mem_cons_of_mem _ hz)) hh2 hc.2 h.2)
    refine ⟨fun whole pins s σ H Q I q => b.run whole pins s σ H Q I ?_⟩
    obtain ⟨ρ, er, q⟩ := q
    unfold tst ev evOr at q
    refine ⟨ρ, er, ?_⟩
    unfold tst
    cases e1 : ev ρ x with
    | ok d =>
      rw [e1] at q
      cases d with
      | bl b =>
        intro H1 s1
        cases b with
        | false =>
          refine iteF ⟨ρ, er.same s1, ?_⟩
          unfold tst ev
          have q' : ((evOr ρ (y :: xs)).bind fun d => match truD d with | some b => R.ok b | none => R.bad).all (fun b => ∀ H', Same H H' → Q b H') (fun k => ∀ H', Same H H' → XW (cn X H0 Gp) W k σ H') := q
          have q'' := R.all_later s1 q'
          cases e2 : (evOr ρ (y :: xs)).bind fun d => match truD d with | some b => R.ok b | none => R.bad with
          | ok b => rw [e2] at q''; exact fun H' s2 => q'' H' (s1.trans s2)
          | exc k => rw [e2] at q''; exact q''
          | bad => rw [e2] at q''; exact q''
        | true => exact iteT (q H1 s1)
      | _ => exact False.elim q
    | exc k => rw [e1] at q; exact q
    | bad => rw [e1] at q; exact q
end
theorem snd_and {xs : List Ex} (hs : ∀ x ∈ xs, Snd x) : Snd (.and xs) := by
  refine ⟨fun {X H0 Gp W tb tg hot e} G tk hh hc h => ?_, fun {X H0 Gp W tb tg hot e} G tk hh hc h => ?_⟩
  all_goals
    obtain ⟨es, p, rfl, h1, h2, h3⟩ := ck_and h
    unfold cal at hc
  · exact pe_andL G tk h2 h3 hs (fun z => by have := hh z; unfold hotOk at this; exact this) hc h1
  · exact (pw_andL G tk h2 hs (fun z => by have := hh z; unfold hotOk at this; exact this) hc h1).pt
theorem snd_or {xs : List Ex} (hs : ∀ x ∈ xs, Snd x) : Snd (.or xs) := by
  refine ⟨fun {X H0 Gp W tb tg hot e} G tk hh hc h => ?_, fun {X H0 Gp W tb tg hot e} G tk hh hc h => ?_⟩
  all_goals
    obtain ⟨es, p, rfl, h1, h2, h3⟩ := ck_or h
    unfold cal at hc
  · exact pe_orL G tk h2 h3 hs (fun z => by have := hh z; unfold hotOk at this; exact this) hc h1
  · exact (pw_orL G tk h2 hs (fun z => by have := hh z; unfold hotOk at this; exact this) hc h1).pt
theorem snd_not {x : Ex} (hx : Snd x) : Snd (.not x) := by
  refine ⟨fun {X H0 Gp W tb tg hot e} G tk hh hc h => ?_, fun {X H0 Gp W tb tg hot e} G tk hh hc h => ?_⟩
  all_goals
    obtain ⟨a, p, rfl, h1⟩ := ck_not h
    unfold cal at hc
    have hh1 : hot = true → hotOk x = true := fun z => by have := hh z; unfold hotOk at this; exact this
  · refine pe_imp (pe_notT (hx.pe (H0 := H0) (Gp := Gp) G tk hh1 hc h1)) fun σ H Q q => ?_
    obtain ⟨ρ, er, q⟩ := q
    unfold ev at q
    refine tX_then er q fun d v H1 e1 po er1 q1 => ?_
    split at q1
    · rename_i b hb
      exact ⟨b, tru_of po.rb hb, q1 _ _ (.plain po.same (.bl _) rfl)⟩
    · exact q1.elim
  · refine pt_imp (pt_not (hx.pt (H0 := H0) (Gp := Gp) G tk hh1 hc h1)) fun σ H Q q => ?_
    obtain ⟨ρ, er, q⟩ := q
    refine ⟨ρ, er, ?_⟩
    unfold tst ev at q
    unfold tst
    cases e1 : ev ρ x with
    | ok d =>
      rw [e1] at q
      have q2 : (R.bind (match truD d with | some b => R.ok (D.bl !b) | none => R.bad) fun d => match truD d with | some b => R.ok b | none => R.bad).all (fun b => ∀ H', Same H H' → Q b H') (fun k => ∀ H', Same H H' → XW (cn X H0 Gp) W k σ H') := q
      show (match truD d with | some b => R.ok b | none => R.bad).all _ _
      cases e2 : truD d with
      | some b =>
        rw [e2] at q2
        exact fun H' s => q2 H' s
      | none =>
        rw [e2] at q2
        exact q2
    | exc k => rw [e1] at q; exact q
    | bad => rw [e1] at q; exact q
end OL
namespace OL
open PySem PySem.Spec PyProof.Rows L2
theorem pt_ite {X : Cx} {a b d : Expr} {p : Pos} {ta tb td : TT} (ha : PT X a ta) (hb : PT X b tb) (hd : PT X d td) : PT X (.IfExp a b d p) (fun σ H Q => ta σ H fun k H1 => if k = true then tb σ H1 Q else td σ H1 Q) := by
  constructor
  intro pins s σ H Q I h
  have e : isTrue (.IfExp a b d p) X.env (eval (.IfExp a b d p) X.env) = (do if ← isTrue a X.env (eval a X.env) then isTrue b X.env (eval b X.env) else isTrue d X.env (eval d X.env)) := rfl
  rw [e]
  apply wpAny_bind
  apply thn (ha.run pins s σ H _ I h)
  rintro k s1 ⟨H1, I1, q⟩
  cases k with
  | true => rw [if_pos rfl] at q ⊢; exact hb.run pins s1 σ H1 Q I1 q
  | false => rw [if_neg Bool.false_ne_true] at q ⊢; exact hd.run pins s1 σ H1 Q I1 q
theorem ev_all_po {c : Cn} {W : WX} {x y : Ex} {σ : Sg} {H H1 : Hp} {ρ : En} {Q : VK} {r : R D} (s : Same H H1) (hy : ∀ {H' d v}, Po c σ ρ x H1 H' d v → Po c σ ρ y H H' d v) (e : ev ρ x = r) (q : r.all (fun d => ∀ v H', Po c σ ρ y H H' d v → Q v H') (fun k => ∀ H', Same H H' → XW c W k σ H')) :
    (ev ρ x).all (fun d => ∀ v H', Po c σ ρ x H1 H' d v → Q v H') (fun k => ∀ H', Same H1 H' → XW c W k σ H') := by
  rw [e]
  cases r with
  | ok d => exact fun v H' po => q v H' (hy po)
  | exc k => exact fun H' s' => q H' (s.trans s')
  | bad => exact q
theorem snd_ite {x y z : Ex} (hx : Snd x) (hy : Snd y) (hz : Snd z) : Snd (.ite x y z) := by
  refine ⟨fun {X H0 Gp W tb tg hot e} G tk hh hc h => ?_, fun {X H0 Gp W tb tg hot e} G tk hh hc h => ?_⟩
  all_goals
    have ht : hot = false := by cases hot; rfl; (have := hh rfl; unfold hotOk at this; cases this)
    subst ht
    obtain ⟨a, b, d, p, rfl, h1, h2, h3, h4, h5⟩ := ck_ite h
    unfold cal at hc
    have px := hx.pt (H0 := H0) (Gp := Gp) G tk (fun z => by cases z) hc.1 h1
  · refine pe_imp (pe_ifExp px (hy.pe (H0 := H0) (Gp := Gp) G tk (fun z => by cases z) hc.2.1 h2) (hz.pe (H0 := H0) (Gp := Gp) G tk (fun z => by cases z) hc.2.2 h3)) fun σ H Q q => ?_
    obtain ⟨ρ, er, q⟩ := q
    refine ⟨ρ, er, ?_⟩
    unfold ev at q
    unfold tst
    cases e1 : ev ρ x with
    | ok d =>
      rw [e1] at q
      have q2 : (match truD d with | some true => ev ρ y | some false => ev ρ z | none => R.bad).all (fun d => ∀ v H', Po (cn X H0 Gp) σ ρ (.ite x y z) H H' d v → Q v H') (fun k => ∀ H', Same H H' → XW (cn X H0 Gp) W k σ H') := q
      show (match truD d with | some b => R.ok b | none => R.bad).all _ _
      cases e2 : truD d with
      | some b =>
        rw [e2] at q2
        intro H1 s1
        cases b with
        | true =>
          refine iteT ⟨ρ, er.same s1, ?_⟩
          exact ev_all_po s1 (fun po => .plain (s1.trans po.same) (po.rp h4) rfl) rfl q2
        | false =>
          refine iteF ⟨ρ, er.same s1, ?_⟩
          exact ev_all_po s1 (fun po => .plain (s1.trans po.same) (po.rp h5) rfl) rfl q2
      | none => rw [e2] at q2; exact q2
    | exc k => rw [e1] at q; exact q
    | bad => rw [e1] at q; exact q
  · refine pt_imp (pt_ite px (hy.pt (H0 := H0) (Gp := Gp) G tk (fun z => by cases z) hc.2.1 h2) (hz.pt (H0 := H0) (Gp := Gp) G tk (fun z => by cases z) hc.2.2 h3)) fun σ H Q q => ?_
    obtain ⟨ρ, er, q⟩ := q
    refine ⟨ρ, er, ?_⟩
    unfold tst ev at q
    unfold tst
    cases e1 : ev ρ x with
    | ok d =>
      rw [e1] at q
      have q2 : (R.bind (match truD d with | some true => ev ρ y | some false => ev ρ z | none => R.bad) fun d => match truD d with | some b => R.ok b | none => R.bad).all (fun b => ∀ H', Same H H' → Q b H') (fun k => ∀ H', Same H H' → XW (cn X H0 Gp) W k σ H') := q
      show (match truD d with | some b => R.ok b | none => R.bad).all _ _
      have fin : ∀ {H1 : Hp} {w : Ex}, Same H H1 → ((ev ρ w).bind fun d => match truD d with | some b => R.ok b | none => R.bad).all (fun b => ∀ H', Same H H' → Q b H') (fun k => ∀ H', Same H H' → XW (cn X H0 Gp) W k σ H') → tT (cn X H0 Gp) W w σ H1 Q := fun {H1 w} s1 q3 => by
        refine ⟨ρ, er.same s1, ?_⟩
        unfold tst
        cases e5 : (ev ρ w).bind fun d => match truD d with | some b => R.ok b | none => R.bad with
        | ok b => rw [e5] at q3; exact fun H' s => q3 H' (s1.trans s)
        | exc k => rw [e5] at q3; exact fun H' s => q3 H' (s1.trans s)
        | bad => rw [e5] at q3; exact q3
      cases e2 : truD d with
      | some b =>
        rw [e2] at q2
        intro H1 s1
        cases b with
        | true => exact iteT (fin s1 q2)
        | false => exact iteF (fin s1 q2)
      | none => rw [e2] at q2; exact q2
    | exc k => rw [e1] at q; exact q
    | bad => rw [e1] at q; exact q
theorem snd_ix {x y : Ex} (hx : Snd x) (hy : Snd y) : Snd (.ix x y) := by
  have pe : ∀ {X : Cx} {H0 : Hp} {Gp : Addr → Prop} {W : WX} {tb : Fn → Prop} {tg : String → D → Prop} {hot : Bool} {e : Expr}, Good tb tg X hot → Takes X W → (hot = true → hotOk (.ix x y) = true) → cal tb tg (.ix x y) → ck X.N (.ix x y) X.env.scope e = true → PE X e (tX (cn X H0 Gp) W (.ix x y)) := by
    intro X H0 Gp W tb tg hot e G tk hh hc h
    obtain ⟨a, b, p, rfl, h0, h1, h2⟩ := ck_ix h
    unfold cal at hc
    have hh1 : hot = true → hotOk x = true ∧ hotOk y = true := fun z => by have := hh z; unfold hotOk at this; rw [Bool.and_eq_true] at this; exact this
    refine pe_imp (pe_ix ix_all (hx.pe (H0 := H0) (Gp := Gp) G tk (fun z => (hh1 z).1) hc.1 h1) (hy.pe (H0 := H0) (Gp := Gp) G tk (fun z => (hh1 z).2) hc.2 h2) (plainIx_of h0)) fun σ H Q q => ?_
    obtain ⟨ρ, er, q⟩ := q
    unfold ev at q
    refine tX_then er q fun d v H1 e1 po er1 q1 => ?_
    refine tX_then er1 q1 fun d2 v2 H2 e2 po2 er2 q2 => ?_
    refine ⟨_, fun _ => True, d, d2, po.rb.same po2.same, po2.rb, ?_⟩
    cases e3 : ixD d d2 with
    | ok w => rw [e3] at q2; exact fun u r => q2 u _ (.plain (po.same.trans po2.same) r rfl)
    | exc k => exact trivial
    | bad => rw [e3] at q2; exact q2.elim
  refine ⟨fun G tk hh c h => pe G tk hh c h, fun G tk hh c h => ?_⟩
  obtain ⟨a, b, p, rfl, _⟩ := ck_ix h
  exact pt_gen (pe G tk hh c h) fun _ => rfl
/-- a bound of a slice -/
def tO (c : Cn) (W : WX) (x : Ex) : TO := fun σ H Q => ∃ ρ, ER c H σ ρ ∧ (if isNop x then R.ok none else (ev ρ x).bind optI).all (fun o => ∀ H', Same H H' → Q o H') (fun k => ∀ H', Same H H' → XW c W k σ H')
theorem po_of {X : Cx} {H0 : Hp} {Gp : Addr → Prop} {W : WX} {tb : Fn → Prop} {tg : String → D → Prop} {x : Ex} {o : Option Expr} (hx : Snd x) (G : Good tb tg X false) (tk : Takes X W) (hc : cal tb tg x) (h : ckO X.N x X.env.scope o = true) : PO X o (tO (cn X H0 Gp) W x) := by
  by_cases hn : isNop x = true
  · cases x <;> (try (cases hn; done))
    cases o with
    | some _ => simp [ckO, optC, isNop] at h
    | none =>
      refine ⟨fun pins s σ H Q I q => po_none.run pins s σ H Q I ?_⟩
      obtain ⟨ρ, er, q⟩ := q
      exact q H (Same.refl _)
  · cases o with
    | none => cases x <;> first | (exact absurd rfl hn) | (simp [ckO, optC, isNop] at h)
    | some e =>
      have h1 : ck X.N x X.env.scope e = true := by cases x <;> first | (exact absurd rfl hn) | (unfold ckO at h; exact h)
      have b := po_some (hx.pe (H0 := H0) (Gp := Gp) G tk (fun z => by cases z) hc h1)
      refine ⟨fun pins s σ H Q I q => b.run pins s σ H Q I ?_⟩
      obtain ⟨ρ, er, q⟩ := q
      have hn' : isNop x = false := by simpa using hn
      rw [hn'] at q
      refine tX_then er q fun d v H1 e1 po er1 q1 => ?_
      unfold optI at q1
      split at q1
      · cases po.rb.int; exact ⟨_, rfl, q1 _ po.same⟩
      · exact q1.elim
theorem snd_sl {x y z : Ex} (hx : Snd x) (hy : Snd y) (hz : Snd z) : Snd (.sl x y z) := by
  have pe : ∀ {X : Cx} {H0 : Hp} {Gp : Addr → Prop} {W : WX} {tb : Fn → Prop} {tg : String → D → Prop} {hot : Bool} {e : Expr}, Good tb tg X hot → Takes X W → (hot = true → hotOk (.sl x y z) = true) → cal tb tg (.sl x y z) → ck X.N (.sl x y z) X.env.scope e = true → PE X e (tX (cn X H0 Gp) W (.sl x y z)) := by
    intro X H0 Gp W tb tg hot e G tk hh hc h
    have ht : hot = false := by cases hot; rfl; (have := hh rfl; unfold hotOk at this; cases this)
    subst ht
    obtain ⟨a, l, u, p, p2, rfl, h1, h2, h3⟩ := ck_sl h
    unfold cal at hc
    refine pe_imp (pe_slice sl_all (hx.pe (H0 := H0) (Gp := Gp) G tk (fun z => by cases z) hc.1 h1) (po_of (H0 := H0) (Gp := Gp) hy G tk hc.2.1 h2) (po_of (H0 := H0) (Gp := Gp) hz G tk hc.2.2 h3)) fun σ H Q q => ?_
    obtain ⟨ρ, er, q⟩ := q
    unfold ev at q
    refine tX_then er q fun d v H1 e1 po er1 q1 => ?_
    refine ⟨ρ, er1, ?_⟩
    cases e2 : (if isNop y then R.ok none else (ev ρ y).bind optI) with
    | ok l =>
      rw [e2] at q1
      intro H2 s2
      refine ⟨ρ, er1.same s2, ?_⟩
      have q1' : ((if isNop z then R.ok none else (ev ρ z).bind optI).bind fun h => slD d l h).all (fun d => ∀ v H', Po (cn X H0 Gp) σ ρ (.sl x y z) H H' d v → Q v H') (fun k => ∀ H'', Same H1 H'' → XW (cn X H0 Gp) W k σ H'') := q1
      cases e3 : (if isNop z then R.ok none else (ev ρ z).bind optI) with
      | ok u =>
        rw [e3] at q1'
        intro H3 s3
        refine ⟨_, fun _ => True, d, (po.rb.same s2).same s3, ?_⟩
        have q2 : (slD d l u).all (fun d => ∀ v H', Po (cn X H0 Gp) σ ρ (.sl x y z) H H' d v → Q v H') (fun k => ∀ H'', Same H1 H'' → XW (cn X H0 Gp) W k σ H'') := q1'
        cases e4 : slD d l u with
        | ok w => rw [e4] at q2; exact fun u H' nw => q2 u H' (nw.po er ((po.same.trans s2).trans s3))
        | exc k => exact trivial
        | bad => rw [e4] at q2; exact q2.elim
      | exc k => rw [e3] at q1'; exact fun H'' s => q1' H'' (s2.trans s)
      | bad => rw [e3] at q1'; exact q1'.elim
    | exc k => rw [e2] at q1; exact q1
    | bad => rw [e2] at q1; exact q1.elim
  refine ⟨fun G tk hh c h => pe G tk hh c h, fun G tk hh c h => ?_⟩
  obtain ⟨a, l, u, p, p2, rfl, _⟩ := ck_sl h
  exact pt_gen (pe G tk hh c h) fun _ => rfl
theorem vals_rp {K : PySem.W.Frag} {mg : Str → Option Value} {H : Hp} {Z : Addr → Prop} : ∀ {ds : List D}, ds.all scalD = true → RpA K mg H Z ds (ds.map valD)
  | [], _ => .nil
  | d :: ds, h => by
    rw [List.all_cons, Bool.and_eq_true] at h
    exact .cons (rp_scal h.1) (vals_rp h.2)
theorem snd_call {f : Fn} {fl : Bool} {xs : List Ex} (hs : ∀ x ∈ xs, Snd x) : Snd (.call f fl xs) := by
  have pe : ∀ {X : Cx} {H0 : Hp} {Gp : Addr → Prop} {W : WX} {tb : Fn → Prop} {tg : String → D → Prop} {hot : Bool} {e : Expr}, Good tb tg X hot → Takes X W → (hot = true → hotOk (.call f fl xs) = true) → cal tb tg (.call f fl xs) → ck X.N (.call f fl xs) X.env.scope e = true → PE X e (tX (cn X H0 Gp) W (.call f fl xs)) := by
    intro X H0 Gp W tb tg hot e G tk hh hc h
    have ht : hot = false := by cases hot; rfl; (have := hh rfl; unfold hotOk at this; cases this)
    subst ht
    obtain ⟨q0, es, p, rfl, h1, h2, h3, h4, h5⟩ := ck_call h
    unfold cal at hc
    obtain ⟨⟨k, fa, fd, ps, vds, F, hr, hm, hk, hb, hv, hlen⟩, hdf⟩ := G.calls rfl f hc.1
    cases es with
    | nil =>
      cases xs with
      | nil => exact absurd rfl h4
      | cons _ _ => unfold ckL at h3; cases h3
    | cons e1 es1 =>
      cases xs with
      | nil => exact absurd rfl h4
      | cons x1 xs1 =>
        have h3' := h3
        unfold ckL at h3'
        rw [Bool.and_eq_true, Bool.and_eq_true] at h3'
        refine pe_imp (pe_callD F hr hb hv (gl_of h1) hm hk (fun σ => passAt tk σ) (pa_of (H0 := H0) (Gp := Gp) G tk hs (fun z => by cases z) hc.2 h3) (dbg_of h2).1 (star_of h3'.1.2 es1 X.env) (nostars h3'.2 X.env p)) fun σ H Q q => ?_
        obtain ⟨ρ, er, q⟩ := q
        unfold ev at q
        refine tA_then er q fun ds vs H1 ee po er1 q1 => ?_
        have hl : (ds ++ f.dfl).length = ps.length := hlen _ fun z => by rw [z] at q1; exact q1
        -- what the arguments are, by what Z
        have args : ∃ Z : Addr → Prop, RpA X.K X.mg H1 Z (ds ++ f.dfl) (vs ++ f.dfl.map valD) ∧ (fl = true ∨ ∀ a, Z a → Zf (cn X H0 Gp) σ ρ a) := by
          rcases h5 with h5 | h5
          · exact ⟨fun _ => True, po.rb.top.append (vals_rp hdf), .inl h5⟩
          · exact ⟨Zf (cn X H0 Gp) σ ρ, (po.rp h5).append (vals_rp hdf), .inr fun _ z => z⟩
        obtain ⟨Z, ra, hz⟩ := args
        refine ⟨by rw [← ra.length]; exact hl, Z, _, ra, ?_⟩
        cases e3 : f.run (ds ++ f.dfl) with
        | ok w =>
          rw [e3] at q1
          intro v H' s' r' fr'
          have q2 : (if fl && !flat w then R.bad else R.ok w).all (fun d => ∀ v H', Po (cn X H0 Gp) σ ρ (.call f fl (x1 :: xs1)) H H' d v → Q v H') (fun k => ∀ H'', Same H1 H'' → XW (cn X H0 Gp) W k σ H'') := q1
          split at q2
          · exact q2.elim
          · rename_i hf
            have q3 : ∀ v H', Po (cn X H0 Gp) σ ρ (.call f fl (x1 :: xs1)) H H' w v → Q v H' := q2
            have nz : ∀ a, H1 a = none → Zf (cn X H0 Gp) σ ρ a := fun a ha => er1.newZ ha
            rcases hz with hz | hz
            · have fw : flat w = true := by
                cases e4 : flat w with
                | true => rfl
                | false => exact absurd (by rw [hz, e4]; rfl) hf
              refine q3 _ _ (.noL (po.same.trans s') (r'.flat fw) fun ds z => ?_)
              subst z
              unfold flat at fw
              cases fw
            · have zz : ∀ a, (Z a ∨ H1 a = none) → Zf (cn X H0 Gp) σ ρ a := fun a z => z.elim (hz a) (nz a)
              have r2 : Rp X.K X.mg H' (Zf (cn X H0 Gp) σ ρ) w v := r'.weak fun a _ _ z => zz a z
              refine q3 _ _ ⟨po.same.trans s', .p r2, fun _ => r2, fun g ds z => ?_⟩
              obtain ⟨a, ys, e5, e6, e7, e8⟩ := fr' g ds z
              exact ⟨a, ys, e5, po.same.free e6, e7, e8.weak fun b _ _ z => ⟨zz b z.1, z.2⟩⟩
        | exc k =>
          rw [e3] at q1
          intro C H' ie m s'
          exact q1 H' s' C ie m
        | bad => rw [e3] at q1; exact q1
  refine ⟨fun G tk hh c h => pe G tk hh c h, fun G tk hh c h => ?_⟩
  obtain ⟨q0, es, p, rfl, _⟩ := ck_call h
  exact pt_gen (pe G tk hh c h) fun _ => rfl
end OL
namespace OL
open PySem PySem.Spec PyProof.Rows L2
theorem boot_all2 : ∀ b : Blt, bootBuiltins (bltName b) = some (bltV b)
  | .len => PySem.boot_len | .abs => PyProof.Rows.boot_abs | .max => PyProof.Rows.boot_max | .min => PyProof.Rows.boot_min | .all => PyProof.Rows.boot_all | .any => PyProof.Rows.boot_any
  | .int => PyProof.Rows.boot_int | .str => PyProof.Rows.boot_str | .list => PyProof.Rows.boot_list | .tuple => PyProof.Rows.boot_tuple | .bool => PyProof.Rows.boot_bool
theorem blt_plain : ∀ b : Blt, bltName b ≠ "__name__" ∧ (bltName b == ("__debug__" : Str)) = false := by
  intro b
  cases b <;> exact ⟨by decide, by decide⟩
theorem pe_blt {X : Cx} {b : Blt} {e : Expr} {es : List Expr} {t : TA} {q p : Pos} (hc : (b = .max ∨ b = .min ∨ b = .all ∨ b = .any) → X.calm = true) (hg : Gl X (bltName b)) (hm : X.mg (bltName b) = none) (ha : PA X (e :: es) t)
    (he : starEach (e :: es) X.env = (false, eval e X.env) :: starEach es X.env) (hpl : (backTo p (starEach es X.env)).any (·.1) = false) : PE X (.Call (.Name (bltName b) q) (e :: es) [] p) (tCB (rBlt X.K X.mg b) t) := by
  have cb := call_blt (X := X) b hc
  have bb := boot_all2 b
  obtain ⟨n1, n2⟩ := blt_plain b
  cases b <;> first | exact pe_callB cb hg hm bb ha n1 n2 he hpl | exact pe_callTy cb hg hm bb ha n1 n2 he hpl
theorem snd_blt {b : Blt} {xs : List Ex} (hs : ∀ x ∈ xs, Snd x) : Snd (.blt b xs) := by
  have pe : ∀ {X : Cx} {H0 : Hp} {Gp : Addr → Prop} {W : WX} {tb : Fn → Prop} {tg : String → D → Prop} {hot : Bool} {e : Expr}, Good tb tg X hot → Takes X W → (hot = true → hotOk (.blt b xs) = true) → cal tb tg (.blt b xs) → ck X.N (.blt b xs) X.env.scope e = true → PE X e (tX (cn X H0 Gp) W (.blt b xs)) := by
    intro X H0 Gp W tb tg hot e G tk hh hc h
    have ht : hot = false := by cases hot; rfl; (have := hh rfl; unfold hotOk at this; cases this)
    subst ht
    obtain ⟨q0, es, p, rfl, h1, h3, h4⟩ := ck_blt h
    unfold cal at hc
    cases es with
    | nil =>
      cases xs with
      | nil => exact absurd rfl h4
      | cons _ _ => unfold ckL at h3; cases h3
    | cons e1 es1 =>
      cases xs with
      | nil => exact absurd rfl h4
      | cons x1 xs1 =>
        have h3' := h3
        unfold ckL at h3'
        rw [Bool.and_eq_true, Bool.and_eq_true] at h3'
        refine pe_imp (pe_blt (fun _ => G.calm rfl) (gl_of h1) (G.blt b) (pa_of (H0 := H0) (Gp := Gp) G tk hs (fun z => by cases z) hc h3) (star_of h3'.1.2 es1 X.env) (nostars h3'.2 X.env p)) fun σ H Q q => ?_
        obtain ⟨ρ, er, q⟩ := q
        unfold ev at q
        refine tA_then er q fun ds vs H1 ee po er1 q1 => ?_
        refine ⟨_, fun _ => True, ds, po.rb, ?_⟩
        cases e3 : bltD b ds with
        | ok w => rw [e3] at q1; exact fun u H' nw => q1 u H' (nw.po er po.same)
        | exc k => exact trivial
        | bad => rw [e3] at q1; exact q1.elim
  refine ⟨fun G tk hh c h => pe G tk hh c h, fun G tk hh c h => ?_⟩
  obtain ⟨q0, es, p, rfl, _⟩ := ck_blt h
  exact pt_gen (pe G tk hh c h) fun _ => rfl
theorem base_bits {o : Expr} {env : Env} : attributeBase o ("bit_length" : Str) env (eval o env) = eval o env ∨ True := .inr trivial
theorem attr_base {o : Expr} {a : Str} {env : Env} (h : ∀ id p q, o = .Call (.Name id p) [] [] q → False) (t : Sem Value) : attributeBase o a env t = t := by
  unfold attributeBase
  split
  · exact (h _ _ _ rfl).elim
  · rfl
theorem ck_nocall0 {N : List Str} {x : Ex} {sc : Scope} {id : Str} {p q : Pos} (h : ck N x sc (.Call (.Name id p) [] [] q) = true) : False := by
  cases x with
  | call f fl xs =>
    obtain ⟨_, es, _, e, _, _, h3, h4, _⟩ := ck_call h
    cases e
    cases xs <;> first | exact h4 rfl | (unfold ckL at h3; cases h3)
  | blt b xs =>
    obtain ⟨_, es, _, e, _, h3, h4⟩ := ck_blt h
    cases e
    cases xs <;> first | exact h4 rfl | (unfold ckL at h3; cases h3)
  | isi x cs =>
    obtain ⟨_, a, t, p2, e, _⟩ := ck_isi h
    cases e
  | mth m x xs =>
    cases m
    obtain ⟨_, o, ap, p2, e, _⟩ := ck_bitlen h
    cases e
  | _ => unfold ck at h; cases h
theorem snd_mth {m : Mth} {x : Ex} {xs : List Ex} (hx : Snd x) : Snd (.mth m x xs) := by
  cases m
  have pe : ∀ {X : Cx} {H0 : Hp} {Gp : Addr → Prop} {W : WX} {tb : Fn → Prop} {tg : String → D → Prop} {hot : Bool} {e : Expr}, Good tb tg X hot → Takes X W → (hot = true → hotOk (.mth .bitlen x xs) = true) → cal tb tg (.mth .bitlen x xs) → ck X.N (.mth .bitlen x xs) X.env.scope e = true → PE X e (tX (cn X H0 Gp) W (.mth .bitlen x xs)) := by
    intro X H0 Gp W tb tg hot e G tk hh hc h
    have ht : hot = false := by cases hot; rfl; (have := hh rfl; unfold hotOk at this; cases this)
    subst ht
    obtain ⟨rfl, o, ap, p, rfl, h1, h2⟩ := ck_bitlen h
    unfold cal at hc
    refine pe_imp (pe_bits (hx.pe (H0 := H0) (Gp := Gp) G tk (fun z => by cases z) hc.1 h2) (attr_base (fun id p q z => by subst z; exact ck_nocall0 h2) _) h1) fun σ H Q q => ?_
    obtain ⟨ρ, er, q⟩ := q
    unfold ev evs at q
    refine tX_then er q fun d v H1 e1 po er1 q1 => ?_
    have q2 : (mthD .bitlen d []).all (fun d => ∀ v H', Po (cn X H0 Gp) σ ρ (.mth .bitlen x []) H H' d v → Q v H') (fun k => ∀ H'', Same H1 H'' → XW (cn X H0 Gp) W k σ H'') := q1
    unfold mthD at q2
    split at q2
    · cases po.rb.int
      exact ⟨_, rfl, q2 _ _ (.plain po.same (.int _) rfl)⟩
    · exact q2.elim
  refine ⟨fun G tk hh c h => pe G tk hh c h, fun G tk hh c h => ?_⟩
  obtain ⟨_, o, ap, p, rfl, _⟩ := ck_bitlen h
  exact pt_gen (pe G tk hh c h) fun _ => rfl
/-! ### isinstance -/
theorem boot_ty {k : String} (h : tyName k = true) : bootBuiltins (Str.ofString k) = some (.type k) ∧ Str.ofString k ∈ othN ∧ Str.ofString k ≠ "__name__" ∧ (Str.ofString k == ("__debug__" : Str)) = false := by
  unfold tyName at h
  split at h <;> first | (cases h; done) | skip
  · exact ⟨PyProof.Rows.boot_int, by decide, by decide, by decide⟩
  · exact ⟨PyProof.Rows.boot_bool, by decide, by decide, by decide⟩
  · exact ⟨PyProof.Rows.boot_str, by decide, by decide, by decide⟩
  · exact ⟨PyProof.Rows.boot_list, by decide, by decide, by decide⟩
  · exact ⟨PyProof.Rows.boot_tuple, by decide, by decide, by decide⟩
  · exact ⟨PyProof.Rows.boot_dict, by decide, by decide, by decide⟩
section
variable {X : Cx} {tb : Fn → Prop} {tg : String → D → Prop} {hot : Bool}
theorem pe_ty (G : Good tb tg X hot) {k : String} {p : Pos} (hk : tyName k = true) (hg : glB X.env.scope (Str.ofString k) = true) : PE X (.Name (Str.ofString k) p) (tC (.ty k)) := by
  obtain ⟨h1, h2, h3, h4⟩ := boot_ty hk
  exact pe_bltn (gl_of hg) (G.oth _ h2) h1 rfl h3 h4
theorem pa_tys (G : Good tb tg X hot) : ∀ {cs : List String} {es : List Expr}, ckTy X.env.scope cs es = true → (∀ k ∈ cs, tyName k = true) ∧ ∃ t : TA, PA X es t ∧ ∀ σ H Q, Q (cs.map V.ty) H → t σ H Q
  | [], [], _ => ⟨fun _ h => by (cases h), tNil, pa_nil, fun _ _ _ q => q⟩
  | [], _ :: _, h => by unfold ckTy at h; cases h
  | _ :: _, [], h => by unfold ckTy at h; cases h
  | c :: cs, e :: es, h => by
    cases e <;> (try (unfold ckTy at h; cases h; done))
    rename_i x p
    unfold ckTy at h
    rw [Bool.and_eq_true, Bool.and_eq_true, Bool.and_eq_true, Bool.and_eq_true, beq_iff_eq] at h
    obtain ⟨⟨⟨⟨rfl, h1⟩, h2⟩, _⟩, h4⟩ := h
    obtain ⟨a, t, b, k⟩ := pa_tys G h4
    exact ⟨fun k hk => (List.mem_cons.mp hk).elim (fun z => by rw [z]; exact h1) (a k), tCons (tC (.ty c)) t, pa_cons (pe_ty G h1 h2) b (star_of rfl _ _), fun σ H Q q => k σ H _ q⟩
theorem tys_vals : ∀ (cs : List String), Paired ClsV (cs.map V.ty) (cs.map Value.type)
  | [] => .nil
  | c :: cs => .cons (.ty c) (tys_vals cs)
theorem snd_isi {x : Ex} {cs : List String} (hx : Snd x) : Snd (.isi x cs) := by
  have pe : ∀ {X : Cx} {H0 : Hp} {Gp : Addr → Prop} {W : WX} {tb : Fn → Prop} {tg : String → D → Prop} {hot : Bool} {e : Expr}, Good tb tg X hot → Takes X W → (hot = true → hotOk (.isi x cs) = true) → cal tb tg (.isi x cs) → ck X.N (.isi x cs) X.env.scope e = true → PE X e (tX (cn X H0 Gp) W (.isi x cs)) := by
    intro X H0 Gp W tb tg hot e G tk hh hc h
    have ht : hot = false := by cases hot; rfl; (have := hh rfl; unfold hotOk at this; cases this)
    subst ht
    obtain ⟨q0, a, t, p, rfl, h1, h2, h3, h4, h5⟩ := ck_isi h
    unfold cal at hc
    have px := hx.pe (H0 := H0) (Gp := Gp) G tk (fun z => by cases z) hc h4
    have hm : X.mg ("isinstance" : Str) = none := G.oth _ (by decide)
    have sa := star_of h2 [t] X.env
    have st : (backTo p (starEach [t] X.env)).any (·.1) = false := by rw [star_of h3 [] X.env]; rfl
    unfold ckTys at h5
    split at h5
    · rename_i k y p2
      simp only [Bool.and_eq_true, beq_iff_eq] at h5
      obtain ⟨⟨rfl, k1⟩, k2⟩ := h5
      refine pe_imp (pe_callB call_isi (gl_of h1) hm PyProof.Rows.boot_isinstance (pa_cons px (pa_cons (pe_ty G k1 k2) pa_nil rfl) sa) (by decide) (by decide) sa st) fun σ H Q q => ?_
      obtain ⟨ρ, er, q⟩ := q
      unfold ev at q
      refine tX_then er q fun d v H1 e1 po er1 q1 => ?_
      unfold isiD at q1
      split at q1
      · rename_i ty hty
        have q2 := q1 (.bl ([k].any (isT ty))) H1 (.plain po.same (.bl _) rfl)
        rw [show [k].any (isT ty) = isT ty k from Bool.or_false _] at q2
        exact ⟨_, _, _, _, _, rfl, .ty k, po.rb.ty hty, kit_of_ty hty k1, q2⟩
      · exact q1.elim
    · rename_i k k' ks es j p2
      rw [Bool.and_eq_true] at h5
      have hlen := of_decide_eq_true h5.1
      replace h5 := h5.2
      obtain ⟨n1, t1, pt1, k1⟩ := pa_tys G h5
      refine pe_imp (pe_callB call_isiT (gl_of h1) hm PyProof.Rows.boot_isinstance (pa_cons px (pa_cons (pe_tup pt1) pa_nil rfl) sa) (by decide) (by decide) sa st) fun σ H Q q => ?_
      obtain ⟨ρ, er, q⟩ := q
      unfold ev at q
      refine tX_then er q fun d v H1 e1 po er1 q1 => ?_
      unfold isiD at q1
      split at q1
      · rename_i ty hty
        refine k1 σ H1 _ ⟨?_, fun tp htp => ?_⟩
        · rw [List.length_map, line_eq, List.length_cons, List.length_cons]
          omega
        · have q2 := q1 (.bl ((k :: k' :: ks).any (isT ty))) (upd H1 tp (.tup ((k :: k' :: ks).map V.ty))) (.plain (po.same.trans (same_upd htp)) (.bl _) rfl)
          exact ⟨_, tp, _, _, _, _, rfl, upd_same, tys_vals _, (po.rb.same (same_upd htp)).ty hty, kit_any hty n1, q2⟩
      · exact q1.elim
    · cases h5
  refine ⟨fun G tk hh c h => pe G tk hh c h, fun G tk hh c h => ?_⟩
  obtain ⟨q0, a, t, p, rfl, _⟩ := ck_isi h
  exact pt_gen (pe G tk hh c h) fun _ => rfl
end
theorem boot_VE : bootBuiltins "ValueError" = some (.type "ValueError") := by decide +kernel
/-! ### isinstance of errors -/
/-- the type of a value, an error's too -/
inductive TyY (K : PySem.W.Frag) (H : Hp) : V → Value → Prop where
  | base {x : V} {t : Value} : TyX K H x t → TyY K H x t
  | err {a D : Addr} {φ : Heap → Prop} : H a = some (.ext φ) → (∀ h, φ h → ErP (.ref D) a h) → ExcC K D → TyY K H (.ref a) (.ref D)
section
variable {X : Cx} {pins : List (Addr × Obj)} {σ : Sg} {H : Hp} {s : Shared}
theorem kit_ofY {x : V} {u t : Value} (I : Inv X pins σ H s) (rx : RelV x u) (ty : TyY X.K H x t) : ∃ P : Heap → Prop, PySem.W.KitX X.K u t P ∧ P s.heap ∧ u ≠ .builtin "__main__.__loader__#opaque" := by
  cases ty with
  | base b => exact kit_of I rx b
  | @err a D φ ha hφ C =>
    cases (show u = Value.ref a from rx)
    obtain ⟨p, _, _⟩ := (show ObjOk X.prog X.w H s.heap a (.ext φ) from I.hok a _ ha)
    obtain ⟨ob, fs, h1, h2, h3⟩ := hφ _ p
    refine ⟨_, PySem.W.handS_kitx_exc (ox := ob) C.hg C.hk C.hs C.hd C.ha C.hn C.ht C.hm, ?_, fun z => nomatch z⟩
    obtain ⟨oc, od, dt, sl⟩ := ob
    obtain ⟨z1, z2⟩ := h2
    dsimp only at z1 z2 h3
    subst z1 z2 h3
    exact ⟨h1, rfl, rfl, trivial⟩
def rIsY (K : PySem.W.Frag) : List V → Hp → VK → Prop := fun xs H Q => ∃ (x c : V) (t u : Value) (b : Bool), xs = [x, c] ∧ ClsV c u ∧ TyY K H x t ∧ PySem.W.kitOne K t u = some b ∧ Q (.bl b) H
def rIsYT (K : PySem.W.Frag) : List V → Hp → VK → Prop := fun xs H Q => ∃ (x : V) (tp : Addr) (cs : List V) (t : Value) (us : List Value) (b : Bool), xs = [x, .ref tp] ∧ H tp = some (.tup cs) ∧ Paired ClsV cs us ∧ TyY K H x t ∧ PySem.W.kitAny K t us = some b ∧ Q (.bl b) H
theorem call_isY : CallR X (.builtin "isinstance") (rIsY X.K) := by
  intro pins s σ H xs us Q I r ⟨x, c, t, u, b, ex, k, ty, e, q⟩
  subst ex
  obtain ⟨u1, u2, rfl, r1, r2⟩ := vals2 r
  cases k.eq r2
  obtain ⟨P, Z, p, hx⟩ := kit_ofY I r1 ty
  exact PySem.W.kia_one Z I.kIn p e hx (fun tk => ⟨.bl b, H, I.tok tk, rfl, q⟩)
theorem call_isYT : CallR X (.builtin "isinstance") (rIsYT X.K) := by
  intro pins s σ H xs us Q I r ⟨x, tp, cs, t, ws, b, ex, hT, k, ty, e, q⟩
  subst ex
  obtain ⟨u1, u2, rfl, r1, r2⟩ := vals2 r
  cases (show u2 = Value.ref tp from r2)
  obtain ⟨P, Z, p, hx⟩ := kit_ofY I r1 ty
  have ok : ObjOk X.prog X.w H s.heap tp (.tup cs) := I.hok tp _ hT
  obtain ⟨_, its, rv, o, h1, h2, n, h3⟩ := ok
  cases ClsV.all k rv
  obtain ⟨oc, od, dt, sl⟩ := o
  simp only at h2 h3
  subst h2 h3
  exact PySem.W.kia_tup Z I.kIn p h1 e hx (fun tk => ⟨.bl b, H, I.tok tk, rfl, q⟩)
end
/-- the answer of one class -/
def ansX (d : D) (c : String) : Bool := match d with
  | .exc k => subY k c
  | _ => false
theorem isxD_eq {d : D} {cs : List String} {r : D} (h : isxD d cs = .ok r) : r = .bl (cs.any (ansX d)) ∧ ((∃ k, d = .exc k) ∨ ∃ t, tyD d = some t) := by
  unfold isxD at h
  split at h
  · cases h; exact ⟨rfl, .inl ⟨_, rfl⟩⟩
  · rename_i d' hd
    split at h
    · rename_i t ht
      cases h
      refine ⟨?_, .inr ⟨t, ht⟩⟩
      congr 1
      symm
      rw [List.any_eq_false]
      intro c _
      unfold ansX
      split
      · exact absurd rfl (hd _)
      · decide
    · cases h
section
variable {X : Cx} {tb : Fn → Prop} {tg : String → D → Prop} {hot : Bool}
theorem tyD_in {d : D} {t : String} (h : tyD d = some t) : t ∈ ["NoneType", "bool", "int", "str", "tuple", "list", "dict"] := by
  cases d <;> (unfold tyD at h) <;> first | (cases h; decide) | cases h
/-- a class as a value -/
def clsOf (mg : Str → Option Value) (c : String) : V := if c = "ValueError" then .ty "ValueError" else match mg (Str.ofString c) with
  | some (.ref C) => .ref C
  | _ => .non
theorem kit_of_X (G : Good tb tg X hot) {K' : Unit} {H : Hp} {Z : Addr → Prop} {d : D} {v : V} (r : Rb X.K X.mg H Z d v) (hd : (∃ k, d = .exc k ∧ isExc k = true) ∨ ∃ t, tyD d = some t) : ∃ t, TyY X.K H v t ∧ ∀ c, (c = "ValueError" ∨ (isExc c = true ∧ ∃ C, X.mg (Str.ofString c) = some (.ref C))) → ∃ u, ClsV (clsOf X.mg c) u ∧ PySem.W.kitOne X.K t u = some (ansX d c) := by
  have cl : ∀ c, isExc c = true → c ≠ "ValueError" := fun c h z => by subst z; revert h; decide
  rcases hd with ⟨k, rfl, hk⟩ | ⟨t, ht⟩
  · cases r with
    | p r => cases r with
      | @exc a C c0 φ ha hφ hm _ =>
        refine ⟨_, .err ha hφ (G.xk.ec k C hk hm), fun c hc => ?_⟩
        rcases hc with rfl | ⟨h1, C', h2⟩
        · exact ⟨_, .ty _, (G.xk.kv k C hk hm).trans (by unfold ansX subY; simp)⟩
        · refine ⟨.ref C', ?_, ?_⟩
          · unfold clsOf
            rw [if_neg (cl c h1), h2]
            exact .own C'
          · rw [G.xk.kk k c C C' hk h1 hm h2]
            unfold ansX subY
            simp [cl c h1]
  · refine ⟨_, .base (r.ty ht), fun c hc => ?_⟩
    have na : ansX d c = false := by
      unfold ansX
      split
      · cases ht
      · rfl
    rcases hc with rfl | ⟨h1, C', h2⟩
    · refine ⟨_, .ty _, ?_⟩
      rw [na]
      have fin : ∀ t ∈ ["NoneType", "bool", "int", "str", "tuple", "list", "dict"], kitB t "ValueError" = some false := by decide +kernel
      exact kit_ty (fin t (tyD_in ht))
    · refine ⟨.ref C', ?_, ?_⟩
      · unfold clsOf
        rw [if_neg (cl c h1), h2]
        exact .own C'
      · rw [na]
        exact G.xk.kn t (tyD_in ht) c C' h1 h2
theorem pe_cls (G : Good tb tg X hot) {c : String} {p : Pos} (hc : c = "ValueError" ∨ tg c (.exc c)) (hx : (c == "ValueError" || isExc c) = true) (hg : glB X.env.scope (Str.ofString c) = true) (hd : dbg (Str.ofString c) = true) :
    PE X (.Name (Str.ofString c) p) (tC (clsOf X.mg c)) ∧ (c = "ValueError" ∨ (isExc c = true ∧ ∃ C, X.mg (Str.ofString c) = some (.ref C))) := by
  have cl : ∀ c, isExc c = true → c ≠ "ValueError" := fun c h z => by subst z; revert h; decide
  rw [Bool.or_eq_true, beq_iff_eq] at hx
  rcases hx with rfl | hx
  · refine ⟨?_, .inl rfl⟩
    unfold clsOf
    rw [if_pos rfl]
    exact pe_bltn (gl_of hg) (G.oth _ (by decide)) boot_VE rfl (by decide) (by decide)
  · rcases hc with rfl | hc
    · exact absurd rfl (cl _ hx)
    · obtain ⟨C, hC⟩ := G.gle c c hc
      refine ⟨?_, .inr ⟨hx, C, hC⟩⟩
      unfold clsOf
      rw [if_neg (cl c hx), hC]
      exact pe_glob (gl_of hg) hC rfl (dbg_of hd).1
theorem pa_clss (G : Good tb tg X hot) : ∀ {cs : List String} {es : List Expr}, (∀ k ∈ cs, k = "ValueError" ∨ tg k (.exc k)) → ckXs X.env.scope cs es = true → (∀ c ∈ cs, c = "ValueError" ∨ (isExc c = true ∧ ∃ C, X.mg (Str.ofString c) = some (.ref C))) ∧ ∃ t : TA, PA X es t ∧ ∀ σ H Q, Q (cs.map (clsOf X.mg)) H → t σ H Q
  | [], [], _, _ => ⟨fun _ h => by (cases h), tNil, pa_nil, fun _ _ _ q => q⟩
  | [], _ :: _, _, h => by unfold ckXs at h; cases h
  | _ :: _, [], _, h => by unfold ckXs at h; cases h
  | c :: cs, e :: es, hc, h => by
    cases e <;> (try (unfold ckXs at h; cases h; done))
    rename_i x p
    unfold ckXs at h
    rw [Bool.and_eq_true, Bool.and_eq_true, Bool.and_eq_true, Bool.and_eq_true, Bool.and_eq_true, beq_iff_eq] at h
    obtain ⟨⟨⟨⟨⟨rfl, h1⟩, h2⟩, h3⟩, _⟩, h4⟩ := h
    obtain ⟨a, t, b, k⟩ := pa_clss G (fun k hk => hc k (List.mem_cons_of_mem _ hk)) h4
    obtain ⟨pe, ok⟩ := pe_cls G (p := p) (hc c List.mem_cons_self) h1 h2 h3
    exact ⟨fun q hq => (List.mem_cons.mp hq).elim (fun z => by rw [z]; exact ok) (a q), tCons (tC (clsOf X.mg c)) t, pa_cons pe b (star_of rfl _ _), fun σ H Q q => k σ H _ q⟩
theorem kitAny_X {K : PySem.W.Frag} {t : Value} {f : String → V} {g : String → Bool} : ∀ {cs : List String}, (∀ c ∈ cs, ∃ u, ClsV (f c) u ∧ PySem.W.kitOne K t u = some (g c)) → ∃ us, Paired ClsV (cs.map f) us ∧ PySem.W.kitAny K t us = some (cs.any g)
  | [], _ => ⟨[], .nil, rfl⟩
  | c :: cs, h => by
    obtain ⟨u, h1, h2⟩ := h c List.mem_cons_self
    obtain ⟨us, k1, k2⟩ := kitAny_X fun q hq => h q (List.mem_cons_of_mem _ hq)
    refine ⟨u :: us, .cons h1 k1, kitAny_cons (b := g c) h2 (fun e => ?_) fun e => ?_⟩
    · rw [k2, List.any_cons, e]; rfl
    · rw [List.any_cons, e]; rfl
theorem snd_isx {x : Ex} {cs : List String} (hx : Snd x) : Snd (.isx x cs) := by
  have pe : ∀ {X : Cx} {H0 : Hp} {Gp : Addr → Prop} {W : WX} {tb : Fn → Prop} {tg : String → D → Prop} {hot : Bool} {e : Expr}, Good tb tg X hot → Takes X W → (hot = true → hotOk (.isx x cs) = true) → cal tb tg (.isx x cs) → ck X.N (.isx x cs) X.env.scope e = true → PE X e (tX (cn X H0 Gp) W (.isx x cs)) := by
    intro X H0 Gp W tb tg hot e G tk hh hc h
    obtain ⟨q0, a, t, p, rfl, h1, h2, h3, h4, h5⟩ := ck_isx h
    unfold cal at hc
    have px := hx.pe (H0 := H0) (Gp := Gp) G tk (fun z => by have := hh z; unfold hotOk at this; exact this) hc.1 h4
    have hm : X.mg ("isinstance" : Str) = none := G.oth _ (by decide)
    have sa := star_of h2 [t] X.env
    have st : (backTo p (starEach [t] X.env)).any (·.1) = false := by rw [star_of h3 [] X.env]; rfl
    have clse : ∀ {H : Hp} {Z : Addr → Prop} {d : D} {v : V}, Rb X.K X.mg H Z d v → ((∃ k, d = .exc k) ∨ ∃ t, tyD d = some t) → (∃ k, d = .exc k ∧ isExc k = true) ∨ ∃ t, tyD d = some t := fun {H Z d v} r z => z.elim (fun ⟨k, e⟩ => .inl ⟨k, e, by
      subst e
      cases r with
      | p r => cases r with
        | exc _ _ _ hk => exact hk⟩) .inr
    unfold ckX at h5
    split at h5
    · rename_i k y p2
      simp only [Bool.and_eq_true, beq_iff_eq] at h5
      obtain ⟨⟨⟨rfl, k1⟩, k2⟩, k3⟩ := h5
      obtain ⟨pc, ok⟩ := pe_cls G (p := p2) (hc.2 k (by simp)) k1 k2 k3
      refine pe_imp (pe_callB call_isY (gl_of h1) hm PyProof.Rows.boot_isinstance (pa_cons px (pa_cons pc pa_nil rfl) sa) (by decide) (by decide) sa st) fun σ H Q q => ?_
      obtain ⟨ρ, er, q⟩ := q
      unfold ev at q
      refine tX_then er q fun d v H1 e1 po er1 q1 => ?_
      cases hr : isxD d [k] with
      | ok r =>
        rw [hr] at q1
        obtain ⟨rfl, hd⟩ := isxD_eq hr
        obtain ⟨t, ty, all⟩ := kit_of_X (K' := ()) G po.rb (clse po.rb hd)
        obtain ⟨u, cu, ku⟩ := all k ok
        have q2 := q1 (.bl ([k].any (ansX d))) H1 (.plain po.same (.bl _) rfl)
        rw [show [k].any (ansX d) = ansX d k from Bool.or_false _] at q2
        exact ⟨_, _, _, _, _, rfl, cu, ty, ku, q2⟩
      | exc k => exact absurd hr (by unfold isxD; split <;> first | (intro z; cases z) | (split <;> (intro z; cases z)))
      | bad => rw [hr] at q1; exact q1.elim
    · rename_i k k' ks es j p2
      rw [Bool.and_eq_true] at h5
      have hlen := of_decide_eq_true h5.1
      replace h5 := h5.2
      obtain ⟨n1, t1, pt1, k1⟩ := pa_clss G hc.2 h5
      refine pe_imp (pe_callB call_isYT (gl_of h1) hm PyProof.Rows.boot_isinstance (pa_cons px (pa_cons (pe_tup pt1) pa_nil rfl) sa) (by decide) (by decide) sa st) fun σ H Q q => ?_
      obtain ⟨ρ, er, q⟩ := q
      unfold ev at q
      refine tX_then er q fun d v H1 e1 po er1 q1 => ?_
      cases hr : isxD d (k :: k' :: ks) with
      | ok r =>
        rw [hr] at q1
        obtain ⟨rfl, hd⟩ := isxD_eq hr
        refine k1 σ H1 _ ⟨?_, fun tp htp => ?_⟩
        · rw [List.length_map, line_eq, List.length_cons, List.length_cons]
          omega
        · obtain ⟨t, ty, all⟩ := kit_of_X (K' := ()) G (po.rb.same (same_upd htp)) (clse po.rb hd)
          obtain ⟨us, pu, ku⟩ := kitAny_X (f := clsOf X.mg) (g := ansX d) fun c hc => all c (n1 c hc)
          have q2 := q1 (.bl ((k :: k' :: ks).any (ansX d))) (upd H1 tp (.tup ((k :: k' :: ks).map (clsOf X.mg)))) (.plain (po.same.trans (same_upd htp)) (.bl _) rfl)
          exact ⟨_, tp, _, _, _, _, rfl, upd_same, pu, ty, ku, q2⟩
      | exc k => exact absurd hr (by unfold isxD; split <;> first | (intro z; cases z) | (split <;> (intro z; cases z)))
      | bad => rw [hr] at q1; exact q1.elim
    · cases h5
  refine ⟨fun G tk hh c h => pe G tk hh c h, fun G tk hh c h => ?_⟩
  obtain ⟨q0, a, t, p, rfl, _⟩ := ck_isx h
  exact pt_gen (pe G tk hh c h) fun _ => rfl
/-! ### a list from behind -/
theorem snd_rvl {x : Ex} (hx : Snd x) : Snd (.rvl x) := by
  have pe : ∀ {X : Cx} {H0 : Hp} {Gp : Addr → Prop} {W : WX} {tb : Fn → Prop} {tg : String → D → Prop} {hot : Bool} {e : Expr}, Good tb tg X hot → Takes X W → (hot = true → hotOk (.rvl x) = true) → cal tb tg (.rvl x) → ck X.N (.rvl x) X.env.scope e = true → PE X e (tX (cn X H0 Gp) W (.rvl x)) := by
    intro X H0 Gp W tb tg hot e G tk hh hc h
    have ht : hot = false := by cases hot; rfl; (have := hh rfl; unfold hotOk at this; cases this)
    subst ht
    obtain ⟨a, k, p1, p2, p3, p, rfl, h1⟩ := ck_rvl h
    unfold cal at hc
    refine pe_imp (pe_revL (hx.pe (H0 := H0) (Gp := Gp) G tk (fun z => by cases z) hc h1)) fun σ H Q q => ?_
    obtain ⟨ρ, er, q⟩ := q
    unfold ev at q
    refine tX_then er q fun d v H1 e1 po er1 q1 => ?_
    unfold rvlD at q1
    split at q1
    · obtain ⟨b, xs, rfl, e2, r⟩ := po.rb.lst
      refine ⟨b, xs, rfl, SqL.of e2, fun pp hp => q1 _ _ (Nw.po er po.same (.nl hp r.reverse))⟩
    · exact q1.elim
  refine ⟨fun G tk hh c h => pe G tk hh c h, fun G tk hh c h => ?_⟩
  obtain ⟨a, k, p1, p2, p3, p, rfl, _⟩ := ck_rvl h
  exact pt_gen (pe G tk hh c h) fun _ => rfl
end
end OL
namespace OL
open PySem PySem.Spec PyProof.Rows L2
/-- sound as what is walked -/
def Pis (x : Ex) : Prop := ∀ {X : Cx} {H0 : Hp} {Gp : Addr → Prop} {W : WX} {tb : Fn → Prop} {tg : String → D → Prop} {t i : Expr}, Good tb tg X false → Takes X W → cal tb tg x → ckI X.N x X.env.scope i (isTup t) = true → PI X t i (tI (cn X H0 Gp) W x)
theorem pis_plain {x : Ex} (hx : Snd x) (hi : ckIt x = false) : Pis x := by
  intro X H0 Gp W tb tg t i G tk hc h
  have h' : (ck X.N x X.env.scope i && nb x) = true := by
    cases x <;> first | (cases hi; done) | (unfold ckI at h; exact h)
  rw [Bool.and_eq_true] at h'
  exact pi_plain (hx.pe G tk (fun z => by cases z) hc h'.1) h'.2
theorem tup_of {t : Expr} (h : isTup t = true) : ∃ es k p, t = .Tuple es k p := by
  cases t <;> first | exact ⟨_, _, _, rfl⟩ | cases h
theorem rng_map0 (n : Nat) : ((List.range n).map fun (k : Nat) => D.int k) = (List.range n).map fun (k : Nat) => D.int (0 + k) := by
  congr 1
  funext k
  rw [Int.zero_add]
section
variable {N : List Str} {sc : Scope} {e : Expr} {x y : Ex} {tup : Bool}
theorem ckI_r1 (h : ckI N (.rng [x]) sc e tup = true) : ∃ q a p, e = .Call (.Name ("range" : Str) q) [a] [] p ∧ glB sc ("range" : Str) = true ∧ noStar a = true ∧ ck N x sc a = true := by
  cases e <;> (try (simp [ckI, ckIt, ckJ] at h; done))
  rename_i fn es ks p
  cases fn <;> (try (simp [ckI, ckIt, ckJ] at h; done))
  match es, ks, h with
  | [a], [], h =>
    first | simp [ckI, ckIt, ckJ] at h | simp at h
    obtain ⟨⟨⟨rfl, h1⟩, h2⟩, h3⟩ := h
    exact ⟨_, _, _, rfl, h1, h2, h3⟩
  | [], _, h => first | (simp [ckI, ckIt, ckJ] at h; done) | (simp at h; done)
  | _ :: _ :: _, _, h => first | (simp [ckI, ckIt, ckJ] at h; done) | (simp at h; done)
  | [_], _ :: _, h => first | (simp [ckI, ckIt, ckJ] at h; done) | (simp at h; done)
theorem ckI_r2 (h : ckI N (.rng [x, y]) sc e tup = true) : ∃ q a b p, e = .Call (.Name ("range" : Str) q) [a, b] [] p ∧ glB sc ("range" : Str) = true ∧ noStar a = true ∧ noStar b = true ∧ ck N x sc a = true ∧ ck N y sc b = true := by
  cases e <;> (try (simp [ckI, ckIt, ckJ] at h; done))
  rename_i fn es ks p
  cases fn <;> (try (simp [ckI, ckIt, ckJ] at h; done))
  match es, ks, h with
  | [a, b], [], h =>
    first | simp [ckI, ckIt, ckJ] at h | simp at h
    obtain ⟨⟨⟨⟨⟨rfl, h1⟩, h2⟩, h3⟩, h4⟩, h5⟩ := h
    exact ⟨_, _, _, _, rfl, h1, h2, h3, h4, h5⟩
  | [], _, h => first | (simp [ckI, ckIt, ckJ] at h; done) | (simp at h; done)
  | [_], _, h => first | (simp [ckI, ckIt, ckJ] at h; done) | (simp at h; done)
  | _ :: _ :: _ :: _, _, h => first | (simp [ckI, ckIt, ckJ] at h; done) | (simp at h; done)
  | [_, _], _ :: _, h => first | (simp [ckI, ckIt, ckJ] at h; done) | (simp at h; done)
theorem ckI_rn {xs : List Ex} (h : ckI N (.rng xs) sc e tup = true) : (∃ x, xs = [x]) ∨ ∃ x y, xs = [x, y] := by
  match xs, h with
  | [x], _ => exact .inl ⟨x, rfl⟩
  | [x, y], _ => exact .inr ⟨x, y, rfl⟩
  | [], h => cases e <;> (try (simp [ckI, ckIt, ckJ] at h; done))
  | _ :: _ :: _ :: _, h => cases e <;> (try (simp [ckI, ckIt, ckJ] at h; done))
theorem ckI_enum (h : ckI N (.enum x) sc e tup = true) : tup = true ∧ ∃ q a p, e = .Call (.Name ("enumerate" : Str) q) [a] [] p ∧ glB sc ("enumerate" : Str) = true ∧ noStar a = true ∧ ck N x sc a = true ∧ nb x = true := by
  cases e <;> (try (simp [ckI, ckIt, ckJ] at h; done))
  rename_i fn es ks p
  cases fn <;> (try (simp [ckI, ckIt, ckJ] at h; done))
  match es, ks, h with
  | [a], [], h =>
    first | simp [ckI, ckIt, ckJ] at h | simp at h
    obtain ⟨⟨⟨⟨⟨h0, rfl⟩, h1⟩, h2⟩, h3⟩, h4⟩ := h
    exact ⟨h0, _, _, _, rfl, h1, h2, h3, h4⟩
  | [], _, h => first | (simp [ckI, ckIt, ckJ] at h; done) | (simp at h; done)
  | _ :: _ :: _, _, h => first | (simp [ckI, ckIt, ckJ] at h; done) | (simp at h; done)
  | [_], _ :: _, h => first | (simp [ckI, ckIt, ckJ] at h; done) | (simp at h; done)
theorem ckI_revd (h : ckI N (.revd x) sc e tup = true) : ∃ q a p, e = .Call (.Name ("reversed" : Str) q) [a] [] p ∧ glB sc ("reversed" : Str) = true ∧ noStar a = true ∧ ck N x sc a = true ∧ nb x = true := by
  cases e <;> (try (simp [ckI, ckIt, ckJ] at h; done))
  rename_i fn es ks p
  cases fn <;> (try (simp [ckI, ckIt, ckJ] at h; done))
  match es, ks, h with
  | [a], [], h =>
    first | simp [ckI, ckIt, ckJ] at h | simp at h
    obtain ⟨⟨⟨⟨rfl, h1⟩, h2⟩, h3⟩, h4⟩ := h
    exact ⟨_, _, _, rfl, h1, h2, h3, h4⟩
  | [], _, h => first | (simp [ckI, ckIt, ckJ] at h; done) | (simp at h; done)
  | _ :: _ :: _, _, h => first | (simp [ckI, ckIt, ckJ] at h; done) | (simp at h; done)
  | [_], _ :: _, h => first | (simp [ckI, ckIt, ckJ] at h; done) | (simp at h; done)
theorem ckI_zip (h : ckI N (.zip x y) sc e tup = true) : tup = true ∧ ∃ q a b p, e = .Call (.Name ("zip" : Str) q) [a, b] [] p ∧ glB sc ("zip" : Str) = true ∧ noStar a = true ∧ noStar b = true ∧ ck N x sc a = true ∧ ck N y sc b = true ∧ nb x = true ∧ nb y = true := by
  cases e <;> (try (simp [ckI, ckIt, ckJ] at h; done))
  rename_i fn es ks p
  cases fn <;> (try (simp [ckI, ckIt, ckJ] at h; done))
  match es, ks, h with
  | [a, b], [], h =>
    first | simp [ckI, ckIt, ckJ] at h | simp at h
    obtain ⟨⟨⟨⟨⟨⟨⟨⟨h0, rfl⟩, h1⟩, h2⟩, h3⟩, h4⟩, h5⟩, h6⟩, h7⟩ := h
    exact ⟨h0, _, _, _, _, rfl, h1, h2, h3, h4, h5, h6, h7⟩
  | [], _, h => first | (simp [ckI, ckIt, ckJ] at h; done) | (simp at h; done)
  | [_], _, h => first | (simp [ckI, ckIt, ckJ] at h; done) | (simp at h; done)
  | _ :: _ :: _ :: _, _, h => first | (simp [ckI, ckIt, ckJ] at h; done) | (simp at h; done)
  | [_, _], _ :: _, h => first | (simp [ckI, ckIt, ckJ] at h; done) | (simp at h; done)
end
theorem ckL1 {N : List Str} {sc : Scope} {x : Ex} {a : Expr} (h2 : noStar a = true) (h3 : ck N x sc a = true) : ckL N [x] sc [a] = true := by
  unfold ckL
  rw [h2, h3]
  unfold ckL
  rfl
theorem ckL2 {N : List Str} {sc : Scope} {x y : Ex} {a b : Expr} (h2 : noStar a = true) (h3 : ck N x sc a = true) (h4 : noStar b = true) (h5 : ck N y sc b = true) : ckL N [x, y] sc [a, b] = true := by
  unfold ckL
  rw [h2, h3, ckL1 h4 h5]
  rfl
theorem pis_rng {xs : List Ex} (hs : ∀ x ∈ xs, Snd x) : Pis (.rng xs) := by
  intro X H0 Gp W tb tg t i G tk hc h
  unfold cal at hc
  rcases ckI_rn h with ⟨x, rfl⟩ | ⟨x, y, rfl⟩
  · obtain ⟨q, a, p, rfl, h1, h2, h3⟩ := ckI_r1 h
    have pa := pa_of (H0 := H0) (Gp := Gp) G tk hs (fun z => by cases z) hc (ckL1 h2 h3)
    refine pi_imp (pi_range1 (gl_of h1) (G.oth _ (by decide)) pa (star_of h2 [] X.env)) fun σ H Tn q => ?_
    obtain ⟨ρ, er, q⟩ := q
    unfold ev at q
    have q' : ((evs ρ [x]).bind fun ds => (rngD ds).bind itemsOf).all (fun ds => ∀ J H', Same H H' → Wk X.K X.mg H' (Zf (cn X H0 Gp) σ ρ) J ds → Tn J H') (fun k => ∀ H', Same H H' → XW (cn X H0 Gp) W k σ H') := by
      cases e : evs ρ [x] with
      | ok d => rw [e] at q; exact q
      | exc k => rw [e] at q; exact q
      | bad => rw [e] at q; exact q
    refine tA_then er q' fun ds vs H1 ee po er1 q1 => ?_
    unfold rngD at q1
    split at q1
    · rename_i j
      split at q1
      · rename_i hj
        obtain ⟨v, rfl, rv⟩ := po.rb.one
        cases rv.int
        have q2 : ∀ J H', Same H H' → Wk X.K X.mg H' (Zf (cn X H0 Gp) σ ρ) J ((List.range j.toNat).map fun (k : Nat) => D.int k) → Tn J H' := q1
        exact ⟨j, rfl, hj.1, hj.2, q2 _ _ po.same (by rw [rng_map0]; exact wk_rng 0 _)⟩
      · exact q1.elim
    · rename_i i j
      have := po.rb
      cases this with
      | cons _ z => cases z with
        | cons a b =>
          exfalso
          unfold evs at ee
          cases e1 : ev ρ x with
          | ok d => rw [e1] at ee; unfold evs at ee; cases ee
          | exc _ => rw [e1] at ee; cases ee
          | bad => rw [e1] at ee; cases ee
    · exact q1.elim
  · obtain ⟨q, a, b, p, rfl, h1, h2, h4, h3, h5⟩ := ckI_r2 h
    have pa := pa_of (H0 := H0) (Gp := Gp) G tk hs (fun z => by cases z) hc (ckL2 h2 h3 h4 h5)
    refine pi_imp (pi_range2 (gl_of h1) (G.oth _ (by decide)) pa (by rw [star_of h2, star_of h4]; rfl) (star_of h4 [] X.env)) fun σ H Tn q => ?_
    obtain ⟨ρ, er, q⟩ := q
    unfold ev at q
    have q' : ((evs ρ [x, y]).bind fun ds => (rngD ds).bind itemsOf).all (fun ds => ∀ J H', Same H H' → Wk X.K X.mg H' (Zf (cn X H0 Gp) σ ρ) J ds → Tn J H') (fun k => ∀ H', Same H H' → XW (cn X H0 Gp) W k σ H') := by
      cases e : evs ρ [x, y] with
      | ok d => rw [e] at q; exact q
      | exc k => rw [e] at q; exact q
      | bad => rw [e] at q; exact q
    refine tA_then er q' fun ds vs H1 ee po er1 q1 => ?_
    unfold rngD at q1
    split at q1
    · exfalso
      unfold evs at ee
      cases e1 : ev ρ x with
      | ok d =>
        rw [e1] at ee
        unfold evs at ee
        cases e2 : ev ρ y with
        | ok d => rw [e2] at ee; unfold evs at ee; cases ee
        | exc _ => rw [e2] at ee; cases ee
        | bad => rw [e2] at ee; cases ee
      | exc _ => rw [e1] at ee; cases ee
      | bad => rw [e1] at ee; cases ee
    · rename_i i j
      split at q1
      · rename_i hj
        obtain ⟨v, w, rfl, rv, rw'⟩ := po.rb.two
        cases rv.int; cases rw'.int
        have q2 : ∀ J H', Same H H' → Wk X.K X.mg H' (Zf (cn X H0 Gp) σ ρ) J ((List.range (j - i).toNat).map fun (k : Nat) => D.int (i + k)) → Tn J H' := q1
        exact ⟨i, j, rfl, hj, q2 _ _ po.same (wk_rng i _)⟩
      · exact q1.elim
    · exact q1.elim
theorem bind_items {c : Cn} {W : WX} {x : Ex} {σ : Sg} {H : Hp} {ρ : En} {β : Type} {f : List D → R β} {p : β → Prop} (q : (((ev ρ x).bind itemsOf).bind f).all p (fun k => ∀ H', Same H H' → XW c W k σ H')) :
    ((ev ρ x).bind fun d => (itemsOf d).bind f).all p (fun k => ∀ H', Same H H' → XW c W k σ H') := by
  cases e : ev ρ x with
  | ok d => rw [e] at q; exact q
  | exc k => rw [e] at q; exact q
  | bad => rw [e] at q; exact q
theorem pis_enum {x : Ex} (hx : Snd x) : Pis (.enum x) := by
  intro X H0 Gp W tb tg t i G tk hc h
  unfold cal at hc
  obtain ⟨ht, q, a, p, rfl, h1, h2, h3, h4⟩ := ckI_enum h
  obtain ⟨es, k, pt, rfl⟩ := tup_of ht
  have px := hx.pe (H0 := H0) (Gp := Gp) G tk (fun z => by cases z) hc h3
  refine pi_imp (pi_enum (gl_of h1) (G.oth _ (by decide)) (pa_cons px pa_nil (star_of h2 [] X.env)) (star_of h2 [] X.env)) fun σ H Tn q => ?_
  obtain ⟨ρ, er, q⟩ := q
  unfold ev at q
  have q' : ((ev ρ x).bind fun d => (if lstOnly d then itemsOf d else .bad).bind fun ds => (R.ok (enumD ds))).all (fun ds => ∀ J H', Same H H' → Wk X.K X.mg H' (Zf (cn X H0 Gp) σ ρ) J ds → Tn J H') (fun k => ∀ H', Same H H' → XW (cn X H0 Gp) W k σ H') := by
    cases e : ev ρ x with
    | ok d =>
      rw [e] at q
      have q1 : (((if lstOnly d then itemsOf d else .bad).bind fun ds => (R.ok (D.lst (enumD ds)) : R D)).bind itemsOf).all (fun ds => ∀ J H', Same H H' → Wk X.K X.mg H' (Zf (cn X H0 Gp) σ ρ) J ds → Tn J H') (fun k => ∀ H', Same H H' → XW (cn X H0 Gp) W k σ H') := q
      show ((if lstOnly d then itemsOf d else .bad).bind fun ds => (R.ok (enumD ds))).all _ _
      cases e2 : (if lstOnly d then itemsOf d else R.bad) with
      | ok ds => rw [e2] at q1; exact q1
      | exc k => rw [e2] at q1; exact q1
      | bad => rw [e2] at q1; exact q1
    | exc k => rw [e] at q; exact q
    | bad => rw [e] at q; exact q
  refine tX_then er q' fun d v H1 e1 po er1 q1 => ?_
  by_cases hl : lstOnly d = true
  · rw [if_pos hl] at q1
    cases e2 : itemsOf d with
    | ok ds =>
      rw [e2] at q1
      obtain ⟨a, xs, rfl, s1, s2, ra⟩ := items_lst (c := cn X H0 Gp) (po.rp h4) e2 (fun z hz => by rw [hz] at hl; cases hl) (fun z hz => by rw [hz] at hl; cases hl)
      exact ⟨a, xs, rfl, s1, q1 _ _ po.same (wk_enum s2 ra)⟩
    | exc k => unfold itemsOf at e2; split at e2 <;> cases e2
    | bad => rw [e2] at q1; exact q1.elim
  · rw [if_neg hl] at q1
    exact q1.elim
theorem pis_revd {x : Ex} (hx : Snd x) : Pis (.revd x) := by
  intro X H0 Gp W tb tg t i G tk hc h
  unfold cal at hc
  obtain ⟨q, a, p, rfl, h1, h2, h3, h4⟩ := ckI_revd h
  have px := hx.pe (H0 := H0) (Gp := Gp) G tk (fun z => by cases z) hc h3
  refine pi_imp (pi_reversed (gl_of h1) (G.oth _ (by decide)) (pa_cons px pa_nil (star_of h2 [] X.env)) (star_of h2 [] X.env)) fun σ H Tn q => ?_
  obtain ⟨ρ, er, q⟩ := q
  unfold ev at q
  have q' : ((ev ρ x).bind fun d => (if lstOnly d then itemsOf d else .bad).bind fun ds => (R.ok ds.reverse)).all (fun ds => ∀ J H', Same H H' → Wk X.K X.mg H' (Zf (cn X H0 Gp) σ ρ) J ds → Tn J H') (fun k => ∀ H', Same H H' → XW (cn X H0 Gp) W k σ H') := by
    cases e : ev ρ x with
    | ok d =>
      rw [e] at q
      have q1 : (((if lstOnly d then itemsOf d else .bad).bind fun ds => (R.ok (D.lst ds.reverse) : R D)).bind itemsOf).all (fun ds => ∀ J H', Same H H' → Wk X.K X.mg H' (Zf (cn X H0 Gp) σ ρ) J ds → Tn J H') (fun k => ∀ H', Same H H' → XW (cn X H0 Gp) W k σ H') := q
      show ((if lstOnly d then itemsOf d else .bad).bind fun ds => (R.ok ds.reverse)).all _ _
      cases e2 : (if lstOnly d then itemsOf d else R.bad) with
      | ok ds => rw [e2] at q1; exact q1
      | exc k => rw [e2] at q1; exact q1
      | bad => rw [e2] at q1; exact q1
    | exc k => rw [e] at q; exact q
    | bad => rw [e] at q; exact q
  refine tX_then er q' fun d v H1 e1 po er1 q1 => ?_
  by_cases hl : lstOnly d = true
  · rw [if_pos hl] at q1
    cases e2 : itemsOf d with
    | ok ds =>
      rw [e2] at q1
      obtain ⟨a, xs, rfl, s1, s2, ra⟩ := items_lst (c := cn X H0 Gp) (po.rp h4) e2 (fun z hz => by rw [hz] at hl; cases hl) (fun z hz => by rw [hz] at hl; cases hl)
      exact ⟨a, xs, rfl, s1, q1 _ _ po.same (wk_rev s2 ra)⟩
    | exc k => unfold itemsOf at e2; split at e2 <;> cases e2
    | bad => rw [e2] at q1; exact q1.elim
  · rw [if_neg hl] at q1
    exact q1.elim
theorem pis_zip {x y : Ex} (hx : Snd x) (hy : Snd y) : Pis (.zip x y) := by
  intro X H0 Gp W tb tg t i G tk hc h
  unfold cal at hc
  obtain ⟨ht, q, a, b, p, rfl, h1, h2, h3, h4, h5, h6, h7⟩ := ckI_zip h
  obtain ⟨es, k, pt, rfl⟩ := tup_of ht
  have px := hx.pe (H0 := H0) (Gp := Gp) G tk (fun z => by cases z) hc.1 h4
  have py := hy.pe (H0 := H0) (Gp := Gp) G tk (fun z => by cases z) hc.2 h5
  refine pi_imp (pi_zip (gl_of h1) (G.oth _ (by decide)) (pa_cons px (pa_cons py pa_nil (star_of h3 [] X.env)) (star_of h2 _ X.env)) (star_of h2 _ X.env) (by rw [star_of h3]; rfl)) fun σ H Tn q => ?_
  obtain ⟨ρ, er, q⟩ := q
  unfold ev at q
  have q' : ((ev ρ x).bind fun d => (ev ρ y).bind fun d2 => (if lstOnly d && lstOnly d2 then (itemsOf d).bind fun ds => (itemsOf d2).bind fun es => R.ok (zipD ds es) else .bad)).all (fun ds => ∀ J H', Same H H' → Wk X.K X.mg H' (Zf (cn X H0 Gp) σ ρ) J ds → Tn J H') (fun k => ∀ H', Same H H' → XW (cn X H0 Gp) W k σ H') := by
    cases e : ev ρ x with
    | ok d =>
      rw [e] at q
      cases e3 : ev ρ y with
      | ok d2 =>
        rw [e3] at q
        have q1 : ((if lstOnly d && lstOnly d2 then (itemsOf d).bind fun ds => (itemsOf d2).bind fun es => (R.ok (D.lst (zipD ds es)) : R D) else .bad).bind itemsOf).all (fun ds => ∀ J H', Same H H' → Wk X.K X.mg H' (Zf (cn X H0 Gp) σ ρ) J ds → Tn J H') (fun k => ∀ H', Same H H' → XW (cn X H0 Gp) W k σ H') := q
        show (if lstOnly d && lstOnly d2 then (itemsOf d).bind fun ds => (itemsOf d2).bind fun es => R.ok (zipD ds es) else .bad).all _ _
        by_cases hl : (lstOnly d && lstOnly d2) = true
        · rw [if_pos hl] at q1 ⊢
          cases e4 : itemsOf d with
          | ok ds =>
            rw [e4] at q1
            cases e5 : itemsOf d2 with
            | ok es => rw [e5] at q1; exact q1
            | exc k => rw [e5] at q1; exact q1
            | bad => rw [e5] at q1; exact q1
          | exc k => rw [e4] at q1; exact q1
          | bad => rw [e4] at q1; exact q1
        · rw [if_neg hl] at q1; exact q1.elim
      | exc k => rw [e3] at q; exact q
      | bad => rw [e3] at q; exact q
    | exc k => rw [e] at q; exact q
    | bad => rw [e] at q; exact q
  refine tX_then er q' fun d v H1 e1 po er1 q1 => ?_
  refine tX_then er1 q1 fun d2 v2 H2 e2 po2 er2 q2 => ?_
  by_cases hl : (lstOnly d && lstOnly d2) = true
  · rw [if_pos hl] at q2
    rw [Bool.and_eq_true] at hl
    cases e4 : itemsOf d with
    | ok ds =>
      rw [e4] at q2
      cases e5 : itemsOf d2 with
      | ok es =>
        rw [e5] at q2
        obtain ⟨a, xs, rfl, s1, s2, ra⟩ := items_lst (c := cn X H0 Gp) ((po.rp h6).same po2.same) e4 (fun z hz => by rw [hz] at hl; cases hl.1) (fun z hz => by rw [hz] at hl; cases hl.1)
        obtain ⟨b, ys, rfl, t1, t2, rb⟩ := items_lst (c := cn X H0 Gp) (po2.rp h7) e5 (fun z hz => by rw [hz] at hl; cases hl.2) (fun z hz => by rw [hz] at hl; cases hl.2)
        exact ⟨a, b, xs, ys, rfl, s1, t1, q2 _ _ (po.same.trans po2.same) (wk_zip s2 t2 ra rb)⟩
      | exc k => unfold itemsOf at e5; split at e5 <;> cases e5
      | bad => rw [e5] at q2; exact q2.elim
    | exc k => unfold itemsOf at e4; split at e4 <;> cases e4
    | bad => rw [e4] at q2; exact q2.elim
  · rw [if_neg hl] at q2
    exact q2.elim
end OL
namespace OL
open PySem PySem.Spec PyProof.Rows L2
def no : WX := fun _ _ _ _ => False
/-- the readings of a comprehension's parts, whatever they stand on -/
def tE (K : PySem.W.Frag) (mg : Str → Option Value) (x : Ex) : TE := fun σ H Q => ∃ (H0 : Hp) (Gp : Addr → Prop), tX ⟨K, mg, H0, Gp⟩ no x σ H Q
def tC2 (K : PySem.W.Frag) (mg : Str → Option Value) (x : Ex) : TT := if isNop x then tYes else fun σ H Q => ∃ (H0 : Hp) (Gp : Addr → Prop), tT ⟨K, mg, H0, Gp⟩ no x σ H Q
theorem Good.blk {tb : Fn → Prop} {tg : String → D → Prop} {X : Cx} {hot : Bool} (G : Good tb tg X hot) (s : Shared) (H : Hp) (scope : Scope) (env : Env) (fp : List Addr) : Good tb tg (X.blk s H scope env fp) hot :=
  ⟨G.nd, G.un, G.calm, fun h f hf => let c := G.calls h f hf; ⟨c.ex, c.dfl⟩, G.blt, G.oth, G.xk, G.gle, G.glb⟩
theorem lcR_exc {f g : D → R D} : ∀ {ds : List D} {k : String}, lcR ds f g ≠ .exc k
  | [], k, h => by cases h
  | d :: ds, k, h => by
    unfold lcR at h
    split at h
    · split at h
      · split at h
        · rename_i y _
          cases e : lcR ds f g with
          | ok _ => rw [e] at h; cases h
          | exc k' => exact lcR_exc e
          | bad => rw [e] at h; cases h
        · cases h
      · exact lcR_exc h
      · cases h
    · cases h
theorem list_ext {α : Type} {l l' : List α} (h : ∀ i : Nat, l[i]? = l'[i]?) : l = l' := List.ext_getElem? h
theorem wipe_same {σ σ' : Sg} {vs : List Nat} (hl : σ'.length = σ.length) (h : ∀ i, i ∉ vs → σ'[i]? = σ[i]?) : wipe σ' vs = wipe σ vs := by
  induction vs generalizing σ σ' with
  | nil => exact list_ext fun i => h i (by simp)
  | cons v vs ih =>
    refine list_ext fun i => ?_
    by_cases hi : i ∈ v :: vs
    · -- both are empty there, or out of range
      have len1 : (wipe σ' (v :: vs)).length = (wipe σ (v :: vs)).length := by rw [wipe_length, wipe_length, hl]
      by_cases hb : i < (wipe σ (v :: vs)).length
      · have at_none : ∀ {τ : Sg}, i < (wipe τ (v :: vs)).length → (wipe τ (v :: vs))[i]? = some none := fun {τ} hb => by
          cases e : (wipe τ (v :: vs))[i]? with
          | none => rw [List.getElem?_eq_none_iff] at e; omega
          | some o =>
            cases o with
            | none => rfl
            | some x => exact absurd hi (wipe_some e).2
        rw [at_none hb, at_none (by rw [len1]; exact hb)]
      · rw [List.getElem?_eq_none (by omega), List.getElem?_eq_none (by omega)]
    · rw [wipe_out hi, wipe_out hi]
      exact h i hi
theorem wipe_wipe (σ : Sg) (vs : List Nat) : wipe (wipe σ vs) vs = wipe σ vs := wipe_same (wipe_length _ _) fun i hi => wipe_out hi
theorem lc_all {elt it cond : Ex} {tg : Tg} (he : Snd elt) (hi : Pis it) (hd : Snd cond) {X : Cx} {H0 : Hp} {Gp : Addr → Prop} {W : WX} {tb : Fn → Prop} {tgl : String → D → Prop} {a t i : Expr} {ifs : List Expr} {scope : Scope} {p : Pos}
    (G : Good tb tgl X false) (tk : Takes X W) (hc : cal tb tgl elt ∧ cal tb tgl it ∧ cal tb tgl cond) (h1 : blkC X.N X.env.scope scope (ownT tg t) = true) (h2 : ckG X.N false (relS scope X.env.scope) tg t = true) (h3 : ck X.N elt (relS scope X.env.scope) a = true)
    (h4 : ckCd X.N cond (relS scope X.env.scope) ifs = true) (h5 : nb elt = true) (h6 : (ownT tg t).map (·.2) = slotsT tg) (h7 : ckI X.N it X.env.scope i (isTup t) = true) (h8 : ∀ es k q, i ≠ .Set es k q) :
    PI X t i (tI (cn X H0 Gp) W it) ∧ BlkOk X.N X.env.scope scope (ownT tg t) ∧ (∀ (s : Shared) (H : Hp) (C : Addr) (cl : List (Str × Addr)) (fp : List Addr), PG (X.blk s H scope (compEnvC scope cl C X.env) fp) t (gOf X.K tg)) ∧
    (∀ (s : Shared) (H : Hp) (C : Addr) (cl : List (Str × Addr)) (fp : List Addr), PTs (X.blk s H scope (compEnvC scope cl C X.env) fp) ifs (tC2 X.K X.mg cond)) ∧
    (∀ (s : Shared) (H : Hp) (C : Addr) (cl : List (Str × Addr)) (fp : List Addr), PE (X.blk s H scope (compEnvC scope cl C X.env) fp) a (tE X.K X.mg elt)) ∧ (∀ x, foldedSetIterable i X.env x = pure x) ∧
    ∀ σ H Q, tX (cn X H0 Gp) W (.lc elt tg it cond) σ H Q → tLc (tI (cn X H0 Gp) W it) (gOf X.K tg) (tC2 X.K X.mg cond) (tE X.K X.mg elt) ((ownT tg t).map (·.2)) σ H Q := by
    have pi := hi (H0 := H0) (Gp := Gp) G tk hc.2.1 h7
    have pg : ∀ (s : Shared) (H : Hp) (C : Addr) (cl : List (Str × Addr)) (fp : List Addr), PG (X.blk s H scope (compEnvC scope cl C X.env) fp) t (gOf X.K tg) := fun s H C cl fp =>
      pg_of (X := X.blk s H scope (compEnvC scope cl C X.env) fp) (cel := false) G.nd (G.calm rfl) (fun z => by cases z) h2
    have pl : ∀ (s : Shared) (H : Hp) (C : Addr) (cl : List (Str × Addr)) (fp : List Addr), PE (X.blk s H scope (compEnvC scope cl C X.env) fp) a (tE X.K X.mg elt) := fun s H C cl fp => ⟨fun pins s' σ H' Q I q => by
      obtain ⟨H1, G1, q⟩ := q
      exact (he.pe (X := X.blk s H scope (compEnvC scope cl C X.env) fp) (H0 := H1) (Gp := G1) (W := no) (G.blk s H scope _ fp) takes0 (fun z => by cases z) hc.1 h3).run pins s' σ H' Q I q⟩
    have pt : ∀ (s : Shared) (H : Hp) (C : Addr) (cl : List (Str × Addr)) (fp : List Addr), PTs (X.blk s H scope (compEnvC scope cl C X.env) fp) ifs (tC2 X.K X.mg cond) := fun s H C cl fp => by
      by_cases hn : isNop cond = true
      · unfold tC2
        rw [if_pos hn]
        cases cond <;> (try (cases hn; done))
        cases ifs with
        | nil => exact pts_nil
        | cons _ _ => simp [ckCd, cdC, isNop] at h4
      · unfold tC2
        rw [if_neg hn]
        have z : ∃ b, ifs = [b] ∧ ck X.N cond (relS scope X.env.scope) b = true := by
          cases ifs with
          | nil => cases cond <;> first | (exact absurd rfl hn) | (simp [ckCd, cdC, isNop] at h4)
          | cons b bs =>
            cases bs with
            | nil => exact ⟨b, rfl, by cases cond <;> first | (exact absurd rfl hn) | (unfold ckCd at h4; exact h4)⟩
            | cons _ _ => cases cond <;> first | (exact absurd rfl hn) | (simp [ckCd, cdC, isNop] at h4)
        obtain ⟨b, rfl, hb⟩ := z
        refine pts_one ⟨fun pins s' σ H' Q I q => ?_⟩
        obtain ⟨H1, G1, q⟩ := q
        exact (hd.pt (X := X.blk s H scope (compEnvC scope cl C X.env) fp) (H0 := H1) (Gp := G1) (W := no) (G.blk s H scope _ fp) takes0 (fun z => by cases z) hc.2.2 hb).run pins s' σ H' Q I q
    refine ⟨pi, blkOk_by h1, pg, pt, pl, fun x => by (cases i <;> first | rfl | exact absurd rfl (h8 _ _ _)), fun σ H Q q => ?_⟩
    obtain ⟨ρ, er, q⟩ := q
    rw [h6]
    refine ⟨ρ, er, ?_⟩
    unfold ev at q
    cases e1 : (ev ρ it).bind itemsOf with
    | exc k => rw [e1] at q; exact q
    | bad => rw [e1] at q; exact q
    | ok ds =>
    rw [e1] at q
    intro J H1 s1 wk D hD
    by_cases hn : (slotsT tg).all (notOwn ρ) = true
    case neg =>
      have q' : (if (!(slotsT tg).all (notOwn ρ)) = true then R.bad else _).all _ _ := q
      rw [if_pos (by simp only [Bool.not_eq_true] at hn; rw [hn]; rfl)] at q'
      exact q'.elim
    have q' : (if (!(slotsT tg).all (notOwn ρ)) = true then R.bad else _).all _ _ := q
    rw [if_neg (by rw [hn]; decide)] at q'
    clear q
    generalize hf : (fun d => if isNop cond = true then R.ok (OL.D.bl true) else (setT tg d (wipeN ρ (slotsT tg))).bind fun ρ' => ev ρ' cond) = f at q'
    generalize hg : (fun d => (setT tg d (wipeN ρ (slotsT tg))).bind fun ρ' => ev ρ' elt) = g at q'
    cases e2 : lcR ds f g with
    | exc k => exact absurd e2 lcR_exc
    | bad => rw [e2] at q'; exact q'.elim
    | ok ys =>
    rw [e2] at q'
    have q2 : (if ys.length ≤ 16777216 then (R.ok (OL.D.lst ys) : R OL.D) else .bad).all (fun d => ∀ v H', Po (cn X H0 Gp) σ ρ (.lc elt tg it cond) H H' d v → Q v H') (fun k => ∀ H', Same H H' → XW (cn X H0 Gp) W k σ H') := q'
    split at q2
    case isFalse => exact q2.elim
    rename_i hlen
    have er1 := er.same s1
    have zD : Zf (cn X H0 Gp) σ ρ D := er1.newZ hD
    refine ⟨fun i m Hc => m = ds.length - i ∧ i ≤ ds.length ∧ ∃ dn rs acc, lcR (ds.drop i) f g = .ok rs ∧ ys = dn ++ rs ∧ Hc D = some (.lst acc) ∧ RpA X.K X.mg Hc (fun b => Zf (cn X H0 Gp) σ ρ b ∧ b ≠ D) dn acc ∧ Same H1 Hc,
      ⟨ds.length, by simp, Nat.zero_le _, [], ys, [], by simpa using e2, rfl, upd_same, .nil, same_upd hD⟩, ?_⟩
    rintro i m Hc ⟨rfl, hile, dn, rs, acc, er2, hys, hacc, ra, sc⟩
    by_cases hlt : i < ds.length
    · have hst : Stay H1 (Zf (cn X H0 Gp) σ ρ) Hc := .of_same sc
      refine .inr ⟨wk.go Hc i hst hlt, fun H' => (i + 1) ≤ ds.length ∧ ∃ dn rs acc, lcR (ds.drop (i + 1)) f g = .ok rs ∧ ys = dn ++ rs ∧ H' D = some (.lst acc) ∧ RpA X.K X.mg H' (fun b => Zf (cn X H0 Gp) σ ρ b ∧ b ≠ D) dn acc ∧ Same H1 H',
        fun H' nx => ⟨ds.length - (i + 1), by omega, rfl, nx⟩, fun x H2 y => ?_⟩
      have hdi : ds[i]? = some ds[i] := List.getElem?_eq_getElem hlt
      obtain ⟨s2, rx⟩ := wk.yld Hc i x H2 hst y _ hdi
      have hdrop : ds.drop i = ds[i] :: ds.drop (i + 1) := List.drop_eq_getElem_cons hlt
      rw [hdrop] at er2
      unfold lcR at er2
      have erc := er1.same sc
      have er3 := erc.same s2
      -- the block's slots, away from the list that is made
      have D2 : H2 D = some (.lst acc) := s2 _ _ hacc
      have eqo := own_wipe (σ := σ) (ρ := ρ) (vs := slotsT tg) hn
      have stays : ∀ b o, H1 b = some o → b ≠ D := fun b o e => ne_of_none e hD
      let c' : Cn := ⟨X.K, X.mg, H0, fun b => Gp b ∧ b ≠ D⟩
      have erw : ER c' H2 (wipe σ (slotsT tg)) (wipeN ρ (slotsT tg)) := by
        have w := er1.wipe hn
        have st : Same H1 H2 := sc.trans s2
        have wk' : ∀ b o, H1 b = some o → Zf (cn X H0 Gp) (wipe σ (slotsT tg)) (wipeN ρ (slotsT tg)) b → Zf c' (wipe σ (slotsT tg)) (wipeN ρ (slotsT tg)) b := fun b o e z => ⟨⟨z.1, stays b o e⟩, z.2⟩
        refine ⟨w.len, w.sm.trans st, fun p hp => ⟨er3.nw p hp, fun z => by (subst z; rw [D2] at hp; cases hp)⟩, fun j d e => ?_, fun j es e => ?_, w.uniq⟩
        · obtain ⟨v, f1, r⟩ := w.val j d e
          exact ⟨v, f1, r.mono (.of_same st) wk'⟩
        · obtain ⟨b, xs, f1, f2, f3, r⟩ := w.lst j es e
          exact ⟨b, xs, f1, st _ _ f2, ⟨f3.1, f3.2, stays b _ f2⟩, r.mono (.of_same st) wk'⟩
      have rx' : Rp X.K X.mg H2 (Zf c' (wipe σ (slotsT tg)) (wipeN ρ (slotsT tg))) ds[i] x := rx.weak fun b o e z => by
        have nb : b ≠ D ∧ Zf (cn X H0 Gp) σ ρ b := by
          rcases z with ⟨z, o', e'⟩ | z
          · exact ⟨stays b o' e', z⟩
          · exact ⟨fun w => by (subst w; rw [hacc] at z; cases z), erc.newZ z⟩
        exact ⟨⟨nb.2.1, nb.1⟩, fun w => nb.2.2 ((eqo b).mp w)⟩
      -- the target
      have setok : ∃ ρ2, setT tg ds[i] (wipeN ρ (slotsT tg)) = .ok ρ2 := by
        cases e5 : setT tg ds[i] (wipeN ρ (slotsT tg)) with
        | ok ρ2 => exact ⟨ρ2, rfl⟩
        | exc k =>
          exfalso
          have g0 : g ds[i] = .exc k := by rw [← hg]; show (setT tg ds[i] _).bind _ = _; rw [e5]
          rw [g0] at er2
          split at er2
          · split at er2 <;> first | cases er2 | skip
            rename_i hfd _ htr
            by_cases hnp : isNop cond = true
            · have f0 : f ds[i] = .ok (.bl true) := by rw [← hf]; exact if_pos hnp
              rw [f0] at hfd; cases hfd; cases htr
            · have f0 : f ds[i] = .exc k := by rw [← hf]; show (if isNop cond = true then _ else _) = _; rw [if_neg hnp, e5]
              rw [f0] at hfd; cases hfd
          · cases er2
        | bad =>
          exfalso
          have g0 : g ds[i] = .bad := by rw [← hg]; show (setT tg ds[i] _).bind _ = _; rw [e5]
          rw [g0] at er2
          split at er2
          · split at er2 <;> first | cases er2 | skip
            rename_i hfd _ htr
            by_cases hnp : isNop cond = true
            · have f0 : f ds[i] = .ok (.bl true) := by rw [← hf]; exact if_pos hnp
              rw [f0] at hfd; cases hfd; cases htr
            · have f0 : f ds[i] = .bad := by rw [← hf]; show (if isNop cond = true then _ else _) = _; rw [if_neg hnp, e5]
              rw [f0] at hfd; cases hfd
          · cases er2
      obtain ⟨ρ2, hset⟩ := setok
      have gd : g ds[i] = ev ρ2 elt := by rw [← hg]; show (setT tg ds[i] _).bind _ = _; rw [hset]
      refine gOf_ok (c := c') erw rx' hset fun σ2 er4 ow sl ln => ⟨?_, ?_⟩
      · rw [wipe_same (ln.trans rfl) fun j hj => (sl j hj).1]
        exact wipe_wipe σ (slotsT tg)
      · -- what is one's own is the same
        have ow2 : ∀ b, own σ2 ρ2 b ↔ own σ ρ b := fun b => ⟨fun w => (eqo b).mp (ow b w), fun w => by
          obtain ⟨j, es, f1, f2⟩ := (eqo b).mpr w
          have hj : j ∉ slotsT tg := fun m => by
            rcases wipe_at f1 with ⟨_, z⟩ | ⟨m2, _⟩
            · cases z
            · exact m2 m
          exact ⟨j, es, by rw [(sl j hj).2]; exact f1, by rw [(sl j hj).1]; exact f2⟩⟩
        have zof : ∀ b, Zf c' σ2 ρ2 b → Zf (cn X H0 Gp) σ ρ b ∧ b ≠ D := fun b z => ⟨⟨z.1.1, fun w => z.2 ((ow2 b).mpr w)⟩, z.1.2⟩
        -- the test, then the item
        have item : ∀ (H3 : Hp) (rs' : List OL.D), Same H2 H3 → (∃ y, ev ρ2 elt = .ok y ∧ lcR (ds.drop (i + 1)) f g = .ok rs' ∧ rs = y :: rs') → tE X.K X.mg elt σ2 H3 fun y H4 => ∃ acc, H4 D = some (.lst acc) ∧ acc.length < sizeLine ∧ ((i + 1) ≤ ds.length ∧ ∃ dn rs acc', lcR (ds.drop (i + 1)) f g = .ok rs ∧ ys = dn ++ rs ∧ (upd H4 D (.lst (acc ++ [y]))) D = some (.lst acc') ∧ RpA X.K X.mg (upd H4 D (.lst (acc ++ [y]))) (fun b => Zf (cn X H0 Gp) σ ρ b ∧ b ≠ D) dn acc' ∧ Same H1 (upd H4 D (.lst (acc ++ [y])))) := by
          rintro H3 rs' s3 ⟨y, ey, el, rfl⟩
          refine ⟨H0, fun b => Gp b ∧ b ≠ D, ρ2, er4.same s3, ?_⟩
          rw [ey]
          intro v H4 po
          have D4 : H4 D = some (.lst acc) := po.same _ _ (s3 _ _ D2)
          have hl : acc.length < 16777216 := by
            have := ra.length
            rw [hys] at hlen
            rw [List.length_append, List.length_cons] at hlen
            omega
          have s14 : Same Hc H4 := (s2.trans s3).trans po.same
          have sty : Stay H4 (fun b => Zf (cn X H0 Gp) σ ρ b ∧ b ≠ D) (upd H4 D (.lst (acc ++ [v]))) := fun b o e z => by
            by_cases hb : b = D
            · subst hb
              rw [D4] at e; cases e
              exact absurd rfl (z rfl).2
            · rw [upd_ne hb]; exact e
          refine ⟨acc, D4, by rw [line_eq]; exact hl, hlt, dn ++ [y], rs', _, el, by rw [hys, List.append_assoc]; rfl, upd_same, ?_, fun b o e => by rw [upd_ne (stays b o e)]; exact s14 _ _ (sc _ _ e)⟩
          refine RpA.append ((ra.same s14).mono sty fun _ _ _ z => z) (.cons (((po.rp h5).weak fun b _ _ z => zof b z).mono sty fun _ _ _ z => z) .nil)
        have skip : ∀ (H3 : Hp), Same H2 H3 → lcR (ds.drop (i + 1)) f g = .ok rs → ((i + 1) ≤ ds.length ∧ ∃ dn rs acc, lcR (ds.drop (i + 1)) f g = .ok rs ∧ ys = dn ++ rs ∧ H3 D = some (.lst acc) ∧ RpA X.K X.mg H3 (fun b => Zf (cn X H0 Gp) σ ρ b ∧ b ≠ D) dn acc ∧ Same H1 H3) := fun H3 s3 el =>
          ⟨hlt, dn, rs, acc, el, hys, s3 _ _ D2, ra.same (s2.trans s3), (sc.trans s2).trans s3⟩
        have split_item : (match g ds[i] with | .ok y => (lcR (ds.drop (i + 1)) f g).bind fun ys => R.ok (y :: ys) | _ => R.bad) = .ok rs → ∃ rs', ∃ y, ev ρ2 elt = .ok y ∧ lcR (ds.drop (i + 1)) f g = .ok rs' ∧ rs = y :: rs' := fun z => by
          rw [gd] at z
          cases e6 : ev ρ2 elt with
          | ok y =>
            rw [e6] at z
            cases e7 : lcR (ds.drop (i + 1)) f g with
            | ok rs' =>
              rw [e7] at z
              have z' : (R.ok (y :: rs') : R (List OL.D)) = .ok rs := z
              cases z'
              exact ⟨rs', y, rfl, rfl, rfl⟩
            | exc k => rw [e7] at z; cases z
            | bad => rw [e7] at z; cases z
          | exc k => rw [e6] at z; cases z
          | bad => rw [e6] at z; cases z
        by_cases hnp : isNop cond = true
        · have f0 : f ds[i] = .ok (.bl true) := by rw [← hf]; exact if_pos hnp
          rw [f0] at er2
          obtain ⟨rs', z⟩ := split_item er2
          unfold tC2
          rw [if_pos hnp]
          have w := item H2 rs' (Same.refl _) z
          unfold tYes
          dsimp only
          rw [if_pos rfl]
          exact w
        · have f0 : f ds[i] = ev ρ2 cond := by rw [← hf]; show (if isNop cond = true then _ else _) = _; rw [if_neg hnp, hset]
          rw [f0] at er2
          unfold tC2
          rw [if_neg hnp]
          refine ⟨H0, fun b => Gp b ∧ b ≠ D, ρ2, er4, ?_⟩
          unfold tst
          cases e6 : ev ρ2 cond with
          | ok k =>
            rw [e6] at er2
            show (match truD k with | some b => R.ok b | none => R.bad).all _ _
            cases e7 : truD k with
            | none =>
              have er2' : (match truD k with | some true => (match g ds[i] with | .ok y => (lcR (ds.drop (i + 1)) f g).bind fun ys => R.ok (y :: ys) | _ => R.bad) | some false => lcR (ds.drop (i + 1)) f g | none => R.bad) = .ok rs := er2
              rw [e7] at er2'
              cases er2'
            | some b =>
              have er2' : (match truD k with | some true => (match g ds[i] with | .ok y => (lcR (ds.drop (i + 1)) f g).bind fun ys => R.ok (y :: ys) | _ => R.bad) | some false => lcR (ds.drop (i + 1)) f g | none => R.bad) = .ok rs := er2
              rw [e7] at er2'
              intro H3 s3
              cases b with
              | true =>
                obtain ⟨rs', z⟩ := split_item er2'
                exact iteT (item H3 rs' s3 z)
              | false => exact iteF (skip H3 s3 er2')
          | exc k => rw [e6] at er2; cases er2
          | bad => rw [e6] at er2; cases er2
    · have e : i = ds.length := by omega
      subst e
      refine .inl ⟨wk.stop Hc _ (.of_same sc) (Nat.le_refl _), ?_⟩
      rw [List.drop_length] at er2
      have er2' : (R.ok [] : R (List OL.D)) = .ok rs := er2
      cases er2'
      rw [List.append_nil] at hys
      subst hys
      have r2 : Rp X.K X.mg Hc (Zf (cn X H0 Gp) σ ρ) (.lst ys) (.ref D) := .lst hacc zD (ra.weak fun _ _ _ z => z.1)
      refine q2 _ _ ⟨s1.trans sc, .p r2, fun _ => r2, fun _ es z => ?_⟩
      cases z
      exact ⟨D, acc, rfl, s1.free hD, hacc, ra⟩
theorem snd_lc {elt it cond : Ex} {tg : Tg} (he : Snd elt) (hi : Pis it) (hd : Snd cond) : Snd (.lc elt tg it cond) := by
  have pe : ∀ {X : Cx} {H0 : Hp} {Gp : Addr → Prop} {W : WX} {tb : Fn → Prop} {tgl : String → D → Prop} {hot : Bool} {e : Expr}, Good tb tgl X hot → Takes X W → (hot = true → hotOk (.lc elt tg it cond) = true) → cal tb tgl (.lc elt tg it cond) → ck X.N (.lc elt tg it cond) X.env.scope e = true → PE X e (tX (cn X H0 Gp) W (.lc elt tg it cond)) := by
    intro X H0 Gp W tb tgl hot e G tk hh hc h
    have ht : hot = false := by cases hot; rfl; (have := hh rfl; unfold hotOk at this; cases this)
    subst ht
    obtain ⟨a, t, i, ifs, scope, p, rfl, h1, h2, h3, h4, h5, h6, h7, h8⟩ := ck_lc h
    unfold cal at hc
    obtain ⟨pi, bk, pg, pt, pl, fs, imp⟩ := lc_all (H0 := H0) (Gp := Gp) (p := p) he hi hd G tk hc h1 h2 h3 h4 h5 h6 h7 h8
    exact pe_imp (pe_lc (G.calm rfl) G.nd pi bk pg pt pl fs) imp
  refine ⟨fun G tk hh c h => pe G tk hh c h, fun G tk hh c h => ?_⟩
  obtain ⟨a, t, i, ifs, scope, p, rfl, _⟩ := ck_lc h
  exact pt_gen (pe G tk hh c h) fun _ => rfl
theorem snd_no {x : Ex} (h : ∀ N sc e, ck N x sc e = false) : Snd x := ⟨fun _ _ _ _ z => by (rw [h] at z; cases z), fun _ _ _ _ z => by (rw [h] at z; cases z)⟩
/- all of it -/
mutual
theorem snd : ∀ x : Ex, Snd x ∧ Pis x
  | .nop => ⟨snd_nop, pis_plain snd_nop rfl⟩
  | .var i => ⟨snd_var i, pis_plain (snd_var i) rfl⟩
  | .bor i => ⟨snd_bor i, pis_plain (snd_bor i) rfl⟩
  | .lit d => ⟨snd_lit d, pis_plain (snd_lit d) rfl⟩
  | .glob n d => ⟨snd_glob n d, pis_plain (snd_glob n d) rfl⟩
  | .tup xs => let h := snd_tup (sndL xs); ⟨h, pis_plain h rfl⟩
  | .lst xs => let h := snd_lst (sndL xs); ⟨h, pis_plain h rfl⟩
  | .bin op x y => let h := snd_bin (op := op) (snd x).1 (snd y).1; ⟨h, pis_plain h rfl⟩
  | .neg x => let h := snd_neg (snd x).1; ⟨h, pis_plain h rfl⟩
  | .cmp op x y => let h := snd_cmp (op := op) (snd x).1 (snd y).1; ⟨h, pis_plain h rfl⟩
  | .chain op op' x y z => let h := snd_chain (op := op) (op' := op') (snd x).1 (snd y).1 (snd z).1; ⟨h, pis_plain h rfl⟩
  | .and xs => let h := snd_and (sndL xs); ⟨h, pis_plain h rfl⟩
  | .or xs => let h := snd_or (sndL xs); ⟨h, pis_plain h rfl⟩
  | .not x => let h := snd_not (snd x).1; ⟨h, pis_plain h rfl⟩
  | .ite c x y => let h := snd_ite (snd c).1 (snd x).1 (snd y).1; ⟨h, pis_plain h rfl⟩
  | .ix x i => let h := snd_ix (snd x).1 (snd i).1; ⟨h, pis_plain h rfl⟩
  | .sl x lo hi => let h := snd_sl (snd x).1 (snd lo).1 (snd hi).1; ⟨h, pis_plain h rfl⟩
  | .call f fl xs => let h := snd_call (f := f) (fl := fl) (sndL xs); ⟨h, pis_plain h rfl⟩
  | .blt b xs => let h := snd_blt (b := b) (sndL xs); ⟨h, pis_plain h rfl⟩
  | .mth m x xs => let h := snd_mth (m := m) (xs := xs) (snd x).1; ⟨h, pis_plain h rfl⟩
  | .isi x cs => let h := snd_isi (cs := cs) (snd x).1; ⟨h, pis_plain h rfl⟩
  | .isx x cs => let h := snd_isx (cs := cs) (snd x).1; ⟨h, pis_plain h rfl⟩
  | .rvl x => let h := snd_rvl (snd x).1; ⟨h, pis_plain h rfl⟩
  | .lc elt tg it cond => let h := snd_lc (tg := tg) (snd elt).1 (snd it).2 (snd cond).1; ⟨h, pis_plain h rfl⟩
  | .rng xs => ⟨snd_no fun N sc e => by cases e <;> (unfold ck; rfl), pis_rng (sndL xs)⟩
  | .enum x => ⟨snd_no fun N sc e => by cases e <;> (unfold ck; rfl), pis_enum (snd x).1⟩
  | .zip x y => ⟨snd_no fun N sc e => by cases e <;> (unfold ck; rfl), pis_zip (snd x).1 (snd y).1⟩
  | .revd x => ⟨snd_no fun N sc e => by cases e <;> (unfold ck; rfl), pis_revd (snd x).1⟩
theorem sndL : ∀ xs : List Ex, ∀ x ∈ xs, Snd x
  | [], _, h => by cases h
  | x :: xs, y, h => by
    rcases List.mem_cons.mp h with e | e
    · rw [e]; exact (snd x).1
    · exact sndL xs y e
end
end OL
namespace OL
open PySem PySem.Spec PyProof.Rows L2
theorem sw_par {x y : Str} {a b : Expr} {px py pt pt2 : Pos} {kt k2 : Nat} {env : Env} (hk : env.scope.kind = .function) (hx : env.scope.names.lookup x = some .local) (hy : env.scope.names.lookup y = some .local) (hl : (py.line == px.line) = true) (hxy : (x == y) = false)
    (sa : noStar a = true) (sb : noStar b = true) (hf : [a, b].all (foldedForSure 8) = false) (hc : [a, b].all (constantsAlone 8) = false) :
    swappedStores [.Tuple [.Name x px, .Name y py] kt pt] (.Tuple [a, b] k2 pt2) env = pure (some [x, y]) := by
  have kx : env.kindOf x = some .local := hx
  have ky : env.kindOf y = some .local := hy
  have hb : env.blockKind = .function := by unfold Env.blockKind; rw [hk]; rfl
  have hxy' : (y == x) = false := by
    rw [beq_eq_false_iff_ne] at hxy ⊢
    exact fun z => hxy z.symm
  unfold swappedStores
  simp [hb, kx, ky, hf, hc, Expr.pos, hl, List.filterMap, List.eraseDups, List.eraseDupsBy, List.eraseDupsBy.loop, hxy, hxy']
  intro h
  exfalso
  rcases h with h | h
  · cases a <;> first | (cases h; done) | (cases sa; done)
  · cases b <;> first | (cases h; done) | (cases sb; done)
/-- no comprehension -/
def noComp : Expr → Bool
  | .ListComp .. => false
  | .SetComp .. => false
  | .DictComp .. => false
  | _ => true
theorem sw_none {e : Expr} (h : noComp e = true) (t : Option Expr) (l : Nat) (env : Env) : swapsWith e t l env = pure false := by
  cases e <;> first | rfl | cases h
theorem sw_tupT {e : Expr} {es : List Expr} {k : Nat} {p : Pos} (l : Nat) (env : Env) : swapsWithSole [.Tuple es k p] e l env = pure false := by
  cases e <;> rfl
theorem sw_cell {elt : Expr} {gs : List Comprehension} {scope : Scope} {pos py : Pos} {y : Str} {l : Nat} {env : Env} (hy : env.scope.names.lookup y = some .cell) : swapsWith (.ListComp elt gs scope pos) (some (.Name y py)) l env = pure false := by
  have ky : env.kindOf y = some .cell := hy
  unfold swapsWith
  simp only [ky]
  have z : ((some NameKind.cell : Option NameKind) == some .local) = false := rfl
  simp only [z, Bool.and_false, Bool.false_and]
/-- a tuple that is stored as such -/
def noSwap : Expr → Bool
  | .Tuple vs _ _ => !(vs.length == 2) && !(vs.length == 3)
  | _ => true
theorem sw_some {e : Expr} {ts : List Expr} {k : Nat} {p : Pos} {env : Env} (h : noSwap e = true) : swappedStores [.Tuple ts k p] e env = pure none := by
  unfold swappedStores
  cases e <;> (try rfl)
  rename_i vs k2 p2
  unfold noSwap at h
  rw [Bool.and_eq_true] at h
  have h1 : (vs.length == 2) = false := by simpa using h.1
  have h2 : (vs.length == 3) = false := by simpa using h.2
  by_cases e : vs.length = ts.length
  · rw [e] at h1 h2
    simp [h1, h2]
  · have e' : (vs.length != ts.length) = true := by simpa using e
    simp [e']
theorem pmk_own0 {X : Cx} {C : Addr} {bmB : List Value} {B newId initId : String} {x : Str} {p pos : Pos} (F : ExcBaseFacts B newId initId bmB) (q : PySem.W.excIn X.K C bmB newId = true) (gC : X.mg x = some (.ref C)) (kC : PySem.W.keepIn X.K (.ref C) = true)
    (r : Raises X (.ref C)) (hg : Gl X x) (hdb : (x == ("__debug__" : Str)) = false) : PMk X (.Call (.Name x p) [] [] pos) (fun _ H Q => Q (.ref C) none H) := by
  intro pins s σ H Q I h
  apply wpAny_Call_Name_kw
  apply ld_glob I hg gC _ hdb
  apply PySem.W.callWith_K0 I.kIn kC
  show wpAny _ _ (call (.ref C) []) _ _ _
  obtain ⟨bm, Nn, nm, qn, bs, hdct, sn, sub, ab, col, dd, k0, k1, k2, k3, k5, mN, hC, hN, hni, T⟩ := exc_obj I.kIn q
  refine wpAny_call_exc_subT F T hC hN hni (fun h' e hm => mk_of I hm r h (I.hok.gone hm.new)) ?_
  show 0 ≤ sizeLine
  exact Nat.zero_le _
/-! ### statements -/
/-- what is wanted of a value that is handed back -/
def Ret (c : Cn) (fr : Bool) (H : Hp) (d : D) (v : V) : Prop := Same c.H0 H ∧ Rp c.K c.mg H c.Gp d v ∧
  (fr = true → ∀ es, d = .lst es → ∃ a xs, v = .ref a ∧ c.H0 a = none ∧ H a = some (.lst xs) ∧ RpA c.K c.mg H (fun b => c.Gp b ∧ b ≠ a) es xs)
/-- what stood, but one's own, stands -/
def Stb (σ : Sg) (ρ : En) (H : Hp) (σ' : Sg) (ρ' : En) (H' : Hp) : Prop := ∀ a o, H a = some o → ¬ own σ ρ a → H' a = some o ∧ ¬ own σ' ρ' a
theorem Stb.trans {σ σ1 σ2 : Sg} {ρ ρ1 ρ2 : En} {H H1 H2 : Hp} (a : Stb σ ρ H σ1 ρ1 H1) (b : Stb σ1 ρ1 H1 σ2 ρ2 H2) : Stb σ ρ H σ2 ρ2 H2 := fun x o e n => let ⟨e1, n1⟩ := a x o e n; b x o e1 n1
theorem Stb.refl {σ : Sg} {ρ : En} {H : Hp} : Stb σ ρ H σ ρ H := fun _ _ e n => ⟨e, n⟩
theorem Stb.same {σ : Sg} {ρ : En} {H H' : Hp} (s : Same H H') : Stb σ ρ H σ ρ H' := fun a o e n => ⟨s a o e, n⟩
def oA (c : Cn) (W : WX) (fr : Bool) (σ : Sg) (ρ : En) (H : Hp) (Dn : Ends) : O → Prop
  | .nx ρ' => ∀ σ' H', ER c H' σ' ρ' → Stb σ ρ H σ' ρ' H' → Dn.nx σ' H'
  | .bk ρ' => ∀ σ' H', ER c H' σ' ρ' → Stb σ ρ H σ' ρ' H' → Dn.bk σ' H'
  | .ct ρ' => ∀ σ' H', ER c H' σ' ρ' → Stb σ ρ H σ' ρ' H' → Dn.ct σ' H'
  | .rt d => ∀ v H', Ret c fr H' d v → Dn.rt v H'
  | .exc k ρ' => ∀ σ' H', ER c H' σ' ρ' → Stb σ ρ H σ' ρ' H' → XW c W k σ' H'
  | .bad => False
theorem oA.later {c : Cn} {W : WX} {fr : Bool} {σ σ1 : Sg} {ρ ρ1 : En} {H H1 : Hp} {Dn : Ends} (s : Stb σ ρ H σ1 ρ1 H1) : ∀ {o : O}, oA c W fr σ ρ H Dn o → oA c W fr σ1 ρ1 H1 Dn o
  | .nx _, q => fun σ' H' e s' => q σ' H' e (s.trans s')
  | .bk _, q => fun σ' H' e s' => q σ' H' e (s.trans s')
  | .ct _, q => fun σ' H' e s' => q σ' H' e (s.trans s')
  | .rt _, q => q
  | .exc _ _, q => fun σ' H' e s' => q σ' H' e (s.trans s')
  | .bad, q => q
def tS1 (c : Cn) (W : WX) (fr : Bool) (s : St) : TS := fun Dn σ H => ∃ ρ, ER c H σ ρ ∧ oA c W fr σ ρ H Dn (exe ρ s)
def tSs (c : Cn) (W : WX) (fr : Bool) (ss : List St) : TS := fun Dn σ H => ∃ ρ, ER c H σ ρ ∧ oA c W fr σ ρ H Dn (exs ρ ss)
/-- an expression first -/
theorem of_ok {c : Cn} {W : WX} {fr : Bool} {σ : Sg} {ρ : En} {H : Hp} {Dn : Ends} {x : Ex} {f : D → O} {Q : VK} (er : ER c H σ ρ) (q : oA c W fr σ ρ H Dn (.of ρ (ev ρ x) f))
    (k : ∀ d v H', ev ρ x = .ok d → Po c σ ρ x H H' d v → ER c H' σ ρ → oA c W fr σ ρ H' Dn (f d) → Q v H') : tX c W x σ H Q := by
  refine ⟨ρ, er, ?_⟩
  cases e : ev ρ x with
  | ok d =>
    rw [e] at q
    exact fun v H' po => k d v H' e po (er.same po.same) (oA.later (.same po.same) q)
  | exc k => rw [e] at q; exact fun H' s => q σ H' (er.same s) (.same s)
  | bad => rw [e] at q; exact q.elim
end OL
namespace OL
open PySem PySem.Spec PyProof.Rows L2
def isBor : Ex → Bool
  | .bor _ => true
  | _ => false
def isLoc (sc : Scope) (x : Str) : Bool := match sc.names.lookup x with
  | some .local => true
  | _ => false
def locB (sc : Scope) (x : Str) : Bool := match sc.names.lookup x with
  | some .local => true
  | some .cell => true
  | _ => false
/-- a comprehension that is stored at a name: how -/
def lcSt (sc : Scope) (y : Str) (py : Pos) : Expr → Bool
  | .ListComp _ _ scope vp => match sc.names.lookup y with
    | some .local => (py.line == vp.line) && !(scope.names.any fun (n, k) => n == y && (k == .local || k == .cell))
    | some .cell => true
    | _ => false
  | e => noComp e
def noSet : Expr → Bool
  | .Set .. => false
  | _ => true
/-! shapes of statements -/
def asAsg : Stmt → Option (Str × Pos × Expr)
  | .Assign [.Name y py] v _ => some (y, py, v)
  | _ => none
theorem asAsg_eq {s : Stmt} {y : Str} {py : Pos} {v : Expr} (h : asAsg s = some (y, py, v)) : ∃ p, s = .Assign [.Name y py] v p := by
  unfold asAsg at h; split at h <;> cases h; exact ⟨_, rfl⟩
def asUnp : Stmt → Option (List Expr × Expr)
  | .Assign [.Tuple es _ _] v _ => some (es, v)
  | _ => none
theorem asUnp_eq {s : Stmt} {es : List Expr} {v : Expr} (h : asUnp s = some (es, v)) : ∃ k q p, s = .Assign [.Tuple es k q] v p := by
  unfold asUnp at h; split at h <;> cases h; exact ⟨_, _, _, rfl⟩
def asPar : Stmt → Option ((Str × Pos) × (Str × Pos) × Expr × Expr)
  | .Assign [.Tuple [.Name a pa, .Name b pb] _ _] (.Tuple [e, f] _ _) _ => some ((a, pa), (b, pb), e, f)
  | _ => none
theorem asPar_eq {s : Stmt} {a b : Str} {pa pb : Pos} {e f : Expr} (h : asPar s = some ((a, pa), (b, pb), e, f)) : ∃ k q k2 q2 p, s = .Assign [.Tuple [.Name a pa, .Name b pb] k q] (.Tuple [e, f] k2 q2) p := by
  unfold asPar at h; split at h <;> cases h; exact ⟨_, _, _, _, _, rfl⟩
def asAug : Stmt → Option (Str × Operator × Expr)
  | .AugAssign (.Name a _) o v _ => some (a, o, v)
  | _ => none
theorem asAug_eq {s : Stmt} {a : Str} {o : Operator} {v : Expr} (h : asAug s = some (a, o, v)) : ∃ q p, s = .AugAssign (.Name a q) o v p := by
  unfold asAug at h; split at h <;> cases h; exact ⟨_, _, rfl⟩
def asRet : Stmt → Option (Option Expr)
  | .Return v _ => some v
  | _ => none
theorem asRet_eq {s : Stmt} {v : Option Expr} (h : asRet s = some v) : ∃ p, s = .Return v p := by
  unfold asRet at h; split at h <;> cases h; exact ⟨_, rfl⟩
def asExp : Stmt → Option Expr
  | .Expr v _ => some v
  | _ => none
theorem asExp_eq {s : Stmt} {v : Expr} (h : asExp s = some v) : ∃ p, s = .Expr v p := by
  unfold asExp at h; split at h <;> cases h; exact ⟨_, rfl⟩
def asMeth : Stmt → Option (Str × Str × Pos × List Expr × Pos)
  | .Expr (.Call (.Attribute (.Name y _) a ap) es [] cp) _ => some (y, a, ap, es, cp)
  | _ => none
theorem asMeth_eq {s : Stmt} {y a : Str} {ap cp : Pos} {es : List Expr} (h : asMeth s = some (y, a, ap, es, cp)) : ∃ q p, s = .Expr (.Call (.Attribute (.Name y q) a ap) es [] cp) p := by
  unfold asMeth at h; split at h <;> cases h; exact ⟨_, _, rfl⟩
def asSti : Stmt → Option (Str × Expr × Expr)
  | .Assign [.Subscript (.Name y _) ix _] v _ => some (y, ix, v)
  | _ => none
theorem asSti_eq {s : Stmt} {y : Str} {ix v : Expr} (h : asSti s = some (y, ix, v)) : ∃ q q2 p, s = .Assign [.Subscript (.Name y q) ix q2] v p := by
  unfold asSti at h; split at h <;> cases h; exact ⟨_, _, _, rfl⟩
def asIf : Stmt → Option (Expr × List Stmt × List Stmt)
  | .If e p q _ => some (e, p, q)
  | _ => none
theorem asIf_eq {s : Stmt} {e : Expr} {p q : List Stmt} (h : asIf s = some (e, p, q)) : ∃ pos, s = .If e p q pos := by
  unfold asIf at h; split at h <;> cases h; exact ⟨_, rfl⟩
def asWhl : Stmt → Option (Expr × List Stmt)
  | .While e p [] _ => some (e, p)
  | _ => none
theorem asWhl_eq {s : Stmt} {e : Expr} {p : List Stmt} (h : asWhl s = some (e, p)) : ∃ pos, s = .While e p [] pos := by
  unfold asWhl at h; split at h <;> cases h; exact ⟨_, rfl⟩
def asFor : Stmt → Option (Expr × Expr × List Stmt)
  | .For t i p [] _ => some (t, i, p)
  | _ => none
theorem asFor_eq {s : Stmt} {t i : Expr} {p : List Stmt} (h : asFor s = some (t, i, p)) : ∃ pos, s = .For t i p [] pos := by
  unfold asFor at h; split at h <;> cases h; exact ⟨_, rfl⟩
def asRai : Stmt → Option Str
  | .Raise (some (.Call (.Name x _) [] [] _)) none _ => some x
  | _ => none
theorem asRai_eq {s : Stmt} {x : Str} (h : asRai s = some x) : ∃ p q r, s = .Raise (some (.Call (.Name x p) [] [] q)) none r := by
  unfold asRai at h; split at h <;> cases h; exact ⟨_, _, _, rfl⟩
def asTry : Stmt → Option (List Stmt × Str × List Stmt)
  | .Try p [.ExceptHandler (some (.Name x _)) none q _] [] [] _ => some (p, x, q)
  | _ => none
theorem asTry_eq {s : Stmt} {p q : List Stmt} {x : Str} (h : asTry s = some (p, x, q)) : ∃ a b c, s = .Try p [.ExceptHandler (some (.Name x a)) none q b] [] [] c := by
  unfold asTry at h; split at h <;> cases h; exact ⟨_, _, _, rfl⟩
def asTryAs : Stmt → Option (List Stmt × Str × Str × List Stmt)
  | .Try p [.ExceptHandler (some (.Name x _)) (some n) q _] [] [] _ => some (p, x, n, q)
  | _ => none
theorem asTryAs_eq {s : Stmt} {p q : List Stmt} {x n : Str} (h : asTryAs s = some (p, x, n, q)) : ∃ a b c, s = .Try p [.ExceptHandler (some (.Name x a)) (some n) q b] [] [] c := by
  unfold asTryAs at h; split at h <;> cases h; exact ⟨_, _, _, rfl⟩
def asPar3 : Stmt → Option ((Str × Pos) × (Str × Pos) × (Str × Pos) × Expr × Expr × Expr)
  | .Assign [.Tuple [.Name a pa, .Name b pb, .Name c pc] _ _] (.Tuple [e, f, g] _ _) _ => some ((a, pa), (b, pb), (c, pc), e, f, g)
  | _ => none
theorem asPar3_eq {s : Stmt} {a b c : Str} {pa pb pc : Pos} {e f g : Expr} (h : asPar3 s = some ((a, pa), (b, pb), (c, pc), e, f, g)) : ∃ k q k2 q2 p, s = .Assign [.Tuple [.Name a pa, .Name b pb, .Name c pc] k q] (.Tuple [e, f, g] k2 q2) p := by
  unfold asPar3 at h; split at h <;> cases h; exact ⟨_, _, _, _, _, rfl⟩
def asBrk : Stmt → Bool
  | .Break _ => true
  | _ => false
def asCnt : Stmt → Bool
  | .Continue _ => true
  | _ => false
def asPas : Stmt → Bool
  | .Pass _ => true
  | _ => false
/-- statements of an except suite -/
def ckH (N : List Str) (sc : Scope) (fr : Bool) : List St → List Stmt → Bool
  | [], es => es.isEmpty
  | .ret x :: ss, e :: es => (match asRet e with
    | some (some v) => ck N x sc v && hotOk x && (!fr || isBor x || frx x)
    | _ => false) && ckH N sc fr ss es
  | .retN :: ss, e :: es => (match asRet e with
    | some none => true
    | _ => false) && ckH N sc fr ss es
  | .pas :: ss, e :: es => asPas e && ckH N sc fr ss es
  | .asg i own x :: ss, e :: es => (match asAsg e with
    | some (y, py, v) => !own && decide (N[i]? = some y) && locB sc y && ck N x sc v && nb x && hotOk x && noComp v
    | none => false) && ckH N sc fr ss es
  | _, _ => false
mutual
def ckS (N : List Str) (sc : Scope) (fr : Bool) : St → Stmt → Bool
  | .asg i own x, s => match asAsg s with
    | some (y, py, v) => decide (N[i]? = some y) && locB sc y && ck N x sc v && nb x && (!own || frx x) && lcSt sc y py v
    | none => false
  | .unp ts x, s => match asUnp s with
    | some (es, v) => ckGs N true sc ts es && ck N x sc v && nb x && noSwap v
    | none => false
  | .par i j x y, s => match asPar s with
    | some ((a, pa), (b, pb), e, f) => decide (N[i]? = some a) && decide (N[j]? = some b) && decide (i ≠ j) && isLoc sc a && isLoc sc b && (pb.line == pa.line) && !(a == b) && noStar e && noStar f &&
      !([e, f].all (foldedForSure 8)) && !([e, f].all (constantsAlone 8)) && ck N x sc e && ck N y sc f && nb x && nb y
    | none => false
  | .aug i op x, s => match asAug s with
    | some (a, o, v) => (match op with | .add => decide (o = .Add) | .sub => decide (o = .Sub) | _ => false) && decide (N[i]? = some a) && locB sc a && ck N x sc v
    | none => false
  | .ret x, s => match asRet s with
    | some (some v) => ck N x sc v && (!fr || isBor x || frx x)
    | _ => false
  | .retN, s => match asRet s with
    | some none => true
    | _ => false
  | .exp x, s => match asExp s with
    | some v => ck N x sc v && noComp v
    | none => false
  | .app i x, s => match asMeth s with
    | some (y, a, ap, [v], cp) => decide (N[i]? = some y) && visB sc y && dbg y && a == ("append" : Str) && (ap.endLine == cp.line) && noStar v && ck N x sc v && nb x
    | _ => false
  | .rev i, s => match asMeth s with
    | some (y, a, ap, [], cp) => decide (N[i]? = some y) && visB sc y && dbg y && a == ("reverse" : Str) && (ap.endLine == cp.line)
    | _ => false
  | .clr i, s => match asMeth s with
    | some (y, a, ap, [], cp) => decide (N[i]? = some y) && visB sc y && dbg y && a == ("clear" : Str) && (ap.endLine == cp.line)
    | _ => false
  | .sti i k x, s => match asSti s with
    | some (y, ix, v) => decide (N[i]? = some y) && visB sc y && dbg y && ck N k sc ix && ck N x sc v && nb x && noComp v && noSlice ix
    | none => false
  | .ife t a b, s => match asIf s with
    | some (e, p, q) => ck N t sc e && ckSs N sc fr a p && ckSs N sc fr b q
    | none => false
  | .whl t b, s => match asWhl s with
    | some (e, p) => ck N t sc e && ckSs N sc fr b p
    | none => false
  | .for tg it b, s => match asFor s with
    | some (t, i, p) => ckG N true sc tg t && ckI N it sc i (isTup t) && noSet i && ckSs N sc fr b p
    | none => false
  | .rai c, s => match asRai s with
    | some x => x == Str.ofString c && glB sc x && dbg x && isExc c
    | none => false
  | .tri b c h, s => match asTry s with
    | some (p, x, q) => x == Str.ofString c && glB sc x && dbg x && isExc c && ckSs N sc fr b p && ckH N sc fr h q && !q.isEmpty
    | none => false
  | .tas b c i h, s => match asTryAs s with
    | some (p, x, n, q) => x == Str.ofString c && glB sc x && dbg x && isExc c && decide (N[i]? = some n) && isLoc sc n && ckSs N sc fr b p && ckH N sc fr h q && !q.isEmpty
    | none => false
  | .par3 i j l x y z, s => match asPar3 s with
    | some ((a, pa), (b, pb), (c, pc), e, f, g) => decide (N[i]? = some a) && decide (N[j]? = some b) && decide (N[l]? = some c) && decide (i ≠ j) && decide (i ≠ l) && decide (j ≠ l) && isLoc sc a && isLoc sc b && isLoc sc c && (pb.line == pa.line) && (pc.line == pa.line) && !(a == b) && !(a == c) && !(b == c) && noStar e && noStar f && noStar g &&
      !([e, f, g].all (foldedForSure 8)) && !([e, f, g].all (constantsAlone 8)) && ck N x sc e && ck N y sc f && ck N z sc g && nb x && nb y && nb z
    | none => false
  | .brk, s => asBrk s
  | .cnt, s => asCnt s
  | .pas, s => asPas s
  | _, _ => false
def ckSs (N : List Str) (sc : Scope) (fr : Bool) : List St → List Stmt → Bool
  | [], es => es.isEmpty
  | s :: ss, es => match s with
    | .frz _ => ckSs N sc fr ss es
    | s => match es with
      | e :: es => ckS N sc fr s e && ckSs N sc fr ss es
      | [] => false
end
mutual
def calS (tb : Fn → Prop) (tg : String → D → Prop) (tx : String → Prop) : St → Prop
  | .asg _ _ x => cal tb tg x
  | .unp _ x => cal tb tg x
  | .par _ _ x y => cal tb tg x ∧ cal tb tg y
  | .aug _ _ x => cal tb tg x
  | .ret x => cal tb tg x
  | .exp x => cal tb tg x
  | .app _ x => cal tb tg x
  | .ins _ k x => cal tb tg k ∧ cal tb tg x
  | .popE _ k => cal tb tg k
  | .sti _ k x => cal tb tg k ∧ cal tb tg x
  | .ife t a b => cal tb tg t ∧ calSs tb tg tx a ∧ calSs tb tg tx b
  | .whl t b => cal tb tg t ∧ calSs tb tg tx b
  | .for _ it b => cal tb tg it ∧ calSs tb tg tx b
  | .rai c => tx c
  | .tri b c h => tx c ∧ calSs tb tg tx b ∧ calSs tb tg tx h
  | .tas b c _ h => tx c ∧ calSs tb tg tx b ∧ calSs tb tg tx h
  | .par3 _ _ _ x y z => cal tb tg x ∧ cal tb tg y ∧ cal tb tg z
  | _ => True
def calSs (tb : Fn → Prop) (tg : String → D → Prop) (tx : String → Prop) : List St → Prop
  | [] => True
  | s :: ss => calS tb tg tx s ∧ calSs tb tg tx ss
end
end OL
/-! What a statement of the program does, it does by the small language's words. -/
namespace OL
open PySem PySem.Spec PyProof.Rows L2
def veMro : List Value := [.type "ValueError", .type "Exception", .type "BaseException", .type "object"]
structure ExcOk (X : Cx) (C : Addr) : Prop where
  xin : PySem.W.excIn X.K C veMro "ValueError.__new__" = true
  kin : PySem.W.keepIn X.K (.ref C) = true
  sub : PySem.W.subIn X.K (.ref C) (.type "BaseException") = some true
  ty : PySem.W.typeIn X.K (.ref C) = some (.type "type")
structure GoodS (tb : Fn → Prop) (tg : String → D → Prop) (tx : String → Prop) (X : Cx) (W : WX) : Prop where
  g : Good tb tg X false
  tk : Takes X W
  ps : PassesOwn (model X.prog X.w) X.A X.env X.xe
  st : X.stack = X.env :: X.outer
  fr : X.env.frame = some X.env.locals
  fn : ∀ x, X.fn x = true
  kd : X.env.scope.kind = .function
  exc : ∀ k, tx k → ∃ C, X.mg (Str.ofString k) = some (.ref C) ∧ ExcOk X C
  exm : ∀ k k' C C', isExc k = true → isExc k' = true → X.mg (Str.ofString k) = some (.ref C) → X.mg (Str.ofString k') = some (.ref C') → PySem.W.exmOne X.K (.ref C) (.ref C') = some (subX k k')
/-- as of_ok, what is wanted told of the heap ahead of the expression -/
theorem of_ok0 {c : Cn} {W : WX} {fr : Bool} {σ : Sg} {ρ : En} {H : Hp} {Dn : Ends} {x : Ex} {f : D → O} {Q : VK} (er : ER c H σ ρ) (q : oA c W fr σ ρ H Dn (.of ρ (ev ρ x) f))
    (k : ∀ d v H', ev ρ x = .ok d → Po c σ ρ x H H' d v → ER c H' σ ρ → oA c W fr σ ρ H Dn (f d) → Q v H') : tX c W x σ H Q := by
  refine ⟨ρ, er, ?_⟩
  cases e : ev ρ x with
  | ok d =>
    rw [e] at q
    exact fun v H' po => k d v H' e po (er.same po.same) q
  | exc k => rw [e] at q; exact fun H' s => q σ H' (er.same s) (.same s)
  | bad => rw [e] at q; exact q.elim
theorem loc_of {sc : Scope} {x : Str} (h : locB sc x = true) : Loc sc x := by
  unfold locB at h
  split at h
  · exact .inl (by assumption)
  · exact .inr (by assumption)
  · cases h
theorem isLoc_of {sc : Scope} {x : Str} (h : isLoc sc x = true) : sc.names.lookup x = some .local := by
  unfold isLoc at h
  split at h
  · assumption
  · cases h
section
variable {X : Cx} {H0 : Hp} {Gp : Addr → Prop} {W : WX} {tb : Fn → Prop} {tg : String → D → Prop} {tx : String → Prop} {hot : Bool} {fr : Bool}
theorem GoodS.tr {W' : WX} {pn : List (Addr × Obj)} {xe : Value → Shared → Prop} (G : GoodS tb tg tx X W) (tk : Takes (X.tr pn xe) W') (hp : PassesOwn (model X.prog X.w) X.A X.env xe) : GoodS tb tg tx (X.tr pn xe) W' :=
  ⟨⟨G.g.nd, G.g.un, G.g.calm, fun h f hf => let c := G.g.calls h f hf; ⟨c.ex, c.dfl⟩, G.g.blt, G.g.oth, G.g.xk, G.g.gle, G.g.glb⟩, tk, hp, G.st, G.fr, G.fn, G.kd, fun k hk => let ⟨C, m, e⟩ := G.exc k hk; ⟨C, m, ⟨e.xin, e.kin, e.sub, e.ty⟩⟩, G.exm⟩
theorem Good.suite (G : Good tb tg X false) (a : Addr) (pn : List (Addr × Obj)) : Good tb tg (X.suite a pn) true :=
  ⟨G.nd, G.un, fun h => by (cases h), fun h => by (cases h), G.blt, G.oth, G.xk, G.gle, G.glb⟩
/-- a value that is handed back -/
theorem ret_of {c : Cn} {σ : Sg} {ρ : En} {x : Ex} {H H' : Hp} {d : D} {v : V} (er : ER c H σ ρ) (po : Po c σ ρ x H H' d v) (hb : isBor x = false) (hx : (!fr || isBor x || frx x) = true) : Ret c fr H' d v := by
  have er' := er.same po.same
  have hn : nb x = true := by cases x <;> first | rfl | cases hb
  refine ⟨er'.sm, (po.rp hn).weak fun _ _ _ z => z.1, fun hf es e => ?_⟩
  have f : frx x = true := by
    rw [hf, hb] at hx
    simpa using hx
  obtain ⟨a, xs, e1, e2, e3, r⟩ := po.fr f es e
  exact ⟨a, xs, e1, er.sm.free e2, e3, r.weak fun _ _ _ z => ⟨z.1.1, z.2⟩⟩
theorem ret_bor {c : Cn} {σ : Sg} {ρ : En} {H : Hp} {i : Nat} {ds : List D} (er : ER c H σ ρ) (e : ρ[i]? = some (.o ds)) : ∃ v, σ[i]? = some (some v) ∧ Ret c fr H (.lst ds) v := by
  obtain ⟨a, xs, e1, e2, e3, r⟩ := er.lst i ds e
  have ow : ∀ b, Zf c σ ρ b → c.Gp b ∧ b ≠ a := fun b z => ⟨z.1, fun w => by subst w; exact z.2 ⟨i, ds, e, e1⟩⟩
  refine ⟨_, e1, er.sm, .lst e2 e3.2 (r.weak fun b _ _ z => (ow b z).1), fun _ es z => ?_⟩
  cases z
  exact ⟨a, xs, rfl, e3.1, e2, r.weak fun b _ _ z => ow b z⟩
theorem ps_of_ret (G : Good tb tg X hot) (tk : Takes X W) {x : Ex} {v : Expr} {p : Pos} (hh : hot = true → hotOk x = true) (hc : cal tb tg x) (h : ck X.N x X.env.scope v = true) (hx : (!fr || isBor x || frx x) = true) : PS X (.Return (some v) p) (tS1 (cn X H0 Gp) W fr (.ret x)) := by
  by_cases hb : isBor x = true
  · cases x <;> (try (cases hb; done))
    rename_i i
    obtain ⟨n, q, rfl, h1, h2, h3⟩ := ck_bor h
    obtain ⟨d1, d2, _⟩ := dbg_of h3
    refine ps_imp (ps_ret (pe_var h1 (vis_of h2) d1 d2)) fun Dn σ H q => ?_
    obtain ⟨ρ, er, q⟩ := q
    unfold exe ev getb at q
    split at q
    · rename_i ds hd
      obtain ⟨v, e1, r⟩ := ret_bor (fr := fr) er hd
      exact ⟨v, e1, q v H r⟩
    · exact q.elim
  · refine ps_imp (ps_ret ((snd x).1.pe (H0 := H0) (Gp := Gp) G tk hh hc h)) fun Dn σ H q => ?_
    obtain ⟨ρ, er, q⟩ := q
    unfold exe at q
    exact of_ok er q fun d v H' e po er' q' => q' v H' (ret_of er po (by simpa using hb) hx)
theorem ps_of_asg0 (G : Good tb tg X hot) (tk : Takes X W) (hf : ∀ x, X.fn x = true) {i : Nat} {x : Ex} {v : Expr} {n : Str} {py p : Pos} (hh : hot = true → hotOk x = true) (hc : cal tb tg x) (hi : X.N[i]? = some n) (hl : locB X.env.scope n = true) (h : ck X.N x X.env.scope v = true) (hn : nb x = true)
    (hs : swapsWith v (some (.Name n py)) p.line X.env = pure false) : PS X (.Assign [.Name n py] v p) (tS1 (cn X H0 Gp) W fr (.asg i false x)) := by
  refine ps_imp (ps_set G.nd hi (loc_of hl) ((snd x).1.pe (H0 := H0) (Gp := Gp) G tk hh hc h) hs (.inl (hf n))) fun Dn σ H q => ?_
  obtain ⟨ρ, er, q⟩ := q
  unfold exe at q
  refine of_ok er q fun d v H' e po er' q' => ?_
  have q2 : oA (cn X H0 Gp) W fr σ ρ H' Dn (setS ρ i (.v d)) := q'
  unfold setS at q2
  split at q2
  · rename_i hlt
    exact q2 _ _ (er'.set (po.rp hn) hlt) fun a o e n => ⟨e, fun w => n (own_set w)⟩
  · exact q2.elim
theorem asg_read {c : Cn} {i : Nat} {own : Bool} {x : Ex} (hn : nb x = true) (hfr : own = true → frx x = true) {Dn : Ends} {σ : Sg} {H : Hp} (q : tS1 c W fr (.asg i own x) Dn σ H) : tX c W x σ H fun v H' => gName i v σ H' Dn.nx := by
  obtain ⟨ρ, er, q⟩ := q
  unfold exe at q
  refine of_ok0 er q fun d v H' e po er' q' => ?_
  cases own with
  | false =>
    have q2 : oA c W fr σ ρ H Dn (setS ρ i (.v d)) := q'
    unfold setS at q2
    split at q2
    · rename_i hlt
      exact q2 _ _ (er'.set (po.rp hn) hlt) fun a o e n => ⟨po.same _ _ e, fun w => n (own_set w)⟩
    · exact q2.elim
  | true =>
    cases d with
    | lst ds =>
      have q2 : oA c W fr σ ρ H Dn (setS ρ i (.o ds)) := q'
      unfold setS at q2
      split at q2
      · rename_i hlt
        obtain ⟨a, xs, rfl, f1, f2, r⟩ := po.fr (hfr rfl) _ rfl
        refine q2 _ _ (er.setO po.same f1 f2 r hlt) fun b o e n => ⟨po.same _ _ e, fun w => ?_⟩
        rcases own_setO w with z | z
        · subst z; rw [f1] at e; cases e
        · exact n z
      · exact q2.elim
    | _ => exact False.elim q'
end
end OL
namespace OL
open PySem PySem.Spec PyProof.Rows L2
mutual
theorem setT_exc : ∀ {t : Tg} {d : D} {ρ : En} {k : String}, setT t d ρ ≠ .exc k
  | .nm i, d, ρ, k, h => by
    unfold setT at h
    split at h <;> cases h
  | .tp ts, d, ρ, k, h => by
    cases d <;> (unfold setT at h) <;> first | (cases h; done) | exact setTs_exc h
theorem setTs_exc : ∀ {ts : List Tg} {ds : List D} {ρ : En} {k : String}, setTs ts ds ρ ≠ .exc k
  | [], ds, ρ, k, h => by cases ds <;> (unfold setTs at h; cases h)
  | t :: ts, [], ρ, k, h => by unfold setTs at h; cases h
  | t :: ts, d :: ds, ρ, k, h => by
    unfold setTs at h
    cases e : setT t d ρ with
    | ok ρ' => rw [e] at h; exact setTs_exc h
    | exc k' => exact setT_exc e
    | bad => rw [e] at h; cases h
end
theorem whileO_run {t : En → R Bool} {b : En → O} {ρ : En} (h : whileO t b ρ ≠ .bad) : ∃ n, wrun t b n ρ = some (whileO t b ρ) := by
  unfold whileO at h ⊢
  split
  · rename_i hx
    exact ⟨_, (Classical.choose_spec hx).choose_spec⟩
  · rename_i hx
    rw [dif_neg hx] at h
    exact absurd rfl h
section
variable {X : Cx} {H0 : Hp} {Gp : Addr → Prop} {W : WX} {tb : Fn → Prop} {tg : String → D → Prop} {tx : String → Prop} {fr : Bool}
theorem ps_of_asg (G : GoodS tb tg tx X W) {i : Nat} {own : Bool} {x : Ex} {s : Stmt} (hc : cal tb tg x) (h : ckS X.N X.env.scope fr (.asg i own x) s = true) : PS X s (tS1 (cn X H0 Gp) W fr (.asg i own x)) := by
  unfold ckS at h
  split at h <;> (try (cases h; done))
  rename_i y py v he
  obtain ⟨p, rfl⟩ := asAsg_eq he
  simp only [Bool.and_eq_true, decide_eq_true_eq, Bool.or_eq_true, Bool.not_eq_true'] at h
  obtain ⟨⟨⟨⟨⟨h1, h2⟩, h3⟩, h4⟩, h5⟩, h6⟩ := h
  have hfr : own = true → frx x = true := fun z => h5.resolve_left (by rw [z]; decide)
  have px := (snd x).1.pe (H0 := H0) (Gp := Gp) G.g G.tk (fun z => by cases z) hc h3
  have main : PS X (.Assign [.Name y py] v p) (tAsg (tX (cn X H0 Gp) W x) (gName i)) := by
    by_cases hn : noComp v = true
    · exact ps_set G.g.nd h1 (loc_of h2) px (sw_none hn _ _ _) (.inl (G.fn y))
    · cases v <;> (try (exact absurd rfl hn)) <;> (try (unfold lcSt noComp at h6; cases h6; done))
      rename_i a gs scope vp
      replace h6 : (match X.env.scope.names.lookup y with
        | some .local => (py.line == vp.line) && !(scope.names.any fun (n, k) => n == y && (k == .local || k == .cell))
        | some .cell => true
        | _ => false) = true := h6
      split at h6
      · rename_i hloc
        rw [Bool.and_eq_true, Bool.not_eq_true'] at h6
        cases x with
        | mth m x xs =>
          cases m
          obtain ⟨_, o, ap, p3, e, _⟩ := ck_bitlen h3
          cases e
        | lc elt tgt it cond =>
          obtain ⟨a', t, ii, ifs, scope', p', e, k1, k2, k3, k4, k5, k6, k7, k8⟩ := ck_lc h3
          cases e
          unfold cal at hc
          obtain ⟨pi, bk, pg, pt, pl, fs, imp⟩ := lc_all (H0 := H0) (Gp := Gp) (p := p) (snd elt).1 (snd it).2 (snd cond).1 G.g G.tk hc k1 k2 k3 k4 k5 k6 k7 k8
          exact ps_imp (ps_setLc (G.g.calm rfl) G.g.nd h1 hloc (sw_true G.kd hloc h6.1 h6.2) pi bk pg pt pl fs) fun Dn σ H q => imp σ H _ q
        | _ => unfold ck at h3; cases h3
      · rename_i hcell
        exact ps_set G.g.nd h1 (loc_of h2) px (sw_cell hcell) (.inl (G.fn y))
      · cases h6
  exact ps_imp main fun Dn σ H q => asg_read h4 hfr q
theorem ps_of_unp (G : GoodS tb tg tx X W) {ts : List Tg} {x : Ex} {s : Stmt} (hc : cal tb tg x) (h : ckS X.N X.env.scope fr (.unp ts x) s = true) : PS X s (tS1 (cn X H0 Gp) W fr (.unp ts x)) := by
  unfold ckS at h
  split at h <;> (try (cases h; done))
  rename_i es v he
  obtain ⟨k, q0, p, rfl⟩ := asUnp_eq he
  simp only [Bool.and_eq_true] at h
  obtain ⟨⟨⟨h1, h2⟩, h3⟩, h4⟩ := h
  have px := (snd x).1.pe (H0 := H0) (Gp := Gp) G.g G.tk (fun z => by cases z) hc h2
  have pg := pg_of (t := .tp ts) (e := .Tuple es k q0) G.g.nd (G.g.calm rfl) (cel := true) (fun _ => G.fn) (by unfold ckG; exact h1)
  refine ps_imp (ps_asg px pg (sw_tupT _ _) (sw_some h4)) fun Dn σ H q => ?_
  obtain ⟨ρ, er, q⟩ := q
  unfold exe at q
  refine of_ok er q fun d v H' e po er' q' => ?_
  cases e2 : setT (.tp ts) d ρ with
  | ok ρ' =>
    rw [e2] at q'
    exact gOf_ok (c := cn X H0 Gp) er' (po.rp h3) e2 fun σ' er2 ow sl ln => q' σ' H' er2 fun a o e n => ⟨e, fun w => n (ow a w)⟩
  | exc k => exact absurd e2 setT_exc
  | bad => rw [e2] at q'; exact q'.elim
theorem ps_of_par (G : GoodS tb tg tx X W) {i j : Nat} {x y : Ex} {s : Stmt} (hc : cal tb tg x ∧ cal tb tg y) (h : ckS X.N X.env.scope fr (.par i j x y) s = true) : PS X s (tS1 (cn X H0 Gp) W fr (.par i j x y)) := by
  unfold ckS at h
  split at h <;> (try (cases h; done))
  rename_i a pa b pb e f he
  obtain ⟨k, q0, k2, q2, p, rfl⟩ := asPar_eq he
  simp only [Bool.and_eq_true, decide_eq_true_eq, Bool.not_eq_true'] at h
  obtain ⟨⟨⟨⟨⟨⟨⟨⟨⟨⟨⟨⟨⟨⟨h1, h2⟩, h3⟩, h4⟩, h5⟩, h6⟩, h7⟩, h8⟩, h9⟩, h10⟩, h11⟩, h12⟩, h13⟩, h14⟩, h15⟩ := h
  have px := (snd x).1.pe (H0 := H0) (Gp := Gp) G.g G.tk (fun z => by cases z) hc.1 h12
  have py := (snd y).1.pe (H0 := H0) (Gp := Gp) G.g G.tk (fun z => by cases z) hc.2 h13
  refine ps_imp (ps_par (G.g.calm rfl) G.g.nd h1 h2 h3 (isLoc_of h4) (isLoc_of h5) (pa_cons px (pa_cons py pa_nil (star_of h9 [] X.env)) (star_of h8 _ X.env)) (sw_par G.kd (isLoc_of h4) (isLoc_of h5) h6 h7 h8 h9 h10 h11) (sw_tupT _ _)) fun Dn σ H q => ?_
  obtain ⟨ρ, er, q⟩ := q
  unfold exe at q
  refine of_ok er q fun d v H1 e po er1 q1 => ?_
  refine of_ok er1 q1 fun d2 v2 H2 e2 po2 er2 q2 => ?_
  have q3 : oA (cn X H0 Gp) W fr σ ρ H2 Dn (if i < ρ.length ∧ j < ρ.length then .nx ((ρ.set i (.v d)).set j (.v d2)) else .bad) := q2
  split at q3
  · rename_i hlt
    have s1 := er2.set (i := i) ((po.rp h14).same po2.same) hlt.1
    have wk : ∀ a, Zf (cn X H0 Gp) σ ρ a → Zf (cn X H0 Gp) (σ.set i (some v)) (ρ.set i (.v d)) a := fun a z => ⟨z.1, fun w => z.2 (own_set w)⟩
    have s2 := s1.set (i := j) ((po2.rp h15).weak fun a _ _ z => wk a z) (by rw [List.length_set]; exact hlt.2)
    exact ⟨v, v2, rfl, q3 _ _ s2 fun a o e n => ⟨e, fun w => n (own_set (own_set w))⟩⟩
  · exact q3.elim
theorem ps_of_aug (G : GoodS tb tg tx X W) {i : Nat} {op : Op} {x : Ex} {s : Stmt} (hc : cal tb tg x) (h : ckS X.N X.env.scope fr (.aug i op x) s = true) : PS X s (tS1 (cn X H0 Gp) W fr (.aug i op x)) := by
  unfold ckS at h
  split at h <;> (try (cases h; done))
  rename_i a o v he
  obtain ⟨q0, p, rfl⟩ := asAug_eq he
  simp only [Bool.and_eq_true, decide_eq_true_eq] at h
  obtain ⟨⟨⟨h1, h2⟩, h3⟩, h4⟩ := h
  have px := (snd x).1.pe (H0 := H0) (Gp := Gp) G.g G.tk (fun z => by cases z) hc h4
  cases op <;> (try (cases h1; done))
  · have := of_decide_eq_true h1
    subst this
    have read : ∀ Dn σ H, tS1 (cn X H0 Gp) W fr (.aug i .add x) Dn σ H → tAug i (tX (cn X H0 Gp) W x) (ipI fun i j => i + j) Dn σ H := by
      intro Dn σ H q
      obtain ⟨ρ, er, q⟩ := q
      unfold exe at q
      cases e1 : getv ρ i with
      | exc k => unfold getv at e1; split at e1 <;> cases e1
      | bad => rw [e1] at q; exact q.elim
      | ok a =>
        rw [e1] at q
        have e1' := e1
        unfold getv at e1'
        split at e1' <;> cases e1'
        rename_i hd
        obtain ⟨va, f1, ra⟩ := er.val i a hd
        refine ⟨va, f1, of_ok er (f := fun b => .of ρ (augD .add a b) fun d => setS ρ i (.v d)) q fun b vb H' e po er' q' => ?_⟩
        cases a <;> (try (exact False.elim q')) <;> cases b <;> (try (exact False.elim q'))
        rename_i m n
        cases ra
        cases po.rb.int
        have q3 : oA (cn X H0 Gp) W fr σ ρ H' Dn (setS ρ i (.v (.int (m + n)))) := q'
        unfold setS at q3
        split at q3
        · rename_i hlt
          exact ⟨m, n, rfl, rfl, q3 _ _ (er'.set (.int _) hlt) fun a o e n => ⟨e, fun w => n (own_set w)⟩⟩
        · exact q3.elim
    exact ps_imp (ps_aug G.g.nd h2 (loc_of h3) px ip_add (.inl (G.fn a))) read
  · have := of_decide_eq_true h1
    subst this
    have read : ∀ Dn σ H, tS1 (cn X H0 Gp) W fr (.aug i .sub x) Dn σ H → tAug i (tX (cn X H0 Gp) W x) (ipI fun i j => i - j) Dn σ H := by
      intro Dn σ H q
      obtain ⟨ρ, er, q⟩ := q
      unfold exe at q
      cases e1 : getv ρ i with
      | exc k => unfold getv at e1; split at e1 <;> cases e1
      | bad => rw [e1] at q; exact q.elim
      | ok a =>
        rw [e1] at q
        have e1' := e1
        unfold getv at e1'
        split at e1' <;> cases e1'
        rename_i hd
        obtain ⟨va, f1, ra⟩ := er.val i a hd
        refine ⟨va, f1, of_ok er (f := fun b => .of ρ (augD .sub a b) fun d => setS ρ i (.v d)) q fun b vb H' e po er' q' => ?_⟩
        cases a <;> (try (exact False.elim q')) <;> cases b <;> (try (exact False.elim q'))
        rename_i m n
        cases ra
        cases po.rb.int
        have q3 : oA (cn X H0 Gp) W fr σ ρ H' Dn (setS ρ i (.v (.int (m - n)))) := q'
        unfold setS at q3
        split at q3
        · rename_i hlt
          exact ⟨m, n, rfl, rfl, q3 _ _ (er'.set (.int _) hlt) fun a o e n => ⟨e, fun w => n (own_set w)⟩⟩
        · exact q3.elim
    exact ps_imp (ps_aug G.g.nd h2 (loc_of h3) px ip_sub (.inl (G.fn a))) read
end
end OL
namespace OL
open PySem PySem.Spec PyProof.Rows L2
theorem own_upd_eq {σ : Sg} {ρ : En} {i : Nat} {ds es : List D} (q : ρ[i]? = some (.o ds)) (a : Addr) : own σ (ρ.set i (.o es)) a → own σ ρ a := fun ⟨j, fs, e1, e2⟩ => by
  rcases get_set_cases e1 with ⟨rfl, _, _⟩ | ⟨_, q1⟩
  · exact ⟨j, ds, q, e2⟩
  · exact ⟨j, fs, q1, e2⟩
theorem own_frz_eq {σ : Sg} {ρ : En} {i : Nat} {d : D} (a : Addr) : own σ (ρ.set i (.v d)) a → own σ ρ a := fun ⟨j, fs, e1, e2⟩ => by
  rcases get_set_cases e1 with ⟨_, z, _⟩ | ⟨_, q1⟩
  · cases z
  · exact ⟨j, fs, q1, e2⟩
/-- one's own list is changed: what stood else stands -/
theorem stb_upd {σ : Sg} {ρ : En} {H : Hp} {i : Nat} {ds es : List D} {p : Addr} {o : HO} (q : ρ[i]? = some (.o ds)) (e : σ[i]? = some (some (V.ref p))) : Stb σ ρ H σ (ρ.set i (.o es)) (upd H p o) := fun a u h n =>
  ⟨by rw [upd_ne (fun z => n (by subst z; exact ⟨i, ds, q, e⟩))]; exact h, fun w => n (own_upd_eq q a w)⟩
theorem ownL_some {ρ : En} {i : Nat} {f : List D → O} {c : Cn} {W : WX} {fr : Bool} {σ : Sg} {H : Hp} {Dn : Ends} (q : oA c W fr σ ρ H Dn (ownL ρ i f)) : ∃ ds, ρ[i]? = some (.o ds) ∧ oA c W fr σ ρ H Dn (f ds) := by
  unfold ownL at q
  split at q
  · exact ⟨_, by assumption, q⟩
  · exact q.elim
section
variable {X : Cx} {H0 : Hp} {Gp : Addr → Prop} {W : WX} {tb : Fn → Prop} {tg : String → D → Prop} {tx : String → Prop} {fr : Bool}
theorem ps_of_app (G : GoodS tb tg tx X W) {i : Nat} {x : Ex} {s : Stmt} (hc : cal tb tg x) (h : ckS X.N X.env.scope fr (.app i x) s = true) : PS X s (tS1 (cn X H0 Gp) W fr (.app i x)) := by
  unfold ckS at h
  split at h <;> (try (cases h; done))
  rename_i y a ap v cp he
  obtain ⟨q0, p, rfl⟩ := asMeth_eq he
  simp only [Bool.and_eq_true, decide_eq_true_eq, beq_iff_eq] at h
  obtain ⟨⟨⟨⟨⟨⟨⟨h1, h2⟩, h3⟩, rfl⟩, h5⟩, h6⟩, h7⟩, h8⟩ := h
  have px := (snd x).1.pe (H0 := H0) (Gp := Gp) G.g G.tk (fun z => by cases z) hc h7
  obtain ⟨d1, d2, _⟩ := dbg_of h3
  have hst : starEach [v] X.env = (false, eval v X.env) :: starEach [] X.env := star_of h6 [] X.env
  refine ps_imp (ps_expr (pe_bm PySem.F.plainAttrs_list PySem.F.slot_list_append PySem.F.type_list_append mt_append (pe_var h1 (vis_of h2) d1 d2) (pa_cons px pa_nil hst) rfl (by rw [hst]; rfl) (by rw [beq_iff_eq]; exact h5) hst rfl) rfl) fun Dn σ H q => ?_
  obtain ⟨ρ, er, q⟩ := q
  unfold exe at q
  obtain ⟨ds, hd, q⟩ := ownL_some q
  obtain ⟨p0, xs, f1, f2, f3, r⟩ := er.lst i ds hd
  refine ⟨_, f1, .inl ⟨rfl, _, SqL.of f2⟩, of_ok er q fun d v H' e po er' q' => ?_⟩
  have q2 : oA (cn X H0 Gp) W fr σ ρ H' Dn (if ds.length < 16777216 then .nx (ρ.set i (.o (ds ++ [d]))) else .bad) := q'
  split at q2
  · rename_i hl
    have r' := r.same po.same
    refine ⟨p0, xs, v, rfl, rfl, po.same _ _ f2, by rw [line_eq, ← r.length]; exact hl, q2 _ _ (er'.upd hd f1 (po.same _ _ f2) (r'.append (.cons (po.rp h8) .nil))) (stb_upd hd f1)⟩
  · exact q2.elim
theorem ps_of_rev (G : GoodS tb tg tx X W) {i : Nat} {s : Stmt} (h : ckS X.N X.env.scope fr (.rev i) s = true) : PS X s (tS1 (cn X H0 Gp) W fr (.rev i)) := by
  unfold ckS at h
  split at h <;> (try (cases h; done))
  rename_i y a ap cp he
  obtain ⟨q0, p, rfl⟩ := asMeth_eq he
  simp only [Bool.and_eq_true, decide_eq_true_eq, beq_iff_eq] at h
  obtain ⟨⟨⟨⟨h1, h2⟩, h3⟩, rfl⟩, h5⟩ := h
  obtain ⟨d1, d2, _⟩ := dbg_of h3
  refine ps_imp (ps_expr (pe_bm0 PySem.F.plainAttrs_list PySem.F.slot_list_reverse PySem.F.type_list_reverse mt_reverse (pe_var h1 (vis_of h2) d1 d2) rfl (by rw [beq_iff_eq]; exact h5)) rfl) fun Dn σ H q => ?_
  obtain ⟨ρ, er, q⟩ := q
  unfold exe at q
  obtain ⟨ds, hd, q⟩ := ownL_some q
  obtain ⟨p0, xs, f1, f2, f3, r⟩ := er.lst i ds hd
  exact ⟨_, f1, .inl ⟨rfl, _, SqL.of f2⟩, p0, xs, rfl, rfl, f2, q _ _ (er.upd hd f1 f2 r.reverse) (stb_upd hd f1)⟩
theorem ps_of_clr (G : GoodS tb tg tx X W) {i : Nat} {s : Stmt} (h : ckS X.N X.env.scope fr (.clr i) s = true) : PS X s (tS1 (cn X H0 Gp) W fr (.clr i)) := by
  unfold ckS at h
  split at h <;> (try (cases h; done))
  rename_i y a ap cp he
  obtain ⟨q0, p, rfl⟩ := asMeth_eq he
  simp only [Bool.and_eq_true, decide_eq_true_eq, beq_iff_eq] at h
  obtain ⟨⟨⟨⟨h1, h2⟩, h3⟩, rfl⟩, h5⟩ := h
  obtain ⟨d1, d2, _⟩ := dbg_of h3
  refine ps_imp (ps_expr (pe_bm0 PySem.F.plainAttrs_list PySem.F.slot_list_clear PySem.F.type_list_clear mt_clear (pe_var h1 (vis_of h2) d1 d2) rfl (by rw [beq_iff_eq]; exact h5)) rfl) fun Dn σ H q => ?_
  obtain ⟨ρ, er, q⟩ := q
  unfold exe at q
  obtain ⟨ds, hd, q⟩ := ownL_some q
  obtain ⟨p0, xs, f1, f2, f3, r⟩ := er.lst i ds hd
  exact ⟨_, f1, .inl ⟨rfl, _, SqL.of f2⟩, p0, xs, rfl, rfl, f2, q _ _ (er.upd hd f1 f2 .nil) (stb_upd hd f1)⟩
theorem ps_of_sti (G : GoodS tb tg tx X W) {i : Nat} {k x : Ex} {s : Stmt} (hc : cal tb tg k ∧ cal tb tg x) (h : ckS X.N X.env.scope fr (.sti i k x) s = true) : PS X s (tS1 (cn X H0 Gp) W fr (.sti i k x)) := by
  unfold ckS at h
  split at h <;> (try (cases h; done))
  rename_i y ix v he
  obtain ⟨q0, q1, p, rfl⟩ := asSti_eq he
  simp only [Bool.and_eq_true, decide_eq_true_eq] at h
  obtain ⟨⟨⟨⟨⟨⟨⟨h1, h2⟩, h3⟩, h4⟩, h5⟩, h6⟩, h7⟩, h8⟩ := h
  obtain ⟨d1, d2, _⟩ := dbg_of h3
  have px := (snd x).1.pe (H0 := H0) (Gp := Gp) G.g G.tk (fun z => by cases z) hc.2 h5
  have pk := (snd k).1.pe (H0 := H0) (Gp := Gp) G.g G.tk (fun z => by cases z) hc.1 h4
  refine ps_imp (ps_asg px (pg_sub (pe_var h1 (vis_of h2) d1 d2) pk set_list (by intro v; cases ix <;> first | rfl | cases h8)) (by cases v <;> first | rfl | cases h7) (by cases v <;> rfl)) fun Dn σ H q => ?_
  obtain ⟨ρ, er, q⟩ := q
  unfold exe at q
  refine of_ok er q fun d v H1 e po er1 q1 => ?_
  obtain ⟨ds, hd, q1⟩ := ownL_some q1
  obtain ⟨p0, xs, f1, f2, f3, r⟩ := er1.lst i ds hd
  refine ⟨_, f1, of_ok er1 q1 fun kd kv H2 e2 po2 er2 q2 => ?_⟩
  cases kd <;> (try (exact False.elim q2))
  rename_i k
  cases po2.rb.int
  have q3 : oA (cn X H0 Gp) W fr σ ρ H2 Dn (match ixN ds.length k with | some j => .nx (ρ.set i (.o (ds.set j d))) | none => .bad) := q2
  split at q3
  · rename_i j hj
    have r2 := (r.same po2.same).set ((po.rp h6).same po2.same) j
    exact ⟨p0, xs, k, j, rfl, rfl, po2.same _ _ f2, by rw [← r.length]; exact hj, q3 _ _ (er2.upd hd f1 (po2.same _ _ f2) r2) (stb_upd hd f1)⟩
  · exact q3.elim
theorem ps_of_rai (G : GoodS tb tg tx X W) {k : String} {s : Stmt} (hc : tx k) (h : ckS X.N X.env.scope fr (.rai k) s = true) : PS X s (tS1 (cn X H0 Gp) W fr (.rai k)) := by
  unfold ckS at h
  split at h <;> (try (cases h; done))
  rename_i y he
  obtain ⟨p, q0, r, rfl⟩ := asRai_eq he
  simp only [Bool.and_eq_true, beq_iff_eq] at h
  obtain ⟨⟨⟨rfl, h1⟩, h2⟩, h3⟩ := h
  obtain ⟨C, hm, xo⟩ := G.exc k hc
  refine ps_imp (ps_raise (G.g.calm rfl) G.tk (pmk_own0 PySem.F.excBase_ValueError xo.xin hm xo.kin (raises_own xo.sub xo.ty) (gl_of h1) (dbg_of h2).1)) fun Dn σ H q => ?_
  obtain ⟨ρ, er, q⟩ := q
  unfold exe at q
  exact q σ H er .refl C h3 hm
/-- an except suite -/
theorem pss_hot {a : Addr} {pn : List (Addr × Obj)} (G : GoodS tb tg tx X W) : ∀ {ss : List St} {es : List Stmt}, calSs tb tg tx ss → ckH X.N X.env.scope fr ss es = true → PSs (X.suite a pn) es (tSs (cn X H0 Gp) no fr ss)
  | [], es, _, h => by
    unfold ckH at h
    cases es with
    | cons _ _ => cases h
    | nil =>
      refine pss_imp pss_nil fun Dn σ H q => ?_
      obtain ⟨ρ, er, q⟩ := q
      unfold exs at q
      exact q σ H er .refl
  | s :: ss, [], _, h => by cases s <;> (unfold ckH at h; cases h)
  | s :: ss, e :: es, hc, h => by
    have G' := Good.suite G.g a pn
    have step : ∀ {t : TS}, PS (X.suite a pn) e t → (∀ Dn σ H, tS1 (cn X H0 Gp) no fr s Dn σ H → t Dn σ H) → ckH X.N X.env.scope fr ss es = true → PSs (X.suite a pn) (e :: es) (tSs (cn X H0 Gp) no fr (s :: ss)) := fun {t} p1 i1 h2 => by
      have hc2 : calSs tb tg tx ss := by unfold calSs at hc; exact hc.2
      refine pss_imp (pss_cons p1 (pss_hot G hc2 h2)) fun Dn σ H q => ?_
      obtain ⟨ρ, er, q⟩ := q
      unfold exs at q
      refine i1 _ σ H ⟨ρ, er, ?_⟩
      cases e1 : exe ρ s with
      | nx ρ' => rw [e1] at q; exact fun σ' H' er' st => ⟨ρ', er', q.later st⟩
      | rt d => rw [e1] at q; exact q
      | bk ρ' => rw [e1] at q; exact q
      | ct ρ' => rw [e1] at q; exact q
      | exc k ρ' => rw [e1] at q; exact q
      | bad => rw [e1] at q; exact q
    have hc1 : calS tb tg tx s := by unfold calSs at hc; exact hc.1
    cases s <;> (try (unfold ckH at h; cases h; done))
    · rename_i i own x
      unfold ckH at h
      rw [Bool.and_eq_true] at h
      obtain ⟨h, h2⟩ := h
      split at h <;> (try (cases h; done))
      rename_i y py v he
      obtain ⟨p, rfl⟩ := asAsg_eq he
      simp only [Bool.and_eq_true, decide_eq_true_eq, Bool.not_eq_true'] at h
      obtain ⟨⟨⟨⟨⟨⟨h0, h1⟩, h3⟩, h4⟩, h5⟩, h6⟩, h7⟩ := h
      subst h0
      unfold calS at hc1
      exact step (ps_of_asg0 (X := X.suite a pn) (H0 := H0) (Gp := Gp) (W := no) (fr := fr) G' takes0 G.fn (fun _ => h6) hc1 h1 h3 h4 h5 (sw_none h7 _ _ _)) (fun _ _ _ q => q) h2
    · rename_i x
      unfold ckH at h
      rw [Bool.and_eq_true] at h
      obtain ⟨h, h2⟩ := h
      split at h <;> (try (cases h; done))
      rename_i v he
      obtain ⟨p, rfl⟩ := asRet_eq he
      rw [Bool.and_eq_true, Bool.and_eq_true] at h
      obtain ⟨⟨h1, h3⟩, h4⟩ := h
      unfold calS at hc1
      exact step (ps_of_ret (X := X.suite a pn) (H0 := H0) (Gp := Gp) (W := no) G' takes0 (fun _ => h3) hc1 h1 h4) (fun _ _ _ q => q) h2
    · unfold ckH at h
      rw [Bool.and_eq_true] at h
      obtain ⟨h, h2⟩ := h
      split at h <;> (try (cases h; done))
      rename_i he
      obtain ⟨p, rfl⟩ := asRet_eq he
      refine step ps_retN (fun Dn σ H q => ?_) h2
      obtain ⟨ρ, er, q⟩ := q
      unfold exe at q
      exact q .non H ⟨er.sm, .non, fun _ es z => by cases z⟩
    · unfold ckH at h
      rw [Bool.and_eq_true] at h
      obtain ⟨h, h2⟩ := h
      cases e <;> (try (unfold asPas at h; cases h; done))
      refine step ps_pass (fun Dn σ H q => ?_) h2
      obtain ⟨ρ, er, q⟩ := q
      unfold exe at q
      exact q σ H er .refl
end
end OL
/-! A caught error that is kept behind its suite: it is tracked as a thing of ours. -/
namespace OL
open PySem PySem.Spec PyProof.Rows L2
/-- what the clause 'except x as n' wishes, where the error is kept -/
def wKp (K : PySem.W.Frag) (c : Value) (i : Nat) (ts : Addr → Value → TS) (Wout : WX) (D : Ends) : WX := fun cls d σ H => d = none ∧
  ∃ b, PySem.W.exmOne K cls c = some b ∧
    (b = true → ∀ a, H a = none → ts a cls ⟨fun σ1 H1 => D.nx (σ1.set i none) H1, D.rt, fun σ1 H1 => D.bk (σ1.set i none) H1, fun σ1 H1 => D.ct (σ1.set i none) H1⟩ (σ.set i (some (.ref a))) (L2.upd H a (KeO cls a))) ∧
    (b = false → Wout cls d σ H)
section
variable {X : Cx} {pins : List (Addr × Obj)} {σ : Sg} {H : Hp} {s : Shared}
theorem inv_into (I : Inv X pins σ H s) (a : Addr) : Inv (X.suite a (X.pn ++ pins)) [] σ H s :=
  { ok := I.ok.suite _ _, os := I.os, bare := I.bare, base := I.base, loc := I.loc, cell := I.cell, free := I.free, freeC := I.freeC
    pin := fun p hp => I.pin p (by simpa using hp)
    hok := I.hok, len := I.len }
theorem inv_out {a : Addr} {more : List (Addr × Obj)} (I : Inv (X.suite a (X.pn ++ pins)) more σ H s) (ok : X.Ok) : Inv X pins σ H s :=
  { ok := ok, os := I.os, bare := I.bare, base := I.base, loc := I.loc, cell := I.cell, free := I.free, freeC := I.freeC
    pin := fun p hp => I.pin p (List.mem_append_left _ hp)
    hok := I.hok, len := I.len }
end
section
variable {X : Cx} {x n : Str} {c : Value} {i : Nat} {body suite : List Stmt} {b₀ : Stmt} {np pos pos' : Pos} {tb : WX → TS} {ts : Addr → Value → TS} {Wout : WX}
theorem ps_try_keep (hs : X.stack = X.env :: X.outer) (hf : X.env.frame = some X.env.locals) (hN : X.N.Nodup) (hi : X.N[i]? = some n) (hl : X.env.kindOf n = some .local) (hc : Names X x c) (tk : Takes X Wout)
    (hb : ∀ (W : WX) (pn : List (Addr × Obj)) (xe : Value → Shared → Prop), Takes (X.tr pn xe) W → PassesOwn (model X.prog X.w) X.A X.env xe → PSs (X.tr pn xe) body (tb W))
    (hsu : ∀ (a : Addr) (cls : Value) (pn : List (Addr × Obj)), PSs (X.suite a pn) (b₀ :: suite) (ts a cls)) :
    PS X (.Try body [.ExceptHandler (some (.Name x np)) (some n) (b₀ :: suite) pos'] [] [] pos) (fun D σ H => tb (wKp X.K c i ts Wout D) D σ H) := by
  constructor
  intro pins s σ H D I want
  have ok := I.ok
  have frames : X.A.frames = some (X.env :: X.outer) := ok.frames.trans (by rw [hs])
  have thrown := hb (wKp X.K c i ts Wout D) (X.pn ++ pins)
    (fun e t1 => wpAny (model X.prog X.w) X.A (noteFrame e X.env)
      (fun _ t2 => wpAny (model X.prog X.w) X.A (setFlight e none)
        (fun _ t3 => wpAny (model X.prog X.w) X.A (handleBy e X.env [.ExceptHandler (some (.Name x np)) (some n) (b₀ :: suite) pos']) (SP X pins D) X.xe t3) X.xe t2) X.xe t1)
    ?caught PassesOwn.looking
  case caught =>
    intro u t hx
    obtain ⟨a, B, t0, ps0, σ0, H0, cls, d, rfl, I0, ground, up, sky, free, os, bare, rfl, b, hex, yes, no⟩ := hx
    have K0 : Inv X pins σ0 H0 t0 := I0.ofTry ok
    have sky0 : Sky B (X.env :: X.outer) a (Zc cls none) X.env.locals t.heap := hs ▸ sky
    show wpAny (model X.prog X.w) X.A (noteFrame (.ref a) X.env) _ _ _
    refine Sky.land Zc.steady frames hf sky0 fun h3 f3 u3 => ?_
    have K3 : Inv X pins σ0 H0 { t with heap := h3 } := K0.landed ground f3.1 (up.trans u3) os bare
    obtain ⟨o3, v3, get3, z3, dat3⟩ := f3.there
    have offStack : ∀ {h : Heap} {o : Obj} {vs : Array Value}, h.FunFrames B (X.env :: X.outer) → h.get? a = some o → o.data = .fields vs → a ∉ frs (X.env :: X.outer) := fun {h o vs} ff e1 e2 hm => by
      obtain ⟨_, o', e3, bad⟩ := ff.mem hm
      rw [e1] at e3
      cases e3
      exact bad _ e2
    have off := offStack f3.2.2.1 get3 dat3
    have offL : a ≠ X.env.locals := fun z => off (List.mem_filterMap.mpr ⟨X.env, List.mem_cons_self, by rw [hf, z]⟩)
    have offF : a ∉ X.fs := fun hm => by
      obtain ⟨en, m1, m2⟩ := List.mem_filterMap.mp hm
      exact off (List.mem_filterMap.mpr ⟨en, List.mem_cons_of_mem _ m1, m2⟩)
    have V3 := K3.suite get3 dat3 free offL offF
    refine wpAny_handleBy_cons (codeAny_handlers_test ?_) (by intro q; cases q)
    have looksT : PySem.W.Looks (model X.prog X.w) h3 (typeOf (.ref a)) cls := fun A Q E t' k q => wpAny_typeOf_ref (k _ _ get3) (by rw [z3.1]; exact q)
    have looksM := PySem.W.exm_one (M := model X.prog X.w) K3.kIn looksT hex
    have named : ∀ {Q : Value → Shared → Prop} {E : Value → Shared → Prop}, Q c { t with heap := h3 } →
        wpAny (model X.prog X.w) (X.A.mark (some (.ref a))) (eval (.Name x np) X.env) Q E { t with heap := h3 } := fun {Q E} q => by
      obtain ⟨g1, g2, g3 | ⟨g3, g4, g5⟩⟩ := hc
      · exact ld_glob (X := X.suite a ((a, o3) :: (X.pn ++ pins))) V3 g1 g3 q g2
      · exact ld_blt (X := X.suite a ((a, o3) :: (X.pn ++ pins))) V3 g1 g3 g4 q g5 g2
    refine named (looksM.here ?_)
    cases b with
    | false =>
      show wpAny _ X.A (handleBy (.ref a) X.env []) _ _ _
      refine wpAny_handleBy_nil ?_
      obtain ⟨_, _, _, ob, vs, T, oT, tt, e1, e2, e3, e4, e5⟩ := id f3
      unfold PySem.passOn
      refine wpAny_bind (wpAny_field e1 e3 e4 ?_)
      rw [if_neg (show ¬ ((Value.ref T == Value.none) = true) from by simp)]
      have pass : wpAny (model X.prog X.w) X.A (setFlight (.ref a) X.env.frame)
          (fun _ t4 => wpAny (model X.prog X.w) X.A (throw (.ref a) : Sem Flow) (SP X pins D) X.xe t4) X.xe { t with heap := h3 } := by
        rw [hf]
        refine HandSPX.setFlight_upZ f3 fun h4 f4 u4 => wpAny_throw (tk _ _ ?_)
        exact ⟨a, B, t0, pins, σ0, H0, cls, none, rfl, K0, ground, (up.trans u3).trans u4, .inr (.inr (hs ▸ f4)), free, os, bare, no rfl⟩
      first
        | exact wpAny_bind (wpAny_pure (wpAny_bind pass))
        | exact wpAny_bind pass
    | true =>
      refine codeAny_handlers_suite_as ?_
      refine HandSPX.lands_againZ f3 fun h4 f4 u4 => ?_
      obtain ⟨o4, v4, get4, z4, dat4⟩ := f4.there
      obtain ⟨G, g1, g2⟩ := restrict h4 fun b => decide (b ≠ a)
      have ga : G.get? a = none := g2 a (decide_eq_false fun z => z rfl)
      have gb : ∀ b, b ≠ a → G.get? b = h4.get? b := fun b hb => g1 b (decide_eq_true hb)
      have Ba : B.get? a = none := f4.2.1
      have t0a : t0.heap.get? a = none := by
        cases q : t0.heap.get? a with
        | none => rfl
        | some o =>
          have z := ground a o q (by rw [hs]; exact off)
          rw [Ba] at z
          cases z
      have KG : Inv X pins σ0 H0 { t with heap := G } := K0.landed ground
        (fun b o e => by
          have nb : b ≠ a := fun z => by rw [z, Ba] at e; cases e
          show G.get? b = some o
          rw [gb b nb]
          exact f4.1 b o e)
        (fun b o => by
          intro e
          have nb : b ≠ a := fun z => by rw [z, t0a] at e; cases e
          show _ → ∃ sl, G.get? b = _
          rw [gb b nb]
          exact ((up.trans u3).trans u4) b o e) os bare
      have KT : Inv X pins σ0 (L2.upd H0 a (KeO cls a)) { t with heap := h4 } := KG.laidN (h' := h4) (t' := t.toks)
        (fun b o e => by
          have nb : b ≠ a := fun z => by rw [z] at e; exact absurd (show G.get? a = some o from e) (by rw [ga]; exact fun z => by cases z)
          rw [← gb b nb]
          exact e) ga free
        ⟨⟨o4, v4, get4, z4, dat4⟩, ⟨o4, get4⟩, fun h1 h2 ⟨ob, fs, e1, e2, e3⟩ k => ⟨ob, fs, k _ e1, e2, e3⟩⟩
      have VT := inv_into KT a
      refine store_ok (X := X.suite a (X.pn ++ pins)) (v := .ref a) VT hN hi (.inl hl) rfl (fun s5 S5 => ?_) (.inr hl)
      refine wpAny_mono ((hsu a cls (X.pn ++ pins)).run [] s5 _ _ _ S5 (yes rfl a free)) (fun f s6 done => ?_) (fun _ _ z => False.elim z)
      have leave : ∀ {σ6 : Sg} {H6 : Hp} {Q : Shared → Prop}, Inv (X.suite a (X.pn ++ pins)) [] σ6 H6 s6 → (∀ s7, Inv X pins (σ6.set i none) H6 s7 → Q s7) →
          wpAny (model X.prog X.w) X.A (do bindName X.env n .none; unbindBehindTheSuite X.env n pos') (fun _ s7 => Q s7) X.xe s6 := fun {σ6 H6 Q} S6 hq => gone_ok (inv_out S6 ok) hN hi hl hq
      cases f with
      | next => obtain ⟨σ6, H6, S6, q6⟩ := done; exact leave S6 fun s7 J7 => ⟨_, _, J7, q6⟩
      | brk => obtain ⟨σ6, H6, S6, q6⟩ := done; exact leave S6 fun s7 J7 => ⟨_, _, J7, q6⟩
      | cont => obtain ⟨σ6, H6, S6, q6⟩ := done; exact leave S6 fun s7 J7 => ⟨_, _, J7, q6⟩
      | ret u => obtain ⟨v6, σ6, H6, S6, r6, q6⟩ := done; exact leave S6 fun s7 J7 => ⟨_, _, _, J7, r6, q6⟩
  refine wpAny_Try_except (wpAny_mono (thrown.run [] s σ H D (I.toTry _) want) (fun f t done => ?_) fun _ _ z => z)
  cases f with
  | next => obtain ⟨σ1, H1, J1, q1⟩ := done; exact wpAny_execs_nil ⟨σ1, H1, J1.ofTry ok, q1⟩
  | brk => obtain ⟨σ1, H1, J1, q1⟩ := done; exact ⟨σ1, H1, J1.ofTry ok, q1⟩
  | cont => obtain ⟨σ1, H1, J1, q1⟩ := done; exact ⟨σ1, H1, J1.ofTry ok, q1⟩
  | ret u => obtain ⟨v1, σ1, H1, J1, r1, q1⟩ := done; exact ⟨v1, σ1, H1, J1.ofTry ok, r1, q1⟩
end
/-! ### the statement -/
theorem sw_par3 {x y z : Str} {a b c : Expr} {px py pz pt pt2 : Pos} {kt k2 : Nat} {env : Env} (hk : env.scope.kind = .function) (hx : env.scope.names.lookup x = some .local) (hy : env.scope.names.lookup y = some .local) (hz : env.scope.names.lookup z = some .local) (hl : (py.line == px.line) = true) (hl2 : (pz.line == px.line) = true)
    (hxy : (x == y) = false) (hxz : (x == z) = false) (hyz : (y == z) = false) (sa : noStar a = true) (sb : noStar b = true) (sc : noStar c = true) (hf : [a, b, c].all (foldedForSure 8) = false) (hc : [a, b, c].all (constantsAlone 8) = false) :
    swappedStores [.Tuple [.Name x px, .Name y py, .Name z pz] kt pt] (.Tuple [a, b, c] k2 pt2) env = pure (some [x, y, z]) := by
  have kx : env.kindOf x = some .local := hx
  have ky : env.kindOf y = some .local := hy
  have kz : env.kindOf z = some .local := hz
  have hb : env.blockKind = .function := by unfold Env.blockKind; rw [hk]; rfl
  have flip : ∀ {u v : Str}, (u == v) = false → (v == u) = false := fun {u v} h => by
    rw [beq_eq_false_iff_ne] at h ⊢
    exact fun z => h z.symm
  have f1 := flip hxy
  have f2 := flip hxz
  have f3 := flip hyz
  unfold swappedStores
  simp [hb, kx, ky, kz, hf, hc, Expr.pos, hl, hl2, List.filterMap, List.eraseDups, List.eraseDupsBy, List.eraseDupsBy.loop, hxy, hxz, hyz, f1, f2, f3]
  intro h
  exfalso
  rcases h with h | h | h
  · cases a <;> first | (cases h; done) | (cases sa; done)
  · cases b <;> first | (cases h; done) | (cases sb; done)
  · cases c <;> first | (cases h; done) | (cases sc; done)
section
variable {X : Cx} {H0 : Hp} {Gp : Addr → Prop} {W : WX} {tb : Fn → Prop} {tg : String → D → Prop} {tx : String → Prop} {fr : Bool}
theorem ps_of_par3 (G : GoodS tb tg tx X W) {i j l : Nat} {x y z : Ex} {s : Stmt} (hc : cal tb tg x ∧ cal tb tg y ∧ cal tb tg z) (h : ckS X.N X.env.scope fr (.par3 i j l x y z) s = true) : PS X s (tS1 (cn X H0 Gp) W fr (.par3 i j l x y z)) := by
  unfold ckS at h
  split at h <;> (try (cases h; done))
  rename_i a pa b pb c pc e f g he
  obtain ⟨k, q0, k2, q2, p, rfl⟩ := asPar3_eq he
  simp only [Bool.and_eq_true, decide_eq_true_eq, Bool.not_eq_true'] at h
  obtain ⟨⟨⟨⟨⟨⟨⟨⟨⟨⟨⟨⟨⟨⟨⟨⟨⟨⟨⟨⟨⟨⟨⟨⟨h1, h2⟩, h3⟩, hij⟩, hil⟩, hjl⟩, la⟩, lb⟩, lc⟩, l1⟩, l2⟩, n1⟩, n2⟩, n3⟩, s1⟩, s2⟩, s3⟩, f1⟩, f2⟩, c1⟩, c2⟩, c3⟩, b1⟩, b2⟩, b3⟩ := h
  have px := (snd x).1.pe (H0 := H0) (Gp := Gp) G.g G.tk (fun z => by cases z) hc.1 c1
  have py := (snd y).1.pe (H0 := H0) (Gp := Gp) G.g G.tk (fun z => by cases z) hc.2.1 c2
  have pz := (snd z).1.pe (H0 := H0) (Gp := Gp) G.g G.tk (fun z => by cases z) hc.2.2 c3
  refine ps_imp (ps_par3 (G.g.calm rfl) G.g.nd h1 h2 h3 hij hil hjl (isLoc_of la) (isLoc_of lb) (isLoc_of lc) (pa_cons px (pa_cons py (pa_cons pz pa_nil (star_of s3 [] X.env)) (star_of s2 _ X.env)) (star_of s1 _ X.env))
    (sw_par3 G.kd (isLoc_of la) (isLoc_of lb) (isLoc_of lc) l1 l2 n1 n2 n3 s1 s2 s3 f1 f2) (sw_tupT _ _)) fun Dn σ H q => ?_
  obtain ⟨ρ, er, q⟩ := q
  unfold exe at q
  refine of_ok er q fun d v H1 e po er1 q1 => ?_
  refine of_ok er1 q1 fun d2 v2 H2 e2 po2 er2 q2 => ?_
  refine of_ok er2 q2 fun d3 v3 H3 e3 po3 er3 q3 => ?_
  have q4 : oA (cn X H0 Gp) W fr σ ρ H3 Dn (if i < ρ.length ∧ j < ρ.length ∧ l < ρ.length then .nx (((ρ.set i (.v d)).set j (.v d2)).set l (.v d3)) else .bad) := q3
  split at q4
  · rename_i hlt
    have t1 := er3.set (i := i) (((po.rp b1).same po2.same).same po3.same) hlt.1
    have wk : ∀ a, Zf (cn X H0 Gp) σ ρ a → Zf (cn X H0 Gp) (σ.set i (some v)) (ρ.set i (.v d)) a := fun a z => ⟨z.1, fun w => z.2 (own_set w)⟩
    have t2 := t1.set (i := j) (((po2.rp b2).same po3.same).weak fun a _ _ z => wk a z) (by rw [List.length_set]; exact hlt.2.1)
    have wk2 : ∀ a, Zf (cn X H0 Gp) σ ρ a → Zf (cn X H0 Gp) ((σ.set i (some v)).set j (some v2)) ((ρ.set i (.v d)).set j (.v d2)) a := fun a z => ⟨z.1, fun w => z.2 (own_set (own_set w))⟩
    have t3 := t2.set (i := l) ((po3.rp b3).weak fun a _ _ z => wk2 a z) (by rw [List.length_set, List.length_set]; exact hlt.2.2)
    exact ⟨v, v2, v3, rfl, q4 _ _ t3 fun a o e n => ⟨e, fun w => n (own_set (own_set (own_set w)))⟩⟩
  · exact q4.elim
end
end OL
namespace OL
open PySem PySem.Spec PyProof.Rows L2
theorem R.all_imp {α : Type} {r : R α} {p p' : α → Prop} {e e' : String → Prop} (h : r.all p e) (hp : ∀ a, p a → p' a) (he : ∀ k, e k → e' k) : r.all p' e' := by
  cases r with
  | ok a => exact hp a h
  | exc k => exact he k h
  | bad => exact h
/-- sound statements -/
def PsP (s : St) : Prop := ∀ {X : Cx} {H0 : Hp} {Gp : Addr → Prop} {W : WX} {tb : Fn → Prop} {tg : String → D → Prop} {tx : String → Prop} {fr : Bool} {e : Stmt}, GoodS tb tg tx X W → calS tb tg tx s → ckS X.N X.env.scope fr s e = true → PS X e (tS1 (cn X H0 Gp) W fr s)
def PssP (ss : List St) : Prop := ∀ {X : Cx} {H0 : Hp} {Gp : Addr → Prop} {W : WX} {tb : Fn → Prop} {tg : String → D → Prop} {tx : String → Prop} {fr : Bool} {es : List Stmt}, GoodS tb tg tx X W → calSs tb tg tx ss → ckSs X.N X.env.scope fr ss es = true → PSs X es (tSs (cn X H0 Gp) W fr ss)
theorem pss_of_nil : PssP [] := by
  intro X H0 Gp W tb tg tx fr es G hc h
  unfold ckSs at h
  cases es with
  | cons _ _ => cases h
  | nil =>
    refine pss_imp pss_nil fun Dn σ H q => ?_
    obtain ⟨ρ, er, q⟩ := q
    unfold exs at q
    exact q σ H er .refl
theorem pss_of_cons {s : St} {ss : List St} (hs : PsP s) (hss : PssP ss) : PssP (s :: ss) := by
  intro X H0 Gp W tb tg tx fr es G hc h
  unfold ckSs at h
  unfold calSs at hc
  by_cases hf : ∃ i, s = .frz i
  · obtain ⟨i, rfl⟩ := hf
    refine pss_imp (hss (H0 := H0) (Gp := Gp) G hc.2 h) fun Dn σ H q => ?_
    obtain ⟨ρ, er, q⟩ := q
    unfold exs exe at q
    cases e : ρ[i]? with
    | none => rw [e] at q; exact q.elim
    | some sl =>
      rw [e] at q
      cases sl with
      | o ds => exact ⟨_, er.frz e, q.later fun a o f n => ⟨f, fun w => n (own_frz_eq a w)⟩⟩
      | v d => exact q.elim
      | n => exact q.elim
  · cases es with
    | nil => cases s <;> first | (cases h; done) | exact absurd ⟨_, rfl⟩ hf
    | cons e es =>
      have h' : (ckS X.N X.env.scope fr s e && ckSs X.N X.env.scope fr ss es) = true := by
        cases s <;> first | exact h | exact absurd ⟨_, rfl⟩ hf
      rw [Bool.and_eq_true] at h'
      refine pss_imp (pss_cons (hs (H0 := H0) (Gp := Gp) G hc.1 h'.1) (hss (H0 := H0) (Gp := Gp) G hc.2 h'.2)) fun Dn σ H q => ?_
      obtain ⟨ρ, er, q⟩ := q
      unfold exs at q
      refine ⟨ρ, er, ?_⟩
      cases e1 : exe ρ s with
      | nx ρ' => rw [e1] at q; exact fun σ' H' er' st => ⟨ρ', er', q.later st⟩
      | rt d => rw [e1] at q; exact q
      | bk ρ' => rw [e1] at q; exact q
      | ct ρ' => rw [e1] at q; exact q
      | exc k ρ' => rw [e1] at q; exact q
      | bad => rw [e1] at q; exact q
theorem ps_of_ife {t : Ex} {a b : List St} (ha : PssP a) (hb : PssP b) : PsP (.ife t a b) := by
  intro X H0 Gp W tb tg tx fr s G hc h
  unfold ckS at h
  split at h <;> (try (cases h; done))
  rename_i e p q he
  obtain ⟨pos, rfl⟩ := asIf_eq he
  rw [Bool.and_eq_true, Bool.and_eq_true] at h
  unfold calS at hc
  have pt := (snd t).1.pt (H0 := H0) (Gp := Gp) G.g G.tk (fun z => by cases z) hc.1 h.1.1
  refine ps_imp (ps_if pt (ha (H0 := H0) (Gp := Gp) G hc.2.1 h.1.2) (hb (H0 := H0) (Gp := Gp) G hc.2.2 h.2)) fun Dn σ H q => ?_
  obtain ⟨ρ, er, q⟩ := q
  unfold exe at q
  refine ⟨ρ, er, ?_⟩
  cases e1 : tst ρ t with
  | ok k =>
    rw [e1] at q
    intro H' s
    have q2 : oA (cn X H0 Gp) W fr σ ρ H Dn (if k = true then exs ρ a else exs ρ b) := q
    cases k with
    | true => exact iteT ⟨ρ, er.same s, q2.later (.same s)⟩
    | false => exact iteF ⟨ρ, er.same s, q2.later (.same s)⟩
  | exc k => rw [e1] at q; exact fun H' s => q σ H' (er.same s) (.same s)
  | bad => rw [e1] at q; exact q.elim
theorem ps_of_whl {t : Ex} {b : List St} (hb : PssP b) : PsP (.whl t b) := by
  intro X H0 Gp W tb tg tx fr s G hc h
  unfold ckS at h
  split at h <;> (try (cases h; done))
  rename_i e p he
  obtain ⟨pos, rfl⟩ := asWhl_eq he
  rw [Bool.and_eq_true] at h
  unfold calS at hc
  have pt := (snd t).1.pt (H0 := H0) (Gp := Gp) G.g G.tk (fun z => by cases z) hc.1 h.1
  refine ps_imp (ps_while G.ps pt (hb (H0 := H0) (Gp := Gp) G hc.2 h.2)) fun Dn σ H q => ?_
  obtain ⟨ρ, er, q⟩ := q
  unfold exe at q
  have nb : whileO (fun ρ => tst ρ t) (fun ρ => exs ρ b) ρ ≠ .bad := fun z => by rw [z] at q; exact q
  obtain ⟨n, hn⟩ := whileO_run nb
  generalize whileO (fun ρ => tst ρ t) (fun ρ => exs ρ b) ρ = o at q hn
  refine ⟨fun m σ' H' => ∃ ρ', ER (cn X H0 Gp) H' σ' ρ' ∧ wrun (fun ρ => tst ρ t) (fun ρ => exs ρ b) m ρ' = some o ∧ Stb σ ρ H σ' ρ' H', ⟨n, ρ, er, hn, .refl⟩, ?_⟩
  rintro m σ' H' ⟨ρ', er', hm, st⟩
  cases m with
  | zero => unfold wrun at hm; cases hm
  | succ m =>
    unfold wrun at hm
    refine ⟨ρ', er', ?_⟩
    cases e1 : tst ρ' t with
    | exc k =>
      simp only [e1] at hm
      cases hm
      exact fun H'' s => q σ' H'' (er'.same s) (st.trans (.same s))
    | bad =>
      simp only [e1] at hm
      cases hm
      exact q.elim
    | ok k =>
      simp only [e1] at hm
      intro H'' s
      cases k with
      | false =>
        cases hm
        exact iteF (q σ' H'' (er'.same s) (st.trans (.same s)))
      | true =>
        refine iteT ⟨fun σ2 H2 => ∃ ρ2, ER (cn X H0 Gp) H2 σ2 ρ2 ∧ wrun (fun ρ => tst ρ t) (fun ρ => exs ρ b) m ρ2 = some o ∧ Stb σ ρ H σ2 ρ2 H2, fun σ2 H2 w => ⟨m, Nat.lt_succ_self m, w⟩, ρ', er'.same s, ?_⟩
        have st' : Stb σ ρ H σ' ρ' H'' := st.trans (.same s)
        cases e2 : exs ρ' b with
        | nx ρ2 =>
          simp only [e2] at hm
          exact fun σ2 H2 er2 s2 => ⟨ρ2, er2, hm, st'.trans s2⟩
        | ct ρ2 =>
          simp only [e2] at hm
          exact fun σ2 H2 er2 s2 => ⟨ρ2, er2, hm, st'.trans s2⟩
        | bk ρ2 =>
          simp only [e2] at hm
          cases hm
          exact fun σ2 H2 er2 s2 => q σ2 H2 er2 (st'.trans s2)
        | rt d =>
          simp only [e2] at hm
          cases hm
          exact q
        | exc k ρ2 =>
          simp only [e2] at hm
          cases hm
          exact fun σ2 H2 er2 s2 => q σ2 H2 er2 (st'.trans s2)
        | bad =>
          simp only [e2] at hm
          cases hm
          exact q.elim
theorem ps_of_for {t : Tg} {it : Ex} {b : List St} (hb : PssP b) : PsP (.for t it b) := by
  intro X H0 Gp W tb tg tx fr s G hc h
  unfold ckS at h
  split at h <;> (try (cases h; done))
  rename_i tt i p he
  obtain ⟨pos, rfl⟩ := asFor_eq he
  rw [Bool.and_eq_true, Bool.and_eq_true, Bool.and_eq_true] at h
  obtain ⟨⟨⟨h1, h2⟩, h3⟩, h4⟩ := h
  unfold calS at hc
  have pi := (snd it).2 (H0 := H0) (Gp := Gp) G.g G.tk hc.1 h2
  have pg := pg_of (t := t) (e := tt) G.g.nd (G.g.calm rfl) (cel := true) (fun _ => G.fn) h1
  refine ps_imp (ps_for G.ps (G.g.calm rfl) pi pg (hb (H0 := H0) (Gp := Gp) G hc.2 h4) (fun x => by cases i <;> first | rfl | cases h3)) fun Dn σ H q => ?_
  obtain ⟨ρ, er, q⟩ := q
  unfold exe at q
  refine ⟨ρ, er, ?_⟩
  cases e1 : (ev ρ it).bind itemsOf with
  | exc k => rw [e1] at q; exact fun H' s => q σ H' (er.same s) (.same s)
  | bad => rw [e1] at q; exact q.elim
  | ok ds =>
  rw [e1] at q
  intro J H1 s1 wk
  have er1 := er.same s1
  generalize hbd : (fun d ρ => O.of ρ (setT t d ρ) fun ρ' => exs ρ' b) = body at q
  have q1 : oA (cn X H0 Gp) W fr σ ρ H1 Dn (forO body ds ρ) := oA.later (.same s1) q
  clear q
  have stay_of : ∀ {σ' : Sg} {ρ' : En} {H' : Hp}, Stb σ ρ H1 σ' ρ' H' → Stay H1 (Zf (cn X H0 Gp) σ ρ) H' := fun {σ' ρ' H'} st a o e z => by
    by_cases ow : own σ ρ a
    · obtain ⟨j, es, f1, f2⟩ := ow
      obtain ⟨a', xs, g1, g2, _⟩ := er1.lst j es f1
      rw [f2] at g1; cases g1
      rw [e] at g2; cases g2
      exact absurd ⟨j, es, f1, f2⟩ (z rfl).2
    · exact (st a o e ow).1
  refine ⟨fun i m σ' H' => m = ds.length - i ∧ i ≤ ds.length ∧ ∃ ρ', ER (cn X H0 Gp) H' σ' ρ' ∧ Stb σ ρ H1 σ' ρ' H' ∧ oA (cn X H0 Gp) W fr σ ρ H1 Dn (forO body (ds.drop i) ρ'),
    ⟨ds.length, by simp, Nat.zero_le _, ρ, er1, .refl, by simpa using q1⟩, ?_⟩
  rintro i m σ' H' ⟨rfl, hle, ρ', er', st, q⟩
  by_cases hlt : i < ds.length
  · refine .inr ⟨wk.go H' i (stay_of st) hlt, fun σ2 H2 => i + 1 ≤ ds.length ∧ ∃ ρ2, ER (cn X H0 Gp) H2 σ2 ρ2 ∧ Stb σ ρ H1 σ2 ρ2 H2 ∧ oA (cn X H0 Gp) W fr σ ρ H1 Dn (forO body (ds.drop (i + 1)) ρ2),
      fun σ2 H2 w => ⟨ds.length - (i + 1), by omega, rfl, w⟩, fun x H2 y => ?_⟩
    obtain ⟨s2, rx⟩ := wk.yld H' i x H2 (stay_of st) y _ (List.getElem?_eq_getElem hlt)
    have er2 := er'.same s2
    have rx' : Rp X.K X.mg H2 (Zf (cn X H0 Gp) σ' ρ') ds[i] x := rx.weak fun a o _ z => by
      rcases z with ⟨z, o', e'⟩ | z
      · exact ⟨z.1, (st a o' e' z.2).2⟩
      · exact er'.newZ z
    rw [List.drop_eq_getElem_cons hlt] at q
    unfold forO at q
    have bd : body ds[i] ρ' = O.of ρ' (setT t ds[i] ρ') fun ρ' => exs ρ' b := by rw [← hbd]
    cases e2 : setT t ds[i] ρ' with
    | exc k => exact absurd e2 setT_exc
    | bad => rw [bd, e2] at q; exact q.elim
    | ok ρ2 =>
      have bd2 : body ds[i] ρ' = exs ρ2 b := by rw [bd, e2]; rfl
      rw [bd2] at q
      refine gOf_ok (c := cn X H0 Gp) er2 rx' e2 fun σ3 er3 ow sl ln => ⟨ρ2, er3, ?_⟩
      have st3 : Stb σ ρ H1 σ3 ρ2 H2 := st.trans fun a o e n => ⟨s2 a o e, fun w => n (ow a w)⟩
      cases e3 : exs ρ2 b with
      | nx ρ4 =>
        rw [e3] at q
        exact fun σ4 H4 er4 s4 => ⟨hlt, ρ4, er4, st3.trans s4, q⟩
      | ct ρ4 =>
        rw [e3] at q
        exact fun σ4 H4 er4 s4 => ⟨hlt, ρ4, er4, st3.trans s4, q⟩
      | bk ρ4 =>
        rw [e3] at q
        exact fun σ4 H4 er4 s4 => q σ4 H4 er4 (st3.trans s4)
      | rt d =>
        rw [e3] at q
        exact q
      | exc k ρ4 =>
        rw [e3] at q
        exact fun σ4 H4 er4 s4 => q σ4 H4 er4 (st3.trans s4)
      | bad => rw [e3] at q; exact q.elim
  · have e : i = ds.length := by omega
    subst e
    rw [List.drop_length] at q
    unfold forO at q
    exact .inl ⟨wk.stop H' _ (stay_of st) (Nat.le_refl _), q σ' H' er' st⟩
theorem ps_of_tri {b h : List St} {k : String} (hb : PssP b) : PsP (.tri b k h) := by
  intro X H0 Gp W tb tg tx fr s G hc hk
  unfold ckS at hk
  split at hk <;> (try (cases hk; done))
  rename_i p x q he
  obtain ⟨a0, b0, c0, rfl⟩ := asTry_eq he
  simp only [Bool.and_eq_true, beq_iff_eq, Bool.not_eq_true'] at hk
  obtain ⟨⟨⟨⟨⟨⟨rfl, h1⟩, h2⟩, h3⟩, h4⟩, h5⟩, h6⟩ := hk
  unfold calS at hc
  obtain ⟨C, hm, xo⟩ := G.exc k hc.1
  cases q with
  | nil => cases h6
  | cons b₀ suite =>
    have main := ps_try_only (X := X) (x := Str.ofString k) (c := .ref C) (body := p) (suite := suite) (b₀ := b₀) (np := a0) (pos := c0) (pos' := b0) (tb := fun W' => tSs (cn X H0 Gp) W' fr b) (ts := fun _ _ _ => tSs (cn X H0 Gp) no fr h) (Wout := W)
      G.st G.fr ⟨gl_of h1, (dbg_of h2).1, .inl hm⟩ G.tk
      (fun W' pn xe tk hp => hb (X := X.tr pn xe) (H0 := H0) (Gp := Gp) (G.tr tk hp) hc.2.1 h4)
      (fun a oe cls d pn hz hf => pss_hot (H0 := H0) (Gp := Gp) (a := a) (pn := (a, oe) :: pn) G hc.2.2 h5)
    refine ps_imp main fun Dn σ H q => ?_
    obtain ⟨ρ, er, q⟩ := q
    unfold exe at q
    refine ⟨ρ, er, ?_⟩
    cases e1 : exs ρ b with
    | nx ρ' => rw [e1] at q; exact q
    | bk ρ' => rw [e1] at q; exact q
    | ct ρ' => rw [e1] at q; exact q
    | rt d => rw [e1] at q; exact q
    | bad => rw [e1] at q; exact q
    | exc k' ρ' =>
      rw [e1] at q
      intro σ' H' er' st C' ie m
      refine ⟨subX k' k, G.exm k' k C' C ie h3 m hm, fun hs a ha => ?_, fun hs => ?_⟩
      · have q2 : oA (cn X H0 Gp) W fr σ ρ H Dn (if subX k' k = true then noX (exs ρ' h) else .exc k' ρ') := q
        rw [if_pos hs] at q2
        have q3 := q2.later st
        refine ⟨ρ', er', ?_⟩
        cases e2 : exs ρ' h with
        | nx ρ'' => rw [e2] at q3; exact q3
        | bk ρ'' => rw [e2] at q3; exact q3
        | ct ρ'' => rw [e2] at q3; exact q3
        | rt d => rw [e2] at q3; exact q3
        | bad => rw [e2] at q3; exact q3
        | exc k2 ρ'' => rw [e2] at q3; exact q3.elim
      · have q2 : oA (cn X H0 Gp) W fr σ ρ H Dn (if subX k' k = true then noX (exs ρ' h) else .exc k' ρ') := q
        rw [if_neg (by rw [hs]; decide)] at q2
        exact q2 σ' H' er' st C' ie m
theorem drop_er {c : Cn} {H : Hp} {σ : Sg} {ρ : En} {i : Nat} (er : ER c H σ ρ) (h : notOwn ρ i = true) : ER c H (σ.set i none) (ρ.set i .n) := er.wipe (vs := [i]) (by rw [List.all_cons, h]; rfl)
theorem drop_stb {H : Hp} {σ : Sg} {ρ : En} {i : Nat} (h : notOwn ρ i = true) : Stb σ ρ H (σ.set i none) (ρ.set i .n) H := fun a o e n => ⟨e, fun w => n ((own_wipe (vs := [i]) (by rw [List.all_cons, h]; rfl) a).mp w)⟩
theorem ps_of_tas {b h : List St} {k : String} {i : Nat} (hb : PssP b) : PsP (.tas b k i h) := by
  intro X H0 Gp W tb tg tx fr s G hc hk
  unfold ckS at hk
  split at hk <;> (try (cases hk; done))
  rename_i p x n q he
  obtain ⟨a0, b0, c0, rfl⟩ := asTryAs_eq he
  simp only [Bool.and_eq_true, beq_iff_eq, Bool.not_eq_true', decide_eq_true_eq] at hk
  obtain ⟨⟨⟨⟨⟨⟨⟨⟨rfl, h1⟩, h2⟩, h3⟩, hi⟩, hl⟩, h4⟩, h5⟩, h6⟩ := hk
  unfold calS at hc
  obtain ⟨C, hm, xo⟩ := G.exc k hc.1
  cases q with
  | nil => cases h6
  | cons b₀ suite =>
    have main := ps_try_keep (X := X) (x := Str.ofString k) (n := n) (c := .ref C) (i := i) (body := p) (suite := suite) (b₀ := b₀) (np := a0) (pos := c0) (pos' := b0) (tb := fun W' => tSs (cn X H0 Gp) W' fr b) (ts := fun _ _ => tSs (cn X H0 Gp) no fr h) (Wout := W)
      G.st G.fr G.g.nd hi (isLoc_of hl) ⟨gl_of h1, (dbg_of h2).1, .inl hm⟩ G.tk
      (fun W' pn xe tk hp => hb (X := X.tr pn xe) (H0 := H0) (Gp := Gp) (G.tr tk hp) hc.2.1 h4)
      (fun a cls pn => pss_hot (H0 := H0) (Gp := Gp) (a := a) (pn := pn) G hc.2.2 h5)
    refine ps_imp main fun Dn σ H q => ?_
    obtain ⟨ρ, er, q⟩ := q
    unfold exe at q
    refine ⟨ρ, er, ?_⟩
    cases e1 : exs ρ b with
    | nx ρ' => rw [e1] at q; exact q
    | bk ρ' => rw [e1] at q; exact q
    | ct ρ' => rw [e1] at q; exact q
    | rt d => rw [e1] at q; exact q
    | bad => rw [e1] at q; exact q
    | exc k' ρ' =>
      rw [e1] at q
      intro σ' H' er' st C' ie m
      refine ⟨rfl, subX k' k, G.exm k' k C' C ie h3 m hm, fun hs a ha => ?_, fun hs => ?_⟩
      · have q2 : oA (cn X H0 Gp) W fr σ ρ H Dn (if subX k' k = true then (if i < ρ'.length then drO i (noX (exs (ρ'.set i (.v (.exc k'))) h)) else .bad) else .exc k' ρ') := q
        rw [if_pos hs] at q2
        by_cases hil : i < ρ'.length
        · rw [if_pos hil] at q2
          have s1 : Same H' (L2.upd H' a (KeO (.ref C') a)) := same_upd ha
          have erT := (er'.same s1).set (i := i) (d := .exc k') (v := .ref a) (.exc upd_same (fun _ z => z) m ie) hil
          have stT : Stb σ' ρ' H' (σ'.set i (some (.ref a))) (ρ'.set i (.v (.exc k'))) (L2.upd H' a (KeO (.ref C') a)) := fun b o e n => ⟨s1 _ _ e, fun w => n (own_set w)⟩
          have q3 := q2.later (st.trans stT)
          refine ⟨_, erT, ?_⟩
          cases e2 : exs (ρ'.set i (.v (.exc k'))) h with
          | nx ρ'' =>
            rw [e2] at q3
            intro σ2 H2 er2 st2
            have q4 : oA (cn X H0 Gp) W fr _ _ _ Dn (if notOwn ρ'' i then .nx (ρ''.set i .n) else .bad) := q3
            split at q4
            · rename_i hn; exact q4 _ _ (drop_er er2 hn) (st2.trans (drop_stb hn))
            · exact q4.elim
          | bk ρ'' =>
            rw [e2] at q3
            intro σ2 H2 er2 st2
            have q4 : oA (cn X H0 Gp) W fr _ _ _ Dn (if notOwn ρ'' i then .bk (ρ''.set i .n) else .bad) := q3
            split at q4
            · rename_i hn; exact q4 _ _ (drop_er er2 hn) (st2.trans (drop_stb hn))
            · exact q4.elim
          | ct ρ'' =>
            rw [e2] at q3
            intro σ2 H2 er2 st2
            have q4 : oA (cn X H0 Gp) W fr _ _ _ Dn (if notOwn ρ'' i then .ct (ρ''.set i .n) else .bad) := q3
            split at q4
            · rename_i hn; exact q4 _ _ (drop_er er2 hn) (st2.trans (drop_stb hn))
            · exact q4.elim
          | rt d => rw [e2] at q3; exact q3
          | bad => rw [e2] at q3; exact q3
          | exc k2 ρ'' => rw [e2] at q3; exact q3.elim
        · rw [if_neg hil] at q2; exact q2.elim
      · have q2 : oA (cn X H0 Gp) W fr σ ρ H Dn (if subX k' k = true then (if i < ρ'.length then drO i (noX (exs (ρ'.set i (.v (.exc k'))) h)) else .bad) else .exc k' ρ') := q
        rw [if_neg (by rw [hs]; decide)] at q2
        exact q2 σ' H' er' st C' ie m
theorem psp_ret {x : Ex} : PsP (.ret x) := by
  intro X H0 Gp W tb tg tx fr e G hc h
  unfold ckS at h
  split at h <;> (try (cases h; done))
  rename_i v he
  obtain ⟨p, rfl⟩ := asRet_eq he
  rw [Bool.and_eq_true] at h
  exact ps_of_ret G.g G.tk (fun z => by cases z) (by unfold calS at hc; exact hc) h.1 h.2
theorem psp_retN : PsP (.retN) := by
  intro X H0 Gp W tb tg tx fr e G hc h
  unfold ckS at h
  split at h <;> (try (cases h; done))
  rename_i he
  obtain ⟨p, rfl⟩ := asRet_eq he
  refine ps_imp ps_retN fun Dn σ H q => ?_
  obtain ⟨ρ, er, q⟩ := q
  unfold exe at q
  exact q .non H ⟨er.sm, .non, fun _ es z => by cases z⟩
theorem psp_exp {x : Ex} : PsP (.exp x) := by
  intro X H0 Gp W tb tg tx fr e G hc h
  unfold ckS at h
  split at h <;> (try (cases h; done))
  rename_i v he
  obtain ⟨p, rfl⟩ := asExp_eq he
  rw [Bool.and_eq_true] at h
  refine ps_imp (ps_expr ((snd x).1.pe (H0 := H0) (Gp := Gp) G.g G.tk (fun z => by cases z) (by unfold calS at hc; exact hc) h.1) (sw_none h.2 _ _ _)) fun Dn σ H q => ?_
  obtain ⟨ρ, er, q⟩ := q
  unfold exe at q
  exact of_ok er q fun d v H' e po er' q' => q' σ H' er' .refl
theorem psp_brk : PsP (.brk) := by
  intro X H0 Gp W tb tg tx fr e G hc h
  unfold ckS at h
  cases e <;> (try (unfold asBrk at h; cases h; done))
  refine ps_imp ps_break fun Dn σ H q => ?_
  obtain ⟨ρ, er, q⟩ := q
  unfold exe at q
  exact q σ H er .refl
theorem psp_cnt : PsP (.cnt) := by
  intro X H0 Gp W tb tg tx fr e G hc h
  unfold ckS at h
  cases e <;> (try (unfold asCnt at h; cases h; done))
  refine ps_imp ps_continue fun Dn σ H q => ?_
  obtain ⟨ρ, er, q⟩ := q
  unfold exe at q
  exact q σ H er .refl
theorem psp_pas : PsP (.pas) := by
  intro X H0 Gp W tb tg tx fr e G hc h
  unfold ckS at h
  cases e <;> (try (unfold asPas at h; cases h; done))
  refine ps_imp ps_pass fun Dn σ H q => ?_
  obtain ⟨ρ, er, q⟩ := q
  unfold exe at q
  exact q σ H er .refl
mutual
theorem psP : ∀ s : St, PsP s
  | .asg i own x => fun G hc h => ps_of_asg G (by unfold calS at hc; exact hc) h
  | .unp ts x => fun G hc h => ps_of_unp G (by unfold calS at hc; exact hc) h
  | .par i j x y => fun G hc h => ps_of_par G (by unfold calS at hc; exact hc) h
  | .aug i op x => fun G hc h => ps_of_aug G (by unfold calS at hc; exact hc) h
  | .ret x => psp_ret
  | .retN => psp_retN
  | .exp x => psp_exp
  | .app i x => fun G hc h => ps_of_app G (by unfold calS at hc; exact hc) h
  | .rev i => fun G hc h => ps_of_rev G h
  | .clr i => fun G hc h => ps_of_clr G h
  | .ins i k x => fun G hc h => by unfold ckS at h; cases h
  | .popE i k => fun G hc h => by unfold ckS at h; cases h
  | .sti i k x => fun G hc h => ps_of_sti G (by unfold calS at hc; exact hc) h
  | .ife t a b => ps_of_ife (pssP a) (pssP b)
  | .whl t b => ps_of_whl (pssP b)
  | .for t it b => ps_of_for (pssP b)
  | .rai k => fun G hc h => ps_of_rai G (by unfold calS at hc; exact hc) h
  | .tri b k h => ps_of_tri (pssP b)
  | .tas b k i h => ps_of_tas (pssP b)
  | .par3 i j l x y z => fun G hc h => ps_of_par3 G (by unfold calS at hc; exact hc) h
  | .frz i => fun G hc h => by unfold ckS at h; cases h
  | .brk => psp_brk
  | .cnt => psp_cnt
  | .pas => psp_pas
theorem pssP : ∀ ss : List St, PssP ss
  | [] => pss_of_nil
  | s :: ss => pss_of_cons (psP s) (pssP ss)
end
end OL
/-! A def as a whole; a module's defs; the law's end. -/
namespace OL
open PySem PySem.Spec PyProof.Rows L2
def GlT (K : PySem.W.Frag) (mg : Str → Option Value) (n : String) (d : D) : Prop := ∃ u v, mg (Str.ofString n) = some u ∧ RelV v u ∧ ∀ H Z, Rp K mg H Z d v
/-- a written constant, or an error's class -/
def TgT (K : PySem.W.Frag) (mg : Str → Option Value) (n : String) (d : D) : Prop := (isE d = false → GlT K mg n d) ∧ (isE d = true → ∃ C, mg (Str.ofString n) = some (.ref C))
theorem tgT_of {K : PySem.W.Frag} {mg : Str → Option Value} {n : String} {d : D} (h : GlT K mg n d) (e : isE d = false) : TgT K mg n d := ⟨fun _ => h, fun z => by rw [e] at z; cases z⟩
structure ExK (K : PySem.W.Frag) (C : Addr) : Prop where
  xin : PySem.W.excIn K C veMro "ValueError.__new__" = true
  kin : PySem.W.keepIn K (.ref C) = true
  sub : PySem.W.subIn K (.ref C) (.type "BaseException") = some true
  ty : PySem.W.typeIn K (.ref C) = some (.type "type")
def ExT (K : PySem.W.Frag) (mg : Str → Option Value) (k : String) : Prop := ∃ C, mg (Str.ofString k) = some (.ref C) ∧ ExK K C
theorem tgT_exc {K : PySem.W.Frag} {mg : Str → Option Value} {n : String} (h : ExT K mg n) : TgT K mg n (.exc n) := ⟨fun z => (by cases z), fun _ => let ⟨C, e, _⟩ := h; ⟨C, e⟩⟩
structure ModOk (K : PySem.W.Frag) (mg : Str → Option Value) : Prop where
  xk : XKit K mg
  blt : ∀ b : Blt, mg (bltName b) = none
  oth : ∀ x ∈ othN, mg x = none
  exm : ∀ k k' C C', isExc k = true → isExc k' = true → mg (Str.ofString k) = some (.ref C) → mg (Str.ofString k') = some (.ref C') → PySem.W.exmOne K (.ref C) (.ref C') = some (subX k k')
structure FnT (P : Program) (w : World) (K : PySem.W.Frag) (mg : Str → Option Value) (base : Heap) (k : Nat) (f : Fn) : Prop where
  ex : ∃ (fa : Addr) (fd : FuncData) (ps : List Str) (ds : List Value), FnOk P w K mg base (L2.CX P w) k fa fd ps (spF K mg f.run f.fr ps.length) ∧
    mg (Str.ofString f.name) = some (.ref fa) ∧ PySem.W.keepIn K (.ref fa) = true ∧ Binds K fd ps ds ∧ Vals (f.dfl.map valD) ds ∧ ∀ zs, f.run zs ≠ .bad → zs.length = ps.length
  dfl : f.dfl.all scalD = true
theorem FnT.mono {P : Program} {w : World} {K : PySem.W.Frag} {mg : Str → Option Value} {base : Heap} {j k : Nat} {f : Fn} (F : FnT P w K mg base j f) (h : j ≤ k) : FnT P w K mg base k f :=
  let ⟨fa, fd, ps, ds, a, r⟩ := F.ex
  ⟨⟨fa, fd, ps, ds, a.mono h, r⟩, F.dfl⟩
theorem defR_len {n k : Nat} {b : List St} {zs : List D} (h : defR n k b zs ≠ .bad) : zs.length = k := by
  unfold defR at h
  split at h
  · rename_i q; exact q.1
  · exact absurd rfl h
section
variable {P : Program} {w : World} {K : PySem.W.Frag} {mg : Str → Option Value} {base : Heap} {x qual : Str} {params : Arguments} {body : List Stmt} {scope : Scope} {dvs : List V} {f : Addr} {fd : FuncData} {N ps : List Str} {b : List St} {fr : Bool} {k : Nat}
theorem start_er {c : Cn} {H : Hp} {Z : Addr → Prop} {ds : List D} {vs : List V} (hc : c = ⟨K, mg, H, fun a => Z a ∨ H a = none⟩) (r : RpA K mg H Z ds vs) (hl : vs.length = ps.length) (hp : ps.length ≤ N.length) :
    ER c H (L2.start N vs) (ds.map .v ++ List.replicate (N.length - ps.length) .n) := by
  subst hc
  have hd : ds.length = vs.length := r.length
  have no : ∀ (i : Nat) (es : List D), (ds.map Sl.v ++ List.replicate (N.length - ps.length) Sl.n)[i]? ≠ some (.o es) := fun i es e => by
    by_cases hi : i < ds.length
    · rw [List.getElem?_append_left (by simpa using hi), List.getElem?_map] at e
      cases q : ds[i]? with
      | none => rw [q] at e; cases e
      | some d => rw [q] at e; cases e
    · rw [List.getElem?_append_right (by simpa using hi), List.getElem?_replicate] at e
      split at e <;> cases e
  refine ⟨?_, Same.refl _, fun p hp => .inr hp, fun i d e => ?_, fun i es e => absurd e (no i es), fun i j a es fs e => absurd e (no i es)⟩
  · unfold L2.start
    simp only [List.length_append, List.length_map, List.length_replicate]
    omega
  · by_cases hi : i < ds.length
    · rw [List.getElem?_append_left (by simpa using hi), List.getElem?_map] at e
      cases q : ds[i]? with
      | none => rw [q] at e; cases e
      | some d' =>
        rw [q] at e
        cases e
        obtain ⟨v, hv, rv⟩ := r.get q
        refine ⟨v, ?_, rv.weak fun a o h z => ⟨.inl z, fun ⟨j, es, e1, _⟩ => no j es e1⟩⟩
        unfold L2.start
        rw [List.getElem?_append_left (by rw [List.length_map, ← hd]; exact hi), List.getElem?_map, hv]
        rfl
    · rw [List.getElem?_append_right (by simpa using hi), List.getElem?_replicate] at e
      split at e <;> cases e
theorem fn_ok (F : FunD K x qual params body scope dvs [] f fd) (M : ModOk K mg) (S : FnScope N ps scope)
    (hc : calSs (FnT P w K mg base k) (TgT K mg) (ExT K mg) b) (h : ckSs N scope fr b body = true) :
    FnOk P w K mg base (L2.CX P w) (k + 1) f fd ps (spF K mg (defR N.length ps.length b) fr ps.length) := by
  refine F.ok S (fun vs H Q E q => q.1) fun cdv A outer s H vs Q E hr q => ?_
  obtain ⟨hl, Z, ds, r, q⟩ := q
  have hpl : ps.length ≤ N.length := by have := congrArg List.length S.pre; rw [List.length_take] at this; omega
  have hd : ds.length = ps.length := r.length.trans hl
  let X : Cx := cxOf (L2.CX P w) P w K mg base N qual scope f cdv A outer s H E
  have G : GoodS (FnT P w K mg base k) (TgT K mg) (ExT K mg) X (fun cls d _ H' => E cls d H') :=
    ⟨⟨S.nd, (by have := hr.un; show (A.deeper _).units + 65 < cLine; omega), fun _ => rfl, fun _ g hg => (by
        obtain ⟨fa, fd', ps', ds', a1, a2, a3, a4, a5, a6⟩ := hg.ex
        exact ⟨⟨k, fa, fd', ps', ds', a1, hr, a2, a3, a4, a5, a6⟩, hg.dfl⟩), M.blt, M.oth, M.xk, fun n m g => g.2 rfl, fun n d g e => g.1 e⟩,
      takes_of rfl rfl rfl rfl, passes_of rfl, rfl, rfl, fun _ => rfl, S.kind, fun k' hk => let ⟨C, m, e⟩ := hk; ⟨C, m, ⟨e.xin, e.kin, e.sub, e.ty⟩⟩, M.exm⟩
  refine ⟨_, pssP b (X := X) (H0 := H) (Gp := fun a => Z a ∨ H a = none) (fr := fr) G hc h, ?_⟩
  refine ⟨ds.map .v ++ List.replicate (N.length - ps.length) .n, start_er (c := cn X H fun a => Z a ∨ H a = none) rfl r hl hpl, ?_⟩
  unfold defR at q
  rw [if_pos ⟨hd, hpl⟩] at q
  cases e : exs (ds.map .v ++ List.replicate (N.length - ps.length) .n) b with
  | nx ρ' =>
    rw [e] at q
    exact fun σ' H' er _ => q _ H' er.sm .non fun _ es z => (by cases z)
  | rt d =>
    rw [e] at q
    exact fun v H' rt => q v H' rt.1 rt.2.1 rt.2.2
  | exc k' ρ' =>
    rw [e] at q
    exact fun σ' H' er _ C hk hm => q C H' hk hm er.sm
  | bk _ => rw [e] at q; exact q.elim
  | ct _ => rw [e] at q; exact q.elim
  | bad => rw [e] at q; exact q.elim
end
/-- a def as the top has made it -/
structure DefIn (K : PySem.W.Frag) (mg : Str → Option Value) (x : Str) (st : Stmt) (dvs : List V) : Prop where
  ex : ∃ (f : Addr) (fd : FuncData), mg x = some (.ref f) ∧ FunD K x x (defArgs st) (defBody st) (defScope st) dvs [] f fd
section
variable {P : Program} {w : World} {K : PySem.W.Frag} {mg : Str → Option Value} {base h : Heap} {x : Str} {st : Stmt} {dvs : List V} {N ps : List Str} {b : List St} {fr : Bool} {k : Nat} {dfl : List D}
theorem fnT_mk {name : String} (D0 : DefIn K mg (Str.ofString name) st dvs) (M : ModOk K mg) (S : FnScope N ps (defScope st))
    (hb : ∀ f fd, FunD K (Str.ofString name) (Str.ofString name) (defArgs st) (defBody st) (defScope st) dvs [] f fd → ∃ ds, Vals (dfl.map OL.valD) ds ∧ Binds K fd ps ds) (hs : dfl.all scalD = true)
    (hc : calSs (FnT P w K mg base k) (TgT K mg) (ExT K mg) b) (hk : ckSs N (defScope st) fr b (defBody st) = true) :
    FnT P w K mg base (k + 1) ⟨name, defR N.length ps.length b, fr, dfl⟩ := by
  obtain ⟨f, fd, a, F⟩ := D0.ex
  obtain ⟨ds, h1, h2⟩ := hb f fd F
  exact ⟨⟨f, fd, ps, ds, fn_ok F M S hc hk, a, F.kp, h2, h1, fun zs hz => defR_len hz⟩, hs⟩
end
/-! ### the facts of a module -/
open He in
def frees : List Str := ["len", "abs", "max", "min", "int", "str", "list", "tuple", "all", "any", "bool", "isinstance", "range", "enumerate", "zip", "reversed", "dict", "ValueError"]
def excNames : List String := ["LeashError", "NoRatio", "NoLine", "NoPlace", "NoWay", "NoWalk", "NoFence", "NoSquare", "NoLines", "NoText", "NoName", "Twice", "TooMany", "NoRow", "NoDeed"]
/-- what the top must say: no built-in is hidden, the errors that are there are errors and lie as they ought -/
def modFa (pres : List String) : List He.Fa := frees.map .free ++ (excNames.filter fun k => !pres.contains k).map (fun k => .free (Str.ofString k)) ++
  pres.flatMap (fun k => .glo (Str.ofString k) :: .exc (Str.ofString k) :: pres.map fun k' => .exm (Str.ofString k) (Str.ofString k') (subX k k'))
def dd (x : Str) (st : Stmt) (dfl : List He.Dv) : He.DefD := ⟨(x, none), x, x, defArgs st, defBody st, defScope st, dfl, []⟩
section
variable {K : PySem.W.Frag} {mg : Str → Option Value} {h : Heap} {fa : List He.Fa} {fn : List He.DefD} {pres : List String}
theorem say {f : He.Fa} (c : He.SaysD fa fn K) (m : f ∈ fa) : f.ok K = true := by
  have c1 := (He.ba (show ((fa.all fun f => f.ok K) && fn.all fun d => d.ok K) = true from congrArg (fun z : He.AlD => z.1) c)).1
  exact List.all_eq_true.mp c1 f m
theorem frees_mem : ∀ b : Blt, bltName b ∈ frees := by intro b; cases b <;> decide
theorem oth_mem' : ∀ x ∈ (othN.map fun x => (x : Str)), x ∈ frees := by decide +kernel
/-! the errors' classes told by the top -/
def tyL : List String := ["NoneType", "bool", "int", "str", "tuple", "list", "dict"]
def excB (K : PySem.W.Frag) (C : Addr) : Bool := decide (PySem.W.findIn K (.ref C) "__getattribute__" = some (some (.builtin "BaseException.__getattribute__"))) && (decide (PySem.W.findIn K (.ref C) "__getattr__" = some none) &&
  (decide (PySem.W.subIn K (.ref C) (.type "BaseException") = some true) && (PySem.W.hasDictIn K C && (decide (PySem.W.findIn K (.ref C) "__class__" = some (some (.builtin "object.__class__"))) &&
  (decide (PySem.W.specialIn K (.builtin "object.__class__") "__get__" = some (some (.builtin "getset_descriptor.__get__"))) && (decide (PySem.W.takesIn K (.builtin "object.__class__") = some true) && decide (PySem.W.mroIn K C (.type "object") = some true)))))))
theorem excB_ok {K : PySem.W.Frag} {C : Addr} (h : excB K C = true) : ExcC K C := by
  unfold excB at h
  simp only [Bool.and_eq_true, decide_eq_true_eq] at h
  exact ⟨h.1, h.2.1, h.2.2.1, h.2.2.2.1, h.2.2.2.2.1, h.2.2.2.2.2.1, h.2.2.2.2.2.2.1, h.2.2.2.2.2.2.2⟩
def tpAll (tups : List (String × List Int)) (K : PySem.W.Frag) : Bool := tups.all fun t => He.tupB K (Str.ofString t.1) (t.2.map He.Dv.int)
def exAll (pres : List String) (K : PySem.W.Frag) : Bool := pres.all fun k => excB K (He.ga K (Str.ofString k)) && (decide (PySem.W.kitOne K (.ref (He.ga K (Str.ofString k))) (.type "ValueError") = some true) &&
  ((tyL.all fun t => decide (PySem.W.kitOne K (.type t) (.ref (He.ga K (Str.ofString k))) = some false)) && pres.all fun k' => decide (PySem.W.kitOne K (.ref (He.ga K (Str.ofString k))) (.ref (He.ga K (Str.ofString k'))) = some (subX k k'))))
def obsX (pres : List String) (tups : List (String × List Int)) (fa : List He.Fa) (fn : List He.DefD) (K : PySem.W.Frag) : He.AlD := ((He.obsD fa fn K).1 && (exAll pres K && tpAll tups K), (He.obsD fa fn K).2)
def SaysX (pres : List String) (tups : List (String × List Int)) (fa : List He.Fa) (fn : List He.DefD) (K : PySem.W.Frag) : Prop := obsX pres tups fa fn K = He.valD fn
section
variable {pres : List String} {tups : List (String × List Int)} {fa : List He.Fa} {fn : List He.DefD} {K : PySem.W.Frag}
theorem SaysX.all (c : SaysX pres tups fa fn K) : ((He.obsD fa fn K).1 = true ∧ exAll pres K = true ∧ tpAll tups K = true) ∧ (He.obsD fa fn K).2 = (He.valD fn).2 := by
  have c' : obsX pres tups fa fn K = He.valD fn := c
  have h1 : (obsX pres tups fa fn K).1 = true := by rw [c']; rfl
  have h2 : (obsX pres tups fa fn K).2 = (He.valD fn).2 := by rw [c']
  have h3 : ((He.obsD fa fn K).1 && (exAll pres K && tpAll tups K)) = true := h1
  rw [Bool.and_eq_true, Bool.and_eq_true] at h3
  exact ⟨h3, h2⟩
theorem SaysX.d (c : SaysX pres tups fa fn K) : He.SaysD fa fn K := Prod.ext c.all.1.1 c.all.2
theorem SaysX.x (c : SaysX pres tups fa fn K) : exAll pres K = true := c.all.1.2.1
theorem SaysX.t (c : SaysX pres tups fa fn K) : tpAll tups K = true := c.all.1.2.2
end
def obsXG (n : Nat) (pres : List String) (tups : List (String × List Int)) (fa : List He.Fa) (fn : List He.DefD) (g : Addr → Option Obj) : He.AlD := obsX pres tups fa fn (He.frG g (He.asD g n))
def hookX (n : Nat) (pres : List String) (tups : List (String × List Int)) (fa : List He.Fa) (fn : List He.DefD) : PySem.W.Hook where
  α := He.AlD
  obs := fun s => obsXG n pres tups fa fn s.heap.get?
  val := fun _ => He.valD fn
  says := fun _ h => ∃ K : PySem.W.Frag, K.In h ∧ SaysX pres tups fa fn K
  of := fun _ _ e => ⟨_, He.frG_in, e⟩
  keeps := fun _ _ _ ⟨K, hK, c⟩ k => ⟨K, PySem.W.Frag.In.keeps hK k, c⟩
theorem obsXG_eq {n : Nat} {pres : List String} {tups : List (String × List Int)} {fa : List He.Fa} {fn : List He.DefD} {g : Addr → Option Obj} {s : Shared} (h : ∀ a, g a = s.heap.get? a) : obsXG n pres tups fa fn g = (hookX n pres tups fa fn).obs s := by
  have e : g = s.heap.get? := funext h
  rw [e] <;> rfl
theorem modOk (c : He.SaysD fa fn K) (cx : exAll pres K = true) (hs : ∀ f ∈ modFa pres, f ∈ fa) (X : K.In h) (G : h.Ns mainGlobals mg) : ModOk K mg := by
  have fr : ∀ x ∈ frees, mg x = none := fun x hx => He.free_ok X G (say c (hs _ (List.mem_append_left _ (List.mem_append_left _ (List.mem_map.mpr ⟨x, hx, rfl⟩)))))
  have pr : ∀ k, isExc k = true → ∀ C, mg (Str.ofString k) = some (.ref C) → k ∈ pres ∧ C = He.ga K (Str.ofString k) := fun k hk C hC => by
    have hk : k ∈ excNames := by
      unfold isExc at hk
      rw [List.contains_iff_mem] at hk
      exact hk
    by_cases hp : k ∈ pres
    · refine ⟨hp, ?_⟩
      have e := He.glo_ok X G (say c (hs (.glo (Str.ofString k)) (List.mem_append_right _ (List.mem_flatMap.mpr ⟨k, hp, List.mem_cons_self⟩))))
      rw [hC] at e
      cases e
      rfl
    · have e := He.free_ok X G (say c (hs (.free (Str.ofString k)) (List.mem_append_left _ (List.mem_append_right _ (List.mem_map.mpr ⟨k, List.mem_filter.mpr ⟨hk, by simpa using hp⟩, rfl⟩)))))
      rw [hC] at e
      cases e
  have xs : ∀ k ∈ pres, excB K (He.ga K (Str.ofString k)) = true ∧ PySem.W.kitOne K (.ref (He.ga K (Str.ofString k))) (.type "ValueError") = some true ∧
      (∀ t ∈ tyL, PySem.W.kitOne K (.type t) (.ref (He.ga K (Str.ofString k))) = some false) ∧ ∀ k' ∈ pres, PySem.W.kitOne K (.ref (He.ga K (Str.ofString k))) (.ref (He.ga K (Str.ofString k'))) = some (subX k k') := fun k hk => by
    have h := List.all_eq_true.mp cx k hk
    simp only [Bool.and_eq_true, decide_eq_true_eq, List.all_eq_true] at h
    exact ⟨h.1, h.2.1, h.2.2.1, h.2.2.2⟩
  have xk : XKit K mg := ⟨fun k C hk m => by (obtain ⟨p, rfl⟩ := pr k hk C m; exact excB_ok (xs k p).1),
    fun k k' C C' hk hk' m m' => by (obtain ⟨p, rfl⟩ := pr k hk C m; obtain ⟨p', rfl⟩ := pr k' hk' C' m'; exact (xs k p).2.2.2 k' p'),
    fun k C hk m => by (obtain ⟨p, rfl⟩ := pr k hk C m; exact (xs k p).2.1),
    fun t ht k C hk m => by (obtain ⟨p, rfl⟩ := pr k hk C m; exact (xs k p).2.2.1 t ht)⟩
  refine ⟨xk, fun b => fr _ (frees_mem b), fun x hx => fr _ (oth_mem' x hx), fun k k' C C' hk hk' m m' => ?_⟩
  obtain ⟨p, rfl⟩ := pr k hk C m
  obtain ⟨p', rfl⟩ := pr k' hk' C' m'
  exact He.exm_ok (say c (hs _ (List.mem_append_right _ (List.mem_flatMap.mpr ⟨k, p, List.mem_cons_of_mem _ (List.mem_cons_of_mem _ (List.mem_map.mpr ⟨k', p', rfl⟩))⟩))))
theorem exT (c : He.SaysD fa fn K) (hs : ∀ f ∈ modFa pres, f ∈ fa) (X : K.In h) (G : h.Ns mainGlobals mg) {k : String} (hp : k ∈ pres) : ExT K mg k := by
  have e := He.glo_ok X G (say c (hs (.glo (Str.ofString k)) (List.mem_append_right _ (List.mem_flatMap.mpr ⟨k, hp, List.mem_cons_self⟩))))
  obtain ⟨a1, a2, a3, a4⟩ := He.exc_ok (say c (hs (.exc (Str.ofString k)) (List.mem_append_right _ (List.mem_flatMap.mpr ⟨k, hp, List.mem_cons_of_mem _ List.mem_cons_self⟩))))
  exact ⟨_, e, a1, a2, a3, a4⟩
theorem glT_int (c : He.SaysD fa fn K) (X : K.In h) (G : h.Ns mainGlobals mg) {n : String} {i : Int} (m : .int (Str.ofString n) i ∈ fa) : GlT K mg n (.int i) :=
  let ⟨t, e⟩ := He.int_ok X G (say c m)
  ⟨_, .int i, e, ⟨t, rfl⟩, fun _ _ => .int i⟩
theorem rpa_ints {K : PySem.W.Frag} {mg : Str → Option Value} {H : Hp} {Z : Addr → Prop} : ∀ is : List Int, RpA K mg H Z (is.map .int) ((is.map He.Dv.int).map (He.Dv.v K))
  | [] => .nil
  | i :: is => .cons (.int i) (rpa_ints is)
theorem glT_tup (c : He.SaysD fa fn K) (X : K.In h) (G : h.Ns mainGlobals mg) {tups : List (String × List Int)} (ct : tpAll tups K = true) {n : String} {is : List Int} (m : .glo (Str.ofString n) ∈ fa) (mt : (n, is) ∈ tups) : GlT K mg n (.tup (is.map .int)) :=
  have t := List.all_eq_true.mp ct _ mt
  ⟨_, .ref (He.ga K (Str.ofString n)), He.glo_ok X G (say c m), rfl, fun H Z => .tup (He.tupB_ok t H) (rpa_ints is)⟩
theorem glT_str (c : He.SaysD fa fn K) (X : K.In h) (G : h.Ns mainGlobals mg) {n : String} {z : Str} (m : .str (Str.ofString n) z ∈ fa) : GlT K mg n (.str z) :=
  let ⟨t, e⟩ := He.str_ok X G (say c m)
  ⟨_, .str z, e, ⟨t, rfl⟩, fun _ _ => .str z⟩
theorem defIn (c : He.SaysD fa fn K) (X : K.In h) (G : h.Ns mainGlobals mg) (i : Nat) {x : Str} {st : Stmt} {dfl : List He.Dv} (hd : fn[i]? = some (dd x st dfl)) (m : .glo x ∈ fa) : DefIn K mg x st (dfl.map (He.Dv.v K)) :=
  let ⟨fd, F⟩ := c.def_ i hd
  ⟨⟨_, fd, He.glo_ok X G (say c m), F⟩⟩
end
/-! ### the law -/
def spLaw (K : PySem.W.Frag) : Sp := fun vs H Q _ => ∃ (a : Addr) (ns : List Int), vs = [.ref a] ∧ ScA K H a (ns.map V.int) ∧ ns.length ≤ 63 ∧ ∀ H', Q (.bl true) H'
theorem law_fn {P : Program} {w : World} {K : PySem.W.Frag} {mg : Str → Option Value} {base : Heap} {CX : CXT} {k : Nat} {f : Addr} {fd : FuncData} {ps : List Str} {F : List D → R D} {fr : Bool} {n : Nat} (hn : n = 1)
    (h : FnOk P w K mg base CX k f fd ps (spF K mg F fr n)) (hF : ∀ ns : List Int, ns.length ≤ 63 → F [.scr ns] = .ok (.bl true)) : FnOk P w K mg base CX k f fd ps (spLaw K) :=
  h.imp fun vs H Q E ⟨a, ns, e1, e2, e3, q⟩ => by
    subst e1 hn
    refine ⟨rfl, fun _ => False, [.scr ns], .cons (.scr e2) .nil, ?_⟩
    rw [hF ns e3]
    intro v H' _ r _
    cases r
    exact q H'
theorem walk {l : PySem.W.OpenLaw} {q : Program} {loose : List Str} {XP : (Str → Option Value) → Heap → Prop} {YP : World → Heap → Prop} {d : DefRec} {k : Nat} {F : List D → R D}
    (hF : ∀ ns : List Int, ns.length ≤ 63 → F [.scr ns] = .ok (.bl true))
    (hn : l.most = some 63) (hdf : d.params.defaults = []) (hr : Room k callerA)
    (G : ∀ (w : World) (mg : Str → Option Value) (fa : Addr) (h : Heap), YP w h → h.Ns mainGlobals mg → mg d.name = some (.ref fa) →
      ∃ (K : PySem.W.Frag) (fd : FuncData), K.In h ∧ (∀ (s : Shared) (u : Value), BindsTo s fd ⟨[u], []⟩ [("script", u)]) ∧ ∀ base : Heap, K.In base → base.Ns mainGlobals mg → FnOk l.prog w K mg base (L2.CX l.prog w) k fa fd ["script"] (spF K mg F false 1)) :
    PySem.W.WalkO q loose XP YP l.row.toRowW d [] (fun f vs => PySem.call f vs) := by
  refine Att.attach_call hn hdf fun w s₀ s₁ mg mb fa o pm cd doc a vs ns Gt Y ho hd hcd hmg hobj hints hlen hg => ?_
  obtain ⟨K, fd, KX, hb, hG⟩ := G w mg fa _ Y Gt.T.g hmg
  refine law_call KX Gt.T.g Gt.T.b Gt.T.builtins Gt.T.nolimit hg hobj hints (Nat.le_trans hlen (by decide)) hr (fun base p q => law_fn (F := F) rfl (hG base p q) hF) hb (fun H hO hS => ⟨a, ns, rfl, ?_, hlen, fun _ => rfl⟩) fun H e s' ⟨_, _, _, _, _, _, _, _, _, _, _, _, z⟩ => z
  rcases hS with (e | e) | e
  · rcases hO a with z | ⟨o, xs, z⟩
    · rw [z] at e; cases e
    · rw [z] at e; cases e
  · exact .inl e
  · exact .inr e
end OL
/-! Reckoning with the small language's texts: loops, plain words. -/
namespace OL
open PySem PySem.Spec PyProof.Rows L2
/-! ### while -/
section
variable {t : En → R Bool} {b : En → O} {ρ ρ' : En}
theorem wrun_mono {o : O} : ∀ {n : Nat} {ρ : En}, wrun t b n ρ = some o → ∀ m, n ≤ m → wrun t b m ρ = some o
  | 0, ρ, h, m, _ => by unfold wrun at h; cases h
  | n + 1, ρ, h, 0, hm => absurd hm (by omega)
  | n + 1, ρ, h, m + 1, hm => by
    unfold wrun at h ⊢
    cases e : t ρ with
    | ok c =>
      rw [e] at h
      cases c with
      | true =>
        cases e2 : b ρ with
        | nx r => rw [e2] at h; exact wrun_mono (n := n) h m (by omega)
        | ct r => rw [e2] at h; exact wrun_mono (n := n) h m (by omega)
        | bk r => rw [e2] at h; exact h
        | rt d => rw [e2] at h; exact h
        | exc c r => rw [e2] at h; exact h
        | bad => rw [e2] at h; exact h
      | false => exact h
    | exc c => rw [e] at h; exact h
    | bad => rw [e] at h; exact h
theorem wrun_det {n m : Nat} {o o' : O} (h : wrun t b n ρ = some o) (h' : wrun t b m ρ = some o') : o = o' := by
  have a := wrun_mono h (max n m) (Nat.le_max_left ..)
  have c := wrun_mono h' (max n m) (Nat.le_max_right ..)
  rw [a] at c
  exact Option.some.inj c
theorem whileO_of {n : Nat} {o : O} (h : wrun t b n ρ = some o) : whileO t b ρ = o := by
  unfold whileO
  have hx : ∃ (n : Nat) (o : O), wrun t b n ρ = some o := ⟨n, o, h⟩
  rw [dif_pos hx]
  exact wrun_det (Classical.choose_spec hx).choose_spec h
theorem whileO_stop (h : t ρ = .ok false) : whileO t b ρ = .nx ρ := whileO_of (n := 1) (by unfold wrun; rw [h])
theorem whileO_nx (h : t ρ = .ok true) (hb : b ρ = .nx ρ') : whileO t b ρ = whileO t b ρ' := by
  have st : ∀ n, wrun t b (n + 1) ρ = wrun t b n ρ' := fun n => by
    conv => lhs; unfold wrun
    rw [h]
    show (match b ρ with | .nx ρ' => wrun t b n ρ' | .ct ρ' => wrun t b n ρ' | .bk ρ' => some (.nx ρ') | o => some o) = _
    rw [hb]
  by_cases hx : ∃ (n : Nat) (o : O), wrun t b n ρ' = some o
  · obtain ⟨n, o, e⟩ := hx
    rw [whileO_of e, whileO_of (n := n + 1) (by rw [st]; exact e)]
  · have hy : ¬ ∃ (n : Nat) (o : O), wrun t b n ρ = some o := fun ⟨n, o, e⟩ => hx ⟨n, o, by rw [← st]; exact wrun_mono e _ (by omega)⟩
    unfold whileO
    rw [dif_neg hx, dif_neg hy]
theorem whileO_ct (h : t ρ = .ok true) (hb : b ρ = .ct ρ') : whileO t b ρ = whileO t b ρ' := by
  have st : ∀ n, wrun t b (n + 1) ρ = wrun t b n ρ' := fun n => by
    conv => lhs; unfold wrun
    rw [h]
    show (match b ρ with | .nx ρ' => wrun t b n ρ' | .ct ρ' => wrun t b n ρ' | .bk ρ' => some (.nx ρ') | o => some o) = _
    rw [hb]
  by_cases hx : ∃ (n : Nat) (o : O), wrun t b n ρ' = some o
  · obtain ⟨n, o, e⟩ := hx
    rw [whileO_of e, whileO_of (n := n + 1) (by rw [st]; exact e)]
  · have hy : ¬ ∃ (n : Nat) (o : O), wrun t b n ρ = some o := fun ⟨n, o, e⟩ => hx ⟨n, o, by rw [← st]; exact wrun_mono e _ (by omega)⟩
    unfold whileO
    rw [dif_neg hx, dif_neg hy]
theorem whileO_bk (h : t ρ = .ok true) (hb : b ρ = .bk ρ') : whileO t b ρ = .nx ρ' := whileO_of (n := 1) (by unfold wrun; rw [h]; show (match b ρ with | .nx ρ' => wrun t b 0 ρ' | .ct ρ' => wrun t b 0 ρ' | .bk ρ' => some (.nx ρ') | o => some o) = _; rw [hb])
theorem whileO_rt {d : D} (h : t ρ = .ok true) (hb : b ρ = .rt d) : whileO t b ρ = .rt d := whileO_of (n := 1) (by unfold wrun; rw [h]; show (match b ρ with | .nx ρ' => wrun t b 0 ρ' | .ct ρ' => wrun t b 0 ρ' | .bk ρ' => some (.nx ρ') | o => some o) = _; rw [hb])
theorem whileO_exc {k : String} (h : t ρ = .ok true) (hb : b ρ = .exc k ρ') : whileO t b ρ = .exc k ρ' := whileO_of (n := 1) (by unfold wrun; rw [h]; show (match b ρ with | .nx ρ' => wrun t b 0 ρ' | .ct ρ' => wrun t b 0 ρ' | .bk ρ' => some (.nx ρ') | o => some o) = _; rw [hb])
end
/-- a loop that keeps I -/
theorem forO_keep {b : D → En → O} (I : En → Prop) : ∀ {ds : List D} {ρ : En}, (∀ d ∈ ds, ∀ ρ, I ρ → ∃ ρ', b d ρ = .nx ρ' ∧ I ρ') → I ρ → ∃ ρ', forO b ds ρ = .nx ρ' ∧ I ρ'
  | [], ρ, _, i => ⟨ρ, rfl, i⟩
  | d :: ds, ρ, h, i => by
    obtain ⟨ρ1, e, i1⟩ := h d List.mem_cons_self ρ i
    obtain ⟨ρ2, e2, i2⟩ := forO_keep I (fun x hx => h x (List.mem_cons_of_mem _ hx)) i1
    exact ⟨ρ2, by unfold forO; rw [e]; exact e2, i2⟩
/-- a loop with an invariant by the turn -/
theorem forO_inv {b : D → En → O} (I : List D → En → Prop) : ∀ {ds : List D} {ρ : En}, (∀ d r ρ, I (d :: r) ρ → ∃ ρ', b d ρ = .nx ρ' ∧ I r ρ') → I ds ρ → ∃ ρ', forO b ds ρ = .nx ρ' ∧ I [] ρ'
  | [], ρ, _, i => ⟨ρ, rfl, i⟩
  | d :: ds, ρ, h, i => by
    obtain ⟨ρ1, e, i1⟩ := h d ds ρ i
    obtain ⟨ρ2, e2, i2⟩ := forO_inv I h i1
    exact ⟨ρ2, by unfold forO; rw [e]; exact e2, i2⟩
/-! ### words that stay folded: simp looks at their first part alone -/
@[reducible] def K0 {γ : Type} (_ : γ) (τ : Type) : Type := τ
@[reducible] def KP {γ : Type} (_ : γ) : Type := Prop
def rb {α β : Type} (r : R α) (f : α → R β) : K0 f (R β) := R.bind r f
section
variable {α β : Type} {f : α → R β}
@[simp] theorem rb_ok (a : α) : rb (.ok a) f = f a := rfl
@[simp] theorem rb_exc (k : String) : rb (.exc k) f = .exc k := rfl
@[simp] theorem rb_bad : rb .bad f = .bad := rfl
theorem rb_eq (r : R α) (f : α → R β) : rb r f = R.bind r f := rfl
end
def oo {α : Type} (ρ : En) (r : R α) (f : α → O) : K0 f O := O.of ρ r f
def sq (o : O) (k : En → O) : K0 k O := match o with | .nx ρ => k ρ | o => o
section
variable {ρ : En} {k : En → O}
@[simp] theorem sq_nx : sq (.nx ρ) k = k ρ := rfl
@[simp] theorem sq_rt (d : D) : sq (.rt d) k = .rt d := rfl
@[simp] theorem sq_bk : sq (.bk ρ) k = .bk ρ := rfl
@[simp] theorem sq_ct : sq (.ct ρ) k = .ct ρ := rfl
@[simp] theorem sq_exc (c : String) : sq (.exc c ρ) k = .exc c ρ := rfl
@[simp] theorem sq_bad : sq .bad k = .bad := rfl
theorem ofo_ok {α : Type} (a : α) (f : α → O) : O.of ρ (.ok a) f = f a := rfl
theorem sq_nil (o : O) : sq o (fun ρ => .nx ρ) = o := by cases o <;> rfl
theorem sq_sq (o : O) (f g : En → O) : sq (sq o f) g = sq o fun ρ => sq (f ρ) g := by cases o <;> rfl
end
def ifO (b : Bool) (x y : O) : K0 x (K0 y O) := if b then x else y
@[simp] theorem ifO_t (x y : O) : ifO true x y = x := rfl
@[simp] theorem ifO_f (x y : O) : ifO false x y = y := rfl
def ifR {α : Type} (b : Bool) (x y : R α) : K0 x (K0 y (R α)) := if b then x else y
@[simp] theorem ifR_t {α : Type} (x y : R α) : ifR true x y = x := rfl
@[simp] theorem ifR_f {α : Type} (x y : R α) : ifR false x y = y := rfl
def truR (d : D) : R Bool := match truD d with | some b => .ok b | none => .bad
@[simp] theorem truR_bl (b : Bool) : truR (.bl b) = .ok b := rfl
@[simp] theorem truR_int (i : Int) : truR (.int i) = .ok (decide (i ≠ 0)) := by
  show R.ok (i != 0) = _
  congr 1
  by_cases h : i = 0 <;> simp [h]
@[simp] theorem truR_lst (xs : List D) : truR (.lst xs) = .ok (!xs.isEmpty) := rfl
@[simp] theorem truR_non : truR .non = .ok false := rfl
theorem tst_def (ρ : En) (x : Ex) : tst ρ x = rb (ev ρ x) truR := rfl
def andR (d : D) (r : R D) : K0 r (R D) := match d with | .bl true => r | .bl false => .ok (.bl false) | _ => .bad
@[simp] theorem andR_t (r : R D) : andR (.bl true) r = r := rfl
@[simp] theorem andR_f (r : R D) : andR (.bl false) r = .ok (.bl false) := rfl
def orR (d : D) (r : R D) : K0 r (R D) := match d with | .bl true => .ok (.bl true) | .bl false => r | _ => .bad
@[simp] theorem orR_t (r : R D) : orR (.bl true) r = .ok (.bl true) := rfl
@[simp] theorem orR_f (r : R D) : orR (.bl false) r = r := rfl
/-! ### loops -/
noncomputable def wlO (c : Ex) (b : List St) (ρ : En) : K0 c (K0 b O) := whileO (fun ρ => tst ρ c) (fun ρ => exs ρ b) ρ
noncomputable def foO (t : Tg) (b : List St) (ds : List D) (ρ : En) : K0 t (K0 b O) := forO (fun d ρ => .of ρ (setT t d ρ) fun ρ' => exs ρ' b) ds ρ
section
variable {ρ ρ' : En} {c : Ex} {b : List St} {d : D} {k : String}
theorem wl_stop (h : tst ρ c = .ok false) : wlO c b ρ = .nx ρ := whileO_stop h
theorem wl_nx (h : tst ρ c = .ok true) (hb : exs ρ b = .nx ρ') : wlO c b ρ = wlO c b ρ' := whileO_nx h hb
theorem wl_ct (h : tst ρ c = .ok true) (hb : exs ρ b = .ct ρ') : wlO c b ρ = wlO c b ρ' := whileO_ct h hb
theorem wl_bk (h : tst ρ c = .ok true) (hb : exs ρ b = .bk ρ') : wlO c b ρ = .nx ρ' := whileO_bk h hb
theorem wl_rt (h : tst ρ c = .ok true) (hb : exs ρ b = .rt d) : wlO c b ρ = .rt d := whileO_rt h hb
theorem wl_exc (h : tst ρ c = .ok true) (hb : exs ρ b = .exc k ρ') : wlO c b ρ = .exc k ρ' := whileO_exc h hb
end
section
variable {t : Tg} {b : List St} {d : D} {ds : List D} {ρ ρ' ρ1 : En} {k : String}
theorem fo_nil : foO t b [] ρ = .nx ρ := rfl
def lq (o : O) (k : En → O) : K0 k O := match o with | .nx ρ => k ρ | .ct ρ => k ρ | .bk ρ => .nx ρ | o => o
@[simp] theorem lq_nx {k : En → O} : lq (.nx ρ) k = k ρ := rfl
@[simp] theorem lq_ct {k : En → O} : lq (.ct ρ) k = k ρ := rfl
@[simp] theorem lq_bk {k : En → O} : lq (.bk ρ) k = .nx ρ := rfl
@[simp] theorem lq_rt {k : En → O} (d : D) : lq (.rt d) k = .rt d := rfl
@[simp] theorem lq_exc {k : En → O} (c : String) : lq (.exc c ρ) k = .exc c ρ := rfl
@[simp] theorem lq_bad {k : En → O} : lq .bad k = .bad := rfl
theorem fo_cons : foO t b (d :: ds) ρ = lq (oo ρ (setT t d ρ) fun ρ' => exs ρ' b) fun ρ' => foO t b ds ρ' := by
  (conv => lhs; unfold foO forO)
  unfold lq foO oo
  split <;> simp_all
theorem fo_nx (h : setT t d ρ = .ok ρ1) (hb : exs ρ1 b = .nx ρ') : foO t b (d :: ds) ρ = foO t b ds ρ' := by
  rw [fo_cons, h]; show lq (exs ρ1 b) _ = _; rw [hb]; rfl
theorem fo_ct (h : setT t d ρ = .ok ρ1) (hb : exs ρ1 b = .ct ρ') : foO t b (d :: ds) ρ = foO t b ds ρ' := by
  rw [fo_cons, h]; show lq (exs ρ1 b) _ = _; rw [hb]; rfl
theorem fo_rt {e : D} (h : setT t d ρ = .ok ρ1) (hb : exs ρ1 b = .rt e) : foO t b (d :: ds) ρ = .rt e := by
  rw [fo_cons, h]; show lq (exs ρ1 b) _ = _; rw [hb]; rfl
theorem fo_bk (h : setT t d ρ = .ok ρ1) (hb : exs ρ1 b = .bk ρ') : foO t b (d :: ds) ρ = .nx ρ' := by
  rw [fo_cons, h]; show lq (exs ρ1 b) _ = _; rw [hb]; rfl
theorem fo_exc (h : setT t d ρ = .ok ρ1) (hb : exs ρ1 b = .exc k ρ') : foO t b (d :: ds) ρ = .exc k ρ' := by
  rw [fo_cons, h]; show lq (exs ρ1 b) _ = _; rw [hb]; rfl
/-- a loop with an invariant by what is still to come -/
theorem fo_inv (I : List D → En → Prop) : ∀ {ds : List D} {ρ : En}, I ds ρ → (∀ d r ρ, I (d :: r) ρ → ∃ ρ1 ρ', setT t d ρ = .ok ρ1 ∧ exs ρ1 b = .nx ρ' ∧ I r ρ') → ∃ ρ', foO t b ds ρ = .nx ρ' ∧ I [] ρ'
  | [], ρ, i, _ => ⟨ρ, rfl, i⟩
  | d :: ds, ρ, i, h => by
    obtain ⟨ρ1, ρ2, e, e1, i1⟩ := h d ds ρ i
    obtain ⟨ρ3, e3, i3⟩ := fo_inv I i1 h
    exact ⟨ρ3, by rw [fo_nx e e1]; exact e3, i3⟩
end
/-! ### ends -/
structure PC where
  N : En → Prop := fun _ => False
  R : D → Prop := fun _ => False
  B : En → Prop := fun _ => False
  C : En → Prop := fun _ => False
  X : String → En → Prop := fun _ _ => False
def isP (o : O) (p : PC) : Prop := match o with
  | .nx ρ => p.N ρ | .rt d => p.R d | .bk ρ => p.B ρ | .ct ρ => p.C ρ | .exc c ρ => p.X c ρ | .bad => False
def O.is (o : O) (p : PC) : KP p := isP o p
/-- (the sort in sight) -/
def Pr (p : Prop) : Prop := p
section
variable {p : PC} {ρ : En}
@[simp] theorem is_nx : Pr ((O.nx ρ).is p) = p.N ρ := rfl
@[simp] theorem is_rt (d : D) : Pr ((O.rt d).is p) = p.R d := rfl
@[simp] theorem is_bk : Pr ((O.bk ρ).is p) = p.B ρ := rfl
@[simp] theorem is_ct : Pr ((O.ct ρ).is p) = p.C ρ := rfl
@[simp] theorem is_exc (c : String) : Pr ((O.exc c ρ).is p) = p.X c ρ := rfl
@[simp] theorem is_bad : Pr (O.bad.is p) = False := rfl
theorem is_mono {o : O} {p q : PC} (h : Pr (o.is p)) (n : ∀ ρ, p.N ρ → q.N ρ) (r : ∀ d, p.R d → q.R d) (b : ∀ ρ, p.B ρ → q.B ρ) (c : ∀ ρ, p.C ρ → q.C ρ) (x : ∀ k ρ, p.X k ρ → q.X k ρ) : Pr (o.is q) := by
  cases o
  · exact n _ h
  · exact r _ h
  · exact b _ h
  · exact c _ h
  · exact x _ _ h
  · exact h
theorem sq_is {o : O} {k : En → O} (h : Pr (o.is { p with N := fun ρ => Pr ((k ρ).is p) })) : Pr ((sq o k).is p) := by cases o <;> exact h
theorem end_is {o : O} {v : D} (h : Pr (o.is { N := fun _ => v = .non, R := fun d => d = v })) : o.end = .ok v := by
  cases o
  · have h : v = .non := h
    rw [h]; rfl
  · have h : _ = v := h
    rw [← h]; rfl
  all_goals exact h.elim
theorem end_ex {o : O} {P : D → Prop} (h : Pr (o.is { N := fun _ => P .non, R := P })) : ∃ v, o.end = .ok v ∧ P v := by
  cases o
  · exact ⟨_, rfl, h⟩
  · exact ⟨_, rfl, h⟩
  all_goals exact h.elim
theorem end_exc_is {o : O} {c : String} (h : Pr (o.is { X := fun k _ => k = c })) : o.end = .exc c := by
  cases o
  all_goals try exact h.elim
  have h : _ = c := h
  rw [← h]; rfl
theorem is_of {o : O} {v : D} (h : o = .rt v) (hp : p.R v) : Pr (o.is p) := by rw [h]; exact hp
end
section
variable {t : Tg} {b : List St} {p : PC}
theorem fo_is (I : List D → En → Prop) : ∀ {ds : List D} {ρ : En}, I ds ρ → (∀ d r ρ, I (d :: r) ρ → Pr ((oo ρ (setT t d ρ) fun ρ' => exs ρ' b).is { N := I r, C := I r, B := p.N, R := p.R, X := p.X })) → (∀ ρ, I [] ρ → p.N ρ) → (foO t b ds ρ).is p
  | [], ρ, i, _, z => z ρ i
  | d :: ds, ρ, i, h, z => by
    have g := h d ds ρ i
    rw [fo_cons]
    cases e : oo ρ (setT t d ρ) fun ρ' => exs ρ' b with
    | nx ρ' => rw [e] at g; exact fo_is I g h z
    | ct ρ' => rw [e] at g; exact fo_is I g h z
    | bk ρ' => rw [e] at g; exact g
    | rt d => rw [e] at g; exact g
    | exc c ρ' => rw [e] at g; exact g
    | bad => rw [e] at g; exact g
/-- a loop in a row of statements -/
theorem fo_sq {k : En → O} {ds : List D} {ρ : En} (I : List D → En → Prop) (h0 : I ds ρ)
    (hs : ∀ d r ρ, I (d :: r) ρ → Pr ((oo ρ (setT t d ρ) fun ρ' => exs ρ' b).is { N := I r, C := I r, B := fun ρ => Pr ((k ρ).is p), R := p.R, X := p.X })) (hk : ∀ ρ, I [] ρ → Pr ((k ρ).is p)) : Pr ((sq (foO t b ds ρ) k).is p) :=
  sq_is (fo_is I h0 hs hk)
theorem wl_is {c : Ex} {ρ : En} (I : Nat → En → Prop) {m : Nat} (h0 : I m ρ)
    (hs : ∀ m ρ, I m ρ → (tst ρ c = .ok false ∧ p.N ρ) ∨ (tst ρ c = .ok true ∧ Pr ((exs ρ b).is { N := fun ρ' => ∃ m', m' < m ∧ I m' ρ', C := fun ρ' => ∃ m', m' < m ∧ I m' ρ', B := p.N, R := p.R, X := p.X }))) : Pr ((wlO c b ρ).is p) := by
  induction m using Nat.strongRecOn generalizing ρ with
  | _ m ih =>
    rcases hs m ρ h0 with ⟨e, q⟩ | ⟨e, q⟩
    · rw [wl_stop e]; exact q
    · cases e2 : exs ρ b with
      | nx ρ' => rw [e2] at q; obtain ⟨m', l, i⟩ := q; rw [wl_nx e e2]; exact ih m' l i
      | ct ρ' => rw [e2] at q; obtain ⟨m', l, i⟩ := q; rw [wl_ct e e2]; exact ih m' l i
      | bk ρ' => rw [e2] at q; rw [wl_bk e e2]; exact q
      | rt d => rw [e2] at q; rw [wl_rt e e2]; exact q
      | exc k ρ' => rw [e2] at q; rw [wl_exc e e2]; exact q
      | bad => rw [e2] at q; exact q.elim
theorem wl_sq {c : Ex} {ρ : En} {k : En → O} (I : Nat → En → Prop) {m : Nat} (h0 : I m ρ)
    (hs : ∀ m ρ, I m ρ → (tst ρ c = .ok false ∧ Pr ((k ρ).is p)) ∨ (tst ρ c = .ok true ∧ Pr ((exs ρ b).is { N := fun ρ' => ∃ m', m' < m ∧ I m' ρ', C := fun ρ' => ∃ m', m' < m ∧ I m' ρ', B := fun ρ => Pr ((k ρ).is p), R := p.R, X := p.X }))) : Pr ((sq (wlO c b ρ) k).is p) :=
  sq_is (wl_is I h0 hs)
/-- a loop that finds the first of some data -/
theorem fo_first {C : D → Bool} {F : D → D} {ds : List D} {ρ : En} {k : En → O} (J : En → Prop) (h0 : J ρ)
    (hs : ∀ d ∈ ds, ∀ ρ, J ρ → Pr ((oo ρ (setT t d ρ) fun ρ' => exs ρ' b).is { N := fun ρ' => C d = false ∧ J ρ', C := fun ρ' => C d = false ∧ J ρ', R := fun r => C d = true ∧ r = F d }))
    (hr : ∀ d ∈ ds, C d = true → p.R (F d)) (hk : (∀ d ∈ ds, C d = false) → ∀ ρ, J ρ → Pr ((k ρ).is p)) : Pr ((sq (foO t b ds ρ) k).is p) := by
  refine fo_sq (fun r ρ => J ρ ∧ (∃ l, ds = l ++ r ∧ ∀ d ∈ l, C d = false)) ⟨h0, [], rfl, by simp⟩ (fun d r ρ ⟨j, l, e, hl⟩ => ?_) (fun ρ ⟨j, l, e, hl⟩ => hk (by rw [e, List.append_nil]; exact hl) ρ j)
  have hd : d ∈ ds := by rw [e]; simp
  have st : ∀ ρ', C d = false ∧ J ρ' → J ρ' ∧ ∃ l', ds = l' ++ r ∧ ∀ d ∈ l', C d = false := fun ρ' ⟨c, j⟩ => ⟨j, l ++ [d], by rw [e]; simp, fun x hx => (List.mem_append.mp hx).elim (hl x) fun z => by rw [List.mem_singleton.mp z]; exact c⟩
  exact is_mono (hs d hd ρ j) st (fun r ⟨c, er⟩ => by rw [er]; exact hr d hd c) (fun _ z => z.elim) st (fun _ _ z => z.elim)
end
section
variable {ρ : En}
@[simp] theorem of_ok' {α : Type} (a : α) (f : α → O) : oo ρ (.ok a) f = f a := rfl
@[simp] theorem of_exc' {α : Type} (k : String) (f : α → O) : oo ρ (.exc k : R α) f = .exc k ρ := rfl
@[simp] theorem of_bad' {α : Type} (f : α → O) : oo ρ (.bad : R α) f = .bad := rfl
@[simp ↓] theorem exs_nil : exs ρ [] = .nx ρ := by unfold exs; rfl
@[simp ↓] theorem exs_cons (s : St) (ss : List St) : exs ρ (s :: ss) = sq (exe ρ s) fun ρ' => exs ρ' ss := by
  (conv => lhs; unfold exs)
  cases exe ρ s <;> rfl
def ownR (d : D) (f : List D → O) : K0 f O := match d with | .lst ds => f ds | _ => .bad
@[simp] theorem ownR_l (ds : List D) (f : List D → O) : ownR (.lst ds) f = f ds := rfl
@[simp ↓] theorem exe_asgv (i : Nat) (x : Ex) : exe ρ (.asg i false x) = oo ρ (ev ρ x) fun d => setS ρ i (.v d) := by unfold exe; rfl
@[simp ↓] theorem exe_asgo (i : Nat) (x : Ex) : exe ρ (.asg i true x) = oo ρ (ev ρ x) fun d => ownR d fun ds => setS ρ i (.o ds) := by unfold exe; rfl
@[simp ↓] theorem exe_unp (ts : List Tg) (x : Ex) : exe ρ (.unp ts x) = oo ρ (ev ρ x) fun d => oo ρ (setT (.tp ts) d ρ) .nx := by unfold exe; rfl
@[simp ↓] theorem exe_par (i j : Nat) (x y : Ex) : exe ρ (.par i j x y) = oo ρ (ev ρ x) fun a => oo ρ (ev ρ y) fun b => sq (setS ρ i (.v a)) fun ρ1 => setS ρ1 j (.v b) := by
  unfold exe
  cases ev ρ x <;> try rfl
  cases ev ρ y <;> try rfl
  unfold setS
  simp only [ofo_ok, of_ok']
  split
  · rename_i h; rw [if_pos h.1, sq_nx, if_pos (by simpa using h.2)]
  · split
    · rename_i h h1; rw [sq_nx, if_neg (by simpa using fun z => h ⟨h1, z⟩)]
    · rfl
@[simp ↓] theorem exe_aug (i : Nat) (op : Op) (x : Ex) : exe ρ (.aug i op x) = oo ρ (getv ρ i) fun a => oo ρ (ev ρ x) fun b => oo ρ (augD op a b) fun d => setS ρ i (.v d) := by unfold exe; rfl
@[simp] theorem aug_add (i j : Int) : augD .add (.int i) (.int j) = .ok (.int (i + j)) := rfl
@[simp] theorem aug_sub (i j : Int) : augD .sub (.int i) (.int j) = .ok (.int (i - j)) := rfl
@[simp ↓] theorem exe_ret (x : Ex) : exe ρ (.ret x) = oo ρ (ev ρ x) .rt := by unfold exe; rfl
@[simp ↓] theorem exe_retN : exe ρ .retN = .rt .non := by unfold exe; rfl
@[simp ↓] theorem exe_exp (x : Ex) : exe ρ (.exp x) = oo ρ (ev ρ x) fun _ => .nx ρ := by unfold exe; rfl
@[simp ↓] theorem exe_app (i : Nat) (x : Ex) : exe ρ (.app i x) = oo ρ (getb ρ i) fun l => ownR l fun ds => oo ρ (ev ρ x) fun d => ifO (decide (ds.length < 16777216)) (setS ρ i (.o (ds ++ [d]))) .bad := by
  unfold exe ownL getb
  cases h : ρ[i]? with
  | none => rfl
  | some s =>
    cases s <;> try rfl
    simp only [of_ok', ownR_l]
    cases ev ρ x <;> try rfl
    have hi : i < ρ.length := (List.getElem?_eq_some_iff.mp h).1
    unfold ifO setS
    simp [hi, ofo_ok]
@[simp ↓] theorem exe_rev (i : Nat) : exe ρ (.rev i) = oo ρ (getb ρ i) fun l => ownR l fun ds => setS ρ i (.o ds.reverse) := by
  unfold exe ownL getb
  cases h : ρ[i]? with
  | none => rfl
  | some s =>
    cases s <;> try rfl
    have hi : i < ρ.length := (List.getElem?_eq_some_iff.mp h).1
    unfold setS
    simp [hi]
@[simp ↓] theorem exe_clr (i : Nat) : exe ρ (.clr i) = oo ρ (getb ρ i) fun l => ownR l fun _ => setS ρ i (.o []) := by
  unfold exe ownL getb
  cases h : ρ[i]? with
  | none => rfl
  | some s =>
    cases s <;> try rfl
    have hi : i < ρ.length := (List.getElem?_eq_some_iff.mp h).1
    unfold setS
    simp [hi]
@[simp ↓] theorem exe_ife (c : Ex) (a b : List St) : exe ρ (.ife c a b) = oo ρ (rb (ev ρ c) truR) fun t => ifO t (exs ρ a) (exs ρ b) := by (conv => lhs; unfold exe) <;> rfl
@[simp ↓] theorem exe_whl (c : Ex) (b : List St) : exe ρ (.whl c b) = wlO c b ρ := by unfold exe wlO; rfl
@[simp ↓] theorem exe_for (t : Tg) (it : Ex) (b : List St) : exe ρ (.for t it b) = oo ρ (rb (ev ρ it) itemsOf) fun ds => foO t b ds ρ := by unfold exe foO; rfl
@[simp ↓] theorem exe_rai (c : String) : exe ρ (.rai c) = .exc c ρ := by unfold exe; rfl
def triO (o : O) (c : String) (h : En → O) : K0 h O := match o with | .exc k ρ => ifO (subX k c) (noX (h ρ)) (.exc k ρ) | o => o
@[simp] theorem tri_nx {c : String} {h : En → O} : triO (.nx ρ) c h = .nx ρ := rfl
@[simp] theorem tri_rt {c : String} {h : En → O} (d : D) : triO (.rt d) c h = .rt d := rfl
@[simp] theorem tri_bk {c : String} {h : En → O} : triO (.bk ρ) c h = .bk ρ := rfl
@[simp] theorem tri_ct {c : String} {h : En → O} : triO (.ct ρ) c h = .ct ρ := rfl
@[simp] theorem tri_exc {c k : String} {h : En → O} : triO (.exc k ρ) c h = ifO (subX k c) (noX (h ρ)) (.exc k ρ) := rfl
@[simp] theorem tri_bad {c : String} {h : En → O} : triO .bad c h = .bad := rfl
@[simp ↓] theorem exe_tri (b : List St) (c : String) (h : List St) : exe ρ (.tri b c h) = triO (exs ρ b) c fun ρ' => exs ρ' h := by
  (conv => lhs; unfold exe)
  cases exs ρ b <;> rfl
def stR (ρ : En) (i : Nat) (s : Sl) : R En := match ρ[i]? with | some _ => .ok (ρ.set i s) | none => .bad
def tasO (o : O) (c : String) (i : Nat) (h : En → O) : K0 h O := match o with | .exc k ρ => ifO (subX k c) (oo ρ (stR ρ i (.v (.exc k))) fun ρ' => drO i (noX (h ρ'))) (.exc k ρ) | o => o
@[simp] theorem tas_nx {c : String} {i : Nat} {h : En → O} : tasO (.nx ρ) c i h = .nx ρ := rfl
@[simp] theorem tas_rt {c : String} {i : Nat} {h : En → O} (d : D) : tasO (.rt d) c i h = .rt d := rfl
@[simp] theorem tas_bk {c : String} {i : Nat} {h : En → O} : tasO (.bk ρ) c i h = .bk ρ := rfl
@[simp] theorem tas_ct {c : String} {i : Nat} {h : En → O} : tasO (.ct ρ) c i h = .ct ρ := rfl
@[simp] theorem tas_exc {c k : String} {i : Nat} {h : En → O} : tasO (.exc k ρ) c i h = ifO (subX k c) (oo ρ (stR ρ i (.v (.exc k))) fun ρ' => drO i (noX (h ρ'))) (.exc k ρ) := rfl
@[simp] theorem tas_bad {c : String} {i : Nat} {h : En → O} : tasO .bad c i h = .bad := rfl
@[simp ↓] theorem exe_tas (b : List St) (c : String) (i : Nat) (h : List St) : exe ρ (.tas b c i h) = tasO (exs ρ b) c i fun ρ' => exs ρ' h := by
  (conv => lhs; unfold exe)
  cases exs ρ b <;> try rfl
  rename_i k ρ'
  unfold tasO ifO
  by_cases hs : subX k c = true
  · simp only [hs, if_true]
    unfold stR
    by_cases hi : i < ρ'.length
    · rw [if_pos hi, List.getElem?_eq_getElem hi]; rfl
    · rw [if_neg hi, List.getElem?_eq_none (by omega)]; rfl
  · simp only [hs]; rfl
@[simp] theorem dr_rt {i : Nat} (d : D) : drO i (.rt d) = .rt d := rfl
@[simp] theorem dr_nx {i : Nat} : drO i (.nx ρ) = ifO (notOwn ρ i) (.nx (ρ.set i .n)) .bad := rfl
@[simp ↓] theorem exe_par3 (i j l : Nat) (x y z : Ex) : exe ρ (.par3 i j l x y z) = oo ρ (ev ρ x) fun a => oo ρ (ev ρ y) fun b => oo ρ (ev ρ z) fun c => sq (setS ρ i (.v a)) fun ρ1 => sq (setS ρ1 j (.v b)) fun ρ2 => setS ρ2 l (.v c) := by
  unfold exe
  cases ev ρ x <;> try rfl
  cases ev ρ y <;> try rfl
  cases ev ρ z <;> try rfl
  unfold setS
  simp only [ofo_ok, of_ok']
  by_cases h1 : i < ρ.length
  · by_cases h2 : j < ρ.length
    · by_cases h3 : l < ρ.length
      · simp [h1, h2, h3]
      · simp [h1, h2, h3]
    · simp [h1, h2]
  · simp [h1]
@[simp] theorem noX_nx : noX (.nx ρ) = .nx ρ := rfl
@[simp] theorem noX_rt (d : D) : noX (.rt d) = .rt d := rfl
@[simp ↓] theorem exe_frz (i : Nat) : exe ρ (.frz i) = oo ρ (getb ρ i) fun l => setS ρ i (.v l) := by
  unfold exe getb
  cases h : ρ[i]? with
  | none => rfl
  | some s =>
    cases s <;> try rfl
    have hi : i < ρ.length := (List.getElem?_eq_some_iff.mp h).1
    unfold setS
    simp [hi]
@[simp ↓] theorem exe_brk : exe ρ .brk = .bk ρ := by unfold exe; rfl
@[simp ↓] theorem exe_cnt : exe ρ .cnt = .ct ρ := by unfold exe; rfl
@[simp ↓] theorem exe_pas : exe ρ .pas = .nx ρ := by unfold exe; rfl
def stiR (ds : List D) (d : D) (kd : D) (f : List D → O) : K0 f O := match kd with
  | .int k => match ixN ds.length k with
    | some j => f (ds.set j d)
    | none => .bad
  | _ => .bad
@[simp ↓] theorem exe_sti (i : Nat) (k x : Ex) : exe ρ (.sti i k x) = oo ρ (ev ρ x) fun d => oo ρ (getb ρ i) fun l => ownR l fun ds => oo ρ (ev ρ k) fun kd => stiR ds d kd fun es => setS ρ i (.o es) := by
  unfold exe ownL getb
  cases ev ρ x <;> try rfl
  simp only [of_ok']
  cases h : ρ[i]? with
  | none => rfl
  | some s =>
    cases s <;> try rfl
    simp only [of_ok', ownR_l]
    cases ev ρ k <;> try rfl
    rename_i kd
    have hi : i < ρ.length := (List.getElem?_eq_some_iff.mp h).1
    unfold stiR setS
    simp only [ofo_ok, of_ok', hi, if_true]
    all_goals (cases kd <;> rfl)
end
section
variable {ρ : En}
def tupR (ds : List D) : R D := if ds.length ≤ 16777216 then .ok (.tup ds) else .bad
def lstR (ds : List D) : R D := if ds.length ≤ 16777216 then .ok (.lst ds) else .bad
@[simp] theorem tupR_0 : tupR [] = .ok (.tup []) := rfl
@[simp] theorem tupR_1 (a : D) : tupR [a] = .ok (.tup [a]) := rfl
@[simp] theorem tupR_2 (a b : D) : tupR [a, b] = .ok (.tup [a, b]) := rfl
@[simp] theorem tupR_3 (a b c : D) : tupR [a, b, c] = .ok (.tup [a, b, c]) := rfl
@[simp] theorem tupR_4 (a b c d : D) : tupR [a, b, c, d] = .ok (.tup [a, b, c, d]) := rfl
@[simp] theorem lstR_0 : lstR [] = .ok (.lst []) := rfl
@[simp] theorem lstR_1 (a : D) : lstR [a] = .ok (.lst [a]) := rfl
@[simp] theorem lstR_2 (a b : D) : lstR [a, b] = .ok (.lst [a, b]) := rfl
@[simp] theorem lstR_3 (a b c : D) : lstR [a, b, c] = .ok (.lst [a, b, c]) := rfl
@[simp] theorem lstR_4 (a b c d : D) : lstR [a, b, c, d] = .ok (.lst [a, b, c, d]) := rfl
theorem lstR_of {ds : List D} (h : ds.length ≤ 16777216) : lstR ds = .ok (.lst ds) := if_pos h
theorem tupR_of {ds : List D} (h : ds.length ≤ 16777216) : tupR ds = .ok (.tup ds) := if_pos h
@[simp] theorem lstR_n (a b c d e : D) (ds : List D) (h : ds.length ≤ 16000000) : lstR (a :: b :: c :: d :: e :: ds) = .ok (.lst (a :: b :: c :: d :: e :: ds)) := lstR_of (by simp only [List.length_cons]; omega)
@[simp] theorem tupR_n (a b c d e : D) (ds : List D) (h : ds.length ≤ 16000000) : tupR (a :: b :: c :: d :: e :: ds) = .ok (.tup (a :: b :: c :: d :: e :: ds)) := tupR_of (by simp only [List.length_cons]; omega)
@[simp ↓] theorem ev_var (i : Nat) : ev ρ (.var i) = getv ρ i := by unfold ev; rfl
@[simp ↓] theorem ev_bor (i : Nat) : ev ρ (.bor i) = getb ρ i := by unfold ev; rfl
@[simp ↓] theorem ev_lit (d : D) : ev ρ (.lit d) = .ok d := by unfold ev; rfl
@[simp ↓] theorem ev_glob (n : String) (d : D) : ev ρ (.glob n d) = .ok d := by unfold ev; rfl
@[simp ↓] theorem ev_tup (xs : List Ex) : ev ρ (.tup xs) = rb (evs ρ xs) tupR := by (conv => lhs; unfold ev) <;> rfl
@[simp ↓] theorem ev_lst (xs : List Ex) : ev ρ (.lst xs) = rb (evs ρ xs) lstR := by (conv => lhs; unfold ev) <;> rfl
@[simp ↓] theorem ev_bin (op : Op) (x y : Ex) : ev ρ (.bin op x y) = rb (ev ρ x) fun a => rb (ev ρ y) fun b => binD op a b := by (conv => lhs; unfold ev) <;> rfl
@[simp ↓] theorem ev_neg (x : Ex) : ev ρ (.neg x) = rb (ev ρ x) negD := by (conv => lhs; unfold ev) <;> rfl
@[simp ↓] theorem ev_cmp (op : Cp) (x y : Ex) : ev ρ (.cmp op x y) = rb (ev ρ x) fun a => rb (ev ρ y) fun b => cpD op a b := by (conv => lhs; unfold ev) <;> rfl
@[simp ↓] theorem ev_chain (op op' : Cp) (x y z : Ex) : ev ρ (.chain op op' x y z) = rb (ev ρ x) fun a => rb (ev ρ y) fun b => rb (cpD op a b) fun t => andR t (rb (ev ρ z) fun c => cpD op' b c) := by (conv => lhs; unfold ev) <;> rfl
@[simp ↓] theorem ev_and (xs : List Ex) : ev ρ (.and xs) = evAnd ρ xs := by (conv => lhs; unfold ev) <;> rfl
@[simp ↓] theorem ev_or (xs : List Ex) : ev ρ (.or xs) = evOr ρ xs := by (conv => lhs; unfold ev) <;> rfl
@[simp ↓] theorem ev_not (x : Ex) : ev ρ (.not x) = rb (rb (ev ρ x) truR) fun b => .ok (.bl (!b)) := by
  (conv => lhs; unfold ev)
  cases ev ρ x <;> try rfl
  simp only [rb_ok, truR]
  show (match truD _ with | some b => R.ok (D.bl (!b)) | none => .bad) = _
  cases truD _ <;> rfl
@[simp ↓] theorem ev_ite (c x y : Ex) : ev ρ (.ite c x y) = rb (rb (ev ρ c) truR) fun b => ifR b (ev ρ x) (ev ρ y) := by
  (conv => lhs; unfold ev)
  cases ev ρ c <;> try rfl
  simp only [rb_ok, truR]
  show (match truD _ with | some true => ev ρ x | some false => ev ρ y | none => .bad) = _
  cases truD _ with
  | none => rfl
  | some b => cases b <;> rfl
@[simp ↓] theorem ev_ix (x i : Ex) : ev ρ (.ix x i) = rb (ev ρ x) fun a => rb (ev ρ i) fun b => ixD a b := by (conv => lhs; unfold ev) <;> rfl
def optE (ρ : En) (x : Ex) : R (Option Int) := if isNop x then .ok none else (ev ρ x).bind optI
@[simp ↓] theorem optE_nop : optE ρ .nop = .ok none := rfl
@[simp] theorem optI_i (i : Int) : optI (.int i) = .ok (some i) := rfl
section
variable (i : Nat) (n : String) (d : D) (op : Op) (x y : Ex) (xs : List Ex) (b : Blt) (f : Fn) (fl : Bool)
@[simp ↓] theorem optE_var : optE ρ (.var i) = rb (ev ρ (.var i)) optI := rfl
@[simp ↓] theorem optE_lit : optE ρ (.lit d) = rb (ev ρ (.lit d)) optI := rfl
@[simp ↓] theorem optE_glob : optE ρ (.glob n d) = rb (ev ρ (.glob n d)) optI := rfl
@[simp ↓] theorem optE_bin : optE ρ (.bin op x y) = rb (ev ρ (.bin op x y)) optI := rfl
@[simp ↓] theorem optE_neg : optE ρ (.neg x) = rb (ev ρ (.neg x)) optI := rfl
@[simp ↓] theorem optE_ix : optE ρ (.ix x y) = rb (ev ρ (.ix x y)) optI := rfl
@[simp ↓] theorem optE_blt : optE ρ (.blt b xs) = rb (ev ρ (.blt b xs)) optI := rfl
@[simp ↓] theorem optE_call : optE ρ (.call f fl xs) = rb (ev ρ (.call f fl xs)) optI := rfl
end
@[simp ↓] theorem ev_sl (x lo hi : Ex) : ev ρ (.sl x lo hi) = rb (ev ρ x) fun a => rb (optE ρ lo) fun l => rb (optE ρ hi) fun h => slD a l h := by (conv => lhs; unfold ev) <;> rfl
def flR (fl : Bool) (d : D) : R D := if fl && !flat d then .bad else .ok d
@[simp] theorem flR_f (d : D) : flR false d = .ok d := rfl
@[simp] theorem flR_bl (fl : Bool) (b : Bool) : flR fl (.bl b) = .ok (.bl b) := by cases fl <;> rfl
@[simp] theorem flR_int (fl : Bool) (b : Int) : flR fl (.int b) = .ok (.int b) := by cases fl <;> rfl
@[simp] theorem flR_non (fl : Bool) : flR fl .non = .ok .non := by cases fl <;> rfl
@[simp ↓] theorem ev_call (f : Fn) (fl : Bool) (xs : List Ex) : ev ρ (.call f fl xs) = rb (evs ρ xs) fun ds => rb (f.run (ds ++ f.dfl)) (flR fl) := by (conv => lhs; unfold ev) <;> rfl
@[simp ↓] theorem ev_blt (b : Blt) (xs : List Ex) : ev ρ (.blt b xs) = rb (evs ρ xs) fun ds => bltD b ds := by (conv => lhs; unfold ev) <;> rfl
@[simp ↓] theorem ev_mth (m : Mth) (x : Ex) (xs : List Ex) : ev ρ (.mth m x xs) = rb (ev ρ x) fun d => rb (evs ρ xs) fun ds => mthD m d ds := by (conv => lhs; unfold ev) <;> rfl
@[simp ↓] theorem ev_isi (x : Ex) (cs : List String) : ev ρ (.isi x cs) = rb (ev ρ x) fun d => isiD d cs := by (conv => lhs; unfold ev) <;> rfl
@[simp ↓] theorem ev_isx (x : Ex) (cs : List String) : ev ρ (.isx x cs) = rb (ev ρ x) fun d => isxD d cs := by (conv => lhs; unfold ev) <;> rfl
@[simp ↓] theorem ev_rvl (x : Ex) : ev ρ (.rvl x) = rb (ev ρ x) rvlD := by (conv => lhs; unfold ev) <;> rfl
@[simp] theorem rvlD_l (xs : List D) : rvlD (.lst xs) = .ok (.lst xs.reverse) := rfl
@[simp] theorem isxD_e (k : String) (cs : List String) : isxD (.exc k) cs = .ok (.bl (cs.any (subY k))) := rfl
@[simp ↓] theorem ev_rng (xs : List Ex) : ev ρ (.rng xs) = rb (evs ρ xs) rngD := by (conv => lhs; unfold ev) <;> rfl
@[simp ↓] theorem evs_nil : evs ρ [] = .ok [] := by unfold evs; rfl
@[simp ↓] theorem evs_cons (x : Ex) (xs : List Ex) : evs ρ (x :: xs) = rb (ev ρ x) fun d => rb (evs ρ xs) fun ds => .ok (d :: ds) := by (conv => lhs; unfold evs) <;> rfl
@[simp ↓] theorem evAnd_1 (x : Ex) : evAnd ρ [x] = ev ρ x := by (conv => lhs; unfold evAnd) <;> rfl
@[simp ↓] theorem evAnd_2 (x y : Ex) (xs : List Ex) : evAnd ρ (x :: y :: xs) = rb (ev ρ x) fun d => andR d (evAnd ρ (y :: xs)) := by (conv => lhs; unfold evAnd) <;> rfl
@[simp ↓] theorem evOr_1 (x : Ex) : evOr ρ [x] = ev ρ x := by (conv => lhs; unfold evOr) <;> rfl
@[simp ↓] theorem evOr_2 (x y : Ex) (xs : List Ex) : evOr ρ (x :: y :: xs) = rb (ev ρ x) fun d => orR d (evOr ρ (y :: xs)) := by (conv => lhs; unfold evOr) <;> rfl
@[simp ↓] theorem tst_eq (x : Ex) : tst ρ x = rb (ev ρ x) truR := rfl
/-! the slots -/
section
variable (s s1 s2 s3 s4 : Sl) (d : D) (ds : List D) (n : Nat)
@[simp] theorem getv_0v : getv (.v d :: ρ) 0 = .ok d := rfl
@[simp] theorem getv_s : getv (s :: ρ) (n + 1) = getv ρ n := rfl
@[simp high] theorem getv_4 : getv (s1 :: s2 :: s3 :: s4 :: ρ) (n + 4) = getv ρ n := rfl
@[simp] theorem getb_0o : getb (.o ds :: ρ) 0 = .ok (.lst ds) := rfl
@[simp] theorem getb_s : getb (s :: ρ) (n + 1) = getb ρ n := rfl
@[simp high] theorem getb_4 : getb (s1 :: s2 :: s3 :: s4 :: ρ) (n + 4) = getb ρ n := rfl
@[simp] theorem stR_0 : stR (s :: ρ) 0 s1 = .ok (s1 :: ρ) := rfl
theorem stR_s : stR (s :: ρ) (n + 1) s1 = rb (stR ρ n s1) fun ρ' => .ok (s :: ρ') := by
  unfold stR
  simp only [List.getElem?_cons_succ, List.set_cons_succ]
  cases ρ[n]? <;> rfl
@[simp ↓] theorem setS_eq (i : Nat) (s : Sl) : setS ρ i s = oo ρ (stR ρ i s) .nx := by
  unfold setS stR
  by_cases h : i < ρ.length
  · rw [if_pos h, List.getElem?_eq_getElem h]; rfl
  · rw [if_neg h, List.getElem?_eq_none (by omega)]; rfl
@[simp ↓] theorem setT_nm (i : Nat) (d : D) : setT (.nm i) d ρ = stR ρ i (.v d) := by (conv => lhs; unfold setT) <;> rfl
@[simp ↓] theorem setT_tp (ts : List Tg) (ds : List D) : setT (.tp ts) (.tup ds) ρ = setTs ts ds ρ := by (conv => lhs; unfold setT) <;> rfl
@[simp ↓] theorem setT_tl (ts : List Tg) (ds : List D) : setT (.tp ts) (.lst ds) ρ = setTs ts ds ρ := by (conv => lhs; unfold setT) <;> rfl
@[simp ↓] theorem setTs_nil : setTs [] [] ρ = .ok ρ := by (conv => lhs; unfold setTs) <;> rfl
@[simp ↓] theorem setTs_cons (t : Tg) (ts : List Tg) (d : D) (ds : List D) : setTs (t :: ts) (d :: ds) ρ = rb (setT t d ρ) (setTs ts ds) := by (conv => lhs; unfold setTs) <;> rfl
end
end
@[simp] theorem stR_l1 {ρ : En} (s0 s1 t : Sl) : stR (s0 :: s1 :: ρ) 1 t = .ok (s0 :: t :: ρ) := rfl
@[simp] theorem stR_l2 {ρ : En} (s0 s1 s2 t : Sl) : stR (s0 :: s1 :: s2 :: ρ) 2 t = .ok (s0 :: s1 :: t :: ρ) := rfl
@[simp] theorem stR_l3 {ρ : En} (s0 s1 s2 s3 t : Sl) : stR (s0 :: s1 :: s2 :: s3 :: ρ) 3 t = .ok (s0 :: s1 :: s2 :: t :: ρ) := rfl
@[simp] theorem stR_l4 {ρ : En} (s0 s1 s2 s3 s4 t : Sl) : stR (s0 :: s1 :: s2 :: s3 :: s4 :: ρ) 4 t = .ok (s0 :: s1 :: s2 :: s3 :: t :: ρ) := rfl
@[simp] theorem stR_l5 {ρ : En} (s0 s1 s2 s3 s4 s5 t : Sl) : stR (s0 :: s1 :: s2 :: s3 :: s4 :: s5 :: ρ) 5 t = .ok (s0 :: s1 :: s2 :: s3 :: s4 :: t :: ρ) := rfl
@[simp] theorem stR_l6 {ρ : En} (s0 s1 s2 s3 s4 s5 s6 t : Sl) : stR (s0 :: s1 :: s2 :: s3 :: s4 :: s5 :: s6 :: ρ) 6 t = .ok (s0 :: s1 :: s2 :: s3 :: s4 :: s5 :: t :: ρ) := rfl
@[simp] theorem stR_l7 {ρ : En} (s0 s1 s2 s3 s4 s5 s6 s7 t : Sl) : stR (s0 :: s1 :: s2 :: s3 :: s4 :: s5 :: s6 :: s7 :: ρ) 7 t = .ok (s0 :: s1 :: s2 :: s3 :: s4 :: s5 :: s6 :: t :: ρ) := rfl
@[simp] theorem stR_l8 {ρ : En} (s0 s1 s2 s3 s4 s5 s6 s7 s8 t : Sl) : stR (s0 :: s1 :: s2 :: s3 :: s4 :: s5 :: s6 :: s7 :: s8 :: ρ) 8 t = .ok (s0 :: s1 :: s2 :: s3 :: s4 :: s5 :: s6 :: s7 :: t :: ρ) := rfl
@[simp] theorem stR_l9 {ρ : En} (s0 s1 s2 s3 s4 s5 s6 s7 s8 s9 t : Sl) : stR (s0 :: s1 :: s2 :: s3 :: s4 :: s5 :: s6 :: s7 :: s8 :: s9 :: ρ) 9 t = .ok (s0 :: s1 :: s2 :: s3 :: s4 :: s5 :: s6 :: s7 :: s8 :: t :: ρ) := rfl
@[simp] theorem stR_l10 {ρ : En} (s0 s1 s2 s3 s4 s5 s6 s7 s8 s9 s10 t : Sl) : stR (s0 :: s1 :: s2 :: s3 :: s4 :: s5 :: s6 :: s7 :: s8 :: s9 :: s10 :: ρ) 10 t = .ok (s0 :: s1 :: s2 :: s3 :: s4 :: s5 :: s6 :: s7 :: s8 :: s9 :: t :: ρ) := rfl
@[simp] theorem stR_l11 {ρ : En} (s0 s1 s2 s3 s4 s5 s6 s7 s8 s9 s10 s11 t : Sl) : stR (s0 :: s1 :: s2 :: s3 :: s4 :: s5 :: s6 :: s7 :: s8 :: s9 :: s10 :: s11 :: ρ) 11 t = .ok (s0 :: s1 :: s2 :: s3 :: s4 :: s5 :: s6 :: s7 :: s8 :: s9 :: s10 :: t :: ρ) := rfl
@[simp] theorem stR_l12 {ρ : En} (s0 s1 s2 s3 s4 s5 s6 s7 s8 s9 s10 s11 s12 t : Sl) : stR (s0 :: s1 :: s2 :: s3 :: s4 :: s5 :: s6 :: s7 :: s8 :: s9 :: s10 :: s11 :: s12 :: ρ) 12 t = .ok (s0 :: s1 :: s2 :: s3 :: s4 :: s5 :: s6 :: s7 :: s8 :: s9 :: s10 :: s11 :: t :: ρ) := rfl
@[simp] theorem stR_l13 {ρ : En} (s0 s1 s2 s3 s4 s5 s6 s7 s8 s9 s10 s11 s12 s13 t : Sl) : stR (s0 :: s1 :: s2 :: s3 :: s4 :: s5 :: s6 :: s7 :: s8 :: s9 :: s10 :: s11 :: s12 :: s13 :: ρ) 13 t = .ok (s0 :: s1 :: s2 :: s3 :: s4 :: s5 :: s6 :: s7 :: s8 :: s9 :: s10 :: s11 :: s12 :: t :: ρ) := rfl
@[simp] theorem stR_l14 {ρ : En} (s0 s1 s2 s3 s4 s5 s6 s7 s8 s9 s10 s11 s12 s13 s14 t : Sl) : stR (s0 :: s1 :: s2 :: s3 :: s4 :: s5 :: s6 :: s7 :: s8 :: s9 :: s10 :: s11 :: s12 :: s13 :: s14 :: ρ) 14 t = .ok (s0 :: s1 :: s2 :: s3 :: s4 :: s5 :: s6 :: s7 :: s8 :: s9 :: s10 :: s11 :: s12 :: s13 :: t :: ρ) := rfl
@[simp] theorem stR_l15 {ρ : En} (s0 s1 s2 s3 s4 s5 s6 s7 s8 s9 s10 s11 s12 s13 s14 s15 t : Sl) : stR (s0 :: s1 :: s2 :: s3 :: s4 :: s5 :: s6 :: s7 :: s8 :: s9 :: s10 :: s11 :: s12 :: s13 :: s14 :: s15 :: ρ) 15 t = .ok (s0 :: s1 :: s2 :: s3 :: s4 :: s5 :: s6 :: s7 :: s8 :: s9 :: s10 :: s11 :: s12 :: s13 :: s14 :: t :: ρ) := rfl
@[simp] theorem stR_l16 {ρ : En} (s0 s1 s2 s3 s4 s5 s6 s7 s8 s9 s10 s11 s12 s13 s14 s15 s16 t : Sl) : stR (s0 :: s1 :: s2 :: s3 :: s4 :: s5 :: s6 :: s7 :: s8 :: s9 :: s10 :: s11 :: s12 :: s13 :: s14 :: s15 :: s16 :: ρ) 16 t = .ok (s0 :: s1 :: s2 :: s3 :: s4 :: s5 :: s6 :: s7 :: s8 :: s9 :: s10 :: s11 :: s12 :: s13 :: s14 :: s15 :: t :: ρ) := rfl
@[simp] theorem stR_l17 {ρ : En} (s0 s1 s2 s3 s4 s5 s6 s7 s8 s9 s10 s11 s12 s13 s14 s15 s16 s17 t : Sl) : stR (s0 :: s1 :: s2 :: s3 :: s4 :: s5 :: s6 :: s7 :: s8 :: s9 :: s10 :: s11 :: s12 :: s13 :: s14 :: s15 :: s16 :: s17 :: ρ) 17 t = .ok (s0 :: s1 :: s2 :: s3 :: s4 :: s5 :: s6 :: s7 :: s8 :: s9 :: s10 :: s11 :: s12 :: s13 :: s14 :: s15 :: s16 :: t :: ρ) := rfl
@[simp] theorem stR_l18 {ρ : En} (s0 s1 s2 s3 s4 s5 s6 s7 s8 s9 s10 s11 s12 s13 s14 s15 s16 s17 s18 t : Sl) : stR (s0 :: s1 :: s2 :: s3 :: s4 :: s5 :: s6 :: s7 :: s8 :: s9 :: s10 :: s11 :: s12 :: s13 :: s14 :: s15 :: s16 :: s17 :: s18 :: ρ) 18 t = .ok (s0 :: s1 :: s2 :: s3 :: s4 :: s5 :: s6 :: s7 :: s8 :: s9 :: s10 :: s11 :: s12 :: s13 :: s14 :: s15 :: s16 :: s17 :: t :: ρ) := rfl
@[simp] theorem stR_l19 {ρ : En} (s0 s1 s2 s3 s4 s5 s6 s7 s8 s9 s10 s11 s12 s13 s14 s15 s16 s17 s18 s19 t : Sl) : stR (s0 :: s1 :: s2 :: s3 :: s4 :: s5 :: s6 :: s7 :: s8 :: s9 :: s10 :: s11 :: s12 :: s13 :: s14 :: s15 :: s16 :: s17 :: s18 :: s19 :: ρ) 19 t = .ok (s0 :: s1 :: s2 :: s3 :: s4 :: s5 :: s6 :: s7 :: s8 :: s9 :: s10 :: s11 :: s12 :: s13 :: s14 :: s15 :: s16 :: s17 :: s18 :: t :: ρ) := rfl
@[simp] theorem stR_l20 {ρ : En} (s0 s1 s2 s3 s4 s5 s6 s7 s8 s9 s10 s11 s12 s13 s14 s15 s16 s17 s18 s19 s20 t : Sl) : stR (s0 :: s1 :: s2 :: s3 :: s4 :: s5 :: s6 :: s7 :: s8 :: s9 :: s10 :: s11 :: s12 :: s13 :: s14 :: s15 :: s16 :: s17 :: s18 :: s19 :: s20 :: ρ) 20 t = .ok (s0 :: s1 :: s2 :: s3 :: s4 :: s5 :: s6 :: s7 :: s8 :: s9 :: s10 :: s11 :: s12 :: s13 :: s14 :: s15 :: s16 :: s17 :: s18 :: s19 :: t :: ρ) := rfl
@[simp] theorem stR_l21 {ρ : En} (s0 s1 s2 s3 s4 s5 s6 s7 s8 s9 s10 s11 s12 s13 s14 s15 s16 s17 s18 s19 s20 s21 t : Sl) : stR (s0 :: s1 :: s2 :: s3 :: s4 :: s5 :: s6 :: s7 :: s8 :: s9 :: s10 :: s11 :: s12 :: s13 :: s14 :: s15 :: s16 :: s17 :: s18 :: s19 :: s20 :: s21 :: ρ) 21 t = .ok (s0 :: s1 :: s2 :: s3 :: s4 :: s5 :: s6 :: s7 :: s8 :: s9 :: s10 :: s11 :: s12 :: s13 :: s14 :: s15 :: s16 :: s17 :: s18 :: s19 :: s20 :: t :: ρ) := rfl
@[simp] theorem stR_l22 {ρ : En} (s0 s1 s2 s3 s4 s5 s6 s7 s8 s9 s10 s11 s12 s13 s14 s15 s16 s17 s18 s19 s20 s21 s22 t : Sl) : stR (s0 :: s1 :: s2 :: s3 :: s4 :: s5 :: s6 :: s7 :: s8 :: s9 :: s10 :: s11 :: s12 :: s13 :: s14 :: s15 :: s16 :: s17 :: s18 :: s19 :: s20 :: s21 :: s22 :: ρ) 22 t = .ok (s0 :: s1 :: s2 :: s3 :: s4 :: s5 :: s6 :: s7 :: s8 :: s9 :: s10 :: s11 :: s12 :: s13 :: s14 :: s15 :: s16 :: s17 :: s18 :: s19 :: s20 :: s21 :: t :: ρ) := rfl
@[simp] theorem stR_l23 {ρ : En} (s0 s1 s2 s3 s4 s5 s6 s7 s8 s9 s10 s11 s12 s13 s14 s15 s16 s17 s18 s19 s20 s21 s22 s23 t : Sl) : stR (s0 :: s1 :: s2 :: s3 :: s4 :: s5 :: s6 :: s7 :: s8 :: s9 :: s10 :: s11 :: s12 :: s13 :: s14 :: s15 :: s16 :: s17 :: s18 :: s19 :: s20 :: s21 :: s22 :: s23 :: ρ) 23 t = .ok (s0 :: s1 :: s2 :: s3 :: s4 :: s5 :: s6 :: s7 :: s8 :: s9 :: s10 :: s11 :: s12 :: s13 :: s14 :: s15 :: s16 :: s17 :: s18 :: s19 :: s20 :: s21 :: s22 :: t :: ρ) := rfl
@[simp] theorem end_nx (ρ : En) : (O.nx ρ).end = .ok .non := rfl
@[simp] theorem end_rt (d : D) : (O.rt d).end = .ok d := rfl
@[simp] theorem end_exc (k : String) (ρ : En) : (O.exc k ρ).end = .exc k := rfl
@[simp] theorem tru_bl (b : Bool) : truD (.bl b) = some b := rfl
@[simp] theorem add_ii (i j : Int) : binD .add (.int i) (.int j) = .ok (.int (i + j)) := rfl
@[simp] theorem sub_ii (i j : Int) : binD .sub (.int i) (.int j) = .ok (.int (i - j)) := rfl
@[simp] theorem mul_ii (i j : Int) : binD .mul (.int i) (.int j) = ifR (mulOk i j) (.ok (.int (i * j))) .bad := rfl
@[simp] theorem div_ii (i j : Int) : binD .div (.int i) (.int j) = ifR (divOk j) (.ok (.int (i.fdiv j))) .bad := rfl
@[simp] theorem mod_ii (i j : Int) : binD .mod (.int i) (.int j) = ifR (!decide (j = 0)) (.ok (.int (i.fmod j))) .bad := by
  show (if j ≠ 0 then _ else _) = _
  by_cases h : j = 0 <;> simp [h]
@[simp] theorem pow_ii (i j : Int) : binD .pow (.int i) (.int j) = ifR (pwOk i j) (.ok (.int (i ^ j.toNat))) .bad := rfl
@[simp] theorem shl_ii (i j : Int) : binD .shl (.int i) (.int j) = ifR (powOk i j) (.ok (.int (i * 2 ^ j.toNat))) .bad := rfl
@[simp] theorem add_ll (xs ys : List D) : binD .add (.lst xs) (.lst ys) = ifR (decide (xs.length + ys.length ≤ 16777216)) (.ok (.lst (xs ++ ys))) .bad := by
  show (if _ then _ else _) = _
  unfold ifR
  simp only [decide_eq_true_eq]
@[simp] theorem sl_l (xs : List D) (lo hi : Option Int) : slD (.lst xs) lo hi = .ok (.lst (cutD xs lo hi)) := rfl
@[simp] theorem sl_c (ns : List Int) (lo hi : Option Int) : slD (.scr ns) lo hi = .ok (.lst ((cutD ns lo hi).map .int)) := rfl
theorem cut_map {α β : Type} (f : α → β) (xs : List α) (lo hi : Option Int) : cutD (xs.map f) lo hi = (cutD xs lo hi).map f := by
  unfold cutD
  rw [List.length_map, List.map_take, List.map_drop]
@[simp] theorem lt_ii (i j : Int) : cpD .lt (.int i) (.int j) = .ok (.bl (decide (i < j))) := rfl
@[simp] theorem le_ii (i j : Int) : cpD .le (.int i) (.int j) = .ok (.bl (decide (i ≤ j))) := rfl
@[simp] theorem gt_ii (i j : Int) : cpD .gt (.int i) (.int j) = .ok (.bl (decide (j < i))) := rfl
@[simp] theorem ge_ii (i j : Int) : cpD .ge (.int i) (.int j) = .ok (.bl (decide (j ≤ i))) := rfl
theorem eqd_ii (i j : Int) : eqd (.int i) (.int j) = decide (i = j) := by unfold eqd toP; first | rfl | simp [PyData.eqv]
@[simp] theorem eq_ii (i j : Int) : cpD .eq (.int i) (.int j) = .ok (.bl (decide (i = j))) := by
  show (if shp (.int i) && shp (.int j) then (R.ok (D.bl (eqd (.int i) (.int j))) : R D) else .bad) = _
  rw [eqd_ii]; rfl
@[simp] theorem ne_ii (i j : Int) : cpD .ne (.int i) (.int j) = .ok (.bl (!decide (i = j))) := by
  show (if shp (.int i) && shp (.int j) then (R.ok (D.bl (!eqd (.int i) (.int j))) : R D) else .bad) = _
  rw [eqd_ii]; rfl
@[simp] theorem neg_i (i : Int) : negD (.int i) = .ok (.int (-i)) := rfl
@[simp] theorem abs_i (i : Int) : bltD .abs [.int i] = .ok (.int (i.natAbs : Int)) := by
  show R.ok (D.int (if i < 0 then -i else i)) = _
  rw [show (if i < 0 then -i else i) = (i.natAbs : Int) by split <;> omega]
@[simp] theorem int_bl (b : Bool) : bltD .int [.bl b] = .ok (.int (if b then 1 else 0)) := rfl
@[simp] theorem min_ii (i j : Int) : bltD .min [.int i, .int j] = .ok (.int (min i j)) := by
  show R.ok (D.int (if j < i then j else i)) = _
  rw [show (if j < i then j else i) = min i j by split <;> omega]
@[simp] theorem max_ii (i j : Int) : bltD .max [.int i, .int j] = .ok (.int (max i j)) := by
  show R.ok (D.int (if j > i then j else i)) = _
  rw [show (if j > i then j else i) = max i j by split <;> omega]
@[simp] theorem len_l (xs : List D) : bltD .len [.lst xs] = .ok (.int xs.length) := rfl
@[simp] theorem len_t (xs : List D) : bltD .len [.tup xs] = .ok (.int xs.length) := rfl
@[simp] theorem len_s (ns : List Int) : bltD .len [.scr ns] = .ok (.int ns.length) := rfl
@[simp] theorem items_l (xs : List D) : itemsOf (.lst xs) = .ok xs := rfl
@[simp] theorem items_t (xs : List D) : itemsOf (.tup xs) = .ok xs := rfl
@[simp] theorem items_s (ns : List Int) : itemsOf (.scr ns) = .ok (ns.map .int) := rfl
theorem atI_nat {α : Type} {xs : List α} {i : Nat} {d : α} (h : xs[i]? = some d) : L2.atI xs (i : Int) = some d := by
  have hl : i < xs.length := (List.getElem?_eq_some_iff.mp h).1
  unfold L2.atI ixN
  have h1 : ¬ (i : Int) < 0 := by omega
  have h2 : (i : Int) < xs.length := by omega
  simp [h1, h2, h]
theorem ix_tn {xs : List D} {i : Nat} {d : D} (h : xs[i]? = some d) : ixD (.tup xs) (.int (i : Int)) = .ok d := by
  show (match L2.atI xs (i : Int) with | some d => R.ok d | none => .bad) = _
  rw [atI_nat h]
theorem ix_ln {xs : List D} {i : Nat} {d : D} (h : xs[i]? = some d) : ixD (.lst xs) (.int (i : Int)) = .ok d := by
  show (match L2.atI xs (i : Int) with | some d => R.ok d | none => .bad) = _
  rw [atI_nat h]
theorem atI_lit {α : Type} (xs : List α) (n : Nat) : L2.atI xs (n : Int) = xs[n]? := by
  cases h : xs[n]? with
  | some d => exact atI_nat h
  | none =>
    have hl : xs.length ≤ n := List.getElem?_eq_none_iff.mp h
    unfold L2.atI ixN
    have h1 : ¬ (n : Int) < 0 := by omega
    have h2 : ¬ (n : Int) < xs.length := by omega
    simp [h1, h2, hl]
@[simp] theorem ix_tN (xs : List D) (n : Nat) : ixD (.tup xs) (.int (no_index (OfNat.ofNat n))) = match xs[n]? with | some d => .ok d | none => .bad := by
  show (match L2.atI xs (n : Int) with | some d => R.ok d | none => .bad) = _
  rw [atI_lit] <;> rfl
@[simp] theorem ix_lN (xs : List D) (n : Nat) : ixD (.lst xs) (.int (no_index (OfNat.ofNat n))) = match xs[n]? with | some d => .ok d | none => .bad := by
  show (match L2.atI xs (n : Int) with | some d => R.ok d | none => .bad) = _
  rw [atI_lit] <;> rfl
@[simp] theorem ix_tNn (xs : List D) (n : Nat) : ixD (.tup xs) (.int (n : Int)) = match xs[n]? with | some d => .ok d | none => .bad := ix_tN xs n
@[simp] theorem ix_lNn (xs : List D) (n : Nat) : ixD (.lst xs) (.int (n : Int)) = match xs[n]? with | some d => .ok d | none => .bad := ix_lN xs n
theorem ixN_of {n : Nat} {k : Nat} (h : k < n) : ixN n (k : Int) = some k := by
  unfold ixN
  have h1 : ¬ (k : Int) < 0 := by omega
  have h2 : (k : Int) < n := by omega
  simp [h1, h2]
def condR (ρ : En) (tg : Tg) (cond : Ex) (d : D) : R D := if isNop cond then .ok (.bl true) else (setT tg d (wipeN ρ (slotsT tg))).bind fun ρ' => ev ρ' cond
def eltR (ρ : En) (tg : Tg) (elt : Ex) (d : D) : R D := (setT tg d (wipeN ρ (slotsT tg))).bind fun ρ' => ev ρ' elt
@[simp ↓] theorem condR_nop {ρ : En} (tg : Tg) (d : D) : condR ρ tg .nop d = .ok (.bl true) := rfl
theorem condR_eq {ρ : En} (tg : Tg) {cond : Ex} (h : isNop cond = false) (d : D) : condR ρ tg cond d = rb (setT tg d (wipeN ρ (slotsT tg))) fun ρ' => ev ρ' cond := by unfold condR; rw [h]; rfl
@[simp ↓] theorem eltR_eq {ρ : En} (tg : Tg) (elt : Ex) (d : D) : eltR ρ tg elt d = rb (setT tg d (wipeN ρ (slotsT tg))) fun ρ' => ev ρ' elt := rfl
def lcI (ρ : En) (vs : List Nat) (r : R D) : K0 r (R D) := if !vs.all (notOwn ρ) then .bad else r
@[simp] theorem lcI_0 {ρ : En} {r : R D} : lcI ρ [] r = r := rfl
@[simp] theorem lcI_s {ρ : En} {r : R D} (v : Nat) (vs : List Nat) (h : notOwn ρ v = true) : lcI ρ (v :: vs) r = lcI ρ vs r := by unfold lcI; rw [List.all_cons, h, Bool.true_and]
section
variable {ρ : En} (s s1 s2 s3 s4 : Sl) (d : D) (n : Nat)
@[simp] theorem notOwn_v : notOwn (.v d :: ρ) 0 = true := rfl
@[simp] theorem notOwn_n : notOwn (.n :: ρ) 0 = true := rfl
@[simp] theorem notOwn_s : notOwn (s :: ρ) (n + 1) = notOwn ρ n := rfl
@[simp high] theorem notOwn_4 : notOwn (s1 :: s2 :: s3 :: s4 :: ρ) (n + 4) = notOwn ρ n := rfl
end
@[simp ↓] theorem ev_lc {ρ : En} (elt : Ex) (tg : Tg) (it cond : Ex) : ev ρ (.lc elt tg it cond) = rb (rb (ev ρ it) itemsOf) fun ds => lcI ρ (slotsT tg) (rb (lcR ds (condR ρ tg cond) (eltR ρ tg elt)) lstR) := by
  (conv => lhs; unfold ev)
  rfl
theorem lcR_nil (c e : D → R D) : lcR [] c e = .ok [] := rfl
def noE {α : Type} (r : R α) : R α := match r with | .ok a => .ok a | _ => .bad
@[simp] theorem noE_ok {α : Type} (a : α) : noE (.ok a) = .ok a := rfl
theorem lcR_cons (d : D) (r : List D) (c e : D → R D) : lcR (d :: r) c e = rb (rb (noE (c d)) truR) fun b => ifR b (rb (noE (e d)) fun y => rb (lcR r c e) fun ys => .ok (y :: ys)) (lcR r c e) := by
  (conv => lhs; unfold lcR)
  cases c d with
  | ok x =>
    simp only [noE_ok, rb_ok, truR]
    cases h : truD x with
    | none => simp
    | some b =>
      cases b with
      | false => simp
      | true =>
        simp only [rb_ok, ifR_t]
        cases e d <;> rfl
  | exc k => rfl
  | bad => rfl
/-- each item is taken -/
theorem lcR_map {c e : D → R D} {g : D → D} : ∀ {ds : List D}, (∀ d ∈ ds, c d = .ok (.bl true) ∧ e d = .ok (g d)) → lcR ds c e = .ok (ds.map g)
  | [], _ => rfl
  | d :: ds, h => by
    obtain ⟨h1, h2⟩ := h d List.mem_cons_self
    unfold lcR
    rw [h1, h2, lcR_map fun x hx => h x (List.mem_cons_of_mem _ hx)]
    rfl
theorem lcR_mapA {α : Type} {en : α → D} {c e : D → R D} {g : α → D} : ∀ {l : List α}, (∀ a ∈ l, c (en a) = .ok (.bl true) ∧ e (en a) = .ok (g a)) → lcR (l.map en) c e = .ok (l.map g)
  | [], _ => rfl
  | d :: ds, h => by
    obtain ⟨h1, h2⟩ := h d List.mem_cons_self
    rw [List.map_cons]
    unfold lcR
    rw [h1, h2, lcR_mapA fun x hx => h x (List.mem_cons_of_mem _ hx)]
    rfl
theorem lcR_fil {α : Type} {en : α → D} {c e : D → R D} {p : α → Bool} {g : α → D} : ∀ {l : List α}, (∀ a ∈ l, c (en a) = .ok (.bl (p a)) ∧ (p a = true → e (en a) = .ok (g a))) → lcR (l.map en) c e = .ok ((l.filter p).map g)
  | [], _ => rfl
  | d :: ds, h => by
    obtain ⟨h1, h2⟩ := h d List.mem_cons_self
    rw [List.map_cons]
    unfold lcR
    rw [h1, lcR_fil fun x hx => h x (List.mem_cons_of_mem _ hx)]
    cases hp : p d with
    | true => rw [h2 hp, List.filter_cons_of_pos hp]; rfl
    | false => rw [List.filter_cons_of_neg (by rw [hp]; decide)]; rfl
@[simp] theorem slots_nm (i : Nat) : slotsT (.nm i) = [i] := by unfold slotsT; rfl
@[simp] theorem slots_tp (ts : List Tg) : slotsT (.tp ts) = slotsTs ts := by (conv => lhs; unfold slotsT) <;> rfl
@[simp] theorem slotsTs_nil : slotsTs [] = [] := by (conv => lhs; unfold slotsTs) <;> rfl
@[simp] theorem slotsTs_cons (t : Tg) (ts : List Tg) : slotsTs (t :: ts) = slotsT t ++ slotsTs ts := by (conv => lhs; unfold slotsTs) <;> rfl
@[simp] theorem wipe_nil (ρ : En) : wipeN ρ [] = ρ := rfl
@[simp] theorem wipe_cons (ρ : En) (v : Nat) (vs : List Nat) : wipeN ρ (v :: vs) = (wipeN ρ vs).set v .n := rfl
@[simp] theorem nop_nop : isNop .nop = true := rfl
@[simp] theorem isi_int (i : Int) (cs : List String) : isiD (.int i) cs = .ok (.bl (cs.any (isT "int"))) := rfl
@[simp] theorem isi_tup (ds : List D) (cs : List String) : isiD (.tup ds) cs = .ok (.bl (cs.any (isT "tuple"))) := rfl
@[simp] theorem isi_lst (ds : List D) (cs : List String) : isiD (.lst ds) cs = .ok (.bl (cs.any (isT "list"))) := rfl
@[simp] theorem isi_scr (ds : List Int) (cs : List String) : isiD (.scr ds) cs = .ok (.bl (cs.any (isT "list"))) := rfl
@[simp] theorem isi_str (z : Str) (cs : List String) : isiD (.str z) cs = .ok (.bl (cs.any (isT "str"))) := rfl
@[simp] theorem isi_non (cs : List String) : isiD .non cs = .ok (.bl (cs.any (isT "NoneType"))) := rfl
@[simp] theorem isi_bl (b : Bool) (cs : List String) : isiD (.bl b) cs = .ok (.bl (cs.any (isT "bool"))) := rfl
theorem eqd_bb (i j : Bool) : eqd (.bl i) (.bl j) = decide (i = j) := by unfold eqd toP; first | rfl | (cases i <;> cases j <;> rfl)
@[simp] theorem eq_bb (i j : Bool) : cpD .eq (.bl i) (.bl j) = .ok (.bl (decide (i = j))) := by
  show (if shp (.bl i) && shp (.bl j) then (R.ok (D.bl (eqd (.bl i) (.bl j))) : R D) else .bad) = _
  rw [eqd_bb]; rfl
@[simp] theorem ne_bb (i j : Bool) : cpD .ne (.bl i) (.bl j) = .ok (.bl (!decide (i = j))) := by
  show (if shp (.bl i) && shp (.bl j) then (R.ok (D.bl (!eqd (.bl i) (.bl j))) : R D) else .bad) = _
  rw [eqd_bb]; rfl
@[simp] theorem isn_bb (i j : Bool) : cpD .isn (.bl i) (.bl j) = .ok (.bl (!decide (i = j))) := rfl
@[simp] theorem is_bb (i j : Bool) : cpD .is (.bl i) (.bl j) = .ok (.bl (decide (i = j))) := rfl
theorem cut_from {α : Type} {xs : List α} {n : Nat} (h : n ≤ xs.length) : cutD xs (some (n : Int)) none = xs.drop n := by
  unfold cutD
  rw [HT.sIx_nat, HT.sIx_none, Nat.min_eq_left h, List.take_of_length_le]
  rw [List.length_drop]
  exact Nat.le_refl _
@[simp] theorem list_t (xs : List D) : bltD .list [.tup xs] = .ok (.lst xs) := rfl
@[simp] theorem list_l (xs : List D) : bltD .list [.lst xs] = .ok (.lst xs) := rfl
/-! sizes -/
theorem log2_lt {n k : Nat} (hk : 0 < k) (h : n < 2 ^ k) : n.log2 < k := by
  by_cases z : n = 0
  · subst z; simpa using hk
  · exact (Nat.log2_lt z).mpr h
theorem mulOk_of {i j : Int} (a b : Nat) (h1 : i.natAbs < 2 ^ a) (h2 : j.natAbs < 2 ^ b) (ha : 0 < a) (hb : 0 < b) (h : a + b ≤ 1000000) : mulOk i j = true := by
  have := log2_lt ha h1
  have := log2_lt hb h2
  unfold mulOk
  exact decide_eq_true (by omega)
theorem divOk_of {j : Int} (h0 : j ≠ 0) (h : j.natAbs < 2 ^ 9000) : divOk j = true := by
  have := log2_lt (by decide) h
  unfold divOk
  rw [Bool.and_eq_true]
  exact ⟨decide_eq_true h0, decide_eq_true this⟩
theorem defR_eq {n k : Nat} {b : List St} {args : List D} (h : args.length = k) (hk : k ≤ n) : defR n k b args = (exs (args.map .v ++ List.replicate (n - k) .n) b).end := by
  unfold defR
  rw [if_pos ⟨h, hk⟩]
end OL
namespace OL
open PySem PySem.Spec PyProof.Rows L2
theorem emod_gcd (b a : Int) (hb : 0 ≤ b) : Int.gcd (b % a) a = Int.gcd a b := by
  unfold Int.gcd
  rw [Int.natAbs_emod_of_nonneg hb, ← Nat.gcd_rec]
def rn (a b : Int) : Int := if b < 0 then a.fdiv (0 - (Int.gcd a b : Int)) else a.fdiv (Int.gcd a b)
def rd (a b : Int) : Int := if b < 0 then b.fdiv (0 - (Int.gcd a b : Int)) else b.fdiv (Int.gcd a b)
theorem gcd_pos {a b : Int} (h : b ≠ 0) : 0 < Int.gcd a b := by
  rcases Nat.eq_zero_or_pos (Int.gcd a b) with z | z
  · exact absurd (Int.gcd_eq_zero_iff.mp z).2 h
  · exact z
theorem gcd_le {a b : Int} (h : b ≠ 0) : Int.gcd a b ≤ b.natAbs := Nat.le_of_dvd (by omega) (Nat.gcd_dvd_right _ _)
theorem rat_facts {a b : Int} (h : b ≠ 0) : 1 ≤ rd a b ∧ Int.gcd (rn a b) (rd a b) = 1 ∧ a * rd a b = rn a b * b ∧ (rn a b).natAbs ≤ a.natAbs ∧ (rd a b).natAbs ≤ b.natAbs := by
  have hg : 0 < Int.gcd a b := gcd_pos h
  obtain ⟨a', ea⟩ := Int.gcd_dvd_left (a := a) (b := b)
  obtain ⟨b', eb⟩ := Int.gcd_dvd_right (a := a) (b := b)
  have hc : Int.gcd a' b' = 1 := by
    have e := Int.gcd_mul_left (Int.gcd a b : Int) a' b'
    rw [← ea, ← eb, Int.natAbs_natCast] at e
    exact Nat.eq_of_mul_eq_mul_left hg (by omega)
  generalize hgg : Int.gcd a b = g at *
  have hg0 : (g : Int) ≠ 0 := by omega
  have hg1 : (0 - (g : Int)) ≠ 0 := by omega
  have la : a'.natAbs ≤ a.natAbs := by
    rw [ea, Int.natAbs_mul, Int.natAbs_natCast]
    exact Nat.le_mul_of_pos_left _ hg
  have lb : b'.natAbs ≤ b.natAbs := by
    rw [eb, Int.natAbs_mul, Int.natAbs_natCast]
    exact Nat.le_mul_of_pos_left _ hg
  unfold rn rd
  rw [hgg]
  have nn : (0 - (g : Int)) * (-a') = a ∧ (0 - (g : Int)) * (-b') = b := by
    rw [Int.zero_sub, Int.neg_mul_neg, Int.neg_mul_neg]
    exact ⟨ea.symm, eb.symm⟩
  by_cases hb : b < 0
  · rw [if_pos hb, if_pos hb]
    have e1 : a.fdiv (0 - (g : Int)) = -a' := by
      conv => lhs; rw [← nn.1]
      exact Int.mul_fdiv_cancel_left _ hg1
    have e2 : b.fdiv (0 - (g : Int)) = -b' := by
      conv => lhs; rw [← nn.2]
      exact Int.mul_fdiv_cancel_left _ hg1
    rw [e1, e2]
    refine ⟨?_, by simpa using hc, ?_, by rw [Int.natAbs_neg]; exact la, by rw [Int.natAbs_neg]; exact lb⟩
    · have : ¬ 0 ≤ b' := fun z => by
        have := Int.mul_nonneg (show (0 : Int) ≤ g by omega) z
        omega
      omega
    · rw [ea, eb, Int.mul_neg, Int.neg_mul]
      congr 1
      rw [Int.mul_assoc, Int.mul_left_comm]
  · rw [if_neg hb, if_neg hb]
    have e1 : a.fdiv (g : Int) = a' := by
      conv => lhs; rw [ea]
      exact Int.mul_fdiv_cancel_left _ hg0
    have e2 : b.fdiv (g : Int) = b' := by
      conv => lhs; rw [eb]
      exact Int.mul_fdiv_cancel_left _ hg0
    rw [e1, e2]
    refine ⟨?_, hc, ?_, la, lb⟩
    · have h1 : 0 < b := by omega
      have : 0 < b' := Int.pos_of_mul_pos_right (a := (g : Int)) (by rw [← eb]; exact h1) (by omega)
      omega
    · rw [ea, eb]
      rw [Int.mul_assoc, Int.mul_left_comm]
theorem dvo_gcd {a b : Int} (h : b ≠ 0) (hb : b.natAbs < 2 ^ 9000) : divOk (Int.gcd a b : Int) = true ∧ divOk (0 - (Int.gcd a b : Int)) = true := by
  have h1 := gcd_pos (a := a) h
  have h2 := gcd_le (a := a) h
  exact ⟨divOk_of (by omega) (by rw [Int.natAbs_natCast]; omega), divOk_of (by omega) (by rw [Int.zero_sub, Int.natAbs_neg, Int.natAbs_natCast]; omega)⟩
theorem mulOk_le {i j : Int} (a b : Int) (h1 : i.natAbs ≤ a.natAbs) (h2 : j.natAbs ≤ b.natAbs) (h : a.natAbs.log2 + b.natAbs.log2 < 999998) : mulOk i j = true := by
  have l1 : i.natAbs < 2 ^ (a.natAbs.log2 + 1) := Nat.lt_of_le_of_lt h1 Nat.lt_log2_self
  have l2 : j.natAbs < 2 ^ (b.natAbs.log2 + 1) := Nat.lt_of_le_of_lt h2 Nat.lt_log2_self
  exact mulOk_of _ _ l1 l2 (by omega) (by omega) (by omega)
theorem fmod_b (x : Int) {m : Int} (h : 0 < m) : 0 ≤ x.fmod m ∧ x.fmod m < m := ⟨Int.fmod_nonneg_of_pos x h, Int.fmod_lt_of_pos x h⟩
theorem bitlen_i (i : Int) : mthD .bitlen (.int i) [] = .ok (.int ((Builtin.Int.intBits i : Nat) : Int)) := rfl
theorem rng_1 {j : Int} (h0 : 0 ≤ j) (h : j ≤ 1000000) : rngD [.int j] = .ok (.lst ((List.range j.toNat).map fun (k : Nat) => D.int k)) := by
  show (if -(2 ^ 62) ≤ j ∧ j < 2 ^ 62 then _ else _) = _
  rw [if_pos ⟨by omega, by omega⟩]
theorem ne_t2 (a b c d : Int) : cpD .ne (.tup [.int a, .int b]) (.tup [.int c, .int d]) = .ok (.bl (!(decide (a = c) && decide (b = d)))) := by
  have e : eqd (.tup [.int a, .int b]) (.tup [.int c, .int d]) = (decide (a = c) && decide (b = d)) := by
    unfold eqd toP
    simp [toPL, toP, PyData.eqv, PyData.eqvAll]
    rfl
  show (if shp (.tup [.int a, .int b]) && shp (.tup [.int c, .int d]) then (R.ok (D.bl (!eqd (.tup [.int a, .int b]) (.tup [.int c, .int d]))) : R D) else .bad) = _
  rw [e]
  rfl
theorem mul_b {x y : Int} (a b : Nat) (h1 : x.natAbs ≤ a) (h2 : y.natAbs ≤ b) : (x * y).natAbs ≤ a * b := by
  rw [Int.natAbs_mul]
  exact Nat.mul_le_mul h1 h2
theorem one_facts (a : Int) : rn a 1 = a ∧ rd a 1 = 1 := by
  unfold rn rd
  simp
end OL
namespace OL
open PySem PySem.Spec PyProof.Rows L2
/-! ### fractions as rational numbers -/
def frD (q : Rat) : D := .tup [.int q.num, .int q.den]
def Sz (k : Nat) (q : Rat) : Prop := q.num.natAbs < 2 ^ k ∧ q.den < 2 ^ k
theorem rat_eq {a b : Int} (h : b ≠ 0) : (Rat.divInt a b).num = rn a b ∧ ((Rat.divInt a b).den : Int) = rd a b := by
  obtain ⟨f1, f2, f3, _⟩ := rat_facts (a := a) h
  have hd : ((rd a b).toNat : Int) = rd a b := by omega
  have hq : Nat.Coprime (rn a b).natAbs (rd a b).toNat := by
    have e : (rd a b).toNat = (rd a b).natAbs := by omega
    rw [e]
    exact f2
  have hz : (rd a b).toNat ≠ 0 := by omega
  have e : (⟨rn a b, (rd a b).toNat, hz, hq⟩ : Rat) = Rat.divInt a b := by
    rw [Rat.mk_eq_divInt, hd]
    exact (Rat.divInt_eq_divInt_iff (by omega) h).mpr f3.symm
  rw [← e]
  exact ⟨rfl, hd⟩
theorem sz_div {a b : Int} {k : Nat} (h : b ≠ 0) (ha : a.natAbs < 2 ^ k) (hb : b.natAbs < 2 ^ k) : Sz k (Rat.divInt a b) := by
  obtain ⟨f1, f2, f3, f4, f5⟩ := rat_facts (a := a) h
  obtain ⟨e1, e2⟩ := rat_eq (a := a) h
  refine ⟨by rw [e1]; exact Nat.lt_of_le_of_lt f4 ha, Nat.lt_of_le_of_lt ?_ hb⟩
  omega
theorem sz_mono {k l : Nat} {q : Rat} (h : Sz k q) (hl : k ≤ l) : Sz l q := ⟨Nat.lt_of_lt_of_le h.1 (Nat.pow_le_pow_right (by decide) hl), Nat.lt_of_lt_of_le h.2 (Nat.pow_le_pow_right (by decide) hl)⟩
theorem den_pos (q : Rat) : (0 : Int) < q.den := by have := q.den_pos; omega
theorem frD_inj {p q : Rat} : frD p = frD q ↔ p = q := by
  constructor
  · intro h
    unfold frD at h
    simp at h
    exact Rat.ext h.1 (by have := h.2; omega)
  · intro h
    rw [h]
@[simp] theorem ix_f0 (q : Rat) : ixD (frD q) (.int 0) = .ok (.int q.num) := by unfold frD; simp
@[simp] theorem ix_f1 (q : Rat) : ixD (frD q) (.int 1) = .ok (.int q.den) := by unfold frD; simp
theorem eqd_t2 (a b c d : Int) : eqd (.tup [.int a, .int b]) (.tup [.int c, .int d]) = (decide (a = c) && decide (b = d)) := by
  unfold eqd toP
  simp [toPL, toP, PyData.eqv, PyData.eqvAll]
  rfl
theorem eqd_f (p q : Rat) : eqd (frD p) (frD q) = decide (p = q) := by
  unfold frD
  rw [eqd_t2]
  by_cases h : p = q
  · subst h; simp
  · rw [decide_eq_false h]
    have : ¬ (p.num = q.num ∧ (p.den : Int) = q.den) := fun z => h (Rat.ext z.1 (by have := z.2; omega))
    simp only [Bool.and_eq_false_iff, decide_eq_false_iff_not]
    by_cases h1 : p.num = q.num
    · exact .inr fun z => this ⟨h1, z⟩
    · exact .inl h1
@[simp] theorem eq_f (p q : Rat) : cpD .eq (frD p) (frD q) = .ok (.bl (decide (p = q))) := by
  show (if shp (frD p) && shp (frD q) then (R.ok (D.bl (eqd (frD p) (frD q))) : R D) else .bad) = _
  rw [eqd_f]; rfl
@[simp] theorem ne_f (p q : Rat) : cpD .ne (frD p) (frD q) = .ok (.bl (!decide (p = q))) := by
  show (if shp (frD p) && shp (frD q) then (R.ok (D.bl (!eqd (frD p) (frD q))) : R D) else .bad) = _
  rw [eqd_f]; rfl
theorem mul_lt2 {x y : Int} {k l : Nat} (h1 : x.natAbs < 2 ^ k) (h2 : y.natAbs < 2 ^ l) : (x * y).natAbs < 2 ^ (k + l) := by
  rw [Int.natAbs_mul, Nat.pow_add]
  exact Nat.mul_lt_mul'' h1 h2
theorem add_lt2 {x y : Int} {k : Nat} (h1 : x.natAbs < 2 ^ k) (h2 : y.natAbs < 2 ^ k) : (x + y).natAbs < 2 ^ (k + 1) ∧ (x - y).natAbs < 2 ^ (k + 1) := by
  rw [Nat.pow_succ]
  omega
/-- the numbers that the four operations make -/
theorem rat_add (p q : Rat) : Rat.divInt (p.num * q.den + q.num * p.den) (p.den * q.den) = p + q := by
  have h := Rat.divInt_add_divInt p.num q.num (d₁ := p.den) (d₂ := q.den) (by have := den_pos p; omega) (by have := den_pos q; omega)
  rw [Rat.num_divInt_den, Rat.num_divInt_den] at h
  exact h.symm
theorem rat_sub (p q : Rat) : Rat.divInt (p.num * q.den - q.num * p.den) (p.den * q.den) = p - q := by
  have h := Rat.divInt_sub_divInt p.num q.num (d₁ := p.den) (d₂ := q.den) (by have := den_pos p; omega) (by have := den_pos q; omega)
  rw [Rat.num_divInt_den, Rat.num_divInt_den] at h
  exact h.symm
theorem rat_mul (p q : Rat) : Rat.divInt (p.num * q.num) (p.den * q.den) = p * q := by
  have h := Rat.divInt_mul_divInt p.num q.num (d₁ := p.den) (d₂ := q.den)
  rw [Rat.num_divInt_den, Rat.num_divInt_den] at h
  exact h.symm
theorem rat_div (p q : Rat) : Rat.divInt (p.num * q.den) (p.den * q.num) = p / q := by
  have h := Rat.divInt_mul_divInt p.num (q.den : Int) (d₁ := p.den) (d₂ := q.num)
  rw [Rat.num_divInt_den, ← Rat.inv_divInt, Rat.num_divInt_den] at h
  rw [Rat.div_def]
  exact h.symm
theorem dd_ne (p q : Rat) : ((p.den : Int) * q.den) ≠ 0 := by
  have := Int.mul_pos (den_pos p) (den_pos q)
  omega
/-- sizes of them -/
theorem sz_nd {k l m : Nat} {p q : Rat} (hp : Sz k p) (hq : Sz l q) (hm : k + l ≤ m) : (p.num * q.den).natAbs < 2 ^ m ∧ (q.num * p.den).natAbs < 2 ^ m ∧ ((p.den : Int) * q.den).natAbs < 2 ^ m ∧ (p.num * q.num).natAbs < 2 ^ m ∧ ((p.den : Int) * q.num).natAbs < 2 ^ m := by
  have up : ∀ z : Int, z.natAbs < 2 ^ (k + l) → z.natAbs < 2 ^ m := fun z h => Nat.lt_of_lt_of_le h (Nat.pow_le_pow_right (by decide) hm)
  have a1 : ((p.den : Int)).natAbs < 2 ^ k := by rw [Int.natAbs_natCast]; exact hp.2
  have a2 : ((q.den : Int)).natAbs < 2 ^ l := by rw [Int.natAbs_natCast]; exact hq.2
  refine ⟨up _ (mul_lt2 hp.1 a2), up _ ?_, up _ (mul_lt2 a1 a2), up _ (mul_lt2 hp.1 hq.1), up _ (mul_lt2 a1 hq.1)⟩
  rw [Nat.add_comm]
  exact mul_lt2 hq.1 a1
theorem sz_ok {k l : Nat} {p q : Rat} (hp : Sz k p) (hq : Sz l q) (hk : 0 < k) (hl : 0 < l) (h : k + l ≤ 1000000) : mulOk p.num q.den = true ∧ mulOk q.num p.den = true ∧ mulOk p.den q.den = true ∧ mulOk p.num q.num = true ∧ mulOk p.den q.num = true := by
  have a1 : ((p.den : Int)).natAbs < 2 ^ k := by rw [Int.natAbs_natCast]; exact hp.2
  have a2 : ((q.den : Int)).natAbs < 2 ^ l := by rw [Int.natAbs_natCast]; exact hq.2
  exact ⟨mulOk_of k l hp.1 a2 hk hl h, mulOk_of l k hq.1 a1 hl hk (by omega), mulOk_of k l a1 a2 hk hl h, mulOk_of k l hp.1 hq.1 hk hl h, mulOk_of k l a1 hq.1 hk hl h⟩
theorem gcd_abs (a b : Int) : Int.gcd (a.natAbs : Int) b = Int.gcd a b := by unfold Int.gcd; rw [Int.natAbs_natCast]
/-- a fraction over a number above nought -/
theorem fr_pos {a b : Int} (h : 0 < b) : frD (Rat.divInt a b) = .tup [.int (a.fdiv (Int.gcd a b)), .int (b.fdiv (Int.gcd a b))] := by
  obtain ⟨e1, e2⟩ := rat_eq (a := a) (b := b) (by omega)
  unfold frD
  rw [e1, e2]
  unfold rn rd
  rw [if_neg (by omega), if_neg (by omega)]
theorem rat_cross {a b : Int} (h : b ≠ 0) : a * ((Rat.divInt a b).den : Int) = (Rat.divInt a b).num * b := by
  obtain ⟨e1, e2⟩ := rat_eq (a := a) h
  rw [e1, e2]
  exact (rat_facts h).2.2.1
theorem isi_f (q : Rat) (cs : List String) : isiD (frD q) cs = .ok (.bl (cs.any (isT "tuple"))) := rfl
theorem frD_neg (q : Rat) : frD (-q) = .tup [.int (-q.num), .int q.den] := by
  unfold frD
  rw [Rat.neg_num, Rat.neg_den]
theorem sz_neg {k : Nat} {q : Rat} (h : Sz k q) : Sz k (-q) := ⟨by rw [Rat.neg_num, Int.natAbs_neg]; exact h.1, by rw [Rat.neg_den]; exact h.2⟩
theorem divOk_1 : divOk 1 = true := by decide
/-- the cells that a law walks: some of the script's first ones, and the count of all -/
theorem cells_for {t : Tg} {b : List St} (m : Int) (I : En → Prop) {ns : List Int} {ρ : En} (st : I ρ)
    (h : ∀ (k : Int) (ρ : En), I ρ → ∃ ρ1 ρ', setT t (.int k) ρ = .ok ρ1 ∧ exs ρ1 b = .nx ρ' ∧ I ρ') : ∃ ρ', foO t b ((cutD ns none (some m)).map D.int ++ [.int ns.length]) ρ = .nx ρ' ∧ I ρ' := by
  have go := fo_inv (t := t) (b := b) (fun r ρ => I ρ ∧ ∀ d ∈ r, ∃ k : Int, d = .int k) (ds := (cutD ns none (some m)).map D.int ++ [.int ns.length]) ⟨st, fun d hd => by
    rcases List.mem_append.mp hd with z | z
    · obtain ⟨k, _, rfl⟩ := List.mem_map.mp z
      exact ⟨k, rfl⟩
    · exact ⟨_, List.mem_singleton.mp z⟩⟩ fun d r ρ ⟨i, hr⟩ => by
      obtain ⟨k, rfl⟩ := hr d List.mem_cons_self
      obtain ⟨ρ1, ρ2, e1, e2, i2⟩ := h k ρ i
      exact ⟨ρ1, ρ2, e1, e2, i2, fun d hd => hr d (List.mem_cons_of_mem _ hd)⟩
  obtain ⟨ρ', e, i, _⟩ := go
  exact ⟨ρ', e, i⟩
theorem cut_len {ns : List Int} (hn : ns.length ≤ 63) (m : Int) : (cutD ns none (some m)).length + 1 ≤ 16777216 := by
  unfold cutD
  rw [List.length_take, List.length_drop]
  omega
@[simp] theorem list_f (q : Rat) : bltD .list [frD q] = .ok (.lst [.int q.num, .int q.den]) := rfl
@[simp] theorem len_f (q : Rat) : bltD .len [frD q] = .ok (.int 2) := rfl
theorem floor_facts {n d : Int} (h : 0 < d) : n.fdiv d * d ≤ n ∧ n < (n.fdiv d + 1) * d ∧ (n.fdiv d).natAbs ≤ n.natAbs := by
  rw [Int.fdiv_eq_ediv_of_nonneg n (by omega)]
  exact ⟨Int.ediv_mul_le n (by omega), Int.lt_ediv_add_one_mul_self n h, Int.natAbs_ediv_le_natAbs n d⟩
def isI : D → Bool
  | .int _ => true
  | _ => false
/-- both whole, the lower one from 1 on, lowest terms -/
def frB : D → D → Bool
  | .int n, .int d => decide (1 ≤ d) && decide (Int.gcd n d = 1)
  | _, _ => false
theorem frB_l {x y : D} (h : isI x = false) : frB x y = false := by cases x <;> first | rfl | cases h
theorem frB_r {x y : D} (h : isI y = false) : frB x y = false := by cases x <;> cases y <;> first | rfl | cases h
/-- a corner -/
def crD (p : Int × Int) : D := .tup [.int p.1, .int p.2]
theorem ix_at {α : Type} {f : α → D} {l : List α} {n : Nat} {x : α} (h : l[n]? = some x) {i : Int} (hi : i = n) : ixD (.lst (l.map f)) (.int i) = .ok (f x) := by
  subst hi
  exact ix_ln (by rw [List.getElem?_map, h]; rfl)
theorem four {v : Int} (h0 : 0 ≤ v) (h1 : v < 4) : v = 0 ∨ v = 1 ∨ v = 2 ∨ v = 3 := by omega
/-- a fraction on a line of so many corners -/
def On (n : Nat) (q : Rat) : Prop := 0 ≤ q.num ∧ q.num ≤ ((n : Int) - 1) * q.den
theorem on_div {n : Nat} {a b : Int} (hb : 0 < b) (h0 : 0 ≤ a) (h1 : a ≤ ((n : Int) - 1) * b) : On n (Rat.divInt a b) := by
  have c := rat_cross (a := a) (b := b) (by omega)
  have d := den_pos (Rat.divInt a b)
  generalize Rat.divInt a b = q at *
  refine ⟨?_, ?_⟩
  · have : 0 ≤ q.num * b := by rw [← c]; exact Int.mul_nonneg h0 (by omega)
    exact Int.le_of_mul_le_mul_right (by rw [Int.zero_mul]; exact this) hb
  · refine Int.le_of_mul_le_mul_right ?_ hb
    rw [← c, Int.mul_assoc, Int.mul_comm (q.den : Int) b, ← Int.mul_assoc]
    exact Int.mul_le_mul_of_nonneg_right h1 (by omega)
theorem frD_int (m : Int) : frD (m : Rat) = .tup [.int m, .int 1] := rfl
theorem sz_int {k : Nat} {m : Int} (h : m.natAbs < 2 ^ k) (hk : 0 < k) : Sz k (m : Rat) := ⟨h, by
  show 1 < 2 ^ k
  exact Nat.one_lt_two_pow (by omega)⟩
theorem on_int {n : Nat} {m : Int} (h0 : 0 ≤ m) (h1 : m ≤ (n : Int) - 1) : On n (m : Rat) := ⟨h0, by show m ≤ ((n : Int) - 1) * ((1 : Nat) : Int); omega⟩
/-- a whole number and a fraction -/
theorem frD_addi (m : Int) (q : Rat) : frD ((m : Rat) + q) = .tup [.int (m * q.den + q.num), .int q.den] := by
  have d := den_pos q
  have e : Rat.divInt (m * q.den + q.num) q.den = (m : Rat) + q := by
    have h := rat_add (m : Rat) q
    rw [← h]
    show Rat.divInt (m * q.den + q.num) q.den = Rat.divInt (m * q.den + q.num * ((1 : Nat) : Int)) (((1 : Nat) : Int) * q.den)
    simp
  have g : Int.gcd (m * q.den + q.num) q.den = 1 := by
    have h : Int.gcd q.num q.den = 1 := q.reduced
    rw [Int.add_comm, Int.gcd_add_mul_right_left]
    exact h
  rw [← e, fr_pos d, g]
  simp
theorem num_addi (m : Int) (q : Rat) : ((m : Rat) + q).num = m * q.den + q.num ∧ ((m : Rat) + q).den = q.den := by
  have h := frD_addi m q
  unfold frD at h
  simp at h
  exact ⟨h.1, by have := h.2; omega⟩
/-- a loop over a count that ends at the first that fits -/
theorem fo_find {t : Tg} {b : List St} {C : Nat → Bool} {r : D} (I : En → Prop) : ∀ (c a : Nat) {ρ : En}, I ρ →
    (∀ k ρ, I ρ → a ≤ k → k < a + c → ∃ ρ1, setT t (.int (k : Int)) ρ = .ok ρ1 ∧ (if C k then exs ρ1 b = .rt r else ∃ ρ', exs ρ1 b = .nx ρ' ∧ I ρ')) →
    (∃ k, a ≤ k ∧ k < a + c ∧ C k = true ∧ foO t b ((List.range' a c).map fun (k : Nat) => D.int k) ρ = .rt r) ∨ ((∀ k, a ≤ k → k < a + c → C k = false) ∧ ∃ ρ', foO t b ((List.range' a c).map fun (k : Nat) => D.int k) ρ = .nx ρ' ∧ I ρ')
  | 0, a, ρ, i, h => .inr ⟨fun k h1 h2 => by omega, ρ, rfl, i⟩
  | c + 1, a, ρ, i, h => by
    obtain ⟨ρ1, e1, e2⟩ := h a ρ i (Nat.le_refl _) (by omega)
    rw [List.range'_succ, List.map_cons]
    cases hc : C a with
    | true =>
      rw [hc, if_pos rfl] at e2
      exact .inl ⟨a, Nat.le_refl _, by omega, hc, fo_rt e1 e2⟩
    | false =>
      rw [hc] at e2
      obtain ⟨ρ2, e3, i2⟩ := e2
      rcases fo_find I c (a + 1) i2 (fun k ρ i h1 h2 => h k ρ i (by omega) (by omega)) with ⟨k, h1, h2, h3, h4⟩ | ⟨h1, ρ3, h2, h3⟩
      · exact .inl ⟨k, by omega, by omega, h3, by rw [fo_nx e1 e3]; exact h4⟩
      · refine .inr ⟨fun k h4 h5 => ?_, ρ3, by rw [fo_nx e1 e3]; exact h2, h3⟩
        by_cases q : k = a
        · rw [q]; exact hc
        · exact h1 k (by omega) (by omega)
/-! ### both in one stretch -/
theorem int_le {k : Int} {p : Rat} : (k : Rat) ≤ p ↔ k * p.den ≤ p.num := by
  rw [Rat.le_iff]
  show k * (p.den : Int) ≤ p.num * ((1 : Nat) : Int) ↔ _
  simp
theorem le_int {k : Int} {p : Rat} : p ≤ (k : Rat) ↔ p.num ≤ k * p.den := by
  rw [Rat.le_iff]
  show p.num * ((1 : Nat) : Int) ≤ k * (p.den : Int) ↔ _
  simp
/-- the k-th stretch has both -/
def inK (p q : Rat) (k : Nat) : Bool := decide ((k : Int) * p.den ≤ p.num) && decide (p.num ≤ ((k : Int) + 1) * p.den) && (decide ((k : Int) * q.den ≤ q.num) && decide (q.num ≤ ((k : Int) + 1) * q.den))
theorem inK_iff {p q : Rat} {k : Nat} : inK p q k = true ↔ (((k : Int) : Rat) ≤ p ∧ p ≤ ((((k : Int) + 1 : Int)) : Rat)) ∧ (((k : Int) : Rat) ≤ q ∧ q ≤ ((((k : Int) + 1 : Int)) : Rat)) := by
  unfold inK
  simp only [Bool.and_eq_true, decide_eq_true_eq]
  rw [int_le, le_int, int_le, le_int]
def strB (p q : Rat) : Bool := if q < p then !decide (((q.floor + 1 : Int) : Rat) < p) else !decide (((p.floor + 1 : Int) : Rat) < q)
theorem str_iff0 {n : Nat} {p q : Rat} (hp : On n p) (h : p ≤ q) (hn : 1 ≤ n) : (∃ k : Nat, k < n ∧ inK p q k = true) ↔ ¬ ((p.floor + 1 : Int) : Rat) < q := by
  have f1 := Rat.floor_le p
  have f2 := Rat.lt_floor_add_one p
  rw [Rat.not_lt]
  constructor
  · rintro ⟨k, hk, e⟩
    obtain ⟨⟨a1, a2⟩, a3, a4⟩ := inK_iff.mp e
    have z := Rat.le_floor_iff.mpr a1
    have z2 : (((k : Int) + 1 : Int) : Rat) ≤ ((p.floor + 1 : Int) : Rat) := Rat.intCast_le_intCast.mpr (by omega)
    exact Rat.le_trans a4 z2
  · intro e
    have z0 : 0 ≤ p.floor := Rat.le_floor_iff.mpr (int_le.mpr (by rw [Int.zero_mul]; exact hp.1))
    have z1 : p ≤ (((n : Int) - 1 : Int) : Rat) := le_int.mpr hp.2
    have z2 : p.floor ≤ (n : Int) - 1 := Rat.intCast_le_intCast.mp (Rat.le_trans f1 z1)
    refine ⟨p.floor.toNat, by omega, inK_iff.mpr ?_⟩
    have c : ((p.floor.toNat : Nat) : Int) = p.floor := by omega
    rw [c]
    exact ⟨⟨f1, Rat.le_of_lt f2⟩, Rat.le_trans f1 h, e⟩
theorem inK_comm (p q : Rat) (k : Nat) : inK p q k = inK q p k := by unfold inK; rw [Bool.and_comm]
theorem str_iff {n : Nat} {p q : Rat} (hp : On n p) (hq : On n q) (hn : 1 ≤ n) : (∃ k : Nat, k < n ∧ inK p q k = true) ↔ strB p q = true := by
  unfold strB
  by_cases h : q < p
  · rw [if_pos h]
    have e := str_iff0 hq (Rat.le_of_lt h) hn
    simp only [inK_comm q p] at e
    rw [e]
    simp
  · rw [if_neg h, str_iff0 hp (Rat.not_lt.mp h) hn]
    simp
theorem str_comm {n : Nat} {p q : Rat} (hp : On n p) (hq : On n q) (hn : 1 ≤ n) : strB p q = strB q p := by
  rw [Bool.eq_iff_iff, ← str_iff hp hq hn, ← str_iff hq hp hn]
  simp only [inK_comm q p]
theorem str_self (p : Rat) : strB p p = true := by
  have f2 := Rat.lt_floor_add_one p
  unfold strB
  rw [if_neg (by grind)]
  simp only [Bool.not_eq_true', decide_eq_false_iff_not]
  grind
end OL
/-! Sizes found by themselves. -/
namespace OL
open PySem PySem.Spec PyProof.Rows L2
/-- a whole number of at most n bits -/
class Bi (i : Int) (n : outParam Nat) : Prop where
  le : i.natAbs < 2 ^ n
/-- a fraction of at most a bits over b bits -/
class Bq (q : Rat) (a b : outParam Nat) : Prop where
  nu : q.num.natAbs < 2 ^ a
  de : q.den ≤ 2 ^ b
theorem lt_up {x a b : Nat} (h : x < 2 ^ a) (hb : a ≤ b) : x < 2 ^ b := Nat.lt_of_lt_of_le h (Nat.pow_le_pow_right (by decide) hb)
theorem Bi.up {i : Int} {m n : Nat} (h : Bi i m) (l : m ≤ n) : Bi i n := ⟨lt_up h.le l⟩
theorem le_up {x a b : Nat} (h : x ≤ 2 ^ a) (hb : a ≤ b) : x ≤ 2 ^ b := Nat.le_trans h (Nat.pow_le_pow_right (by decide) hb)
theorem Bq.up {q : Rat} {a b c d : Nat} (h : Bq q a b) (l : a ≤ c) (l2 : b ≤ d) : Bq q c d := ⟨lt_up h.nu l, le_up h.de l2⟩
theorem Bq.of {q : Rat} {k : Nat} (h : Sz k q) : Bq q k k := ⟨h.1, Nat.le_of_lt h.2⟩
theorem Bq.szz {q : Rat} {a b k : Nat} (h : Bq q a b) (l : a ≤ k) (l2 : b + 1 ≤ k) : Sz k q := ⟨lt_up h.nu l, Nat.lt_of_le_of_lt h.de (Nat.pow_lt_pow_right (by decide) (by omega))⟩
theorem Bq.den1 {q : Rat} {a b : Nat} (h : Bq q a b) : ((q.den : Int)).natAbs < 2 ^ (b + 1) := by rw [Int.natAbs_natCast]; exact Nat.lt_of_le_of_lt h.de (Nat.pow_lt_pow_right (by decide) (by omega))
section
variable {i j : Int} {m n : Nat}
class Tr (b : Bool) : Prop where
  h : b = true
instance : Tr (no_index true) := ⟨rfl⟩
theorem bi_le {k c : Nat} (n : Nat) (t : Tr (Nat.ble k c)) (h : c < 2 ^ n) : (OfNat.ofNat k : Int).natAbs < 2 ^ n := by
  have := Nat.le_of_ble_eq_true t.h
  show k < 2 ^ n
  omega
instance (priority := 500) bi_lit4 (k : Nat) [t : Tr (Nat.ble k 15)] : Bi (no_index (OfNat.ofNat k : Int)) 4 := ⟨bi_le 4 t (by decide)⟩
instance (priority := 400) bi_lit16 (k : Nat) [t : Tr (Nat.ble k 65535)] : Bi (no_index (OfNat.ofNat k : Int)) 16 := ⟨bi_le 16 t (by decide)⟩
instance (priority := 300) bi_lit64 (k : Nat) [t : Tr (Nat.ble k 18446744073709551615)] : Bi (no_index (OfNat.ofNat k : Int)) 64 := ⟨bi_le 64 t (by decide)⟩
instance (priority := 200) bi_lit150 (k : Nat) [t : Tr (Nat.ble k 1427247692705959881058285969449495136382746623)] : Bi (no_index (OfNat.ofNat k : Int)) 150 := ⟨bi_le 150 t (by decide)⟩
instance (priority := 100) bi_lit600 (k : Nat) [t : Tr (Nat.ble k 4149515568880992958512407863691161151012446232242436899995657329690652811412908146399707048947103794288197886611300789182395151075411775307886874834113963687061181803401509523685375)] : Bi (no_index (OfNat.ofNat k : Int)) 600 := ⟨bi_le 600 t (by decide)⟩
instance bi_neg [a : Bi i m] : Bi (-i) m := ⟨by rw [Int.natAbs_neg]; exact a.le⟩
instance bi_add [a : Bi i m] [b : Bi j n] : Bi (i + j) (m + n + 1) := ⟨(add_lt2 (lt_up a.le (Nat.le_add_right _ _)) (lt_up b.le (Nat.le_add_left _ _))).1⟩
instance bi_sub [a : Bi i m] [b : Bi j n] : Bi (i - j) (m + n + 1) := ⟨(add_lt2 (lt_up a.le (Nat.le_add_right _ _)) (lt_up b.le (Nat.le_add_left _ _))).2⟩
instance bi_mul [a : Bi i m] [b : Bi j n] : Bi (i * j) (m + n) := ⟨mul_lt2 a.le b.le⟩
instance bi_abs [a : Bi i m] : Bi (i.natAbs : Int) m := ⟨by rw [Int.natAbs_natCast]; exact a.le⟩
instance bi_min [a : Bi i m] [b : Bi j n] : Bi (min i j) (m + n) := ⟨by
  have h1 := lt_up a.le (Nat.le_add_right m n)
  have h2 := lt_up b.le (Nat.le_add_left n m)
  rw [Int.min_def]; split <;> assumption⟩
instance bi_max [a : Bi i m] [b : Bi j n] : Bi (max i j) (m + n) := ⟨by
  have h1 := lt_up a.le (Nat.le_add_right m n)
  have h2 := lt_up b.le (Nat.le_add_left n m)
  rw [Int.max_def]; split <;> assumption⟩
theorem fdiv_abs (i j : Int) : (i.fdiv j).natAbs ≤ i.natAbs := by
  have h := Int.natAbs_ediv_le_natAbs i j
  rcases Int.lt_trichotomy j 0 with hj | hj | hj
  · by_cases hd : j ∣ i
    · rw [Int.fdiv_eq_ediv_of_dvd hd]; exact h
    · have e := Int.fdiv_eq_ediv (a := i) (b := j)
      rw [if_neg (by intro z; rcases z with z | z; omega; exact hd z)] at e
      have hi : i ≠ 0 := fun z => hd (by rw [z]; exact Int.dvd_zero j)
      by_cases i0 : 0 < i
      · have k1 : i / j ≤ 0 := Int.ediv_nonpos_of_nonneg_of_nonpos (by omega) (by omega)
        have k2 : -(i / j) * (-j) ≤ i := by rw [Int.neg_mul_neg]; exact Int.ediv_mul_le i (by omega)
        have k3 : i / j * j ≠ i := fun z => hd ⟨i / j, by rw [Int.mul_comm]; exact z.symm⟩
        have k4 : -(i / j) * 1 ≤ -(i / j) * (-j) := Int.mul_le_mul_of_nonneg_left (by omega) (by omega)
        rw [Int.neg_mul_neg] at k2 k4
        have k5 : i / j * j < i := by omega
        omega
      · have k1 : 0 ≤ i / j := by
          have := Int.ediv_nonneg_of_nonpos_of_nonpos (a := i) (b := j) (by omega) (by omega)
          exact this
        have k6 : 0 < i / j ∨ i / j = 0 := by omega
        rcases k6 with k6 | k6
        · omega
        · exfalso
          have := Int.emod_add_mul_ediv i j
          rw [k6, Int.mul_zero] at this
          have := Int.emod_nonneg i (show j ≠ 0 by omega)
          omega
  · subst hj; simp
  · rw [Int.fdiv_eq_ediv_of_nonneg i (by omega)]; exact h
instance bi_fdiv [a : Bi i m] : Bi (i.fdiv j) m := ⟨Nat.lt_of_le_of_lt (fdiv_abs i j) a.le⟩
instance bi_fmod [a : Bi i m] [b : Bi j n] : Bi (i.fmod j) (m + n) := ⟨by
  have h1 := lt_up a.le (Nat.le_add_right m n)
  have h2 := lt_up b.le (Nat.le_add_left n m)
  rcases Int.lt_trichotomy j 0 with hj | hj | hj
  · have e := Int.fmod_eq_emod (a := i) (b := j)
    have k1 := Int.emod_nonneg i (show j ≠ 0 by omega)
    have k2 := Int.emod_lt i (show j ≠ 0 by omega)
    by_cases hd : j ∣ i
    · have : i.fmod j = 0 := Int.fmod_eq_zero_of_dvd hd
      rw [this]
      exact Nat.pow_pos (by decide)
    · rw [if_neg (by intro z; rcases z with z | z; omega; exact hd z)] at e
      have : i % j ≠ 0 := fun z => hd (Int.dvd_of_emod_eq_zero z)
      omega
  · subst hj; rw [Int.fmod_zero]; exact h1
  · have k1 := Int.fmod_nonneg_of_pos i hj
    have k2 := Int.fmod_lt_of_pos i hj
    omega⟩
theorem mulOk_b [a : Bi i m] [b : Bi j n] (h : m + n ≤ 900000) : mulOk i j = true :=
  mulOk_of (m + 1) (n + 1) (lt_up a.le (by omega)) (lt_up b.le (by omega)) (by omega) (by omega) (by omega)
theorem divOk_b [a : Bi j n] (h0 : j ≠ 0) (h : n ≤ 9000) : divOk j = true := divOk_of h0 (lt_up a.le h)
end
theorem intBits_le {i : Int} {n : Nat} (h : i.natAbs < 2 ^ n) : Builtin.Int.intBits i ≤ n := by
  unfold Builtin.Int.intBits
  split
  · omega
  · rename_i z
    have z : i.natAbs ≠ 0 := by
      intro w
      apply z
      simp
      omega
    have := (Nat.log2_lt z).mpr h
    omega
theorem pwOk_b {i j : Int} {n : Nat} [a : Bi i n] (h0 : 0 ≤ j) (h : j ≤ 1000000) (h2 : (n : Int) * j ≤ 134217728) : pwOk i j = true := by
  have l := intBits_le a.le
  unfold pwOk
  rw [Bool.and_eq_true]
  refine ⟨decide_eq_true h0, decide_eq_true ?_⟩
  exact Int.le_trans (Int.mul_le_mul_of_nonneg_right (by omega) h0) h2
section
variable {p q : Rat} {a b c d : Nat} {i j : Int}
instance bq_num [x : Bq q a b] : Bi q.num a := ⟨x.nu⟩
instance bq_den [x : Bq q a b] : Bi (q.den : Int) (b + 1) := ⟨x.den1⟩
instance bq_int [x : Bi i a] : Bq (i : Rat) a 0 := ⟨x.le, Nat.le_refl 1⟩
instance bq_lit (k n : Nat) [x : Bi (OfNat.ofNat k : Int) n] : Bq (no_index (OfNat.ofNat k : Rat)) n 0 := (bq_int : Bq (((OfNat.ofNat k : Int)) : Rat) n 0)
theorem bq_of_div {m n : Int} (h : n ≠ 0) (hm : m.natAbs < 2 ^ a) (hn : n.natAbs ≤ 2 ^ b) : Bq (Rat.divInt m n) a b := by
  obtain ⟨f1, f2, f3, f4, f5⟩ := rat_facts (a := m) h
  obtain ⟨e1, e2⟩ := rat_eq (a := m) h
  exact ⟨by rw [e1]; exact Nat.lt_of_le_of_lt f4 hm, Nat.le_trans (by omega) hn⟩
instance bq_div [x : Bi i a] [y : Bi j b] : Bq (Rat.divInt i j) a b := by
  by_cases h : j = 0
  · subst h; rw [Rat.divInt_zero]; exact ⟨Nat.pow_pos (by decide), Nat.pow_pos (by decide)⟩
  · exact bq_of_div h x.le (Nat.le_of_lt y.le)
instance bq_neg [x : Bq q a b] : Bq (-q) a b := ⟨by rw [Rat.neg_num, Int.natAbs_neg]; exact x.nu, by rw [Rat.neg_den]; exact x.de⟩
theorem mul_le2 {x y k l : Nat} (h1 : x ≤ 2 ^ k) (h2 : y ≤ 2 ^ l) : x * y ≤ 2 ^ (k + l) := by rw [Nat.pow_add]; exact Nat.mul_le_mul h1 h2
theorem mul_lt_le {x y : Int} {k l : Nat} (h1 : x.natAbs < 2 ^ k) (h2 : y.natAbs ≤ 2 ^ l) : (x * y).natAbs < 2 ^ (k + l) := by
  rw [Int.natAbs_mul, Nat.pow_add]
  exact Nat.mul_lt_mul_of_lt_of_le h1 h2 (Nat.pow_pos (by decide))
theorem den_abs (q : Rat) [x : Bq q a b] : ((q.den : Int)).natAbs ≤ 2 ^ b := by rw [Int.natAbs_natCast]; exact x.de
theorem dd_le (p q : Rat) [x : Bq p a b] [y : Bq q c d] : ((p.den : Int) * q.den).natAbs ≤ 2 ^ (b + d) := by
  rw [Int.natAbs_mul]; exact mul_le2 (den_abs p) (den_abs q)
instance bq_add [x : Bq p a b] [y : Bq q c d] : Bq (p + q) (a + d + (c + b) + 1) (b + d) := by
  rw [← rat_add]
  exact bq_of_div (dd_ne p q) (add_lt2 (lt_up (mul_lt_le x.nu (den_abs q)) (Nat.le_add_right _ _)) (lt_up (mul_lt_le y.nu (den_abs p)) (Nat.le_add_left _ _))).1 (dd_le p q)
instance bq_sub [x : Bq p a b] [y : Bq q c d] : Bq (p - q) (a + d + (c + b) + 1) (b + d) := by
  rw [← rat_sub]
  exact bq_of_div (dd_ne p q) (add_lt2 (lt_up (mul_lt_le x.nu (den_abs q)) (Nat.le_add_right _ _)) (lt_up (mul_lt_le y.nu (den_abs p)) (Nat.le_add_left _ _))).2 (dd_le p q)
instance bq_mul [x : Bq p a b] [y : Bq q c d] : Bq (p * q) (a + c) (b + d) := by
  rw [← rat_mul]
  exact bq_of_div (dd_ne p q) (mul_lt2 x.nu y.nu) (dd_le p q)
instance bq_over [x : Bq p a b] [y : Bq q c d] : Bq (p / q) (a + d) (b + c) := by
  by_cases h : q = 0
  · subst h
    rw [Rat.div_def, Rat.inv_zero, Rat.mul_zero]
    exact ⟨Nat.pow_pos (by decide), Nat.pow_pos (by decide)⟩
  · rw [← rat_div]
    have hd := den_pos p
    have hn : q.num ≠ 0 := fun z => h (Rat.num_eq_zero.mp z)
    refine bq_of_div (Int.mul_ne_zero (by omega) hn) (mul_lt_le x.nu (den_abs q)) ?_
    rw [Int.natAbs_mul]; exact mul_le2 (den_abs p) (Nat.le_of_lt y.nu)
theorem floor_fdiv (q : Rat) : q.num.fdiv q.den = q.floor := by
  have := den_pos q
  rw [Rat.floor_def, Int.fdiv_eq_ediv_of_nonneg _ (by omega)]
instance bi_floor [x : Bq q a b] : Bi q.floor a := ⟨by rw [← floor_fdiv]; exact Nat.lt_of_le_of_lt (fdiv_abs _ _) x.nu⟩
@[simp] theorem den_nz' (q : Rat) : ¬ q.den = 0 := q.den_nz
@[simp] theorem den_ne (q : Rat) : ¬ (q.den : Int) = 0 := by have := den_pos q; omega
/-- what is over the floor -/
theorem sub_floor (q : Rat) : q - (q.floor : Rat) = Rat.divInt (q.num - q.floor * q.den) q.den := by
  rw [← rat_sub]
  show Rat.divInt (q.num * ((1 : Nat) : Int) - q.floor * q.den) (q.den * ((1 : Nat) : Int)) = _
  simp
instance (priority := 2000) bq_frac [x : Bq q a b] : Bq (q - (q.floor : Rat)) (b + 1) b := by
  rw [sub_floor]
  have d := den_pos q
  obtain ⟨f1, f2, _⟩ := floor_facts (n := q.num) d
  rw [floor_fdiv] at f1 f2
  rw [Int.add_mul, Int.one_mul] at f2
  have h := x.de
  exact bq_of_div (by omega) (Nat.lt_of_le_of_lt (m := q.den) (by omega) (Nat.lt_of_le_of_lt h (Nat.pow_lt_pow_right (by decide) (by omega)))) (by omega)
end
/-- a law's cells: some of the script's first ones, and the count of all -/
theorem cells_sq {t : Tg} {b : List St} {p : PC} {k : En → O} {m : Int} {ns : List Int} {ρ : En} (I : En → Prop) (st : I ρ)
    (h : ∀ (c : Int) (ρ : En), I ρ → Pr ((oo ρ (setT t (.int c) ρ) fun ρ' => exs ρ' b).is { N := I, C := I, B := fun ρ => Pr ((k ρ).is p), R := p.R, X := p.X }))
    (hk : ∀ ρ, I ρ → Pr ((k ρ).is p)) : Pr ((sq (foO t b ((cutD ns none (some m)).map D.int ++ [.int ns.length]) ρ) k).is p) := by
  refine fo_sq (fun r ρ => I ρ ∧ ∀ d ∈ r, ∃ k : Int, d = .int k) ⟨st, fun d hd => ?_⟩ (fun d r ρ ⟨i, hr⟩ => ?_) (fun ρ ⟨i, _⟩ => hk ρ i)
  · rcases List.mem_append.mp hd with z | z
    · obtain ⟨k, _, rfl⟩ := List.mem_map.mp z
      exact ⟨k, rfl⟩
    · exact ⟨_, List.mem_singleton.mp z⟩
  · obtain ⟨k, rfl⟩ := hr d List.mem_cons_self
    have st : ∀ ρ, I ρ → I ρ ∧ ∀ d ∈ r, ∃ k : Int, d = .int k := fun ρ i => ⟨i, fun d hd => hr d (List.mem_cons_of_mem _ hd)⟩
    exact is_mono (h k ρ i) st (fun _ z => z) (fun _ z => z) st (fun _ _ z => z)
theorem cut_le {α : Type} (xs : List α) (lo hi : Option Int) : (cutD xs lo hi).length ≤ xs.length := by
  unfold cutD
  rw [List.length_take, List.length_drop]
  omega
theorem rng_n {n : Nat} (h : n ≤ 1000000) : rngD [.int (n : Int)] = .ok (.lst ((List.range n).map fun (k : Nat) => D.int k)) := by
  rw [rng_1 (by omega) (by omega), Int.toNat_natCast]
/-! ### data that may be held against itself -/
class Pl (d : D) (n : outParam Nat) : Prop where
  lay : PyData.canLay0 (toP d) = true
  dep : PyData.depth (toP d) ≤ n
class PlL (ds : List D) (n : outParam Nat) : Prop where
  lay : PyData.canLayAll0 (toPL ds) = true
  dep : PyData.depthAll (toPL ds) ≤ n
instance pl_non : Pl .non 0 := ⟨rfl, Nat.le_refl _⟩
instance pl_bl (b : Bool) : Pl (.bl b) 0 := ⟨rfl, Nat.le_refl _⟩
instance pl_int (i : Int) : Pl (.int i) 0 := ⟨rfl, Nat.le_refl _⟩
instance pll_nil : PlL [] 0 := ⟨rfl, Nat.le_refl _⟩
instance pll_cons {d : D} {ds : List D} {m n : Nat} [a : Pl d m] [b : PlL ds n] : PlL (d :: ds) (m + n) := ⟨by
  unfold toPL PyData.canLayAll0
  rw [a.lay, b.lay]; rfl, by
  unfold toPL PyData.depthAll
  have := a.dep
  have := b.dep
  omega⟩
instance pl_tup {ds : List D} {n : Nat} [a : PlL ds n] : Pl (.tup ds) (n + 1) := ⟨by
  unfold toP PyData.canLay0; exact a.lay, by
  unfold toP PyData.depth; exact Nat.succ_le_succ a.dep⟩
instance pl_lst {ds : List D} {n : Nat} [a : PlL ds n] : Pl (.lst ds) (n + 1) := ⟨by
  unfold toP PyData.canLay0; exact a.lay, by
  unfold toP PyData.depth; exact Nat.succ_le_succ a.dep⟩
theorem pll_of {ds : List D} {n : Nat} (h : ∀ d ∈ ds, Pl d n) : PlL ds n := by
  induction ds with
  | nil => exact ⟨rfl, Nat.zero_le _⟩
  | cons d ds ih =>
    have a := h d List.mem_cons_self
    have b := ih fun x hx => h x (List.mem_cons_of_mem _ hx)
    refine ⟨?_, ?_⟩
    · unfold toPL PyData.canLayAll0
      rw [a.lay, b.lay]; rfl
    · unfold toPL PyData.depthAll
      have := a.dep
      have := b.dep
      omega
instance pll_map {α : Type} {f : α → D} {l : List α} {n : Nat} [h : ∀ a, Pl (f a) n] : PlL (l.map f) n := pll_of fun d hd => by
  obtain ⟨a, _, rfl⟩ := List.mem_map.mp hd
  exact h a
theorem shp_of {d : D} {n : Nat} [a : Pl d n] (h : n ≤ 64) : shp d = true := by
  unfold shp SeqAt.shaped
  rw [a.lay, Bool.true_and]
  exact decide_eq_true (Nat.le_trans a.dep h)
theorem eqd_self {d : D} {n : Nat} [a : Pl d n] : eqd d d = true := SeqAt.eqv_refl _ a.lay
@[simp] theorem eq_self {d : D} {n : Nat} [a : Pl d n] (h : n ≤ 64) : cpD .eq d d = .ok (.bl true) := by
  show (if shp d && shp d then (R.ok (D.bl (eqd d d)) : R D) else .bad) = _
  rw [shp_of h, eqd_self (d := d)]; rfl
@[simp] theorem ne_self {d : D} {n : Nat} [a : Pl d n] (h : n ≤ 64) : cpD .ne d d = .ok (.bl false) := by
  show (if shp d && shp d then (R.ok (D.bl (!eqd d d)) : R D) else .bad) = _
  rw [shp_of h, eqd_self (d := d)]; rfl
instance pl_fr (q : Rat) : Pl (frD q) 1 := (inferInstance : Pl (.tup [.int q.num, .int q.den]) 1)
instance pl_cr (p : Int × Int) : Pl (crD p) 1 := (inferInstance : Pl (.tup [.int p.1, .int p.2]) 1)
/-- held against nought -/
theorem same_iff {q : Rat} {a b : Int} (h : b ≠ 0) : (q.num * b = a * q.den) ↔ q = Rat.divInt a b := by
  have c := rat_cross (a := a) h
  constructor
  · intro e
    rw [← Rat.num_divInt_den q]
    exact (Rat.divInt_eq_divInt_iff (by have := den_pos q; omega) h).mpr e
  · intro e
    rw [e]
    exact c.symm
theorem eq_div_of {a b c : Rat} (h : c ≠ 0) (e : a * c = b) : a = b / c := by rw [Rat.div_def, ← e, Rat.mul_assoc, Rat.mul_inv_cancel c h, Rat.mul_one]
theorem rat_sq (r : Rat) : 0 ≤ r * r := by
  rcases Rat.le_total (a := 0) (b := r) with h | h
  · exact Rat.mul_nonneg h h
  · have := Rat.mul_nonneg (a := -r) (b := -r) (by grind) (by grind)
    grind
def boD : D → Option Bool
  | .bl b => some b
  | _ => none
theorem mapM_bl {α : Type} (g : α → Bool) : ∀ l : List α, (l.map fun a => D.bl (g a)).mapM boD = some (l.map g)
  | [] => rfl
  | a :: l => by
    rw [List.map_cons, List.mapM_cons, mapM_bl g l]
    rfl
theorem all_bl {α : Type} (g : α → Bool) (l : List α) : bltD .all [.lst (l.map fun a => .bl (g a))] = .ok (.bl (l.all g)) := by
  have e : bltD .all [.lst (l.map fun a => D.bl (g a))] = (match (l.map fun a => D.bl (g a)).mapM boD with | some bs => R.ok (D.bl (bs.all id)) | none => .bad) := rfl
  rw [e, mapM_bl]
  show R.ok (D.bl ((l.map g).all id)) = _
  rw [List.all_map]
  rfl
theorem any_bl {α : Type} (g : α → Bool) (l : List α) : bltD .any [.lst (l.map fun a => .bl (g a))] = .ok (.bl (l.any g)) := by
  have e : bltD .any [.lst (l.map fun a => D.bl (g a))] = (match (l.map fun a => D.bl (g a)).mapM boD with | some bs => R.ok (D.bl (bs.any id)) | none => .bad) := rfl
  rw [e, mapM_bl]
  show R.ok (D.bl ((l.map g).any id)) = _
  rw [List.any_map]
  rfl
def nth (l : List Int) (i : Nat) : Int := l.getD i 0
theorem nth_at {l : List Int} {i : Nat} (h : i < l.length) : l[i]? = some (nth l i) := by
  unfold nth
  rw [List.getD_eq_getElem?_getD, List.getElem?_eq_getElem h]
  rfl
theorem ix_nth {l : List Int} (i : Nat) (h : i < l.length) : ixD (.lst (l.map D.int)) (.int (no_index (OfNat.ofNat i))) = .ok (.int (nth l i)) := by
  rw [ix_lN, List.getElem?_map, nth_at h]
  rfl
theorem nth_b {l : List Int} {b : Int} (hb : ∀ x ∈ l, 0 ≤ x ∧ x < b) (h0 : 0 < b) (i : Nat) : 0 ≤ nth l i ∧ nth l i < b := by
  unfold nth
  by_cases h : i < l.length
  · rw [List.getD_eq_getElem?_getD, List.getElem?_eq_getElem h]
    exact hb _ (List.getElem_mem h)
  · rw [List.getD_eq_getElem?_getD, List.getElem?_eq_none (by omega)]
    exact ⟨Int.le_refl _, h0⟩
theorem cut_seg {α : Type} {l : List α} {a b : Nat} (h : a ≤ b) (hb : b ≤ l.length) : cutD l (some (a : Int)) (some (b : Int)) = (l.drop a).take (b - a) := by
  unfold cutD
  rw [HT.sIx_nat, HT.sIx_nat, Nat.min_eq_left hb, Nat.min_eq_left (by omega)]
theorem cut_seg_len {α : Type} {l : List α} {a b : Nat} (h : a ≤ b) (hb : b ≤ l.length) : (cutD l (some (a : Int)) (some (b : Int))).length = b - a := by
  rw [cut_seg h hb, List.length_take, List.length_drop]
  omega
theorem cut_mem {α : Type} {l : List α} {lo hi : Option Int} {x : α} (h : x ∈ cutD l lo hi) : x ∈ l := by
  unfold cutD at h
  exact List.mem_of_mem_drop (List.mem_of_mem_take h)
theorem cut_tail_len {α : Type} {l : List α} {a : Nat} (h : a ≤ l.length) : (cutD l (some (a : Int)) none).length = l.length - a := by
  rw [cut_from h, List.length_drop]
@[simp ↓] theorem setT_fr {ρ : En} (ts : List Tg) (q : Rat) : setT (.tp ts) (frD q) ρ = setTs ts [.int q.num, .int q.den] ρ := setT_tp ts _
@[simp ↓] theorem setT_cr {ρ : En} (ts : List Tg) (p : Int × Int) : setT (.tp ts) (crD p) ρ = setTs ts [.int p.1, .int p.2] ρ := setT_tp ts _
@[simp] theorem ix_cr0 (p : Int × Int) : ixD (crD p) (.int 0) = .ok (.int p.1) := rfl
@[simp] theorem ix_cr1 (p : Int × Int) : ixD (crD p) (.int 1) = .ok (.int p.2) := rfl
end OL
namespace OL.LW
open PySem PySem.Spec PyProof.Rows L2
noncomputable def B_is_whole : List St :=
  [.ret (.and [(.isi (.var 0) ["int"]), (.not (.isi (.var 0) ["bool"]))])]
noncomputable def F_is_whole : List D → R D := defR 1 1 B_is_whole
theorem D_is_whole (a0 : D) : F_is_whole [a0] = (exs [.v a0] B_is_whole).end := rfl
noncomputable def N_is_whole : Fn := ⟨"is_whole", F_is_whole, false, []⟩
@[simp] theorem run_N_is_whole : N_is_whole.run = F_is_whole := rfl
@[simp] theorem dfl_N_is_whole : N_is_whole.dfl = [] := rfl
noncomputable def B_divisor : List St :=
  [.asg 0 false (.blt .abs [(.var 0)]), .whl (.cmp .gt (.var 0) (.lit (.int 0))) [.par 0 1 (.bin .mod (.var 1) (.var 0)) (.var 0)], .ret (.var 1)]
noncomputable def F_divisor : List D → R D := defR 2 2 B_divisor
theorem D_divisor (a0 a1 : D) : F_divisor [a0, a1] = (exs [.v a0, .v a1] B_divisor).end := rfl
noncomputable def N_divisor : Fn := ⟨"divisor", F_divisor, false, []⟩
@[simp] theorem run_N_divisor : N_divisor.run = F_divisor := rfl
@[simp] theorem dfl_N_divisor : N_divisor.dfl = [] := rfl
noncomputable def B_ratio : List St :=
  [.ife (.or [(.not (.call N_is_whole false [(.var 0)])), (.not (.call N_is_whole false [(.var 1)])), (.cmp .eq (.var 1) (.lit (.int 0)))]) [.rai "NoRatio"] [],
   .asg 2 false (.call N_divisor false [(.var 0), (.blt .abs [(.var 1)])]), .ife (.cmp .lt (.var 1) (.lit (.int 0))) [.asg 2 false (.bin .sub (.lit (.int 0)) (.var 2))] [],
   .ret (.tup [(.bin .div (.var 0) (.var 2)), (.bin .div (.var 1) (.var 2))])]
noncomputable def F_ratio : List D → R D := defR 3 2 B_ratio
theorem D_ratio (a0 a1 : D) : F_ratio [a0, a1] = (exs [.v a0, .v a1, .n] B_ratio).end := rfl
noncomputable def N_ratio : Fn := ⟨"ratio", F_ratio, false, []⟩
@[simp] theorem run_N_ratio : N_ratio.run = F_ratio := rfl
@[simp] theorem dfl_N_ratio : N_ratio.dfl = [] := rfl
noncomputable def N_ratio_1 : Fn := ⟨"ratio", F_ratio, false, [(.int 1)]⟩
@[simp] theorem run_N_ratio_1 : N_ratio_1.run = F_ratio := rfl
@[simp] theorem dfl_N_ratio_1 : N_ratio_1.dfl = [(.int 1)] := rfl
noncomputable def B_is_ratio : List St :=
  [.ife (.or [(.not (.isi (.var 0) ["tuple"])), (.cmp .ne (.blt .len [(.var 0)]) (.lit (.int 2)))]) [.ret (.lit (.bl false))] [],
   .ife (.or [(.not (.call N_is_whole false [(.ix (.var 0) (.lit (.int 0)))])), (.not (.call N_is_whole false [(.ix (.var 0) (.lit (.int 1)))])), (.cmp .lt (.ix (.var 0) (.lit (.int 1))) (.lit (.int 1)))]) [.ret (.lit (.bl false))] [],
   .ret (.cmp .eq (.call N_divisor false [(.ix (.var 0) (.lit (.int 0))), (.ix (.var 0) (.lit (.int 1)))]) (.lit (.int 1)))]
noncomputable def F_is_ratio : List D → R D := defR 1 1 B_is_ratio
theorem D_is_ratio (a0 : D) : F_is_ratio [a0] = (exs [.v a0] B_is_ratio).end := rfl
noncomputable def N_is_ratio : Fn := ⟨"is_ratio", F_is_ratio, false, []⟩
@[simp] theorem run_N_is_ratio : N_is_ratio.run = F_is_ratio := rfl
@[simp] theorem dfl_N_is_ratio : N_is_ratio.dfl = [] := rfl
noncomputable def B_plus : List St :=
  [.ret (.call N_ratio false [(.bin .add (.bin .mul (.ix (.var 0) (.lit (.int 0))) (.ix (.var 1) (.lit (.int 1)))) (.bin .mul (.ix (.var 1) (.lit (.int 0))) (.ix (.var 0) (.lit (.int 1))))), (.bin .mul (.ix (.var 0) (.lit (.int 1))) (.ix (.var 1) (.lit (.int 1))))])]
noncomputable def F_plus : List D → R D := defR 2 2 B_plus
theorem D_plus (a0 a1 : D) : F_plus [a0, a1] = (exs [.v a0, .v a1] B_plus).end := rfl
noncomputable def N_plus : Fn := ⟨"plus", F_plus, false, []⟩
@[simp] theorem run_N_plus : N_plus.run = F_plus := rfl
@[simp] theorem dfl_N_plus : N_plus.dfl = [] := rfl
noncomputable def B_minus : List St :=
  [.ret (.call N_ratio false [(.bin .sub (.bin .mul (.ix (.var 0) (.lit (.int 0))) (.ix (.var 1) (.lit (.int 1)))) (.bin .mul (.ix (.var 1) (.lit (.int 0))) (.ix (.var 0) (.lit (.int 1))))), (.bin .mul (.ix (.var 0) (.lit (.int 1))) (.ix (.var 1) (.lit (.int 1))))])]
noncomputable def F_minus : List D → R D := defR 2 2 B_minus
theorem D_minus (a0 a1 : D) : F_minus [a0, a1] = (exs [.v a0, .v a1] B_minus).end := rfl
noncomputable def N_minus : Fn := ⟨"minus", F_minus, false, []⟩
@[simp] theorem run_N_minus : N_minus.run = F_minus := rfl
@[simp] theorem dfl_N_minus : N_minus.dfl = [] := rfl
noncomputable def B_times : List St :=
  [.ret (.call N_ratio false [(.bin .mul (.ix (.var 0) (.lit (.int 0))) (.ix (.var 1) (.lit (.int 0)))), (.bin .mul (.ix (.var 0) (.lit (.int 1))) (.ix (.var 1) (.lit (.int 1))))])]
noncomputable def F_times : List D → R D := defR 2 2 B_times
theorem D_times (a0 a1 : D) : F_times [a0, a1] = (exs [.v a0, .v a1] B_times).end := rfl
noncomputable def N_times : Fn := ⟨"times", F_times, false, []⟩
@[simp] theorem run_N_times : N_times.run = F_times := rfl
@[simp] theorem dfl_N_times : N_times.dfl = [] := rfl
noncomputable def B_over : List St :=
  [.ret (.call N_ratio false [(.bin .mul (.ix (.var 0) (.lit (.int 0))) (.ix (.var 1) (.lit (.int 1)))), (.bin .mul (.ix (.var 0) (.lit (.int 1))) (.ix (.var 1) (.lit (.int 0))))])]
noncomputable def F_over : List D → R D := defR 2 2 B_over
theorem D_over (a0 a1 : D) : F_over [a0, a1] = (exs [.v a0, .v a1] B_over).end := rfl
noncomputable def N_over : Fn := ⟨"over", F_over, false, []⟩
@[simp] theorem run_N_over : N_over.run = F_over := rfl
@[simp] theorem dfl_N_over : N_over.dfl = [] := rfl
noncomputable def B_less : List St :=
  [.ret (.cmp .lt (.bin .mul (.ix (.var 0) (.lit (.int 0))) (.ix (.var 1) (.lit (.int 1)))) (.bin .mul (.ix (.var 1) (.lit (.int 0))) (.ix (.var 0) (.lit (.int 1)))))]
noncomputable def F_less : List D → R D := defR 2 2 B_less
theorem D_less (a0 a1 : D) : F_less [a0, a1] = (exs [.v a0, .v a1] B_less).end := rfl
noncomputable def N_less : Fn := ⟨"less", F_less, false, []⟩
@[simp] theorem run_N_less : N_less.run = F_less := rfl
@[simp] theorem dfl_N_less : N_less.dfl = [] := rfl
noncomputable def B_floor_of : List St :=
  [.ret (.bin .div (.ix (.var 0) (.lit (.int 0))) (.ix (.var 0) (.lit (.int 1))))]
noncomputable def F_floor_of : List D → R D := defR 1 1 B_floor_of
theorem D_floor_of (a0 : D) : F_floor_of [a0] = (exs [.v a0] B_floor_of).end := rfl
noncomputable def N_floor_of : Fn := ⟨"floor_of", F_floor_of, true, []⟩
@[simp] theorem run_N_floor_of : N_floor_of.run = F_floor_of := rfl
@[simp] theorem dfl_N_floor_of : N_floor_of.dfl = [] := rfl
noncomputable def B_is_corner : List St :=
  [.ife (.or [(.not (.isi (.var 0) ["tuple"])), (.cmp .ne (.blt .len [(.var 0)]) (.lit (.int 2)))]) [.ret (.lit (.bl false))] [],
   .for (.nm 1) (.var 0) [.ife (.or [(.not (.call N_is_whole false [(.var 1)])), (.cmp .ge (.blt .abs [(.var 1)]) (.glob "BEYOND" (.int 1000000000000)))]) [.ret (.lit (.bl false))] []],
   .ret (.lit (.bl true))]
noncomputable def F_is_corner : List D → R D := defR 2 1 B_is_corner
theorem D_is_corner (a0 : D) : F_is_corner [a0] = (exs [.v a0, .n] B_is_corner).end := rfl
noncomputable def N_is_corner : Fn := ⟨"is_corner", F_is_corner, false, []⟩
@[simp] theorem run_N_is_corner : N_is_corner.run = F_is_corner := rfl
@[simp] theorem dfl_N_is_corner : N_is_corner.dfl = [] := rfl
noncomputable def B_is_line : List St :=
  [.ife (.or [(.not (.isi (.var 0) ["list"])), (.not (.chain .le .le (.lit (.int 1)) (.blt .len [(.var 0)]) (.glob "MOST_CORNERS" (.int 10))))]) [.ret (.lit (.bl false))] [],
   .ret (.blt .all [(.lc (.call N_is_corner false [(.var 1)]) (.nm 1) (.var 0) .nop)])]
noncomputable def F_is_line : List D → R D := defR 2 1 B_is_line
theorem D_is_line (a0 : D) : F_is_line [a0] = (exs [.v a0, .n] B_is_line).end := rfl
noncomputable def N_is_line : Fn := ⟨"is_line", F_is_line, false, []⟩
@[simp] theorem run_N_is_line : N_is_line.run = F_is_line := rfl
@[simp] theorem dfl_N_is_line : N_is_line.dfl = [] := rfl
noncomputable def B_line_of : List St :=
  [.ife (.not (.call N_is_line false [(.var 0)])) [.rai "NoLine"] [], .ret (.blt .list [(.var 0)])]
noncomputable def F_line_of : List D → R D := defR 1 1 B_line_of
theorem D_line_of (a0 : D) : F_line_of [a0] = (exs [.v a0] B_line_of).end := rfl
noncomputable def N_line_of : Fn := ⟨"line_of", F_line_of, true, []⟩
@[simp] theorem run_N_line_of : N_line_of.run = F_line_of := rfl
@[simp] theorem dfl_N_line_of : N_line_of.dfl = [] := rfl
noncomputable def B_last_of : List St :=
  [.ret (.bin .sub (.blt .len [(.var 0)]) (.lit (.int 1)))]
noncomputable def F_last_of : List D → R D := defR 1 1 B_last_of
theorem D_last_of (a0 : D) : F_last_of [a0] = (exs [.v a0] B_last_of).end := rfl
noncomputable def N_last_of : Fn := ⟨"last_of", F_last_of, true, []⟩
@[simp] theorem run_N_last_of : N_last_of.run = F_last_of := rfl
@[simp] theorem dfl_N_last_of : N_last_of.dfl = [] := rfl
noncomputable def B_is_place : List St :=
  [.ret (.and [(.call N_is_ratio false [(.var 1)]), (.chain .le .le (.lit (.int 0)) (.ix (.var 1) (.lit (.int 0))) (.bin .mul (.call N_last_of false [(.var 0)]) (.ix (.var 1) (.lit (.int 1)))))])]
noncomputable def F_is_place : List D → R D := defR 2 2 B_is_place
theorem D_is_place (a0 a1 : D) : F_is_place [a0, a1] = (exs [.v a0, .v a1] B_is_place).end := rfl
noncomputable def N_is_place : Fn := ⟨"is_place", F_is_place, false, []⟩
@[simp] theorem run_N_is_place : N_is_place.run = F_is_place := rfl
@[simp] theorem dfl_N_is_place : N_is_place.dfl = [] := rfl
noncomputable def B_look_at_place : List St :=
  [.ife (.not (.call N_is_place false [(.var 0), (.var 1)])) [.rai "NoPlace"] []]
noncomputable def F_look_at_place : List D → R D := defR 2 2 B_look_at_place
theorem D_look_at_place (a0 a1 : D) : F_look_at_place [a0, a1] = (exs [.v a0, .v a1] B_look_at_place).end := rfl
noncomputable def N_look_at_place : Fn := ⟨"look_at_place", F_look_at_place, false, []⟩
@[simp] theorem run_N_look_at_place : N_look_at_place.run = F_look_at_place := rfl
@[simp] theorem dfl_N_look_at_place : N_look_at_place.dfl = [] := rfl
noncomputable def B_ends_of : List St :=
  [.ret (.tup [(.ix (.var 0) (.var 1)), (.ix (.var 0) (.blt .min [(.bin .add (.var 1) (.lit (.int 1))), (.call N_last_of false [(.var 0)])]))])]
noncomputable def F_ends_of : List D → R D := defR 2 2 B_ends_of
theorem D_ends_of (a0 a1 : D) : F_ends_of [a0, a1] = (exs [.v a0, .v a1] B_ends_of).end := rfl
noncomputable def N_ends_of : Fn := ⟨"ends_of", F_ends_of, false, []⟩
@[simp] theorem run_N_ends_of : N_ends_of.run = F_ends_of := rfl
@[simp] theorem dfl_N_ends_of : N_ends_of.dfl = [] := rfl
noncomputable def B_point_at : List St :=
  [.exp (.call N_look_at_place false [(.var 0), (.var 1)]), .asg 2 false (.call N_floor_of false [(.var 1)]), .unp [(.nm 5), (.nm 6)] (.call N_ends_of false [(.var 0), (.var 2)]),
   .asg 3 false (.call N_minus false [(.var 1), (.tup [(.var 2), (.lit (.int 1))])]),
   .asg 4 false (.call N_plus false [(.tup [(.ix (.var 5) (.lit (.int 0))), (.lit (.int 1))]), (.call N_times false [(.var 3), (.tup [(.bin .sub (.ix (.var 6) (.lit (.int 0))) (.ix (.var 5) (.lit (.int 0)))), (.lit (.int 1))])])]),
   .ret (.tup [(.var 4), (.call N_plus false [(.tup [(.ix (.var 5) (.lit (.int 1))), (.lit (.int 1))]), (.call N_times false [(.var 3), (.tup [(.bin .sub (.ix (.var 6) (.lit (.int 1))) (.ix (.var 5) (.lit (.int 1)))), (.lit (.int 1))])])])])]
noncomputable def F_point_at : List D → R D := defR 7 2 B_point_at
theorem D_point_at (a0 a1 : D) : F_point_at [a0, a1] = (exs [.v a0, .v a1, .n, .n, .n, .n, .n] B_point_at).end := rfl
noncomputable def N_point_at : Fn := ⟨"point_at", F_point_at, false, []⟩
@[simp] theorem run_N_point_at : N_point_at.run = F_point_at := rfl
@[simp] theorem dfl_N_point_at : N_point_at.dfl = [] := rfl
noncomputable def B_in_one_stretch : List St :=
  [.exp (.call N_look_at_place false [(.var 0), (.var 1)]), .exp (.call N_look_at_place false [(.var 0), (.var 2)]), .ife (.call N_less false [(.var 2), (.var 1)]) [.par 1 2 (.var 2) (.var 1)] [],
   .ret (.not (.call N_less false [(.tup [(.bin .add (.call N_floor_of false [(.var 1)]) (.lit (.int 1))), (.lit (.int 1))]), (.var 2)]))]
noncomputable def F_in_one_stretch : List D → R D := defR 3 3 B_in_one_stretch
theorem D_in_one_stretch (a0 a1 a2 : D) : F_in_one_stretch [a0, a1, a2] = (exs [.v a0, .v a1, .v a2] B_in_one_stretch).end := rfl
noncomputable def N_in_one_stretch : Fn := ⟨"in_one_stretch", F_in_one_stretch, false, []⟩
@[simp] theorem run_N_in_one_stretch : N_in_one_stretch.run = F_in_one_stretch := rfl
@[simp] theorem dfl_N_in_one_stretch : N_in_one_stretch.dfl = [] := rfl
noncomputable def B_square_between : List St :=
  [.asg 2 false (.call N_minus false [(.ix (.var 0) (.lit (.int 0))), (.ix (.var 1) (.lit (.int 0)))]),
   .asg 3 false (.call N_minus false [(.ix (.var 0) (.lit (.int 1))), (.ix (.var 1) (.lit (.int 1)))]),
   .ret (.call N_plus false [(.call N_times false [(.var 2), (.var 2)]), (.call N_times false [(.var 3), (.var 3)])])]
noncomputable def F_square_between : List D → R D := defR 4 2 B_square_between
theorem D_square_between (a0 a1 : D) : F_square_between [a0, a1] = (exs [.v a0, .v a1, .n, .n] B_square_between).end := rfl
noncomputable def N_square_between : Fn := ⟨"square_between", F_square_between, false, []⟩
@[simp] theorem run_N_square_between : N_square_between.run = F_square_between := rfl
@[simp] theorem dfl_N_square_between : N_square_between.dfl = [] := rfl
noncomputable def B_square_of : List St :=
  [.ret (.call N_square_between false [(.call N_point_at false [(.var 0), (.var 1)]), (.call N_point_at false [(.var 2), (.var 3)])])]
noncomputable def F_square_of : List D → R D := defR 4 4 B_square_of
theorem D_square_of (a0 a1 a2 a3 : D) : F_square_of [a0, a1, a2, a3] = (exs [.v a0, .v a1, .v a2, .v a3] B_square_of).end := rfl
noncomputable def N_square_of : Fn := ⟨"square_of", F_square_of, false, []⟩
@[simp] theorem run_N_square_of : N_square_of.run = F_square_of := rfl
@[simp] theorem dfl_N_square_of : N_square_of.dfl = [] := rfl
noncomputable def B_foot_on : List St :=
  [.asg 3 false (.bin .sub (.ix (.var 2) (.lit (.int 0))) (.ix (.var 1) (.lit (.int 0)))), .asg 4 false (.bin .sub (.ix (.var 2) (.lit (.int 1))) (.ix (.var 1) (.lit (.int 1)))),
   .asg 5 false (.call N_times false [(.call N_minus false [(.ix (.var 0) (.lit (.int 0))), (.tup [(.ix (.var 1) (.lit (.int 0))), (.lit (.int 1))])]), (.tup [(.var 3), (.lit (.int 1))])]),
   .asg 5 false (.call N_plus false [(.var 5), (.call N_times false [(.call N_minus false [(.ix (.var 0) (.lit (.int 1))), (.tup [(.ix (.var 1) (.lit (.int 1))), (.lit (.int 1))])]), (.tup [(.var 4), (.lit (.int 1))])])]),
   .ret (.call N_over false [(.var 5), (.tup [(.bin .add (.bin .mul (.var 3) (.var 3)) (.bin .mul (.var 4) (.var 4))), (.lit (.int 1))])])]
noncomputable def F_foot_on : List D → R D := defR 6 3 B_foot_on
theorem D_foot_on (a0 a1 a2 : D) : F_foot_on [a0, a1, a2] = (exs [.v a0, .v a1, .v a2, .n, .n, .n] B_foot_on).end := rfl
noncomputable def N_foot_on : Fn := ⟨"foot_on", F_foot_on, false, []⟩
@[simp] theorem run_N_foot_on : N_foot_on.run = F_foot_on := rfl
@[simp] theorem dfl_N_foot_on : N_foot_on.dfl = [] := rfl
noncomputable def B_least_along : List St :=
  [.asg 5 false (.call N_point_at false [(.var 0), (.var 1)]), .exp (.call N_look_at_place false [(.var 2), (.var 3)]), .exp (.call N_look_at_place false [(.var 2), (.var 4)]),
   .asg 6 false (.call N_floor_of false [(.var 3)]), .unp [(.nm 8), (.nm 9)] (.call N_ends_of false [(.var 2), (.var 6)]), .asg 7 false (.var 3),
   .ife (.cmp .ne (.var 8) (.var 9)) [.asg 7 false (.call N_plus false [(.tup [(.var 6), (.lit (.int 1))]), (.call N_foot_on false [(.var 5), (.var 8), (.var 9)])])] [],
   .ife (.call N_less false [(.var 4), (.var 7)]) [.asg 7 false (.var 4)] [], .ife (.call N_less false [(.var 7), (.var 3)]) [.asg 7 false (.var 3)] [],
   .ret (.tup [(.call N_square_between false [(.var 5), (.call N_point_at false [(.var 2), (.var 7)])]), (.var 7)])]
noncomputable def F_least_along : List D → R D := defR 10 5 B_least_along
theorem D_least_along (a0 a1 a2 a3 a4 : D) : F_least_along [a0, a1, a2, a3, a4] = (exs [.v a0, .v a1, .v a2, .v a3, .v a4, .n, .n, .n, .n, .n] B_least_along).end := rfl
noncomputable def N_least_along : Fn := ⟨"least_along", F_least_along, false, []⟩
@[simp] theorem run_N_least_along : N_least_along.run = F_least_along := rfl
@[simp] theorem dfl_N_least_along : N_least_along.dfl = [] := rfl
noncomputable def B_is_way : List St :=
  [.ret (.and [(.isi (.var 0) ["str"]), (.cmp .inn (.var 0) (.tup [(.lit (.str "on")), (.lit (.str "part")), (.lit (.str "free")), (.lit (.str "hops"))]))])]
noncomputable def F_is_way : List D → R D := defR 1 1 B_is_way
theorem D_is_way (a0 : D) : F_is_way [a0] = (exs [.v a0] B_is_way).end := rfl
noncomputable def N_is_way : Fn := ⟨"is_way", F_is_way, false, []⟩
@[simp] theorem run_N_is_way : N_is_way.run = F_is_way := rfl
@[simp] theorem dfl_N_is_way : N_is_way.dfl = [] := rfl
noncomputable def B_look_at_way : List St :=
  [.ife (.not (.call N_is_way false [(.var 0)])) [.rai "NoWay"] []]
noncomputable def F_look_at_way : List D → R D := defR 1 1 B_look_at_way
theorem D_look_at_way (a0 : D) : F_look_at_way [a0] = (exs [.v a0] B_look_at_way).end := rfl
noncomputable def N_look_at_way : Fn := ⟨"look_at_way", F_look_at_way, false, []⟩
@[simp] theorem run_N_look_at_way : N_look_at_way.run = F_look_at_way := rfl
@[simp] theorem dfl_N_look_at_way : N_look_at_way.dfl = [] := rfl
noncomputable def B_are_pairs : List St :=
  [.ife (.or [(.not (.isi (.var 2) ["list"])), (.cmp .eq (.blt .len [(.var 2)]) (.lit (.int 0)))]) [.ret (.lit (.bl false))] [],
   .for (.nm 3) (.var 2) [.ife (.or [(.not (.isi (.var 3) ["tuple"])), (.cmp .ne (.blt .len [(.var 3)]) (.lit (.int 2)))]) [.ret (.lit (.bl false))] [], .ife (.or [(.not (.call N_is_place false [(.var 0), (.ix (.var 3) (.lit (.int 0)))])), (.not (.call N_is_place false [(.var 1), (.ix (.var 3) (.lit (.int 1)))]))]) [.ret (.lit (.bl false))] []],
   .ret (.lit (.bl true))]
noncomputable def F_are_pairs : List D → R D := defR 4 3 B_are_pairs
theorem D_are_pairs (a0 a1 a2 : D) : F_are_pairs [a0, a1, a2] = (exs [.v a0, .v a1, .v a2, .n] B_are_pairs).end := rfl
noncomputable def N_are_pairs : Fn := ⟨"are_pairs", F_are_pairs, false, []⟩
@[simp] theorem run_N_are_pairs : N_are_pairs.run = F_are_pairs := rfl
@[simp] theorem dfl_N_are_pairs : N_are_pairs.dfl = [] := rfl
noncomputable def B_begins : List St :=
  [.ret (.and [(.cmp .eq (.ix (.var 0) (.lit (.int 0))) (.glob "NOUGHT" (.tup [(.int 0), (.int 1)]))), (.or [(.cmp .eq (.var 1) (.lit (.str "part"))), (.cmp .eq (.ix (.var 0) (.lit (.int 1))) (.glob "NOUGHT" (.tup [(.int 0), (.int 1)])))])])]
noncomputable def F_begins : List D → R D := defR 2 2 B_begins
theorem D_begins (a0 a1 : D) : F_begins [a0, a1] = (exs [.v a0, .v a1] B_begins).end := rfl
noncomputable def N_begins : Fn := ⟨"begins", F_begins, false, []⟩
@[simp] theorem run_N_begins : N_begins.run = F_begins := rfl
@[simp] theorem dfl_N_begins : N_begins.dfl = [] := rfl
noncomputable def B_comes_home : List St :=
  [.ife (.cmp .ne (.ix (.var 2) (.lit (.int 0))) (.tup [(.call N_last_of false [(.var 0)]), (.lit (.int 1))])) [.ret (.lit (.bl false))] [],
   .ret (.or [(.cmp .eq (.var 3) (.lit (.str "part"))), (.cmp .eq (.ix (.var 2) (.lit (.int 1))) (.tup [(.call N_last_of false [(.var 1)]), (.lit (.int 1))]))])]
noncomputable def F_comes_home : List D → R D := defR 4 4 B_comes_home
theorem D_comes_home (a0 a1 a2 a3 : D) : F_comes_home [a0, a1, a2, a3] = (exs [.v a0, .v a1, .v a2, .v a3] B_comes_home).end := rfl
noncomputable def N_comes_home : Fn := ⟨"comes_home", F_comes_home, false, []⟩
@[simp] theorem run_N_comes_home : N_comes_home.run = F_comes_home := rfl
@[simp] theorem dfl_N_comes_home : N_comes_home.dfl = [] := rfl
noncomputable def B_is_hop : List St :=
  [.ret (.and [(.cmp .eq (.ix (.var 0) (.lit (.int 1))) (.lit (.int 1))), (.cmp .eq (.ix (.var 1) (.lit (.int 1))) (.lit (.int 1))), (.cmp .inn (.bin .sub (.ix (.var 1) (.lit (.int 0))) (.ix (.var 0) (.lit (.int 0)))) (.tup [(.lit (.int 0)), (.lit (.int 1))]))])]
noncomputable def F_is_hop : List D → R D := defR 2 2 B_is_hop
theorem D_is_hop (a0 a1 : D) : F_is_hop [a0, a1] = (exs [.v a0, .v a1] B_is_hop).end := rfl
noncomputable def N_is_hop : Fn := ⟨"is_hop", F_is_hop, false, []⟩
@[simp] theorem run_N_is_hop : N_is_hop.run = F_is_hop := rfl
@[simp] theorem dfl_N_is_hop : N_is_hop.dfl = [] := rfl
noncomputable def B_may_go : List St :=
  [.ife (.cmp .eq (.var 3) (.lit (.str "hops"))) [.ret (.call N_is_hop false [(.var 1), (.var 2)])] [],
   .ife (.and [(.cmp .ne (.var 3) (.lit (.str "free"))), (.call N_less false [(.var 2), (.var 1)])]) [.ret (.lit (.bl false))] [], .ret (.call N_in_one_stretch false [(.var 0), (.var 1), (.var 2)])]
noncomputable def F_may_go : List D → R D := defR 4 4 B_may_go
theorem D_may_go (a0 a1 a2 a3 : D) : F_may_go [a0, a1, a2, a3] = (exs [.v a0, .v a1, .v a2, .v a3] B_may_go).end := rfl
noncomputable def N_may_go : Fn := ⟨"may_go", F_may_go, false, []⟩
@[simp] theorem run_N_may_go : N_may_go.run = F_may_go := rfl
@[simp] theorem dfl_N_may_go : N_may_go.dfl = [] := rfl
noncomputable def B_is_walk : List St :=
  [.exp (.call N_look_at_way false [(.var 3)]), .ife (.not (.call N_are_pairs false [(.var 0), (.var 1), (.var 2)])) [.ret (.lit (.bl false))] [],
   .ife (.or [(.not (.call N_begins false [(.ix (.var 2) (.lit (.int 0))), (.var 3)])), (.not (.call N_comes_home false [(.var 0), (.var 1), (.ix (.var 2) (.neg (.lit (.int 1)))), (.var 3)]))]) [.ret (.lit (.bl false))] [],
   .for (.tp [(.nm 4), (.nm 5)]) (.zip (.sl (.var 2) .nop (.neg (.lit (.int 1)))) (.sl (.var 2) (.lit (.int 1)) .nop)) [.ife (.or [(.not (.call N_may_go false [(.var 0), (.ix (.var 4) (.lit (.int 0))), (.ix (.var 5) (.lit (.int 0))), (.var 3)])), (.not (.call N_may_go false [(.var 1), (.ix (.var 4) (.lit (.int 1))), (.ix (.var 5) (.lit (.int 1))), (.var 3)]))]) [.ret (.lit (.bl false))] []],
   .ret (.lit (.bl true))]
noncomputable def F_is_walk : List D → R D := defR 6 4 B_is_walk
theorem D_is_walk (a0 a1 a2 a3 : D) : F_is_walk [a0, a1, a2, a3] = (exs [.v a0, .v a1, .v a2, .v a3, .n, .n] B_is_walk).end := rfl
noncomputable def N_is_walk : Fn := ⟨"is_walk", F_is_walk, false, []⟩
@[simp] theorem run_N_is_walk : N_is_walk.run = F_is_walk := rfl
@[simp] theorem dfl_N_is_walk : N_is_walk.dfl = [] := rfl
noncomputable def N_is_walk_1 : Fn := ⟨"is_walk", F_is_walk, false, [(.str "on")]⟩
@[simp] theorem run_N_is_walk_1 : N_is_walk_1.run = F_is_walk := rfl
@[simp] theorem dfl_N_is_walk_1 : N_is_walk_1.dfl = [(.str "on")] := rfl
noncomputable def B_walk_square : List St :=
  [.ife (.not (.call N_is_walk false [(.var 0), (.var 1), (.var 2), (.var 3)])) [.rai "NoWalk"] [], .asg 4 false (.glob "NOUGHT" (.tup [(.int 0), (.int 1)])),
   .for (.tp [(.nm 5), (.nm 6)]) (.var 2) [.asg 7 false (.call N_square_of false [(.var 0), (.var 5), (.var 1), (.var 6)]), .ife (.call N_less false [(.var 4), (.var 7)]) [.asg 4 false (.var 7)] []],
   .ret (.var 4)]
noncomputable def F_walk_square : List D → R D := defR 8 4 B_walk_square
theorem D_walk_square (a0 a1 a2 a3 : D) : F_walk_square [a0, a1, a2, a3] = (exs [.v a0, .v a1, .v a2, .v a3, .n, .n, .n, .n] B_walk_square).end := rfl
noncomputable def N_walk_square : Fn := ⟨"walk_square", F_walk_square, false, []⟩
@[simp] theorem run_N_walk_square : N_walk_square.run = F_walk_square := rfl
@[simp] theorem dfl_N_walk_square : N_walk_square.dfl = [] := rfl
noncomputable def N_walk_square_1 : Fn := ⟨"walk_square", F_walk_square, false, [(.str "on")]⟩
@[simp] theorem run_N_walk_square_1 : N_walk_square_1.run = F_walk_square := rfl
@[simp] theorem dfl_N_walk_square_1 : N_walk_square_1.dfl = [(.str "on")] := rfl
noncomputable def B_sign_of : List St :=
  [.ret (.bin .sub (.blt .int [(.cmp .gt (.var 0) (.lit (.int 0)))]) (.blt .int [(.cmp .lt (.var 0) (.lit (.int 0)))]))]
noncomputable def F_sign_of : List D → R D := defR 1 1 B_sign_of
theorem D_sign_of (a0 : D) : F_sign_of [a0] = (exs [.v a0] B_sign_of).end := rfl
noncomputable def N_sign_of : Fn := ⟨"sign_of", F_sign_of, true, []⟩
@[simp] theorem run_N_sign_of : N_sign_of.run = F_sign_of := rfl
@[simp] theorem dfl_N_sign_of : N_sign_of.dfl = [] := rfl
noncomputable def B_sign_of_two : List St :=
  [.asg 3 false (.call N_sign_of false [(.var 0)]), .asg 4 false (.bin .mul (.call N_sign_of false [(.var 1)]) (.call N_sign_of false [(.var 2)])),
   .ife (.or [(.cmp .eq (.var 3) (.lit (.int 0))), (.cmp .eq (.var 3) (.var 4))]) [.ret (.var 4)] [], .ife (.cmp .eq (.var 4) (.lit (.int 0))) [.ret (.var 3)] [],
   .ret (.bin .mul (.var 3) (.call N_sign_of false [(.bin .sub (.bin .mul (.var 0) (.var 0)) (.bin .mul (.bin .mul (.var 1) (.var 1)) (.var 2)))]))]
noncomputable def F_sign_of_two : List D → R D := defR 5 3 B_sign_of_two
theorem D_sign_of_two (a0 a1 a2 : D) : F_sign_of_two [a0, a1, a2] = (exs [.v a0, .v a1, .v a2, .n, .n] B_sign_of_two).end := rfl
noncomputable def N_sign_of_two : Fn := ⟨"sign_of_two", F_sign_of_two, false, []⟩
@[simp] theorem run_N_sign_of_two : N_sign_of_two.run = F_sign_of_two := rfl
@[simp] theorem dfl_N_sign_of_two : N_sign_of_two.dfl = [] := rfl
noncomputable def B_sign_of_three : List St :=
  [.asg 5 false (.call N_sign_of_two false [(.var 0), (.var 1), (.var 2)]), .asg 6 false (.bin .mul (.call N_sign_of false [(.var 3)]) (.call N_sign_of false [(.var 4)])),
   .ife (.or [(.cmp .eq (.var 5) (.lit (.int 0))), (.cmp .eq (.var 5) (.var 6))]) [.ret (.var 6)] [], .ife (.cmp .eq (.var 6) (.lit (.int 0))) [.ret (.var 5)] [],
   .asg 7 false (.bin .sub (.bin .add (.bin .mul (.var 0) (.var 0)) (.bin .mul (.bin .mul (.var 1) (.var 1)) (.var 2))) (.bin .mul (.bin .mul (.var 3) (.var 3)) (.var 4))),
   .ret (.bin .mul (.var 5) (.call N_sign_of_two false [(.var 7), (.bin .mul (.bin .mul (.lit (.int 2)) (.var 0)) (.var 1)), (.var 2)]))]
noncomputable def F_sign_of_three : List D → R D := defR 8 5 B_sign_of_three
theorem D_sign_of_three (a0 a1 a2 a3 a4 : D) : F_sign_of_three [a0, a1, a2, a3, a4] = (exs [.v a0, .v a1, .v a2, .v a3, .v a4, .n, .n, .n] B_sign_of_three).end := rfl
noncomputable def N_sign_of_three : Fn := ⟨"sign_of_three", F_sign_of_three, false, []⟩
@[simp] theorem run_N_sign_of_three : N_sign_of_three.run = F_sign_of_three := rfl
@[simp] theorem dfl_N_sign_of_three : N_sign_of_three.dfl = [] := rfl
noncomputable def B_root_order : List St :=
  [.unp [(.nm 2), (.nm 3), (.nm 4), (.nm 5)] (.var 0), .unp [(.nm 6), (.nm 7), (.nm 8), (.nm 9)] (.var 1),
   .ret (.call N_sign_of_three false [(.bin .sub (.bin .mul (.var 2) (.var 9)) (.bin .mul (.var 6) (.var 5))), (.bin .mul (.var 3) (.var 9)), (.var 4), (.bin .sub (.lit (.int 0)) (.bin .mul (.var 7) (.var 5))), (.var 8)])]
noncomputable def F_root_order : List D → R D := defR 10 2 B_root_order
theorem D_root_order (a0 a1 : D) : F_root_order [a0, a1] = (exs [.v a0, .v a1, .n, .n, .n, .n, .n, .n, .n, .n] B_root_order).end := rfl
noncomputable def N_root_order : Fn := ⟨"root_order", F_root_order, false, []⟩
@[simp] theorem run_N_root_order : N_root_order.run = F_root_order := rfl
@[simp] theorem dfl_N_root_order : N_root_order.dfl = [] := rfl
noncomputable def B_whole_root : List St :=
  [.asg 1 false (.bin .shl (.lit (.int 1)) (.bin .div (.bin .add (.mth .bitlen (.var 0) []) (.lit (.int 1))) (.lit (.int 2)))),
   .whl (.cmp .gt (.bin .mul (.var 1) (.var 1)) (.var 0)) [.asg 1 false (.bin .div (.bin .add (.var 1) (.bin .div (.var 0) (.var 1))) (.lit (.int 2)))], .ret (.var 1)]
noncomputable def F_whole_root : List D → R D := defR 2 1 B_whole_root
theorem D_whole_root (a0 : D) : F_whole_root [a0] = (exs [.v a0, .n] B_whole_root).end := rfl
noncomputable def N_whole_root : Fn := ⟨"whole_root", F_whole_root, false, []⟩
@[simp] theorem run_N_whole_root : N_whole_root.run = F_whole_root := rfl
@[simp] theorem dfl_N_whole_root : N_whole_root.dfl = [] := rfl
noncomputable def B_whole_below : List St :=
  [.unp [(.nm 4), (.nm 5), (.nm 6), (.nm 7)] (.var 0), .asg 2 false (.bin .mul (.bin .mul (.bin .mul (.bin .mul (.var 5) (.var 5)) (.var 6)) (.var 1)) (.var 1)),
   .asg 3 false (.call N_whole_root false [(.var 2)]),
   .ife (.cmp .lt (.var 5) (.lit (.int 0))) [.asg 3 false (.bin .sub (.bin .sub (.lit (.int 0)) (.var 3)) (.blt .int [(.cmp .lt (.bin .mul (.var 3) (.var 3)) (.var 2))]))] [],
   .ret (.bin .div (.bin .add (.bin .mul (.var 4) (.var 1)) (.var 3)) (.var 7))]
noncomputable def F_whole_below : List D → R D := defR 8 2 B_whole_below
theorem D_whole_below (a0 a1 : D) : F_whole_below [a0, a1] = (exs [.v a0, .v a1, .n, .n, .n, .n, .n, .n] B_whole_below).end := rfl
noncomputable def N_whole_below : Fn := ⟨"whole_below", F_whole_below, true, []⟩
@[simp] theorem run_N_whole_below : N_whole_below.run = F_whole_below := rfl
@[simp] theorem dfl_N_whole_below : N_whole_below.dfl = [] := rfl
noncomputable def B_root_between : List St :=
  [.ife (.cmp .eq (.call N_root_order false [(.var 0), (.var 1)]) (.lit (.int 0))) [.ret (.call N_ratio false [(.bin .add (.ix (.var 0) (.lit (.int 0))) (.bin .mul (.ix (.var 0) (.lit (.int 1))) (.call N_whole_root false [(.ix (.var 0) (.lit (.int 2)))]))), (.ix (.var 0) (.lit (.int 3)))])] [],
   .asg 2 false (.lit (.int 1)), .asg 3 false (.bin .add (.call N_whole_below false [(.var 0), (.var 2)]) (.lit (.int 1))),
   .whl (.cmp .ne (.call N_root_order false [(.tup [(.var 3), (.lit (.int 0)), (.lit (.int 0)), (.var 2)]), (.var 1)]) (.neg (.lit (.int 1)))) [.asg 2 false (.bin .mul (.lit (.int 2)) (.var 2)), .asg 3 false (.bin .add (.call N_whole_below false [(.var 0), (.var 2)]) (.lit (.int 1)))],
   .ret (.call N_ratio false [(.var 3), (.var 2)])]
noncomputable def F_root_between : List D → R D := defR 4 2 B_root_between
theorem D_root_between (a0 a1 : D) : F_root_between [a0, a1] = (exs [.v a0, .v a1, .n, .n] B_root_between).end := rfl
noncomputable def N_root_between : Fn := ⟨"root_between", F_root_between, false, []⟩
@[simp] theorem run_N_root_between : N_root_between.run = F_root_between := rfl
@[simp] theorem dfl_N_root_between : N_root_between.dfl = [] := rfl
noncomputable def B_look_at_square : List St :=
  [.ife (.or [(.not (.call N_is_ratio false [(.var 0)])), (.cmp .lt (.ix (.var 0) (.lit (.int 0))) (.lit (.int 0)))]) [.rai "NoSquare"] []]
noncomputable def F_look_at_square : List D → R D := defR 1 1 B_look_at_square
theorem D_look_at_square (a0 : D) : F_look_at_square [a0] = (exs [.v a0] B_look_at_square).end := rfl
noncomputable def N_look_at_square : Fn := ⟨"look_at_square", F_look_at_square, false, []⟩
@[simp] theorem run_N_look_at_square : N_look_at_square.run = F_look_at_square := rfl
@[simp] theorem dfl_N_look_at_square : N_look_at_square.dfl = [] := rfl
noncomputable def B_sums_of : List St :=
  [.asg 3 false (.tup [(.bin .sub (.ix (.var 2) (.lit (.int 0))) (.ix (.var 1) (.lit (.int 0)))), (.bin .sub (.ix (.var 2) (.lit (.int 1))) (.ix (.var 1) (.lit (.int 1))))]),
   .asg 4 false (.tup [(.bin .sub (.ix (.var 0) (.lit (.int 0))) (.ix (.var 1) (.lit (.int 0)))), (.bin .sub (.ix (.var 0) (.lit (.int 1))) (.ix (.var 1) (.lit (.int 1))))]),
   .asg 5 false (.bin .add (.bin .mul (.ix (.var 3) (.lit (.int 0))) (.ix (.var 3) (.lit (.int 0)))) (.bin .mul (.ix (.var 3) (.lit (.int 1))) (.ix (.var 3) (.lit (.int 1))))),
   .asg 6 false (.bin .add (.bin .mul (.ix (.var 3) (.lit (.int 0))) (.ix (.var 4) (.lit (.int 0)))) (.bin .mul (.ix (.var 3) (.lit (.int 1))) (.ix (.var 4) (.lit (.int 1))))),
   .ret (.tup [(.var 5), (.var 6), (.bin .add (.bin .mul (.ix (.var 4) (.lit (.int 0))) (.ix (.var 4) (.lit (.int 0)))) (.bin .mul (.ix (.var 4) (.lit (.int 1))) (.ix (.var 4) (.lit (.int 1)))))])]
noncomputable def F_sums_of : List D → R D := defR 7 3 B_sums_of
theorem D_sums_of (a0 a1 a2 : D) : F_sums_of [a0, a1, a2] = (exs [.v a0, .v a1, .v a2, .n, .n, .n, .n] B_sums_of).end := rfl
noncomputable def N_sums_of : Fn := ⟨"sums_of", F_sums_of, false, []⟩
@[simp] theorem run_N_sums_of : N_sums_of.run = F_sums_of := rfl
@[simp] theorem dfl_N_sums_of : N_sums_of.dfl = [] := rfl
noncomputable def B_reach : List St :=
  [.unp [(.nm 2), (.nm 3), (.nm 4)] (.var 0),
   .ret (.bin .add (.bin .mul (.ix (.var 1) (.lit (.int 1))) (.bin .sub (.bin .mul (.var 3) (.var 3)) (.bin .mul (.var 2) (.var 4)))) (.bin .mul (.var 2) (.ix (.var 1) (.lit (.int 0)))))]
noncomputable def F_reach : List D → R D := defR 5 2 B_reach
theorem D_reach (a0 a1 : D) : F_reach [a0, a1] = (exs [.v a0, .v a1, .n, .n, .n] B_reach).end := rfl
noncomputable def N_reach : Fn := ⟨"reach", F_reach, true, []⟩
@[simp] theorem run_N_reach : N_reach.run = F_reach := rfl
@[simp] theorem dfl_N_reach : N_reach.dfl = [] := rfl
noncomputable def B_cut_to : List St :=
  [.unp [(.nm 5), (.nm 6), (.nm 7)] (.var 0), .asg 2 false (.bin .mul (.call N_reach false [(.var 0), (.var 1)]) (.ix (.var 1) (.lit (.int 1)))),
   .asg 3 false (.tup [(.bin .mul (.var 6) (.ix (.var 1) (.lit (.int 1)))), (.bin .sub (.lit (.int 0)) (.lit (.int 1))), (.var 2), (.bin .mul (.var 5) (.ix (.var 1) (.lit (.int 1))))]),
   .asg 4 false (.tup [(.bin .mul (.var 6) (.ix (.var 1) (.lit (.int 1)))), (.lit (.int 1)), (.var 2), (.bin .mul (.var 5) (.ix (.var 1) (.lit (.int 1))))]),
   .ife (.cmp .eq (.call N_root_order false [(.var 3), (.glob "FIRST" (.tup [(.int 0), (.int 0), (.int 0), (.int 1)]))]) (.neg (.lit (.int 1)))) [.asg 3 false (.glob "FIRST" (.tup [(.int 0), (.int 0), (.int 0), (.int 1)]))] [],
   .ife (.cmp .eq (.call N_root_order false [(.var 4), (.glob "LAST" (.tup [(.int 1), (.int 0), (.int 0), (.int 1)]))]) (.lit (.int 1))) [.asg 4 false (.glob "LAST" (.tup [(.int 1), (.int 0), (.int 0), (.int 1)]))] [],
   .ret (.tup [(.var 3), (.var 4)])]
noncomputable def F_cut_to : List D → R D := defR 8 2 B_cut_to
theorem D_cut_to (a0 a1 : D) : F_cut_to [a0, a1] = (exs [.v a0, .v a1, .n, .n, .n, .n, .n, .n] B_cut_to).end := rfl
noncomputable def N_cut_to : Fn := ⟨"cut_to", F_cut_to, false, []⟩
@[simp] theorem run_N_cut_to : N_cut_to.run = F_cut_to := rfl
@[simp] theorem dfl_N_cut_to : N_cut_to.dfl = [] := rfl
noncomputable def B_gate : List St :=
  [.exp (.call N_look_at_square false [(.var 3)]), .asg 4 false (.call N_sums_of false [(.var 0), (.var 1), (.var 2)]),
   .ife (.cmp .eq (.ix (.var 4) (.lit (.int 0))) (.lit (.int 0))) [.ife (.cmp .gt (.bin .mul (.ix (.var 4) (.lit (.int 2))) (.ix (.var 3) (.lit (.int 1)))) (.ix (.var 3) (.lit (.int 0)))) [.ret (.lit .non)] [], .ret (.tup [(.glob "FIRST" (.tup [(.int 0), (.int 0), (.int 0), (.int 1)])), (.glob "LAST" (.tup [(.int 1), (.int 0), (.int 0), (.int 1)]))])] [],
   .ife (.cmp .lt (.call N_reach false [(.var 4), (.var 3)]) (.lit (.int 0))) [.ret (.lit .non)] [], .unp [(.nm 5), (.nm 6)] (.call N_cut_to false [(.var 4), (.var 3)]),
   .ife (.cmp .eq (.call N_root_order false [(.var 5), (.var 6)]) (.lit (.int 1))) [.ret (.lit .non)] [], .ret (.tup [(.var 5), (.var 6)])]
noncomputable def F_gate : List D → R D := defR 7 4 B_gate
theorem D_gate (a0 a1 a2 a3 : D) : F_gate [a0, a1, a2, a3] = (exs [.v a0, .v a1, .v a2, .v a3, .n, .n, .n] B_gate).end := rfl
noncomputable def N_gate : Fn := ⟨"gate", F_gate, false, []⟩
@[simp] theorem run_N_gate : N_gate.run = F_gate := rfl
@[simp] theorem dfl_N_gate : N_gate.dfl = [] := rfl
noncomputable def B_open_gate : List St :=
  [.exp (.call N_look_at_square false [(.var 3)]), .asg 4 false (.call N_sums_of false [(.var 0), (.var 1), (.var 2)]),
   .ife (.cmp .eq (.ix (.var 4) (.lit (.int 0))) (.lit (.int 0))) [.ife (.cmp .ge (.bin .mul (.ix (.var 4) (.lit (.int 2))) (.ix (.var 3) (.lit (.int 1)))) (.ix (.var 3) (.lit (.int 0)))) [.ret (.lit .non)] [], .ret (.tup [(.glob "FIRST" (.tup [(.int 0), (.int 0), (.int 0), (.int 1)])), (.glob "LAST" (.tup [(.int 1), (.int 0), (.int 0), (.int 1)]))])] [],
   .ife (.cmp .le (.call N_reach false [(.var 4), (.var 3)]) (.lit (.int 0))) [.ret (.lit .non)] [], .unp [(.nm 5), (.nm 6)] (.call N_cut_to false [(.var 4), (.var 3)]),
   .ife (.cmp .ne (.call N_root_order false [(.var 5), (.var 6)]) (.neg (.lit (.int 1)))) [.ret (.lit .non)] [], .ret (.tup [(.var 5), (.var 6)])]
noncomputable def F_open_gate : List D → R D := defR 7 4 B_open_gate
theorem D_open_gate (a0 a1 a2 a3 : D) : F_open_gate [a0, a1, a2, a3] = (exs [.v a0, .v a1, .v a2, .v a3, .n, .n, .n] B_open_gate).end := rfl
noncomputable def N_open_gate : Fn := ⟨"open_gate", F_open_gate, false, []⟩
@[simp] theorem run_N_open_gate : N_open_gate.run = F_open_gate := rfl
@[simp] theorem dfl_N_open_gate : N_open_gate.dfl = [] := rfl
noncomputable def B__law_mixed : List St :=
  [.asg 2 false (.bin .mod (.bin .mul (.bin .add (.bin .add (.bin .mod (.var 0) (.lit (.int 2147483629))) (.bin .mul (.lit (.int 7919)) (.var 1))) (.lit (.int 11))) (.lit (.int 48271))) (.lit (.int 2147483647))),
   .asg 2 false (.bin .mod (.bin .add (.bin .mod (.bin .mul (.var 2) (.var 2)) (.lit (.int 2147483629))) (.bin .mul (.lit (.int 104729)) (.var 1))) (.lit (.int 2147483629))),
   .ret (.bin .mod (.bin .mul (.var 2) (.lit (.int 39373))) (.lit (.int 2147483647)))]
noncomputable def F__law_mixed : List D → R D := defR 3 2 B__law_mixed
theorem D__law_mixed (a0 a1 : D) : F__law_mixed [a0, a1] = (exs [.v a0, .v a1, .n] B__law_mixed).end := rfl
noncomputable def N__law_mixed : Fn := ⟨"_law_mixed", F__law_mixed, true, []⟩
@[simp] theorem run_N__law_mixed : N__law_mixed.run = F__law_mixed := rfl
@[simp] theorem dfl_N__law_mixed : N__law_mixed.dfl = [] := rfl
noncomputable def B__law_numbers : List St :=
  [.asg 3 true (.lst []), .asg 4 false (.bin .sub (.var 0) (.bin .pow (.lit (.int 10)) (.lit (.int 18)))),
   .for (.nm 5) (.rng [(.var 1)]) [.asg 6 false (.var 4), .ife (.cmp .gt (.var 4) (.lit (.int 0))) [.asg 4 false (.bin .div (.var 4) (.var 2))] [.asg 6 false (.lit (.int 0)), .asg 7 false (.lit (.int 0)), .whl (.cmp .lt (.bin .mul (.var 7) (.lit (.int 30))) (.bin .add (.mth .bitlen (.var 2) []) (.lit (.int 8)))) [.asg 6 false (.bin .add (.bin .mul (.var 6) (.lit (.int 2147483647))) (.call N__law_mixed false [(.var 0), (.bin .add (.bin .mul (.lit (.int 8)) (.var 5)) (.var 7))])), .asg 7 false (.bin .add (.var 7) (.lit (.int 1)))]], .app 3 (.bin .mod (.var 6) (.var 2))],
   .ret (.bor 3)]
noncomputable def F__law_numbers : List D → R D := defR 8 3 B__law_numbers
theorem D__law_numbers (a0 a1 a2 : D) : F__law_numbers [a0, a1, a2] = (exs [.v a0, .v a1, .v a2, .n, .n, .n, .n, .n] B__law_numbers).end := rfl
noncomputable def N__law_numbers : Fn := ⟨"_law_numbers", F__law_numbers, true, []⟩
@[simp] theorem run_N__law_numbers : N__law_numbers.run = F__law_numbers := rfl
@[simp] theorem dfl_N__law_numbers : N__law_numbers.dfl = [] := rfl
noncomputable def B__law_whole : List St :=
  [.ret (.and [(.isi (.var 0) ["int"]), (.not (.isi (.var 0) ["bool"]))])]
noncomputable def F__law_whole : List D → R D := defR 1 1 B__law_whole
theorem D__law_whole (a0 : D) : F__law_whole [a0] = (exs [.v a0] B__law_whole).end := rfl
noncomputable def N__law_whole : Fn := ⟨"_law_whole", F__law_whole, false, []⟩
@[simp] theorem run_N__law_whole : N__law_whole.run = F__law_whole := rfl
@[simp] theorem dfl_N__law_whole : N__law_whole.dfl = [] := rfl
noncomputable def B__law_common : List St :=
  [.whl (.cmp .gt (.var 1) (.lit (.int 0))) [.par 0 1 (.var 1) (.bin .mod (.var 0) (.var 1))], .ret (.var 0)]
noncomputable def F__law_common : List D → R D := defR 2 2 B__law_common
theorem D__law_common (a0 a1 : D) : F__law_common [a0, a1] = (exs [.v a0, .v a1] B__law_common).end := rfl
noncomputable def N__law_common : Fn := ⟨"_law_common", F__law_common, false, []⟩
@[simp] theorem run_N__law_common : N__law_common.run = F__law_common := rfl
@[simp] theorem dfl_N__law_common : N__law_common.dfl = [] := rfl
noncomputable def B__law_lowest : List St :=
  [.ife (.or [(.not (.isi (.var 0) ["tuple"])), (.cmp .ne (.blt .len [(.var 0)]) (.lit (.int 2)))]) [.ret (.lit (.bl false))] [],
   .ife (.or [(.not (.call N__law_whole false [(.ix (.var 0) (.lit (.int 0)))])), (.not (.call N__law_whole false [(.ix (.var 0) (.lit (.int 1)))])), (.cmp .lt (.ix (.var 0) (.lit (.int 1))) (.lit (.int 1)))]) [.ret (.lit (.bl false))] [],
   .ret (.cmp .eq (.call N__law_common false [(.blt .abs [(.ix (.var 0) (.lit (.int 0)))]), (.ix (.var 0) (.lit (.int 1)))]) (.lit (.int 1)))]
noncomputable def F__law_lowest : List D → R D := defR 1 1 B__law_lowest
theorem D__law_lowest (a0 : D) : F__law_lowest [a0] = (exs [.v a0] B__law_lowest).end := rfl
noncomputable def N__law_lowest : Fn := ⟨"_law_lowest", F__law_lowest, false, []⟩
@[simp] theorem run_N__law_lowest : N__law_lowest.run = F__law_lowest := rfl
@[simp] theorem dfl_N__law_lowest : N__law_lowest.dfl = [] := rfl
noncomputable def B__law_root : List St :=
  [.asg 1 false (.bin .shl (.lit (.int 1)) (.bin .div (.bin .add (.mth .bitlen (.var 0) []) (.lit (.int 1))) (.lit (.int 2)))),
   .whl (.cmp .gt (.bin .mul (.var 1) (.var 1)) (.var 0)) [.asg 1 false (.bin .div (.bin .add (.var 1) (.bin .div (.var 0) (.var 1))) (.lit (.int 2)))], .ret (.var 1)]
noncomputable def F__law_root : List D → R D := defR 2 1 B__law_root
theorem D__law_root (a0 : D) : F__law_root [a0] = (exs [.v a0, .n] B__law_root).end := rfl
noncomputable def N__law_root : Fn := ⟨"_law_root", F__law_root, false, []⟩
@[simp] theorem run_N__law_root : N__law_root.run = F__law_root := rfl
@[simp] theorem dfl_N__law_root : N__law_root.dfl = [] := rfl
noncomputable def B__law_side : List St :=
  [.ret (.bin .sub (.blt .int [(.cmp .gt (.var 0) (.lit (.int 0)))]) (.blt .int [(.cmp .lt (.var 0) (.lit (.int 0)))]))]
noncomputable def F__law_side : List D → R D := defR 1 1 B__law_side
theorem D__law_side (a0 : D) : F__law_side [a0] = (exs [.v a0] B__law_side).end := rfl
noncomputable def N__law_side : Fn := ⟨"_law_side", F__law_side, true, []⟩
@[simp] theorem run_N__law_side : N__law_side.run = F__law_side := rfl
@[simp] theorem dfl_N__law_side : N__law_side.dfl = [] := rfl
noncomputable def B__law_sign : List St :=
  [.asg 5 false (.bin .add (.bin .add (.lit (.int 1)) (.blt .abs [(.var 0)])) (.bin .mul (.blt .abs [(.var 1)]) (.bin .add (.lit (.int 1)) (.call N__law_root false [(.var 2)])))),
   .asg 5 false (.bin .add (.var 5) (.bin .mul (.blt .abs [(.var 3)]) (.bin .add (.lit (.int 1)) (.call N__law_root false [(.var 4)])))),
   .asg 6 false (.bin .mul (.lit (.int 8)) (.bin .pow (.bin .mul (.lit (.int 3)) (.var 5)) (.lit (.int 3)))),
   .asg 7 false (.bin .mul (.call N__law_root false [(.bin .mul (.bin .pow (.bin .mul (.var 1) (.var 6)) (.lit (.int 2))) (.var 2))]) (.call N__law_side false [(.var 1)])),
   .asg 8 false (.bin .mul (.call N__law_root false [(.bin .mul (.bin .pow (.bin .mul (.var 3) (.var 6)) (.lit (.int 2))) (.var 4))]) (.call N__law_side false [(.var 3)])),
   .asg 9 false (.bin .sub (.bin .add (.bin .mul (.var 0) (.var 6)) (.var 7)) (.var 8)),
   .ret (.bin .sub (.blt .int [(.cmp .gt (.var 9) (.lit (.int 2)))]) (.blt .int [(.cmp .lt (.var 9) (.neg (.lit (.int 2))))]))]
noncomputable def F__law_sign : List D → R D := defR 10 5 B__law_sign
theorem D__law_sign (a0 a1 a2 a3 a4 : D) : F__law_sign [a0, a1, a2, a3, a4] = (exs [.v a0, .v a1, .v a2, .v a3, .v a4, .n, .n, .n, .n, .n] B__law_sign).end := rfl
noncomputable def N__law_sign : Fn := ⟨"_law_sign", F__law_sign, true, []⟩
@[simp] theorem run_N__law_sign : N__law_sign.run = F__law_sign := rfl
@[simp] theorem dfl_N__law_sign : N__law_sign.dfl = [] := rfl
noncomputable def B__law_order : List St :=
  [.unp [(.nm 2), (.nm 3), (.nm 4), (.nm 5)] (.var 0), .unp [(.nm 6), (.nm 7), (.nm 8), (.nm 9)] (.var 1),
   .ret (.call N__law_sign false [(.bin .sub (.bin .mul (.var 2) (.var 9)) (.bin .mul (.var 6) (.var 5))), (.bin .mul (.var 3) (.var 9)), (.var 4), (.bin .mul (.var 7) (.var 5)), (.var 8)])]
noncomputable def F__law_order : List D → R D := defR 10 2 B__law_order
theorem D__law_order (a0 a1 : D) : F__law_order [a0, a1] = (exs [.v a0, .v a1, .n, .n, .n, .n, .n, .n, .n, .n] B__law_order).end := rfl
noncomputable def N__law_order : Fn := ⟨"_law_order", F__law_order, true, []⟩
@[simp] theorem run_N__law_order : N__law_order.run = F__law_order := rfl
@[simp] theorem dfl_N__law_order : N__law_order.dfl = [] := rfl
noncomputable def B__law_single : List St :=
  [.asg 1 false (.bin .pow (.lit (.int 10)) (.lit (.int 20))),
   .asg 2 false (.ix (.lst [(.bin .sub (.bin .mod (.ix (.var 0) (.lit (.int 1))) (.lit (.int 41))) (.lit (.int 20))), (.bin .sub (.bin .mod (.ix (.var 0) (.lit (.int 1))) (.bin .add (.bin .mul (.lit (.int 2)) (.var 1)) (.lit (.int 1)))) (.var 1)), (.lit (.int 0))]) (.bin .mod (.ix (.var 0) (.lit (.int 0))) (.lit (.int 3)))),
   .asg 3 false (.ix (.lst [(.bin .sub (.bin .mod (.ix (.var 0) (.lit (.int 2))) (.lit (.int 9))) (.lit (.int 4))), (.bin .sub (.bin .mod (.ix (.var 0) (.lit (.int 2))) (.bin .add (.bin .mul (.lit (.int 2)) (.var 1)) (.lit (.int 1)))) (.var 1)), (.lit (.int 1)), (.lit (.int 0))]) (.bin .mod (.bin .div (.ix (.var 0) (.lit (.int 0))) (.lit (.int 4))) (.lit (.int 4)))),
   .asg 4 false (.ix (.lst [(.bin .mod (.ix (.var 0) (.lit (.int 3))) (.lit (.int 40))), (.bin .pow (.bin .mod (.ix (.var 0) (.lit (.int 3))) (.bin .pow (.lit (.int 10)) (.lit (.int 10)))) (.lit (.int 2))), (.bin .mod (.ix (.var 0) (.lit (.int 3))) (.var 1)), (.bin .mod (.ix (.var 0) (.lit (.int 3))) (.lit (.int 7)))]) (.bin .mod (.bin .div (.ix (.var 0) (.lit (.int 0))) (.lit (.int 16))) (.lit (.int 4)))),
   .asg 5 false (.ix (.lst [(.bin .add (.lit (.int 1)) (.bin .mod (.ix (.var 0) (.lit (.int 4))) (.lit (.int 9)))), (.bin .add (.lit (.int 1)) (.bin .mod (.ix (.var 0) (.lit (.int 4))) (.var 1))), (.lit (.int 1))]) (.bin .mod (.bin .div (.ix (.var 0) (.lit (.int 0))) (.lit (.int 64))) (.lit (.int 3)))),
   .ret (.tup [(.var 2), (.var 3), (.var 4), (.var 5)])]
noncomputable def F__law_single : List D → R D := defR 6 1 B__law_single
theorem D__law_single (a0 : D) : F__law_single [a0] = (exs [.v a0, .n, .n, .n, .n, .n] B__law_single).end := rfl
noncomputable def N__law_single : Fn := ⟨"_law_single", F__law_single, false, []⟩
@[simp] theorem run_N__law_single : N__law_single.run = F__law_single := rfl
@[simp] theorem dfl_N__law_single : N__law_single.dfl = [] := rfl
noncomputable def B__law_beside : List St :=
  [.unp [(.nm 4), (.nm 5), (.nm 6), (.nm 7)] (.var 0), .asg 2 false (.bin .mod (.ix (.var 1) (.lit (.int 0))) (.lit (.int 8))),
   .asg 3 false (.bin .add (.lit (.int 1)) (.bin .mod (.ix (.var 1) (.lit (.int 1))) (.ix (.lst [(.lit (.int 10)), (.bin .pow (.lit (.int 10)) (.lit (.int 9))), (.bin .pow (.lit (.int 10)) (.lit (.int 19)))]) (.bin .mod (.ix (.var 1) (.lit (.int 2))) (.lit (.int 3)))))),
   .ife (.cmp .eq (.var 2) (.lit (.int 0))) [.ret (.tup [(.bin .mul (.var 4) (.var 3)), (.bin .mul (.var 5) (.var 3)), (.var 6), (.bin .mul (.var 7) (.var 3))])] [],
   .ife (.and [(.cmp .eq (.var 2) (.lit (.int 1))), (.cmp .lt (.bin .mul (.blt .abs [(.var 5)]) (.var 3)) (.bin .pow (.lit (.int 10)) (.lit (.int 30))))]) [.ret (.tup [(.var 4), (.bin .mul (.var 5) (.var 3)), (.var 6), (.var 7)])] [],
   .ife (.and [(.cmp .eq (.var 2) (.lit (.int 2))), (.cmp .lt (.bin .mul (.bin .mul (.var 6) (.var 3)) (.var 3)) (.bin .pow (.lit (.int 10)) (.lit (.int 50))))]) [.ret (.tup [(.var 4), (.var 5), (.bin .mul (.bin .mul (.var 6) (.var 3)) (.var 3)), (.var 7)])] [],
   .ife (.cmp .eq (.var 2) (.lit (.int 3))) [.ret (.tup [(.var 4), (.bin .sub (.lit (.int 0)) (.var 5)), (.var 6), (.var 7)])] [],
   .ife (.cmp .eq (.var 2) (.lit (.int 4))) [.ret (.tup [(.bin .add (.bin .mul (.var 4) (.var 3)) (.var 7)), (.bin .mul (.var 5) (.var 3)), (.var 6), (.bin .mul (.var 7) (.var 3))])] [],
   .ife (.cmp .eq (.var 2) (.lit (.int 5))) [.ret (.tup [(.bin .sub (.bin .mul (.var 4) (.var 3)) (.var 7)), (.bin .mul (.var 5) (.var 3)), (.var 6), (.bin .mul (.var 7) (.var 3))])] [],
   .ife (.cmp .eq (.var 2) (.lit (.int 6))) [.asg 8 false (.bin .mul (.call N__law_side false [(.var 5)]) (.call N__law_root false [(.bin .mul (.bin .mul (.bin .mul (.bin .mul (.var 5) (.var 5)) (.var 6)) (.var 3)) (.var 3))])), .ret (.tup [(.bin .div (.bin .add (.bin .mul (.var 4) (.var 3)) (.var 8)) (.var 7)), (.lit (.int 0)), (.lit (.int 0)), (.var 3)])] [],
   .ret (.tup [(.var 4), (.var 5), (.bin .add (.var 6) (.var 3)), (.var 7)])]
noncomputable def F__law_beside : List D → R D := defR 9 2 B__law_beside
theorem D__law_beside (a0 a1 : D) : F__law_beside [a0, a1] = (exs [.v a0, .v a1, .n, .n, .n, .n, .n, .n, .n] B__law_beside).end := rfl
noncomputable def N__law_beside : Fn := ⟨"_law_beside", F__law_beside, false, []⟩
@[simp] theorem run_N__law_beside : N__law_beside.run = F__law_beside := rfl
@[simp] theorem dfl_N__law_beside : N__law_beside.dfl = [] := rfl
noncomputable def B__law_pair : List St :=
  [.asg 1 false (.call N__law_numbers false [(.var 0), (.lit (.int 14)), (.bin .pow (.lit (.int 10)) (.lit (.int 40)))]),
   .asg 2 false (.call N__law_single false [(.sl (.var 1) .nop (.lit (.int 5)))]),
   .ife (.cmp .eq (.bin .mod (.ix (.var 1) (.lit (.int 13))) (.lit (.int 4))) (.lit (.int 3))) [.ret (.tup [(.var 2), (.call N__law_single false [(.sl (.var 1) (.lit (.int 8)) (.lit (.int 13)))])])] [],
   .ret (.tup [(.var 2), (.call N__law_beside false [(.var 2), (.sl (.var 1) (.lit (.int 5)) (.lit (.int 8)))])])]
noncomputable def F__law_pair : List D → R D := defR 3 1 B__law_pair
theorem D__law_pair (a0 : D) : F__law_pair [a0] = (exs [.v a0, .n, .n] B__law_pair).end := rfl
noncomputable def N__law_pair : Fn := ⟨"_law_pair", F__law_pair, false, []⟩
@[simp] theorem run_N__law_pair : N__law_pair.run = F__law_pair := rfl
@[simp] theorem dfl_N__law_pair : N__law_pair.dfl = [] := rfl
noncomputable def B__law_is_that : List St :=
  [.unp [(.nm 3), (.nm 4), (.nm 5), (.nm 6)] (.var 1), .asg 2 false (.call N__law_root false [(.var 5)]),
   .ife (.and [(.cmp .ne (.var 4) (.lit (.int 0))), (.cmp .ne (.bin .mul (.var 2) (.var 2)) (.var 5))]) [.ret (.lit (.bl true))] [],
   .ret (.cmp .eq (.bin .mul (.ix (.var 0) (.lit (.int 0))) (.var 6)) (.bin .mul (.bin .add (.var 3) (.bin .mul (.var 4) (.var 2))) (.ix (.var 0) (.lit (.int 1)))))]
noncomputable def F__law_is_that : List D → R D := defR 7 2 B__law_is_that
theorem D__law_is_that (a0 a1 : D) : F__law_is_that [a0, a1] = (exs [.v a0, .v a1, .n, .n, .n, .n, .n] B__law_is_that).end := rfl
noncomputable def N__law_is_that : Fn := ⟨"_law_is_that", F__law_is_that, false, []⟩
@[simp] theorem run_N__law_is_that : N__law_is_that.run = F__law_is_that := rfl
@[simp] theorem dfl_N__law_is_that : N__law_is_that.dfl = [] := rfl
noncomputable def B__law_parted : List St :=
  [.asg 2 false (.call N_root_between false [(.var 0), (.var 1)]),
   .ife (.or [(.not (.call N__law_lowest false [(.var 2)])), (.cmp .ne (.call N_root_between false [(.var 0), (.var 1)]) (.var 2))]) [.ret (.lit (.bl false))] [],
   .asg 3 false (.tup [(.ix (.var 2) (.lit (.int 0))), (.lit (.int 0)), (.lit (.int 0)), (.ix (.var 2) (.lit (.int 1)))]),
   .ret (.and [(.cmp .eq (.call N__law_order false [(.var 0), (.var 3)]) (.neg (.lit (.int 1)))), (.cmp .eq (.call N__law_order false [(.var 3), (.var 1)]) (.neg (.lit (.int 1))))])]
noncomputable def F__law_parted : List D → R D := defR 4 2 B__law_parted
theorem D__law_parted (a0 a1 : D) : F__law_parted [a0, a1] = (exs [.v a0, .v a1, .n, .n] B__law_parted).end := rfl
noncomputable def N__law_parted : Fn := ⟨"_law_parted", F__law_parted, false, []⟩
@[simp] theorem run_N__law_parted : N__law_parted.run = F__law_parted := rfl
@[simp] theorem dfl_N__law_parted : N__law_parted.dfl = [] := rfl
noncomputable def B_law : List St :=
  [.for (.nm 1) (.bin .add (.sl (.var 0) .nop (.lit (.int 10))) (.lst [(.blt .len [(.var 0)])])) [.unp [(.nm 3), (.nm 4)] (.call N__law_pair false [(.var 1)]), .asg 2 false (.call N__law_order false [(.var 3), (.var 4)]), .ife (.and [(.cmp .eq (.var 2) (.neg (.lit (.int 1)))), (.not (.call N__law_parted false [(.var 3), (.var 4)]))]) [.ret (.lit (.bl false))] [], .ife (.and [(.cmp .eq (.var 2) (.lit (.int 1))), (.not (.call N__law_parted false [(.var 4), (.var 3)]))]) [.ret (.lit (.bl false))] [], .unp [(.nm 5), (.nm 6), (.nm 7), (.nm 8)] (.var 3), .ife (.and [(.cmp .eq (.var 2) (.lit (.int 0))), (.or [(.cmp .eq (.var 6) (.lit (.int 0))), (.cmp .eq (.bin .pow (.call N__law_root false [(.var 7)]) (.lit (.int 2))) (.var 7))])]) [.asg 9 false (.call N_root_between false [(.var 3), (.var 4)]), .ife (.or [(.not (.call N__law_lowest false [(.var 9)])), (.not (.call N__law_is_that false [(.var 9), (.var 3)]))]) [.ret (.lit (.bl false))] []] []],
   .ret (.lit (.bl true))]
noncomputable def F_law : List D → R D := defR 10 1 B_law
theorem D_law (a0 : D) : F_law [a0] = (exs [.v a0, .n, .n, .n, .n, .n, .n, .n, .n, .n] B_law).end := rfl
noncomputable def N_law : Fn := ⟨"law", F_law, false, []⟩
@[simp] theorem run_N_law : N_law.run = F_law := rfl
@[simp] theorem dfl_N_law : N_law.dfl = [] := rfl
end OL.LW
namespace OL.LW
open PySem PySem.Spec PyProof.Rows L2
theorem whole_of {x : D} (h : (tyD x).isSome = true) : F_is_whole [x] = .ok (.bl (isI x)) := by
  rw [D_is_whole]
  cases x <;> first | (simp -dsimp -implicitDefEqProofs [B_is_whole, isT, isI, isiD, tyD]; done) | cases h
@[simp] theorem whole_int (i : Int) : F_is_whole [.int i] = .ok (.bl true) := whole_of rfl
@[simp] theorem whole_non : F_is_whole [.non] = .ok (.bl false) := whole_of rfl
@[simp] theorem whole_bl (b : Bool) : F_is_whole [.bl b] = .ok (.bl false) := whole_of rfl
@[simp] theorem whole_str (b : Str) : F_is_whole [.str b] = .ok (.bl false) := whole_of rfl
@[simp] theorem whole_tup (b : List D) : F_is_whole [.tup b] = .ok (.bl false) := whole_of rfl
@[simp] theorem whole_lst (b : List D) : F_is_whole [.lst b] = .ok (.bl false) := whole_of rfl
theorem div_go : ∀ (n : Nat) (a b : Int), a.toNat = n → 0 ≤ a → 0 ≤ b →
    wlO (.cmp .gt (.var 0) (.lit (.int 0))) [.par 0 1 (.bin .mod (.var 1) (.var 0)) (.var 0)] [.v (.int a), .v (.int b)] = .nx [.v (.int 0), .v (.int (Int.gcd a b))] := by
  intro n
  induction n using Nat.strongRecOn with
  | _ n ih =>
    intro a b hn ha hb
    by_cases h : a = 0
    · subst h
      rw [wl_stop (by simp -dsimp -implicitDefEqProofs)]
      simp [Int.natAbs_of_nonneg hb]
    · have h0 : 0 < a := by omega
      rw [wl_nx (ρ' := [.v (.int (b.fmod a)), .v (.int a)]) (by simp -dsimp -implicitDefEqProofs [h0]) (by simp -dsimp -implicitDefEqProofs [h])]
      have e : b.fmod a = b % a := Int.fmod_eq_emod_of_nonneg b ha
      rw [e]
      rw [ih (b % a).toNat (by have := Int.emod_lt_of_pos b h0; have := Int.emod_nonneg b h; omega) (b % a) a rfl (Int.emod_nonneg b h) ha]
      have g : Int.gcd (b % a) a = Int.gcd a b := emod_gcd b a hb
      rw [g]
theorem divisor_ok (a b : Int) (hb : 0 ≤ b) : F_divisor [.int a, .int b] = .ok (.int (Int.gcd a b)) := by
  have g : Int.gcd (a.natAbs : Int) b = Int.gcd a b := by unfold Int.gcd; rw [Int.natAbs_natCast]
  rw [D_divisor]
  simp -dsimp -implicitDefEqProofs [B_divisor, div_go _ _ b rfl (Int.natCast_nonneg a.natAbs) hb, g]
theorem ratio_ok {a b : Int} (h : b ≠ 0) (hb : b.natAbs < 2 ^ 9000) : F_ratio [.int a, .int b] = .ok (.tup [.int (rn a b), .int (rd a b)]) := by
  obtain ⟨o1, o2⟩ := dvo_gcd (a := a) h hb
  have e : Int.gcd a (b.natAbs : Int) = Int.gcd a b := by unfold Int.gcd; rw [Int.natAbs_natCast]
  rw [D_ratio]
  by_cases hn : b < 0
  · simp -dsimp -implicitDefEqProofs [B_ratio, h, hn, divisor_ok a (b.natAbs : Int) (by omega), e, rn, rd, show divOk (-(Int.gcd a b : Int)) = true by rw [← Int.zero_sub]; exact o2]
  · simp -dsimp -implicitDefEqProofs [B_ratio, h, hn, divisor_ok a (b.natAbs : Int) (by omega), e, rn, rd, o1]
@[simp] theorem ratio_no (a : Int) : F_ratio [.int a, .int 0] = .exc "NoRatio" := by
  rw [D_ratio]
  simp -dsimp -implicitDefEqProofs [B_ratio]
theorem ratio_fr {a b : Int} (h : b ≠ 0) (hb : b.natAbs < 2 ^ 9000) : F_ratio [.int a, .int b] = .ok (frD (Rat.divInt a b)) := by
  rw [ratio_ok h hb]
  obtain ⟨e1, e2⟩ := rat_eq (a := a) h
  unfold frD
  rw [e1, e2]
@[simp] theorem ratio_s {a b : Int} {m n : Nat} [x : Bi a m] [y : Bi b n] (h : b ≠ 0) (hb : n ≤ 9000) : F_ratio [.int a, .int b] = .ok (frD (Rat.divInt a b)) :=
  ratio_fr h (lt_up y.le hb)
theorem ratio_bad1 {x y : D} (h : (tyD x).isSome = true) (h2 : isI x = false) : F_ratio [x, y] = .exc "NoRatio" := by
  rw [D_ratio]
  simp -dsimp -implicitDefEqProofs [B_ratio, whole_of h, h2]
theorem ratio_bad2 {y : D} (i : Int) (h : (tyD y).isSome = true) (h2 : isI y = false) : F_ratio [.int i, y] = .exc "NoRatio" := by
  rw [D_ratio]
  simp -dsimp -implicitDefEqProofs [B_ratio, whole_of h, h2]
theorem isratio_two {x y : D} (hx : (tyD x).isSome = true) (hy : (tyD y).isSome = true) : F_is_ratio [.tup [x, y]] = .ok (.bl (frB x y)) := by
  rw [D_is_ratio]
  by_cases hi : isI x = true
  · by_cases hj : isI y = true
    · cases x <;> (try (cases hi; done))
      cases y <;> (try (cases hj; done))
      rename_i n d
      show _ = R.ok (D.bl (decide (1 ≤ d) && decide (Int.gcd n d = 1)))
      by_cases h1 : d < 1
      · simp -dsimp -implicitDefEqProofs [B_is_ratio, isT, h1, show ¬ 1 ≤ d by omega]
      · have c := divisor_ok n d (by omega)
        simp -dsimp -implicitDefEqProofs [B_is_ratio, isT, h1, show 1 ≤ d by omega, c]
        omega
    · have e : isI y = false := by simpa using hj
      have wx := whole_of hx
      have wy := whole_of hy
      rw [hi] at wx
      rw [e] at wy
      rw [frB_r e]
      simp -dsimp -implicitDefEqProofs [B_is_ratio, isT, wx, wy]
  · have e : isI x = false := by simpa using hi
    have wx := whole_of hx
    rw [e] at wx
    rw [frB_l e]
    simp -dsimp -implicitDefEqProofs [B_is_ratio, isT, wx]
theorem isratio_not {d : D} (h : (tyD d).isSome = true) (hd : ∀ x y, d ≠ .tup [x, y]) : F_is_ratio [d] = .ok (.bl false) := by
  rw [D_is_ratio]
  cases d <;> first | (simp -dsimp -implicitDefEqProofs [B_is_ratio, isT, isiD, tyD]; done) | (cases h; done) | skip
  rename_i xs
  match xs, hd with
  | [], _ => simp -dsimp -implicitDefEqProofs [B_is_ratio, isT]
  | [x], _ => simp -dsimp -implicitDefEqProofs [B_is_ratio, isT]
  | [x, y], hd => exact absurd rfl (hd x y)
  | x :: y :: z :: r, _ => simp -dsimp -implicitDefEqProofs [B_is_ratio, isT, show ¬ (r.length : Int) + 1 + 1 + 1 = 2 by omega]
@[simp] theorem isratio_fr (q : Rat) : F_is_ratio [frD q] = .ok (.bl true) := by
  have r := isratio_two (x := .int q.num) (y := .int q.den) rfl rfl
  have g : Int.gcd q.num q.den = 1 := q.reduced
  have d := den_pos q
  rw [show frD q = .tup [.int q.num, .int q.den] from rfl, r]
  simp [frB, g, show (1 : Int) ≤ q.den by omega]
section
variable {p q : Rat} {a b c d : Nat} [x : Bq p a b] [y : Bq q c d]
theorem bi_dd (p q : Rat) [x : Bq p a b] [y : Bq q c d] (h : b + d < 9000) : ((p.den : Int) * q.den).natAbs < 2 ^ 9000 := Nat.lt_of_le_of_lt (dd_le p q) (Nat.pow_lt_pow_right (by decide) h)
@[simp] theorem plus_s (h : b + d < 9000) (h2 : a + d ≤ 400000) (h3 : c + b ≤ 400000) : F_plus [frD p, frD q] = .ok (frD (p + q)) := by
  rw [D_plus]
  simp -dsimp -implicitDefEqProofs [B_plus, mulOk_b, show a + (d + 1) ≤ 900000 by omega, show c + (b + 1) ≤ 900000 by omega, show b + 1 + (d + 1) ≤ 900000 by omega, ratio_fr (dd_ne p q) (bi_dd p q h), rat_add]
@[simp] theorem minus_s (h : b + d < 9000) (h2 : a + d ≤ 400000) (h3 : c + b ≤ 400000) : F_minus [frD p, frD q] = .ok (frD (p - q)) := by
  rw [D_minus]
  simp -dsimp -implicitDefEqProofs [B_minus, mulOk_b, show a + (d + 1) ≤ 900000 by omega, show c + (b + 1) ≤ 900000 by omega, show b + 1 + (d + 1) ≤ 900000 by omega, ratio_fr (dd_ne p q) (bi_dd p q h), rat_sub]
@[simp] theorem times_s (h : b + d < 9000) (h2 : a + c ≤ 400000) : F_times [frD p, frD q] = .ok (frD (p * q)) := by
  rw [D_times]
  simp -dsimp -implicitDefEqProofs [B_times, mulOk_b, show a + c ≤ 900000 by omega, show b + 1 + (d + 1) ≤ 900000 by omega, ratio_fr (dd_ne p q) (bi_dd p q h), rat_mul]
@[simp] theorem over_s (h : b + c < 9000) (h2 : a + d ≤ 400000) (h0 : q ≠ 0) : F_over [frD p, frD q] = .ok (frD (p / q)) := by
  rw [D_over]
  have hd := den_pos p
  have hn : q.num ≠ 0 := fun z => h0 (Rat.num_eq_zero.mp z)
  have e : (p.den : Int) * q.num ≠ 0 := Int.mul_ne_zero (by omega) hn
  have l : ((p.den : Int) * q.num).natAbs < 2 ^ 9000 := by
    rw [Int.natAbs_mul]
    exact Nat.lt_of_le_of_lt (mul_le2 (den_abs p) (Nat.le_of_lt y.nu)) (Nat.pow_lt_pow_right (by decide) h)
  simp -dsimp -implicitDefEqProofs [B_over, mulOk_b, show a + (d + 1) ≤ 900000 by omega, show b + 1 + c ≤ 900000 by omega, ratio_fr e l, rat_div]
@[simp] theorem over_0 {p : Rat} {a b : Nat} [x : Bq p a b] (h : a ≤ 9000) (h2 : b ≤ 9000) : F_over [frD p, frD 0] = .exc "NoRatio" := by
  rw [D_over]
  simp -dsimp -implicitDefEqProofs [B_over, mulOk_b, show a + 4 ≤ 900000 by omega, show b + 1 + 4 ≤ 900000 by omega]
@[simp] theorem less_s (h : a + d ≤ 400000) (h2 : c + b ≤ 400000) : F_less [frD p, frD q] = .ok (.bl (decide (p < q))) := by
  rw [D_less]
  simp -dsimp -implicitDefEqProofs [B_less, mulOk_b, show a + (d + 1) ≤ 900000 by omega, show c + (b + 1) ≤ 900000 by omega, Rat.lt_iff]
@[simp] theorem floor_s {p : Rat} {a b : Nat} [x : Bq p a b] (h : b < 9000) : F_floor_of [frD p] = .ok (.int p.floor) := by
  rw [D_floor_of]
  simp -dsimp -implicitDefEqProofs [B_floor_of, divOk_b, show b + 1 ≤ 9000 by omega, floor_fdiv]
end
end OL.LW
namespace OL.LW
open PySem PySem.Spec PyProof.Rows L2
instance (priority := 2000) bi_sign {i : Int} : Bi i.sign 4 := ⟨by
  rcases Int.lt_trichotomy i 0 with h | h | h
  · rw [Int.sign_eq_neg_one_of_neg h]; decide
  · rw [h]; decide
  · rw [Int.sign_eq_one_of_pos h]; decide⟩
@[simp] theorem sign_s (n : Int) : F_sign_of [.int n] = .ok (.int n.sign) := by
  rw [D_sign_of]
  rcases Int.lt_trichotomy n 0 with h | h | h
  · simp -dsimp -implicitDefEqProofs [B_sign_of, h, show ¬ 0 < n by omega, Int.sign_eq_neg_one_of_neg h]
  · subst h; simp -dsimp -implicitDefEqProofs [B_sign_of]
  · simp -dsimp -implicitDefEqProofs [B_sign_of, h, show ¬ n < 0 by omega, Int.sign_eq_one_of_pos h]
def sg2 (w m u : Int) : Int :=
  if w.sign = 0 ∨ w.sign = m.sign * u.sign then m.sign * u.sign else if m.sign * u.sign = 0 then w.sign else w.sign * (w * w - m * m * u).sign
theorem two_s {w m u : Int} {a b c : Nat} [Bi w a] [Bi m b] [Bi u c] (h : a + a ≤ 900000) (h2 : b + b ≤ 900000) (h3 : b + b + c ≤ 900000) : F_sign_of_two [.int w, .int m, .int u] = .ok (.int (sg2 w m u)) := by
  rw [D_sign_of_two]
  unfold sg2
  by_cases c1 : w.sign = 0
  · rw [if_pos (.inl c1)]
    simp -dsimp -implicitDefEqProofs [B_sign_of_two, mulOk_b, c1]
  · by_cases c2 : w.sign = m.sign * u.sign
    · rw [if_pos (.inr c2)]
      have c3 : ¬ m.sign * u.sign = 0 := by rw [← c2]; exact c1
      simp -dsimp -implicitDefEqProofs [B_sign_of_two, mulOk_b, c1, c2, c3]
    · rw [if_neg (by simp [c1, c2])]
      by_cases c3 : m.sign * u.sign = 0
      · rw [if_pos c3]
        simp -dsimp -implicitDefEqProofs [B_sign_of_two, mulOk_b, c1, c2, c3]
      · rw [if_neg c3]
        simp -dsimp -implicitDefEqProofs [B_sign_of_two, mulOk_b, c1, c2, c3, h, h2, h3]
instance bi_two {w m u : Int} : Bi (sg2 w m u) 4 := ⟨by
  have s : ∀ i : Int, i.sign = -1 ∨ i.sign = 0 ∨ i.sign = 1 := fun i => by
    rcases Int.lt_trichotomy i 0 with h | h | h
    · rw [Int.sign_eq_neg_one_of_neg h]; decide
    · rw [h]; decide
    · rw [Int.sign_eq_one_of_pos h]; decide
  unfold sg2
  have a := s w
  have b := s m
  have c := s u
  have d := s (w * w - m * m * u)
  generalize (w * w - m * m * u).sign = x at *
  generalize w.sign = y at *
  generalize m.sign = z at *
  generalize u.sign = v at *
  rcases a with rfl | rfl | rfl <;> rcases b with rfl | rfl | rfl <;> rcases c with rfl | rfl | rfl <;> rcases d with rfl | rfl | rfl <;> decide⟩
def sg3 (w m u k l : Int) : Int :=
  if sg2 w m u = 0 ∨ sg2 w m u = k.sign * l.sign then k.sign * l.sign else if k.sign * l.sign = 0 then sg2 w m u else sg2 w m u * sg2 (w * w + m * m * u - k * k * l) (2 * w * m) u
theorem three_s {w m u k l : Int} [Bi w 20000] [Bi m 20000] [Bi u 20000] [Bi k 20000] [Bi l 20000] : F_sign_of_three [.int w, .int m, .int u, .int k, .int l] = .ok (.int (sg3 w m u k l)) := by
  rw [D_sign_of_three]
  unfold sg3
  have t1 := two_s (w := w) (m := m) (u := u) (by decide) (by decide) (by decide)
  by_cases c1 : sg2 w m u = 0
  · rw [if_pos (.inl c1)]
    simp -dsimp -implicitDefEqProofs [B_sign_of_three, mulOk_b, t1, c1]
  · by_cases c2 : sg2 w m u = k.sign * l.sign
    · rw [if_pos (.inr c2)]
      have c3 : ¬ k.sign * l.sign = 0 := by rw [← c2]; exact c1
      simp -dsimp -implicitDefEqProofs [B_sign_of_three, mulOk_b, t1, c1, c2, c3]
    · rw [if_neg (by simp [c1, c2])]
      by_cases c3 : k.sign * l.sign = 0
      · rw [if_pos c3]
        simp -dsimp -implicitDefEqProofs [B_sign_of_three, mulOk_b, t1, c1, c2, c3]
      · rw [if_neg c3]
        have t2 := two_s (w := w * w + m * m * u - k * k * l) (m := 2 * w * m) (u := u) (by decide) (by decide) (by decide)
        simp -dsimp -implicitDefEqProofs [B_sign_of_three, mulOk_b, t1, t2, c1, c2, c3]
/-- a number with a root -/
structure Q4 where
  p : Int
  q : Int
  r : Int
  s : Int
def qD (x : Q4) : D := .tup [.int x.p, .int x.q, .int x.r, .int x.s]
class Bz (x : Q4) (n : outParam Nat) : Prop where
  p : x.p.natAbs < 2 ^ n
  q : x.q.natAbs < 2 ^ n
  r : x.r.natAbs < 2 ^ n
  s : x.s.natAbs < 2 ^ n
section
variable {x : Q4} {n : Nat} [z : Bz x n]
instance bz_p : Bi x.p n := ⟨z.p⟩
instance bz_q : Bi x.q n := ⟨z.q⟩
instance bz_r : Bi x.r n := ⟨z.r⟩
instance bz_s : Bi x.s n := ⟨z.s⟩
end
theorem bz_of {p q r s : Int} {i j k l : Nat} (n : Nat) [a : Bi p i] [b : Bi q j] [c : Bi r k] [d : Bi s l] (h : i ≤ n ∧ j ≤ n ∧ k ≤ n ∧ l ≤ n) : Bz ⟨p, q, r, s⟩ n := ⟨lt_up a.le h.1, lt_up b.le h.2.1, lt_up c.le h.2.2.1, lt_up d.le h.2.2.2⟩
def ordQ (x y : Q4) : Int := sg3 (x.p * y.s - y.p * x.s) (x.q * y.s) x.r (-(y.q * x.s)) y.r
theorem bi_up {i : Int} {a : Nat} [x : Bi i a] (b : Nat) (h : a ≤ b) : Bi i b := ⟨Nat.lt_of_lt_of_le x.le (Nat.pow_le_pow_right (by decide) h)⟩
theorem order_ok {x y : Q4} {a b : Nat} [z : Bz x a] [w : Bz y b] (ha : a ≤ 4000) (hb : b ≤ 4000) : F_root_order [qD x, qD y] = .ok (.int (ordQ x y)) := by
  rw [D_root_order]
  have i1 : Bi x.p 4000 := bi_up 4000 ha
  have i2 : Bi x.q 4000 := bi_up 4000 ha
  have i3 : Bi x.r 4000 := bi_up 4000 ha
  have i4 : Bi x.s 4000 := bi_up 4000 ha
  have i5 : Bi y.p 4000 := bi_up 4000 hb
  have i6 : Bi y.q 4000 := bi_up 4000 hb
  have i7 : Bi y.r 4000 := bi_up 4000 hb
  have i8 : Bi y.s 4000 := bi_up 4000 hb
  have j1 : Bi (x.p * y.s - y.p * x.s) 20000 := bi_up 20000 (by decide)
  have j2 : Bi (x.q * y.s) 20000 := bi_up 20000 (by decide)
  have j3 : Bi (-(y.q * x.s)) 20000 := bi_up 20000 (by decide)
  have k1 : Bi x.r 20000 := @bi_up _ 4000 i3 20000 (by decide)
  have k2 : Bi y.r 20000 := @bi_up _ 4000 i7 20000 (by decide)
  have t := three_s (w := x.p * y.s - y.p * x.s) (m := x.q * y.s) (u := x.r) (k := -(y.q * x.s)) (l := y.r)
  clear j1 j2 j3 k1 k2
  simp -dsimp -implicitDefEqProofs [B_root_order, qD, mulOk_b, t, ordQ]
end OL.LW
namespace OL.LW
open PySem PySem.Spec PyProof.Rows L2
theorem sq_lt {a b : Int} (h0 : 0 ≤ a) (h : a < b) : a * a < b * b := by
  have := Int.mul_le_mul_of_nonneg_left (show a ≤ b by omega) h0
  have := Int.mul_lt_mul_of_pos_right h (show 0 < b by omega)
  omega
theorem sq_le {a b : Int} (h0 : 0 ≤ a) (h : a ≤ b) : a * a ≤ b * b := Int.mul_le_mul h h h0 (by omega)
/-- the whole root -/
def IsR (n r : Int) : Prop := 0 ≤ r ∧ r * r ≤ n ∧ n < (r + 1) * (r + 1)
theorem isr_le {n r c : Int} (h : IsR n r) (h0 : 0 ≤ c) (hc : n ≤ c * c) : r ≤ c := by
  rcases Int.lt_or_le c r with z | z
  · have := sq_lt h0 z
    have := h.2.1
    omega
  · exact z
theorem le_isr {n r c : Int} (h : IsR n r) (h0 : 0 ≤ c) (hc : c * c ≤ n) : c ≤ r := by
  rcases Int.lt_or_le r c with z | z
  · have := sq_le (by have := h.1; omega) (show r + 1 ≤ c by omega)
    have := h.2.2
    omega
  · exact z
theorem isr_eq {n r s : Int} (h : IsR n r) (g : IsR n s) : r = s :=
  Int.le_antisymm (le_isr g h.1 h.2.1) (le_isr h g.1 g.2.1)
theorem isr_sq {c : Int} (h0 : 0 ≤ c) : IsR (c * c) c := ⟨h0, Int.le_refl _, sq_lt h0 (by omega)⟩
theorem isr_0 : IsR 0 0 := ⟨by decide, by decide, by decide⟩
theorem sign_cs (i : Int) : (i < 0 ∧ i.sign = -1) ∨ (i = 0 ∧ i.sign = 0) ∨ (0 < i ∧ i.sign = 1) := by
  rcases Int.lt_trichotomy i 0 with h | h | h
  · exact .inl ⟨h, Int.sign_eq_neg_one_of_neg h⟩
  · exact .inr (.inl ⟨h, by rw [h]; rfl⟩)
  · exact .inr (.inr ⟨h, Int.sign_eq_one_of_pos h⟩)
theorem sg2_cs {w m u : Int} (hu : 0 ≤ u) :
    (sg2 w m u = 1 ∧ ((w = 0 ∧ 0 < m ∧ 0 < u) ∨ (0 < w ∧ (0 ≤ m ∨ u = 0)) ∨ (0 < w ∧ m < 0 ∧ 0 < u ∧ m * m * u < w * w) ∨ (w < 0 ∧ 0 < m ∧ 0 < u ∧ w * w < m * m * u))) ∨
    (sg2 w m u = -1 ∧ ((w = 0 ∧ m < 0 ∧ 0 < u) ∨ (w < 0 ∧ (m ≤ 0 ∨ u = 0)) ∨ (w < 0 ∧ 0 < m ∧ 0 < u ∧ m * m * u < w * w) ∨ (0 < w ∧ m < 0 ∧ 0 < u ∧ w * w < m * m * u))) ∨
    (sg2 w m u = 0 ∧ ((w = 0 ∧ (m = 0 ∨ u = 0)) ∨ (w * w = m * m * u ∧ 0 < u ∧ ((0 < w ∧ m < 0) ∨ (w < 0 ∧ 0 < m))))) := by
  unfold sg2
  rcases sign_cs w with ⟨a, a'⟩ | ⟨a, a'⟩ | ⟨a, a'⟩ <;> rcases sign_cs m with ⟨b, b'⟩ | ⟨b, b'⟩ | ⟨b, b'⟩ <;> rcases sign_cs u with ⟨c, c'⟩ | ⟨c, c'⟩ | ⟨c, c'⟩ <;>
    rcases sign_cs (w * w - m * m * u) with ⟨d, d'⟩ | ⟨d, d'⟩ | ⟨d, d'⟩ <;> rw [a', b', c', d'] <;> simp <;> omega
/-- the two terms at a scale: w N and the signed root -/
def sgr (m A : Int) : Int := m.sign * A
theorem isr_up {N m u A r : Int} (hN : 0 ≤ N) (hu : 0 ≤ u) (h : IsR (m * N * (m * N) * u) A) (hr : IsR u r) : A ≤ N * ((m.natAbs : Int) * (1 + r)) := by
  refine isr_le h (Int.mul_nonneg hN (Int.mul_nonneg (by omega) (by have := hr.1; omega))) ?_
  have e : (m.natAbs : Int) * (m.natAbs : Int) = m * m := Int.natAbs_mul_self
  have := Int.mul_nonneg (Int.mul_nonneg (Int.mul_nonneg hN (Int.natCast_nonneg m.natAbs)) (Int.mul_nonneg hN (Int.natCast_nonneg m.natAbs))) (show 0 ≤ (r + 1) * (r + 1) - u by have := hr.2.2; omega)
  grind
theorem two_zero {N w m u A : Int} (hu : 0 ≤ u) (hN : 0 < N) (h : IsR (m * N * (m * N) * u) A) (z : sg2 w m u = 0) : w * N + sgr m A = 0 := by
  unfold sgr
  rcases sg2_cs (w := w) (m := m) hu with ⟨a, _⟩ | ⟨a, _⟩ | ⟨_, b⟩
  · omega
  · omega
  · rcases b with ⟨rfl, rfl | rfl⟩ | ⟨e, c, ⟨d1, d2⟩ | ⟨d1, d2⟩⟩
    · simp
    · have := isr_eq h (by simpa using isr_0)
      subst this
      simp
    · have p := Int.mul_nonneg (show 0 ≤ w by omega) (show 0 ≤ N by omega)
      have := isr_eq h (s := w * N) (by have := isr_sq p; rw [show m * N * (m * N) * u = w * N * (w * N) by grind]; exact this)
      rw [this, Int.sign_eq_neg_one_of_neg d2]
      omega
    · have p := Int.mul_nonneg (show 0 ≤ -w by omega) (show 0 ≤ N by omega)
      have := isr_eq h (s := -w * N) (by have := isr_sq p; rw [show m * N * (m * N) * u = -w * N * (-w * N) by grind]; exact this)
      rw [this, Int.sign_eq_one_of_pos d2]
      grind
theorem two_pos {N w m u A C : Int} (hu : 0 ≤ u) (hN : 0 < N) (h : IsR (m * N * (m * N) * u) A) (hA : A ≤ N * C) (hC : 0 ≤ C) (z : sg2 w m u = 1) : N < (w * N + sgr m A + 1) * (2 * C + 2 * w.natAbs + 2) := by
  unfold sgr
  have A0 := h.1
  have t0 : 0 ≤ (2 * C + 2 * (w.natAbs : Int)) := by omega
  have key : ∀ Y : Int, N ≤ Y → N < (Y + 1) * (2 * C + 2 * w.natAbs + 2) := fun Y hY => by
    have := Int.mul_nonneg (show 0 ≤ Y + 1 by omega) t0
    grind
  rcases sg2_cs (w := w) (m := m) hu with ⟨_, b⟩ | ⟨a, _⟩ | ⟨a, b⟩
  · rcases b with ⟨rfl, b, c⟩ | ⟨b, c⟩ | ⟨b, c, d, e⟩ | ⟨b, c, d, e⟩
    · apply key
      rw [Int.sign_eq_one_of_pos b]
      have : N ≤ A := by
        refine le_isr h (by omega) ?_
        have p : 1 ≤ m * m * u := Int.mul_pos (Int.mul_pos b b) c
        have := Int.mul_nonneg (Int.mul_nonneg (show 0 ≤ N by omega) (show 0 ≤ N by omega)) (show 0 ≤ m * m * u - 1 by omega)
        grind
      omega
    · apply key
      have g : 0 ≤ m.sign * A := by
        rcases c with c | rfl
        · refine Int.mul_nonneg ?_ A0
          have := sign_cs m
          omega
        · have := isr_eq h (by simpa using isr_0)
          subst this
          simp
      have := Int.mul_nonneg (show 0 ≤ w - 1 by omega) (show 0 ≤ N by omega)
      grind
    · rw [Int.sign_eq_neg_one_of_neg c, show (w.natAbs : Int) = w by omega]
      have g := Int.mul_nonneg (Int.mul_nonneg (show 0 ≤ N by omega) (show 0 ≤ N by omega)) (show 0 ≤ w * w - m * m * u - 1 by omega)
      have A1 := h.2.1
      have q : N * N ≤ (w * N - A) * (w * N + A) := by grind
      have wN := Int.mul_pos b hN
      have y : A < w * N := by
        rcases Int.lt_or_le A (w * N) with z | z
        · exact z
        · exfalso
          have := sq_le (show 0 ≤ w * N by omega) z
          have := Int.mul_pos hN hN
          grind
      have q2 := Int.mul_nonneg (show 0 ≤ w * N - A by omega) (show 0 ≤ w * N - A by omega)
      have q3 : N * N ≤ N * ((w * N - A) * (2 * w)) := by grind
      have q4 := Int.le_of_mul_le_mul_left q3 hN
      have q5 := Int.mul_nonneg (show 0 ≤ w * N - A + 1 by omega) (show 0 ≤ C by omega)
      grind
    · rw [Int.sign_eq_one_of_pos c, show (w.natAbs : Int) = -w by omega]
      have g := Int.mul_nonneg (Int.mul_nonneg (show 0 ≤ N by omega) (show 0 ≤ N by omega)) (show 0 ≤ m * m * u - w * w - 1 by omega)
      have A2 := h.2.2
      have wN := Int.mul_pos (show 0 < -w by omega) hN
      have y : -w * N ≤ A := by
        refine le_isr h (by omega) ?_
        have := Int.mul_pos hN hN
        grind
      have q : N * N < (A + 1 + w * N) * (A + 1 - w * N) := by grind
      have q2 : N * N < N * ((A + 1 + w * N) * (2 * C + 1)) := by
        have i1 : A + 1 - w * N ≤ N * (2 * C + 1) := by grind
        have i2 := Int.mul_le_mul_of_nonneg_left i1 (show 0 ≤ A + 1 + w * N by grind)
        grind
      have q3 := Int.lt_of_mul_lt_mul_left q2 (show 0 ≤ N by omega)
      have q4 := Int.mul_nonneg (show 0 ≤ A + 1 + w * N by grind) (show 0 ≤ -w by omega)
      grind
  · omega
  · omega
theorem sg2_neg (w m u : Int) : sg2 (-w) (-m) u = - sg2 w m u := by
  unfold sg2
  simp only [Int.sign_neg, Int.neg_mul, Int.neg_mul_neg, Int.mul_neg, Int.neg_neg]
  have e : (-w.sign = 0) = (w.sign = 0) := by simp
  have e2 : (-w.sign = -(m.sign * u.sign)) = (w.sign = m.sign * u.sign) := by simp
  have e3 : (-(m.sign * u.sign) = 0) = (m.sign * u.sign = 0) := by rw [Int.neg_eq_zero]
  simp only [e, e2, e3]
  split
  · rfl
  · split <;> rfl
theorem sgr_neg (m A : Int) : sgr (-m) A = - sgr m A := by unfold sgr; rw [Int.sign_neg, Int.neg_mul]
theorem two_neg {N w m u A C : Int} (hu : 0 ≤ u) (hN : 0 < N) (h : IsR (m * N * (m * N) * u) A) (hA : A ≤ N * C) (hC : 0 ≤ C) (z : sg2 w m u = -1) : N < (1 - (w * N + sgr m A)) * (2 * C + 2 * w.natAbs + 2) := by
  have := two_pos (w := -w) (m := -m) hu hN (by rw [show -m * N * (-m * N) * u = m * N * (m * N) * u by grind]; exact h) hA hC (by rw [sg2_neg, z]; rfl)
  rw [sgr_neg, Int.natAbs_neg] at this
  rw [show 1 - (w * N + sgr m A) = -w * N + -sgr m A + 1 by grind]
  exact this
theorem sgr_sq {N m u A : Int} (h : IsR (m * N * (m * N) * u) A) : sgr m A * sgr m A = A * A := by
  unfold sgr
  rcases sign_cs m with ⟨a, b⟩ | ⟨a, b⟩ | ⟨a, b⟩
  · rw [b]; grind
  · subst a
    have := isr_eq h (by simpa using isr_0)
    subst this
    rfl
  · rw [b]; grind
theorem isr_ex {n : Int} (h : 0 ≤ n) : ∃ r, IsR n r := by
  have go : ∀ k : Nat, ∃ r, IsR (k : Int) r := by
    intro k
    induction k with
    | zero => exact ⟨0, isr_0⟩
    | succ k ih =>
      obtain ⟨r, r0, r1, r2⟩ := ih
      by_cases c : (r + 1) * (r + 1) ≤ ((k + 1 : Nat) : Int)
      · have := sq_lt (show 0 ≤ r + 1 by omega) (show r + 1 < r + 1 + 1 by omega)
        exact ⟨r + 1, by omega, c, by omega⟩
      · exact ⟨r, r0, by omega, by omega⟩
  obtain ⟨r, hr⟩ := go n.toNat
  exact ⟨r, by rw [show (n.toNat : Int) = n by omega] at hr; exact hr⟩
theorem cross {N w m u A A' : Int} (h : IsR (m * N * (m * N) * u) A) (h' : IsR (2 * w * m * N * (2 * w * m * N) * u) A') :
    sgr (2 * w * m) A' - 2 * w * sgr m A ≤ 2 * w.natAbs ∧ -(2 * w.natAbs : Int) ≤ sgr (2 * w * m) A' - 2 * w * sgr m A := by
  have e : (w.natAbs : Int) * (w.natAbs : Int) = w * w := Int.natAbs_mul_self
  have A0 := h.1
  have w2 := Int.mul_nonneg (Int.natCast_nonneg w.natAbs) (Int.natCast_nonneg w.natAbs)
  have lo : 2 * (w.natAbs : Int) * A ≤ A' := by
    refine le_isr h' (Int.mul_nonneg (by omega) A0) ?_
    have := Int.mul_nonneg w2 (show 0 ≤ m * N * (m * N) * u - A * A by have := h.2.1; omega)
    grind
  have hi : A' ≤ 2 * (w.natAbs : Int) * (A + 1) := by
    refine isr_le h' (Int.mul_nonneg (by omega) (by omega)) ?_
    have := Int.mul_nonneg w2 (show 0 ≤ (A + 1) * (A + 1) - m * N * (m * N) * u by have := h.2.2; omega)
    grind
  unfold sgr
  rw [Int.sign_mul, Int.sign_mul, show Int.sign 2 = 1 from rfl, Int.one_mul]
  rcases sign_cs w with ⟨a, a'⟩ | ⟨a, a'⟩ | ⟨a, a'⟩ <;> rcases sign_cs m with ⟨b, b'⟩ | ⟨b, b'⟩ | ⟨b, b'⟩ <;> rw [a', b'] <;> first
    | (rw [show (w.natAbs : Int) = -w by omega] at *; grind)
    | (rw [show (w.natAbs : Int) = w by omega] at *; grind)
theorem core_pos {N w m u k l A B a b M : Int} (hu : 0 ≤ u) (hM : M = 1 + w.natAbs + a + b) (hN : N = 216 * (M * M * M)) (h : IsR (m * N * (m * N) * u) A) (g : IsR (k * N * (k * N) * l) B) (a0 : 0 ≤ a) (b0 : 0 ≤ b)
    (hA : A ≤ N * a) (hB : B ≤ N * b) (ha : m * m * u ≤ a * a) (hb : k * k * l ≤ b * b) (hl : 0 ≤ l) (t : sg2 w m u = 1) :
    (sg2 (w * w + m * m * u - k * k * l) (2 * w * m) u = 1 → 3 ≤ w * N + sgr m A - B) ∧ (sg2 (w * w + m * m * u - k * k * l) (2 * w * m) u = -1 → w * N + sgr m A - B ≤ -3) := by
  have e : (w.natAbs : Int) * (w.natAbs : Int) = w * w := Int.natAbs_mul_self
  have M1 : 1 ≤ M := by omega
  have M3 : 0 < M * M * M := Int.mul_pos (Int.mul_pos M1 M1) M1
  have N0 : 0 < N := by omega
  have A0 := h.1
  have B0 := g.1
  have Y0 : 0 ≤ w * N + sgr m A := by
    have p := two_pos hu N0 h hA a0 t
    rcases Int.lt_or_le (w * N + sgr m A) 0 with z | z
    · exfalso
      have := Int.mul_nonneg (show 0 ≤ -(w * N + sgr m A + 1) by omega) (show 0 ≤ 2 * a + 2 * (w.natAbs : Int) + 2 by omega)
      grind
    · exact z
  have Y1 : w * N + sgr m A ≤ N * (w.natAbs + a) := by
    have s : sgr m A ≤ A := by
      unfold sgr
      rcases sign_cs m with ⟨_, b'⟩ | ⟨_, b'⟩ | ⟨_, b'⟩ <;> rw [b'] <;> omega
    have := Int.mul_nonneg (show 0 ≤ (w.natAbs : Int) - w by omega) (show 0 ≤ N by omega)
    grind
  obtain ⟨A', h'⟩ := isr_ex (n := 2 * w * m * N * (2 * w * m * N) * u) (Int.mul_nonneg (by rw [← Int.natAbs_mul_self]; omega) hu)
  obtain ⟨c1, c2⟩ := cross h h'
  have mu : 0 ≤ m * m * u := Int.mul_nonneg (by rw [← Int.natAbs_mul_self]; omega) hu
  have kl : 0 ≤ k * k * l := Int.mul_nonneg (by rw [← Int.natAbs_mul_self]; omega) hl
  have hA' : A' ≤ N * (2 * w.natAbs * a) := by
    have z0 := Int.mul_nonneg (show 0 ≤ 2 * (w.natAbs : Int) by omega) a0
    refine isr_le h' (Int.mul_nonneg (by omega) z0) ?_
    have := Int.mul_nonneg (Int.mul_nonneg (Int.mul_nonneg (show 0 ≤ N by omega) (Int.natCast_nonneg w.natAbs)) (Int.mul_nonneg (show 0 ≤ N by omega) (Int.natCast_nonneg w.natAbs))) (show 0 ≤ a * a - m * m * u by omega)
    grind
  have C0 : 0 ≤ 2 * w.natAbs * a := Int.mul_nonneg (by omega) a0
  have D : 2 * (2 * w.natAbs * a) + 2 * ((w * w + m * m * u - k * k * l).natAbs : Int) + 2 ≤ 2 * (M * M) := by
    have ww : 0 ≤ w * w := by rw [← e]; exact Int.mul_nonneg (Int.natCast_nonneg _) (Int.natCast_nonneg _)
    have i1 : ((w * w + m * m * u - k * k * l).natAbs : Int) ≤ w * w + a * a + b * b := by omega
    have i2 := Int.mul_nonneg (Int.natCast_nonneg w.natAbs) b0
    have i3 := Int.mul_nonneg a0 b0
    rw [hM]
    grind
  have P1 := fun v => two_pos (w := w * w + m * m * u - k * k * l) hu N0 h' hA' C0 v
  have P2 := fun v => two_neg (w := w * w + m * m * u - k * k * l) hu N0 h' hA' C0 v
  have S := sgr_sq h
  have E1 := h.2.1
  have E2 := h.2.2
  have G1 := g.2.1
  have G2 := g.2.2
  generalize sgr m A = s at *
  generalize sgr (2 * w * m) A' = s' at *
  generalize hW : w * w + m * m * u - k * k * l = W at *
  have wN := Int.mul_nonneg (show 0 ≤ 2 * (w.natAbs : Int) - (s' - 2 * w * s) by omega) (show 0 ≤ N by omega)
  have wN2 := Int.mul_nonneg (show 0 ≤ 2 * (w.natAbs : Int) + (s' - 2 * w * s) by omega) (show 0 ≤ N by omega)
  have eW : N * N * W = N * N * (w * w) + m * N * (m * N) * u - k * N * (k * N) * l := by rw [← hW]; grind
  have MM : M * M * M * 216 = N := by omega
  have D0 : 0 ≤ 2 * (2 * w.natAbs * a) + 2 * (W.natAbs : Int) + 2 := by omega
  have MN := Int.mul_nonneg (show 0 ≤ M by omega) (show 0 ≤ N by omega)
  have n1 := Int.mul_nonneg (show 0 ≤ N by omega) (Int.natCast_nonneg w.natAbs)
  have n2 := Int.mul_nonneg (show 0 ≤ N by omega) a0
  have n3 := Int.mul_nonneg (show 0 ≤ N by omega) b0
  have hMN : M * N = N + N * w.natAbs + N * a + N * b := by rw [hM]; grind
  have eY : (w * N + s) * (w * N + s) - B * B = N * (W * N + s') + (A * A - m * N * (m * N) * u) + (k * N * (k * N) * l - B * B) - (s' - 2 * w * s) * N := by grind
  have nD := fun (x : Int) (hx : 0 ≤ x) => Int.mul_nonneg hx D0
  have nE := Int.mul_nonneg (show 0 ≤ 108 * M by omega) (show 0 ≤ 2 * (M * M) - (2 * (2 * w.natAbs * a) + 2 * (W.natAbs : Int) + 2) by omega)
  constructor
  · intro v
    have p := P1 v
    have T : 108 * M ≤ W * N + s' := by
      rcases Int.lt_or_le (W * N + s') (108 * M) with z | z
      · exfalso
        have := nD (108 * M - (W * N + s' + 1)) (by omega)
        clear eY wN wN2 n1 n2 n3 P1 P2 E1 E2 G1 G2 S nD eW
        grind
      · exact z
    have nT := Int.mul_nonneg (show 0 ≤ N by omega) (show 0 ≤ W * N + s' - 108 * M by omega)
    rcases Int.lt_or_le (w * N + s - B) 3 with z | z
    · exfalso
      have q := Int.mul_nonneg (show 0 ≤ 2 - (w * N + s - B) by omega) (show 0 ≤ w * N + s + B by omega)
      have q2 : (w * N + s) * (w * N + s) - B * B ≤ 2 * (w * N + s + B) := by
        clear eY wN wN2 n1 n2 n3 P1 P2 E1 E2 G1 G2 S nD eW nT p nE D D0
        grind
      have q3 : N * (W * N + s') ≥ 108 * (M * N) := by
        clear eY wN wN2 n1 n2 n3 P1 P2 E1 E2 G1 G2 S nD eW p nE D D0 q q2
        grind
      have q4 : N * (w.natAbs + a) = N * w.natAbs + N * a := Int.mul_add ..
      have q5 : 0 ≤ 2 * (w.natAbs : Int) * N - (s' - 2 * w * s) * N := by rw [← Int.sub_mul]; exact wN
      have q6 : 2 * (w.natAbs : Int) * N = 2 * (N * w.natAbs) := by grind
      have q7 : (A + 1) * (A + 1) = A * A + 2 * A + 1 := by grind
      omega
    · exact z
  · intro v
    have p := P2 v
    have T : W * N + s' ≤ -(108 * M) := by
      rcases Int.lt_or_le (-(108 * M)) (W * N + s') with z | z
      · exfalso
        have := nD (108 * M - (1 - (W * N + s'))) (by omega)
        clear eY wN wN2 n1 n2 n3 P1 P2 E1 E2 G1 G2 S nD eW
        grind
      · exact z
    have nT := Int.mul_nonneg (show 0 ≤ N by omega) (show 0 ≤ -(108 * M) - (W * N + s') by omega)
    rcases Int.lt_or_le (-3) (w * N + s - B) with z | z
    · exfalso
      have q := Int.mul_nonneg (show 0 ≤ 2 + (w * N + s - B) by omega) (show 0 ≤ w * N + s + B by omega)
      have q2 : -(2 * (w * N + s + B)) ≤ (w * N + s) * (w * N + s) - B * B := by
        clear eY wN wN2 n1 n2 n3 P1 P2 E1 E2 G1 G2 S nD eW nT p nE D D0
        grind
      have q3 : N * (W * N + s') ≤ -(108 * (M * N)) := by
        clear eY wN wN2 n1 n2 n3 P1 P2 E1 E2 G1 G2 S nD eW p nE D D0 q q2
        grind
      have q4 : N * (w.natAbs + a) = N * w.natAbs + N * a := Int.mul_add ..
      have q5 : 0 ≤ 2 * (w.natAbs : Int) * N + (s' - 2 * w * s) * N := by rw [← Int.add_mul]; exact wN2
      have q6 : 2 * (w.natAbs : Int) * N = 2 * (N * w.natAbs) := by grind
      have q7 : (B + 1) * (B + 1) = B * B + 2 * B + 1 := by grind
      omega
    · exact z
theorem root_of {W C u : Int} (hu : 0 < u) (hC : C ≠ 0) (h : W * W = C * C * u) : ∃ v, 0 < v ∧ u = v * v := by
  have d : C ^ 2 ∣ W ^ 2 := ⟨u, by rw [Int.pow_succ, Int.pow_succ, Int.pow_zero, Int.one_mul, Int.pow_succ, Int.pow_succ, Int.pow_zero, Int.one_mul]; exact h⟩
  obtain ⟨v, rfl⟩ := (Int.pow_dvd_pow_iff (by decide)).mp d
  have e : C * C * (v * v) = C * C * u := by rw [← h]; grind
  have e2 := Int.eq_of_mul_eq_mul_left (by have := Int.mul_ne_zero hC hC; exact this) e
  refine ⟨v.natAbs, ?_, by rw [show (v.natAbs : Int) * (v.natAbs : Int) = v * v from Int.natAbs_mul_self]; exact e2.symm⟩
  have : v ≠ 0 := fun z => by subst z; simp at e2; omega
  omega
theorem core_zero {N w m u k l A B : Int} (hu : 0 ≤ u) (N0 : 0 < N) (h : IsR (m * N * (m * N) * u) A) (g : IsR (k * N * (k * N) * l) B)
    (t : sg2 w m u = 1) (z : sg2 (w * w + m * m * u - k * k * l) (2 * w * m) u = 0) (Y0 : 0 ≤ w * N + sgr m A) : w * N + sgr m A - B = 0 := by
  have A0 : (m = 0 ∨ u = 0) → A = 0 := fun c => by
    refine isr_eq h ?_
    rcases c with rfl | rfl <;> simpa using isr_0
  have wcase : (m = 0 ∨ u = 0) → w * w = k * k * l → w * N + sgr m A - B = 0 := fun c e => by
    have a0 := A0 c
    subst a0
    have s : sgr m 0 = 0 := by unfold sgr; rw [Int.mul_zero]
    rw [s] at Y0 ⊢
    have := isr_eq g (s := w * N) (by have := isr_sq (c := w * N) (by omega); rw [show k * N * (k * N) * l = w * N * (w * N) by grind]; exact this)
    omega
  rcases sg2_cs (w := w * w + m * m * u - k * k * l) (m := 2 * w * m) hu with ⟨a, _⟩ | ⟨a, _⟩ | ⟨_, b⟩
  · omega
  · omega
  · rcases b with ⟨e, c | c⟩ | ⟨e, c, d⟩
    · rcases Int.mul_eq_zero.mp c with c | c
      · have w0 : w = 0 := by omega
        subst w0
        have mp : 0 < m := by
          rcases sg2_cs (w := 0) (m := m) hu with ⟨_, b⟩ | ⟨a, _⟩ | ⟨a, _⟩ <;> omega
        have : A = B := isr_eq h (by rw [show m * N * (m * N) * u = k * N * (k * N) * l by grind]; exact g)
        unfold sgr
        rw [Int.sign_eq_one_of_pos mp, this]
        omega
      · subst c
        exact wcase (.inl rfl) (by grind)
    · subst c
      exact wcase (.inr rfl) (by grind)
    · obtain ⟨v, v0, rfl⟩ := root_of c (by omega) e
      have v0' := Int.le_of_lt v0
      have hA : A = m.natAbs * N * v := by
        refine isr_eq h ?_
        have := isr_sq (c := m.natAbs * N * v) (Int.mul_nonneg (Int.mul_nonneg (by omega) (by omega)) v0')
        have e2 : (m.natAbs : Int) * (m.natAbs : Int) = m * m := Int.natAbs_mul_self
        rw [show m * N * (m * N) * (v * v) = m.natAbs * N * v * (m.natAbs * N * v) by grind]
        exact this
      have hs : sgr m A = m * N * v := by
        unfold sgr
        rw [hA]
        have : m.sign * (m.natAbs : Int) = m := Int.sign_mul_natAbs m
        grind
      have f : (w * w + m * m * (v * v) - k * k * l) = -(2 * w * m) * v := by
        have g1 : ((w * w + m * m * (v * v) - k * k * l) - (2 * w * m) * v) * ((w * w + m * m * (v * v) - k * k * l) + (2 * w * m) * v) = 0 := by grind
        rcases Int.mul_eq_zero.mp g1 with g2 | g2
        · exfalso
          rcases d with ⟨d1, d2⟩ | ⟨d1, d2⟩
          · have := Int.mul_pos (show 0 < -(2 * w * m) by omega) v0
            grind
          · have := Int.mul_pos d2 v0
            grind
        · grind
      have := isr_eq g (s := w * N + m * N * v) (by
        have := isr_sq (c := w * N + m * N * v) (by rw [← hs]; exact Y0)
        rw [show k * N * (k * N) * l = (w * N + m * N * v) * (w * N + m * N * v) by grind]
        exact this)
      rw [hs, this]
      omega
theorem three_pos {N w m u k l A B a b M : Int} (hu : 0 ≤ u) (hl : 0 ≤ l) (hM : M = 1 + w.natAbs + a + b) (hN : N = 216 * (M * M * M)) (h : IsR (m * N * (m * N) * u) A) (g : IsR (k * N * (k * N) * l) B) (a0 : 0 ≤ a) (b0 : 0 ≤ b)
    (hA : A ≤ N * a) (hB : B ≤ N * b) (ha : m * m * u ≤ a * a) (hb : k * k * l ≤ b * b) (t : sg2 w m u = 1) :
    (sg3 w m u (-k) l = 1 ∧ 3 ≤ w * N + sgr m A - sgr k B) ∨ (sg3 w m u (-k) l = -1 ∧ w * N + sgr m A - sgr k B ≤ -3) ∨ (sg3 w m u (-k) l = 0 ∧ w * N + sgr m A - sgr k B = 0) := by
  have M1 : 1 ≤ M := by omega
  have M2 := Int.mul_pos M1 M1
  have M3 : M ≤ M * M * M := by
    have := Int.mul_nonneg (show 0 ≤ M * M - 1 by omega) (show 0 ≤ M by omega)
    grind
  have N0 : 0 < N := by omega
  have N3 : 3 ≤ N := by omega
  have p := two_pos hu N0 h hA a0 t
  have D2 : 2 * a + 2 * (w.natAbs : Int) + 2 ≤ 2 * M := by omega
  have Y3 : 3 ≤ w * N + sgr m A := by
    rcases Int.lt_or_le (w * N + sgr m A) 3 with z | z
    · exfalso
      have := Int.mul_nonneg (show 0 ≤ 3 - (w * N + sgr m A + 1) by omega) (show 0 ≤ 2 * a + 2 * (w.natAbs : Int) + 2 by omega)
      grind
    · exact z
  have Y0 : 0 ≤ w * N + sgr m A := by omega
  obtain ⟨q1, q2⟩ := core_pos hu hM hN h g a0 b0 hA hB ha hb hl t
  have q3 := core_zero hu N0 h g t
  have q4 := sg2_cs (w := w * w + m * m * u - k * k * l) (m := 2 * w * m) hu
  have hB0 := g.1
  unfold sg3
  rw [t, show -k * -k * l = k * k * l by grind]
  generalize sg2 (w * w + m * m * u - k * k * l) (2 * w * m) u = v at *
  rw [Int.sign_neg]
  rcases sign_cs k with ⟨c, c'⟩ | ⟨c, c'⟩ | ⟨c, c'⟩ <;> rcases sign_cs l with ⟨d, d'⟩ | ⟨d, d'⟩ | ⟨d, d'⟩
  · omega
  · subst d
    have := isr_eq g (by simpa using isr_0)
    subst this
    unfold sgr at *
    simp [c', d'] at *
    omega
  · unfold sgr at *
    simp [c', d'] at *
    omega
  · omega
  · unfold sgr at *
    simp [c', d'] at *
    omega
  · unfold sgr at *
    simp [c', d'] at *
    omega
  · omega
  · subst d
    have := isr_eq g (by simpa using isr_0)
    subst this
    unfold sgr at *
    simp [c', d'] at *
    omega
  · have : sgr k B = B := by unfold sgr; rw [c', Int.one_mul]
    rw [this, c', d']
    simp
    rcases q4 with ⟨q4, _⟩ | ⟨q4, _⟩ | ⟨q4, _⟩
    · exact .inl ⟨q4, q1 q4⟩
    · exact .inr (.inl ⟨q4, q2 q4⟩)
    · exact .inr (.inr ⟨q4, q3 q4 Y0⟩)
theorem sg3_neg (w m u k l : Int) : sg3 (-w) (-m) u (-k) l = - sg3 w m u k l := by
  unfold sg3
  rw [sg2_neg, show -w * -w + -m * -m * u - -k * -k * l = w * w + m * m * u - k * k * l by grind, show 2 * -w * -m = 2 * w * m by grind]
  rw [Int.sign_neg, Int.neg_mul]
  generalize sg2 w m u = x
  generalize k.sign * l.sign = y
  by_cases c1 : x = 0
  · subst c1; simp
  · by_cases c2 : x = y
    · subst c2; simp
    · rw [if_neg (show ¬(-x = 0 ∨ -x = -y) by omega), if_neg (show ¬(x = 0 ∨ x = y) by omega)]
      by_cases c3 : y = 0
      · rw [if_pos (show -y = 0 by omega), if_pos c3]
      · rw [if_neg (show ¬ -y = 0 by omega), if_neg c3, Int.neg_mul]
theorem three_all {N w m u k l A B a b M : Int} (hu : 0 ≤ u) (hl : 0 ≤ l) (hM : M = 1 + w.natAbs + a + b) (hN : N = 216 * (M * M * M)) (h : IsR (m * N * (m * N) * u) A) (g : IsR (k * N * (k * N) * l) B) (a0 : 0 ≤ a) (b0 : 0 ≤ b)
    (hA : A ≤ N * a) (hB : B ≤ N * b) (ha : m * m * u ≤ a * a) (hb : k * k * l ≤ b * b) :
    (sg3 w m u (-k) l = 1 ∧ 3 ≤ w * N + sgr m A - sgr k B) ∨ (sg3 w m u (-k) l = -1 ∧ w * N + sgr m A - sgr k B ≤ -3) ∨ (sg3 w m u (-k) l = 0 ∧ w * N + sgr m A - sgr k B = 0) := by
  have M1 : 1 ≤ M := by omega
  have M2 := Int.mul_pos M1 M1
  have M3 : M ≤ M * M * M := by
    have := Int.mul_nonneg (show 0 ≤ M * M - 1 by omega) (show 0 ≤ M by omega)
    grind
  have N0 : 0 < N := by omega
  have N3 : 3 ≤ N := by omega
  rcases sg2_cs (w := w) (m := m) hu with ⟨t, _⟩ | ⟨t, _⟩ | ⟨t, _⟩
  · exact three_pos hu hl hM hN h g a0 b0 hA hB ha hb t
  · have p := three_pos (w := -w) (m := -m) (k := -k) hu hl (by rw [Int.natAbs_neg]; exact hM) hN (by rw [Int.neg_mul, Int.neg_mul_neg]; exact h) (by rw [Int.neg_mul, Int.neg_mul_neg]; exact g) a0 b0 hA hB (by rw [Int.neg_mul_neg]; exact ha) (by rw [Int.neg_mul_neg]; exact hb) (by rw [sg2_neg, t]; rfl)
    rw [sg3_neg, sgr_neg, sgr_neg, Int.neg_mul] at p
    omega
  · have Y := two_zero hu N0 h t
    rw [Y]
    unfold sg3
    rw [t, if_pos (.inl rfl), Int.sign_neg]
    have kb : 0 < l → k ≠ 0 → N ≤ B := fun l0 k0 => by
      refine le_isr g (by omega) ?_
      have p : 1 ≤ k * k * l := Int.mul_pos (by have e : (k.natAbs : Int) * (k.natAbs : Int) = k * k := Int.natAbs_mul_self
                                                rw [← e]; exact Int.mul_pos (by omega) (by omega)) l0
      have := Int.mul_nonneg (Int.mul_nonneg (show 0 ≤ N by omega) (show 0 ≤ N by omega)) (show 0 ≤ k * k * l - 1 by omega)
      grind
    rcases sign_cs k with ⟨c, c'⟩ | ⟨c, c'⟩ | ⟨c, c'⟩ <;> rcases sign_cs l with ⟨d, d'⟩ | ⟨d, d'⟩ | ⟨d, d'⟩
    · omega
    · subst d
      have := isr_eq g (by simpa using isr_0)
      subst this
      unfold sgr
      simp [c', d']
    · have := kb d (by omega)
      unfold sgr
      simp [c', d']
      omega
    · omega
    · unfold sgr
      simp [c', d']
    · unfold sgr
      simp [c', d']
    · omega
    · subst d
      have := isr_eq g (by simpa using isr_0)
      subst this
      unfold sgr
      simp [c', d']
    · have := kb d (by omega)
      unfold sgr
      simp [c', d']
      omega
end OL.LW
namespace OL.LW
open PySem PySem.Spec PyProof.Rows L2
open Classical in
noncomputable def isq (n : Int) : Int := if h : ∃ r, IsR n r then h.choose else 0
theorem isq_is {n : Int} (h : 0 ≤ n) : IsR n (isq n) := by
  unfold isq
  rw [dif_pos (isr_ex h)]
  exact (isr_ex h).choose_spec
theorem root_go {n : Int} (hn : 0 ≤ n) : ∀ (k : Nat) (f : Int), f.toNat = k → 0 ≤ f → f.natAbs < 2 ^ 9000 → n < (f + 1) * (f + 1) →
    wlO (.cmp .gt (.bin .mul (.var 1) (.var 1)) (.var 0)) [.asg 1 false (.bin .div (.bin .add (.var 1) (.bin .div (.var 0) (.var 1))) (.lit (.int 2)))] [.v (.int n), .v (.int f)] = .nx [.v (.int n), .v (.int (isq n))] := by
  intro k
  induction k using Nat.strongRecOn with
  | _ k ih =>
    intro f hk h0 hb hf
    have bf : Bi f 9000 := ⟨hb⟩
    have mf : mulOk f f = true := mulOk_b (by decide)
    by_cases c : n < f * f
    · have f1 : 1 ≤ f := by
        rcases Int.lt_or_le f 1 with z | z
        · exfalso
          have : f = 0 := by omega
          subst this
          omega
        · exact z
      have df : divOk f = true := divOk_b (by omega) (by decide)
      have d2 : divOk 2 = true := by decide
      obtain ⟨q1, q2, _⟩ := floor_facts (n := n) f1
      obtain ⟨r1, r2, _⟩ := floor_facts (n := f + n.fdiv f) (d := 2) (by decide)
      have q0 : 0 ≤ n.fdiv f := by
        rw [Int.fdiv_eq_ediv_of_nonneg n h0]
        exact Int.ediv_nonneg hn h0
      have ql : n.fdiv f < f := by
        rcases Int.lt_or_le (n.fdiv f) f with z | z
        · exact z
        · exfalso
          have := Int.mul_le_mul_of_nonneg_right z h0
          omega
      rw [wl_nx (ρ' := [.v (.int n), .v (.int ((f + n.fdiv f).fdiv 2))]) (by simp -dsimp -implicitDefEqProofs [mf, c]) (by simp -dsimp -implicitDefEqProofs [df, d2])]
      refine ih _ ?_ _ rfl (by omega) (by omega) ?_
      · omega
      · generalize (f + n.fdiv f).fdiv 2 = g at *
        generalize n.fdiv f = q at *
        have s := sq_le (a := f + q + 1) (b := 2 * (g + 1)) (by omega) (by omega)
        have s2 : 0 ≤ (f - (q + 1)) * (f - (q + 1)) := by
          rw [← Int.natAbs_mul_self]; omega
        clear ih q1 hf c r1 r2 hb bf mf df d2 hk
        grind
    · rw [wl_stop (by simp -dsimp -implicitDefEqProofs [mf, c])]
      rw [isr_eq (isq_is hn) ⟨h0, by omega, hf⟩]
theorem root_s {n : Int} {k : Nat} [x : Bi n k] (hn : 0 ≤ n) (hk : k ≤ 17990) : F_whole_root [.int n] = .ok (.int (isq n)) := by
  have l := intBits_le x.le
  have l0 : 0 ≤ (Builtin.Int.intBits n : Int) := Int.natCast_nonneg _
  have d2 : divOk 2 = true := by decide
  obtain ⟨r1, r2, _⟩ := floor_facts (n := (Builtin.Int.intBits n : Int) + 1) (d := 2) (by decide)
  generalize he : ((Builtin.Int.intBits n : Int) + 1).fdiv 2 = e at *
  have e0 : 0 ≤ e := by omega
  have pw : powOk 1 e = true := by
    unfold powOk
    rw [decide_eq_true e0, decide_eq_true (show e ≤ 1000000 by omega)]
    decide
  have nb : n.natAbs < 2 ^ (Builtin.Int.intBits n) := by
    unfold Builtin.Int.intBits
    split
    · rename_i z
      have : n = 0 := by simpa using z
      subst this
      decide
    · exact Nat.lt_log2_self
  have big : 2 ^ (Builtin.Int.intBits n) ≤ (2 : Nat) ^ e.toNat * 2 ^ e.toNat := by
    rw [← Nat.pow_add]
    exact Nat.pow_le_pow_right (by decide) (by omega)
  have lt9 : (2 : Nat) ^ e.toNat < 2 ^ 9000 := Nat.pow_lt_pow_right (by decide) (by omega)
  generalize hP : (2 : Nat) ^ e.toNat = P at *
  have hP2 : (2 : Int) ^ e.toNat = (P : Int) := by rw [← hP]; exact (Int.natCast_pow 2 _).symm
  have go := root_go hn _ (P : Int) rfl (by omega) (by rw [Int.natAbs_natCast]; exact lt9) (by
    have a : n < (P : Int) * (P : Int) := by
      have : ((P * P : Nat) : Int) = (P : Int) * (P : Int) := Int.natCast_mul P P
      omega
    have b := sq_le (show 0 ≤ (P : Int) by omega) (show (P : Int) ≤ P + 1 by omega)
    omega)
  have bl : mthD .bitlen (.int n) [] = .ok (.int (Builtin.Int.intBits n)) := rfl
  rw [D_whole_root]
  simp -dsimp -implicitDefEqProofs [B_whole_root, bl, he, pw, d2, hP2, go]
theorem isq_le {n : Int} (h : 0 ≤ n) : 0 ≤ isq n ∧ isq n ≤ n := by
  have r := isq_is h
  refine ⟨r.1, ?_⟩
  refine isr_le r h ?_
  have := Int.mul_nonneg h (show 0 ≤ n by omega)
  rcases Int.lt_or_le n 1 with z | z
  · have : n = 0 := by omega
    subst this
    omega
  · have := Int.mul_le_mul_of_nonneg_left z h
    omega
theorem bi_isq {n : Int} {k : Nat} (h : 0 ≤ n) [x : Bi n k] : Bi (isq n) k := ⟨by
  have := x.le
  have := isq_le h
  omega⟩
end OL.LW
namespace OL.LW
open PySem PySem.Spec PyProof.Rows L2
theorem lroot_s {n : Int} {k : Nat} [x : Bi n k] (hn : 0 ≤ n) (hk : k ≤ 17990) : F__law_root [.int n] = .ok (.int (isq n)) := root_s hn hk
@[simp] theorem lside_s (n : Int) : F__law_side [.int n] = .ok (.int n.sign) := sign_s n
noncomputable def lM (w m u k l : Int) : Int := 1 + (w.natAbs : Int) + m.natAbs * (1 + isq u) + k.natAbs * (1 + isq l)
section
variable {w m u k l : Int}
theorem bi_lM [bw : Bi w 1800] [bm : Bi m 900] [bu : Bi u 900] [bk : Bi k 900] [bl : Bi l 900] (hu : 0 ≤ u) (hl : 0 ≤ l) : Bi (lM w m u k l) 1804 := ⟨by
  have h1 := bw.le
  have iu := bi_isq hu
  have il := bi_isq hl
  have x : ∀ {i j : Int}, Bi i 900 → Bi j 900 → ((i.natAbs : Int) * (1 + j)).natAbs < 2 ^ 1801 := fun {i j} a b => by
    have c : Bi (1 + j) 901 := ⟨by have := b.le; rw [Nat.pow_succ]; have : 1 < 2 ^ 900 := by decide +kernel
                                   omega⟩
    exact (inferInstance : Bi ((i.natAbs : Int) * (1 + j)) _).le
  have x1 := x bm iu
  have x2 := x bk il
  have p : 2 ^ 1804 = 8 * 2 ^ 1801 := by rw [show 1804 = 1801 + 3 from rfl, Nat.pow_add, Nat.mul_comm]
  have p2 : 2 ^ 1801 = 2 * 2 ^ 1800 := by rw [show 1801 = 1800 + 1 from rfl, Nat.pow_add, Nat.mul_comm]
  unfold lM
  rw [p]
  omega⟩
theorem lsign_ok [bw : Bi w 1800] [bm : Bi m 900] [bu : Bi u 900] [bk : Bi k 900] [bl : Bi l 900] (hu : 0 ≤ u) (hl : 0 ≤ l) : F__law_sign [.int w, .int m, .int u, .int k, .int l] = .ok (.int (sg3 w m u (-k) l)) := by
  have bM := bi_lM (w := w) (m := m) (u := u) (k := k) (l := l) hu hl
  have iu := isq_is hu
  have il := isq_is hl
  have bu2 := bi_isq hu
  have bl2 := bi_isq hl
  have r1 := lroot_s hu (by decide)
  have r2 := lroot_s hl (by decide)
  have a0 : 0 ≤ (m.natAbs : Int) * (1 + isq u) := Int.mul_nonneg (by omega) (by have := iu.1; omega)
  have b0 : 0 ≤ (k.natAbs : Int) * (1 + isq l) := Int.mul_nonneg (by omega) (by have := il.1; omega)
  generalize hM : lM w m u k l = M at bM
  have eM : M = 1 + (w.natAbs : Int) + m.natAbs * (1 + isq u) + k.natAbs * (1 + isq l) := hM.symm
  have bN : Bi (8 * (3 * M) ^ 3) 5500 := by
    rw [show 8 * (3 * M) ^ 3 = 8 * ((3 * M) * (3 * M) * (3 * M)) by grind]
    exact Bi.up (inferInstance : Bi (8 * ((3 * M) * (3 * M) * (3 * M))) _) (by decide)
  generalize hN : 8 * (3 * M) ^ 3 = N at bN
  have eN : N = 216 * (M * M * M) := by rw [← hN]; grind
  have sq : ∀ x : Int, 0 ≤ x * x := fun x => by rw [← Int.natAbs_mul_self]; omega
  have mu : 0 ≤ m * N * (m * N) * u := Int.mul_nonneg (sq _) hu
  have kl : 0 ≤ k * N * (k * N) * l := Int.mul_nonneg (sq _) hl
  have M1 : 1 ≤ M := by omega
  have N0 : 0 ≤ N := by rw [eN]; exact Int.mul_nonneg (by decide) (Int.mul_nonneg (Int.mul_nonneg (by omega) (by omega)) (by omega))
  have i1 := isq_is mu
  have i2 := isq_is kl
  have up : ∀ {m u r : Int}, 0 ≤ u → IsR u r → m * m * u ≤ m.natAbs * (1 + r) * (m.natAbs * (1 + r)) := fun {m u r} h0 h => by
    have e : (m.natAbs : Int) * (m.natAbs : Int) = m * m := Int.natAbs_mul_self
    have := Int.mul_nonneg (sq m) (show 0 ≤ (r + 1) * (r + 1) - u by have := h.2.2; omega)
    grind
  have T := three_all hu hl eM eN i1 i2 a0 b0 (isr_up N0 hu i1 iu) (isr_up N0 hl i2 il) (up hu iu) (up hl il)
  have q1 := lroot_s mu (by decide)
  have q2 := lroot_s kl (by decide)
  have e2 : ∀ x : Int, x ^ 2 = x * x := fun x => by grind
  rw [← e2] at q1 q2
  have o1 : mulOk (m.natAbs : Int) (1 + isq u) = true := mulOk_b (by decide)
  have o2 : mulOk (k.natAbs : Int) (1 + isq l) = true := mulOk_b (by decide)
  have o3 : mulOk 3 M = true := mulOk_b (by decide)
  have o4 : pwOk (3 * M) 3 = true := pwOk_b (by decide) (by decide) (by decide)
  have o5 : mulOk 8 ((3 * M) ^ 3) = true := by
    rw [show (3 * M) ^ 3 = (3 * M) * (3 * M) * (3 * M) by grind]
    exact mulOk_b (by decide)
  have o6 : mulOk m N = true := mulOk_b (by decide)
  have o7 : mulOk k N = true := mulOk_b (by decide)
  have o8 : pwOk (m * N) 2 = true := pwOk_b (by decide) (by decide) (by decide)
  have o9 : pwOk (k * N) 2 = true := pwOk_b (by decide) (by decide) (by decide)
  have o10 : mulOk ((m * N) ^ 2) u = true := by rw [e2]; exact mulOk_b (by decide)
  have o11 : mulOk ((k * N) ^ 2) l = true := by rw [e2]; exact mulOk_b (by decide)
  have o12 : mulOk w N = true := mulOk_b (by decide)
  rw [← e2, ← e2] at T
  have bA := bi_isq (n := m * N * (m * N) * u) mu
  have bB := bi_isq (n := k * N * (k * N) * l) kl
  rw [← e2] at bA bB
  generalize isq ((m * N) ^ 2 * u) = A at *
  generalize isq ((k * N) ^ 2 * l) = B at *
  have o13 : mulOk A m.sign = true := mulOk_b (by decide)
  have o14 : mulOk B k.sign = true := mulOk_b (by decide)
  unfold sgr at T
  rw [Int.mul_comm m.sign, Int.mul_comm k.sign] at T
  rw [D__law_sign]
  have hM2 : 1 + (w.natAbs : Int) + (m.natAbs : Int) * (1 + isq u) + (k.natAbs : Int) * (1 + isq l) = M := eM.symm
  generalize isq u = ru at *
  generalize isq l = rl at *
  rcases T with ⟨t1, t2⟩ | ⟨t1, t2⟩ | ⟨t1, t2⟩
  · rw [t1]
    simp -dsimp -implicitDefEqProofs [B__law_sign, r1, r2, o1, o2, hM2, o3, o4, o5, hN, o6, o7, o8, o9, o10, o11, o12, q1, q2, o13, o14, show 2 < w * N + A * m.sign - B * k.sign by omega, show ¬ w * N + A * m.sign - B * k.sign < -2 by omega]
  · rw [t1]
    simp -dsimp -implicitDefEqProofs [B__law_sign, r1, r2, o1, o2, hM2, o3, o4, o5, hN, o6, o7, o8, o9, o10, o11, o12, q1, q2, o13, o14, show ¬ 2 < w * N + A * m.sign - B * k.sign by omega, show w * N + A * m.sign - B * k.sign < -2 by omega]
  · rw [t1]
    simp -dsimp -implicitDefEqProofs [B__law_sign, r1, r2, o1, o2, hM2, o3, o4, o5, hN, o6, o7, o8, o9, o10, o11, o12, q1, q2, o13, o14, show ¬ 2 < w * N + A * m.sign - B * k.sign by omega, show ¬ w * N + A * m.sign - B * k.sign < -2 by omega]
end
end OL.LW
namespace OL.LW
open PySem PySem.Spec PyProof.Rows L2
theorem lorder_ok {x y : Q4} {a b : Nat} [z : Bz x a] [z2 : Bz y b] (h : a + b ≤ 890) (hu : 0 ≤ x.r) (hl : 0 ≤ y.r) : F__law_order [qD x, qD y] = .ok (.int (ordQ x y)) := by
  rw [D__law_order]
  have m1 : mulOk x.p y.s = true := mulOk_b (by omega)
  have m2 : mulOk y.p x.s = true := mulOk_b (by omega)
  have m3 : mulOk x.q y.s = true := mulOk_b (by omega)
  have m4 : mulOk y.q x.s = true := mulOk_b (by omega)
  have j1 : Bi (x.p * y.s - y.p * x.s) 1800 := bi_up 1800 (by omega)
  have j2 : Bi (x.q * y.s) 900 := bi_up 900 (by omega)
  have j3 : Bi (y.q * x.s) 900 := bi_up 900 (by omega)
  have k1 : Bi x.r 900 := ⟨lt_up z.r (by omega)⟩
  have k2 : Bi y.r 900 := ⟨lt_up z2.r (by omega)⟩
  have t := lsign_ok (w := x.p * y.s - y.p * x.s) (m := x.q * y.s) (u := x.r) (k := y.q * x.s) (l := y.r) hu hl
  clear j1 j2 j3 k1 k2
  simp -dsimp -implicitDefEqProofs [B__law_order, qD, m1, m2, m3, m4, t, ordQ]
class Bw (x : Q4) : Prop where
  p : x.p.natAbs < 2 ^ 400
  q : x.q.natAbs < 2 ^ 400
  r : x.r.natAbs < 2 ^ 900
  s : x.s.natAbs < 2 ^ 400
theorem lorder_w {x y : Q4} [z : Bw x] [z2 : Bw y] (hu : 0 ≤ x.r) (hl : 0 ≤ y.r) : F__law_order [qD x, qD y] = .ok (.int (ordQ x y)) := by
  rw [D__law_order]
  have i1 : Bi x.p 400 := ⟨z.p⟩
  have i2 : Bi x.q 400 := ⟨z.q⟩
  have i3 : Bi x.r 900 := ⟨z.r⟩
  have i4 : Bi x.s 400 := ⟨z.s⟩
  have i5 : Bi y.p 400 := ⟨z2.p⟩
  have i6 : Bi y.q 400 := ⟨z2.q⟩
  have i7 : Bi y.r 900 := ⟨z2.r⟩
  have i8 : Bi y.s 400 := ⟨z2.s⟩
  have j1 : Bi (x.p * y.s - y.p * x.s) 1800 := bi_up 1800 (by decide)
  have j2 : Bi (x.q * y.s) 900 := bi_up 900 (by decide)
  have j3 : Bi (y.q * x.s) 900 := bi_up 900 (by decide)
  have t := lsign_ok (w := x.p * y.s - y.p * x.s) (m := x.q * y.s) (u := x.r) (k := y.q * x.s) (l := y.r) hu hl
  clear j1 j2 j3
  simp -dsimp -implicitDefEqProofs [B__law_order, qD, mulOk_b, t, ordQ]
theorem up_sq {m u r : Int} (h0 : 0 ≤ u) (h : IsR u r) : m * m * u ≤ m.natAbs * (1 + r) * (m.natAbs * (1 + r)) := by
  have e : (m.natAbs : Int) * (m.natAbs : Int) = m * m := Int.natAbs_mul_self
  have := Int.mul_nonneg (show 0 ≤ m * m by rw [← Int.natAbs_mul_self]; omega) (show 0 ≤ (r + 1) * (r + 1) - u by have := h.2.2; omega)
  grind
theorem three_ex {w m u k l : Int} (hu : 0 ≤ u) (hl : 0 ≤ l) : ∃ N A B : Int, 
    ((sg3 w m u (-k) l = 1 ∧ 3 ≤ w * N + sgr m A - sgr k B) ∨ (sg3 w m u (-k) l = -1 ∧ w * N + sgr m A - sgr k B ≤ -3) ∨ (sg3 w m u (-k) l = 0 ∧ w * N + sgr m A - sgr k B = 0)) ∧
    ((sg3 (-w) k l (-m) u = 1 ∧ 3 ≤ -w * N + sgr k B - sgr m A) ∨ (sg3 (-w) k l (-m) u = -1 ∧ -w * N + sgr k B - sgr m A ≤ -3) ∨ (sg3 (-w) k l (-m) u = 0 ∧ -w * N + sgr k B - sgr m A = 0)) ∧ (m = k → u = l → A = B) := by
  have iu := isq_is hu
  have il := isq_is hl
  have a0 : 0 ≤ (m.natAbs : Int) * (1 + isq u) := Int.mul_nonneg (by omega) (by have := iu.1; omega)
  have b0 : 0 ≤ (k.natAbs : Int) * (1 + isq l) := Int.mul_nonneg (by omega) (by have := il.1; omega)
  generalize eM : 1 + (w.natAbs : Int) + m.natAbs * (1 + isq u) + k.natAbs * (1 + isq l) = M
  generalize eN : 216 * (M * M * M) = N
  have sq : ∀ x : Int, 0 ≤ x * x := fun x => by rw [← Int.natAbs_mul_self]; omega
  have mu : 0 ≤ m * N * (m * N) * u := Int.mul_nonneg (sq _) hu
  have kl : 0 ≤ k * N * (k * N) * l := Int.mul_nonneg (sq _) hl
  have M1 : 1 ≤ M := by omega
  have N0 : 0 ≤ N := by rw [← eN]; exact Int.mul_nonneg (by decide) (Int.mul_nonneg (Int.mul_nonneg (by omega) (by omega)) (by omega))
  have i1 := isq_is mu
  have i2 := isq_is kl
  refine ⟨N, _, _, three_all hu hl eM.symm eN.symm i1 i2 a0 b0 (isr_up N0 hu i1 iu) (isr_up N0 hl i2 il) (up_sq hu iu) (up_sq hl il),
    three_all (w := -w) hl hu (by rw [Int.natAbs_neg]; omega) eN.symm i2 i1 b0 a0 (isr_up N0 hl i2 il) (isr_up N0 hu i1 iu) (up_sq hl il) (up_sq hu iu), ?_⟩
  rintro rfl rfl
  rfl
theorem ord_anti {x y : Q4} (hu : 0 ≤ x.r) (hl : 0 ≤ y.r) : ordQ y x = - ordQ x y := by
  unfold ordQ
  obtain ⟨N, A, B, h1, h2, _⟩ := three_ex (w := x.p * y.s - y.p * x.s) (m := x.q * y.s) (k := y.q * x.s) hu hl
  rw [show y.p * x.s - x.p * y.s = -(x.p * y.s - y.p * x.s) by omega, show x.q * y.s = x.q * y.s from rfl]
  generalize x.p * y.s - y.p * x.s = w at *
  rw [Int.neg_mul] at h2
  generalize w * N = z at *
  omega
theorem ord_self {x : Q4} (hu : 0 ≤ x.r) : ordQ x x = 0 := by
  have := ord_anti hu hu
  omega
end OL.LW
namespace OL.LW
open PySem PySem.Spec PyProof.Rows L2
theorem sg3_rat (w m u k : Int) : sg3 w m u k 0 = sg2 w m u := by
  unfold sg3
  simp only [show Int.sign 0 = 0 from rfl, Int.mul_zero]
  split
  · omega
  · simp
theorem pos_of {x y : Int} (hx : 0 < x) (h : 0 < x * y) : 0 < y := by
  rcases Int.lt_or_le 0 y with z | z
  · exact z
  · exfalso
    have := Int.mul_nonneg (Int.le_of_lt hx) (show 0 ≤ -y by omega)
    rw [Int.mul_neg] at this
    omega
theorem sg2_scale {W m u g : Int} (hg : 0 < g) : sg2 (g * W) (g * m) u = sg2 W m u := by
  unfold sg2
  have e : g * W * (g * W) - g * m * (g * m) * u = g * g * (W * W - m * m * u) := by grind
  rw [e, Int.sign_mul, Int.sign_mul, Int.sign_mul, Int.sign_mul, Int.sign_eq_one_of_pos hg]
  simp
theorem ord_scale {x : Q4} {t s g : Int} (hg : 0 < g) : ordQ x ⟨g * t, 0, 0, g * s⟩ = ordQ x ⟨t, 0, 0, s⟩ := by
  unfold ordQ
  simp only
  rw [Int.zero_mul, sg3_rat, sg3_rat, show x.p * (g * s) - g * t * x.s = g * (x.p * s - t * x.s) by grind, show x.q * (g * s) = g * (x.q * s) by grind, sg2_scale hg]
/-- the greatest whole number not above so many roots -/
def IsF (q S r root : Int) : Prop := (0 ≤ q → 0 ≤ root ∧ root * root ≤ q * S * (q * S) * r ∧ q * S * (q * S) * r < (root + 1) * (root + 1)) ∧
  (q < 0 → root ≤ 0 ∧ q * S * (q * S) * r ≤ root * root ∧ (root < 0 → (root + 1) * (root + 1) < q * S * (q * S) * r))
theorem above_ok {p q r s S root top : Int} (hs : 0 < s) (hS : 0 < S) (hr : 0 ≤ r) (hf : IsF q S r root) (h : p * S + root < top * s) : sg2 (p * S - top * s) (q * S) r = -1 := by
  have c := sg2_cs (w := p * S - top * s) (m := q * S) hr
  by_cases q0 : 0 ≤ q
  · obtain ⟨f1, f2, f3⟩ := hf.1 q0
    have m0 : 0 ≤ q * S := Int.mul_nonneg q0 (by omega)
    have k := sq_le (show 0 ≤ root + 1 by omega) (show root + 1 ≤ -(p * S - top * s) by omega)
    rw [Int.neg_mul_neg] at k
    generalize q * S * (q * S) * r = V at *
    generalize (p * S - top * s) * (p * S - top * s) = W2 at *
    generalize q * S = m at *
    omega
  · obtain ⟨f1, f2, f3⟩ := hf.2 (by omega)
    have m0 : q * S < 0 := Int.mul_neg_of_neg_of_pos (by omega) hS
    have k : 0 < p * S - top * s → (p * S - top * s) * (p * S - top * s) ≤ (root + 1) * (root + 1) := fun z => by
      have := sq_le (Int.le_of_lt z) (show p * S - top * s ≤ -(root + 1) by omega)
      rw [Int.neg_mul_neg] at this
      exact this
    have hW : p * S - top * s + root < 0 := by omega
    have nR : 0 ≤ (root + 1) * (root + 1) := by rw [← Int.natAbs_mul_self]; omega
    have zV : r = 0 → q * S * (q * S) * r = 0 := fun z => by rw [z, Int.mul_zero]
    generalize q * S * (q * S) * r = V at *
    generalize (p * S - top * s) * (p * S - top * s) = W2 at *
    generalize q * S = m at *
    generalize p * S - top * s = W at *
    generalize (root + 1) * (root + 1) = R1 at *
    omega
theorem exit_ok {p q r s t u v w S N A B root top : Int} (hs : 0 < s) (hw : 0 < w) (hS : 0 < S) (hN : 0 < N) (hr : 0 ≤ r) (hv : 0 ≤ v) (hf : IsF q S r root) (h : top * s ≤ p * S + root + s)
    (hA : IsR (u * s * N * (u * s * N) * v) A) (hB : IsR (q * w * N * (q * w * N) * r) B) (g : 3 ≤ (t * s - p * w) * N + sgr (u * s) A - sgr (q * w) B) (big : N * (s * w) ≤ S) : sg2 (t * S - top * w) (u * S) v = 1 := by
  have sN : 0 < N * s := Int.mul_pos hN hs
  -- the root at the scale against the root at N
  have rb : N * w * root ≤ S * (sgr (q * w) B + 1) := by
    have nw : 0 < N * w := Int.mul_pos hN hw
    rcases Int.lt_trichotomy q 0 with c | c | c
    · obtain ⟨f1, f2, _⟩ := hf.2 c
      have : sgr (q * w) B = -B := by unfold sgr; rw [Int.sign_eq_neg_one_of_neg (Int.mul_neg_of_neg_of_pos c hw)]; omega
      rw [this]
      -- S (B - 1) ≤ N w (-root)
      rcases Int.lt_or_le (S * (-B + 1)) (N * w * root) with z | z
      · exfalso
        have B1 : 0 < S * (B - 1) := by
          have := Int.mul_nonneg (Int.le_of_lt nw) (show 0 ≤ -root by omega)
          grind
        have k := sq_lt (a := N * w * (-root)) (b := S * (B - 1)) (Int.mul_nonneg (by omega) (by omega)) (by grind)
        have b2 := Int.mul_le_mul_of_nonneg_left hB.2.1 (Int.mul_nonneg (Int.le_of_lt hS) (Int.le_of_lt hS))
        have r2 := Int.mul_le_mul_of_nonneg_left f2 (Int.mul_nonneg (Int.le_of_lt nw) (Int.le_of_lt nw))
        have bp : 0 ≤ S * S * (B + B - 1) := Int.mul_nonneg (Int.mul_nonneg (Int.le_of_lt hS) (Int.le_of_lt hS)) (by
          have := pos_of hS B1
          omega)
        grind
      · exact z
    · subst c
      obtain ⟨f1, f2, _⟩ := hf.1 (by omega)
      have r0 : root = 0 := by
        have : root * root ≤ 0 := by simpa using f2
        rcases Int.lt_or_le 0 root with z | z
        · have := Int.mul_pos z z; omega
        · omega
      have : sgr (0 * w) B = 0 := by unfold sgr; simp
      rw [this, r0]
      omega
    · obtain ⟨f1, f2, _⟩ := hf.1 (by omega)
      have : sgr (q * w) B = B := by unfold sgr; rw [Int.sign_eq_one_of_pos (Int.mul_pos c hw)]; omega
      rw [this]
      rcases Int.lt_or_le (S * (B + 1)) (N * w * root) with z | z
      · exfalso
        have B0 := hB.1
        have k := sq_lt (a := S * (B + 1)) (b := N * w * root) (Int.mul_nonneg (by omega) (by omega)) z
        have b2 := Int.mul_lt_mul_of_pos_left hB.2.2 (Int.mul_pos hS hS)
        have r2 := Int.mul_le_mul_of_nonneg_left f2 (Int.mul_nonneg (Int.le_of_lt nw) (Int.le_of_lt nw))
        grind
      · exact z
  have sw : N * w * (top * s) ≤ N * w * (p * S + root + s) := Int.mul_le_mul_of_nonneg_left h (Int.le_of_lt (Int.mul_pos hN hw))
  have key : S * (2 - sgr (u * s) A) - N * (s * w) ≤ N * s * (t * S - top * w) := by
    have g2 := Int.mul_le_mul_of_nonneg_left g (Int.le_of_lt hS)
    grind
  have key2 : S * (1 - sgr (u * s) A) ≤ N * s * (t * S - top * w) := by grind
  have c := sg2_cs (w := t * S - top * w) (m := u * S) hv
  have A0 := hA.1
  generalize hW : t * S - top * w = W at *
  rcases Int.lt_trichotomy u 0 with d | d | d
  · have : sgr (u * s) A = -A := by unfold sgr; rw [Int.sign_eq_neg_one_of_neg (Int.mul_neg_of_neg_of_pos d hs)]; omega
    rw [this] at key2
    have p0 : 0 < S * (1 - -A) := Int.mul_pos hS (by omega)
    have W0 : 0 < W := pos_of sN (by omega)
    have k := sq_le (Int.le_of_lt p0) key2
    have a2 := Int.mul_lt_mul_of_pos_left hA.2.2 (Int.mul_pos hS hS)
    have k3 : N * s * (N * s) * (u * S * (u * S) * v) < N * s * (N * s) * (W * W) := by grind
    have k4 := Int.lt_of_mul_lt_mul_left k3 (Int.mul_nonneg (Int.le_of_lt sN) (Int.le_of_lt sN))
    generalize u * S * (u * S) * v = V at *
    generalize W * W = W2 at *
    generalize u * S = m at *
    omega
  · subst d
    have : sgr (0 * s) A = 0 := by unfold sgr; simp
    rw [this] at key2
    have W0 : 0 < W := pos_of sN (by omega)
    simp at c ⊢
    omega
  · have : sgr (u * s) A = A := by unfold sgr; rw [Int.sign_eq_one_of_pos (Int.mul_pos d hs)]; omega
    rw [this] at key2
    have m0 : 0 < u * S := Int.mul_pos d hS
    rcases Int.lt_or_le 0 W with W0 | W0
    · generalize u * S * (u * S) * v = V at *
      generalize W * W = W2 at *
      generalize u * S = m at *
      omega
    · have le : N * s * (-W) ≤ S * (A - 1) := by grind
      have n0 : 0 ≤ N * s * (-W) := Int.mul_nonneg (Int.le_of_lt sN) (by omega)
      have k := sq_le n0 le
      have A1 : 0 ≤ A - 1 := by
        rcases Int.lt_or_le (A - 1) 0 with z | z
        · have := Int.mul_neg_of_pos_of_neg hS z
          omega
        · exact z
      have a2 := Int.mul_le_mul_of_nonneg_left hA.2.1 (Int.mul_nonneg (Int.le_of_lt hS) (Int.le_of_lt hS))
      have a3 : 0 < S * S * (A + A - 1) := Int.mul_pos (Int.mul_pos hS hS) (by omega)
      have k3 : N * s * (N * s) * (W * W) < N * s * (N * s) * (u * S * (u * S) * v) := by grind
      have k4 := Int.lt_of_mul_lt_mul_left k3 (Int.mul_nonneg (Int.le_of_lt sN) (Int.le_of_lt sN))
      have zV : v = 0 → u * S * (u * S) * v = 0 := fun z => by rw [z, Int.mul_zero]
      have nW : 0 ≤ W * W := by rw [← Int.natAbs_mul_self]; omega
      generalize u * S * (u * S) * v = V at *
      generalize W * W = W2 at *
      generalize u * S = m at *
      omega
end OL.LW
namespace OL.LW
open PySem PySem.Spec PyProof.Rows L2
noncomputable def rootF (q S r : Int) : Int := if q < 0 then -isq (q * q * r * S * S) - (if isq (q * q * r * S * S) * isq (q * q * r * S * S) < q * q * r * S * S then 1 else 0) else isq (q * q * r * S * S)
theorem rootF_is {q S r : Int} (hr : 0 ≤ r) : IsF q S r (rootF q S r) := by
  have e : q * S * (q * S) * r = q * q * r * S * S := by grind
  have n0 : 0 ≤ q * q * r * S * S := by
    rw [← e]
    exact Int.mul_nonneg (by rw [← Int.natAbs_mul_self]; omega) hr
  obtain ⟨i1, i2, i3⟩ := isq_is n0
  unfold IsF rootF
  rw [e]
  generalize q * q * r * S * S = n at *
  generalize isq n = t at *
  refine ⟨fun h => ?_, fun h => ?_⟩
  · rw [if_neg (by omega)]
    exact ⟨i1, i2, i3⟩
  · rw [if_pos h]
    by_cases c : t * t < n
    · rw [if_pos c]
      refine ⟨by omega, ?_, fun _ => ?_⟩
      · have : (-t - 1) * (-t - 1) = (t + 1) * (t + 1) := by grind
        omega
      · have : (-t - 1 + 1) * (-t - 1 + 1) = t * t := by grind
        omega
    · rw [if_neg c]
      have e2 : (-t - 0) * (-t - 0) = t * t := by grind
      refine ⟨by omega, by omega, fun z => ?_⟩
      have := sq_lt (show 0 ≤ t - 1 by omega) (show t - 1 < t by omega)
      have : (-t - 0 + 1) * (-t - 0 + 1) = (t - 1) * (t - 1) := by grind
      omega
theorem below_ok {x : Q4} {S : Int} [bx : Bz x 200] [bS : Bi S 1420] (hr : 0 ≤ x.r) (hs : 1 ≤ x.s) : F_whole_below [qD x, .int S] = .ok (.int ((x.p * S + rootF x.q S x.r).fdiv x.s)) := by
  obtain ⟨p, q, r, s⟩ := x
  have i1 : Bi p 200 := ⟨bx.p⟩
  have i2 : Bi q 200 := ⟨bx.q⟩
  have i3 : Bi r 200 := ⟨bx.r⟩
  have i4 : Bi s 200 := ⟨bx.s⟩
  simp only at hr hs ⊢
  have n0 : 0 ≤ q * q * r * S * S := by
    rw [show q * q * r * S * S = q * S * (q * S) * r by grind]
    exact Int.mul_nonneg (by rw [← Int.natAbs_mul_self]; omega) hr
  have r1 := root_s n0 (by decide)
  have br := bi_isq n0
  have ds : divOk s = true := divOk_b (by omega) (by decide)
  have o1 : mulOk p S = true := mulOk_b (by decide)
  unfold rootF
  have o2 : mulOk (q * q * r * S) S = true := mulOk_b (by decide)
  have o3 : mulOk (q * q * r) S = true := mulOk_b (by decide)
  have o4 : mulOk (q * q) r = true := mulOk_b (by decide)
  have o5 : mulOk q q = true := mulOk_b (by decide)
  have o6 : mulOk (isq (q * q * r * S * S)) (isq (q * q * r * S * S)) = true := mulOk_b (by decide)
  generalize isq (q * q * r * S * S) = t at *
  generalize hn : q * q * r * S * S = n at *
  rw [D_whole_below]
  by_cases c1 : q < 0
  · rw [if_pos c1]
    by_cases c2 : t * t < n
    · rw [if_pos c2]
      simp -dsimp -implicitDefEqProofs [B_whole_below, qD, o1, o2, o3, o4, o5, o6, hn, r1, c1, c2, ds]
    · rw [if_neg c2]
      simp -dsimp -implicitDefEqProofs [B_whole_below, qD, o1, o2, o3, o4, o5, o6, hn, r1, c1, c2, ds]
  · rw [if_neg c1]
    simp -dsimp -implicitDefEqProofs [B_whole_below, qD, o1, o2, o3, o4, o5, hn, r1, c1, ds]
end OL.LW
namespace OL.LW
open PySem PySem.Spec PyProof.Rows L2
theorem isq_half {n : Int} (h : 0 ≤ n) (k : Nat) (hn : n.natAbs < 2 ^ (2 * k)) : (isq n).natAbs < 2 ^ k := by
  have i := isq_is h
  rcases Nat.lt_or_ge (isq n).natAbs (2 ^ k) with z | z
  · exact z
  · exfalso
    have := Nat.mul_le_mul z z
    rw [← Nat.pow_add, show k + k = 2 * k by omega] at this
    have e : ((isq n).natAbs * (isq n).natAbs : Int) = isq n * isq n := Int.natAbs_mul_self
    have := i.2.1
    omega
theorem up_sq2 {m u r : Int} (h0 : 0 ≤ u) (h : IsR u r) : m * m * u ≤ m.natAbs * (1 + r) * (m.natAbs * (1 + r)) := by
  have e : (m.natAbs : Int) * (m.natAbs : Int) = m * m := Int.natAbs_mul_self
  have := Int.mul_nonneg (show 0 ≤ m * m by rw [← Int.natAbs_mul_self]; omega) (show 0 ≤ (r + 1) * (r + 1) - u by have := h.2.2; omega)
  grind
/-- how far apart two different numbers stand -/
theorem gap_ex {w m u k l : Int} (hu : 0 ≤ u) (hl : 0 ≤ l) (bw : w.natAbs < 2 ^ 272) (bm : Bi m 270) (bk : Bi k 270) (bu : u.natAbs < 2 ^ 200) (bl : l.natAbs < 2 ^ 200) : ∃ N A B : Int, 0 < N ∧ N.natAbs < 2 ^ 1142 ∧ IsR (m * N * (m * N) * u) A ∧ IsR (k * N * (k * N) * l) B ∧
    (sg3 w m u (-k) l = 1 → 3 ≤ w * N + sgr m A - sgr k B) := by
  have iu := isq_is hu
  have il := isq_is hl
  have hu2 := isq_half hu 100 bu
  have hl2 := isq_half hl 100 bl
  have p101 : (2 : Nat) ^ 101 = 2 * 2 ^ 100 := by rw [show 101 = 100 + 1 from rfl, Nat.pow_add, Nat.mul_comm]
  have p100 : 1 < (2 : Nat) ^ 100 := by decide +kernel
  have b1 : Bi (1 + isq u) 101 := ⟨by omega⟩
  have b2 : Bi (1 + isq l) 101 := ⟨by omega⟩
  have x1 := (inferInstance : Bi ((m.natAbs : Int) * (1 + isq u)) _).le
  have x2 := (inferInstance : Bi ((k.natAbs : Int) * (1 + isq l)) _).le
  have a0 : 0 ≤ (m.natAbs : Int) * (1 + isq u) := Int.mul_nonneg (by omega) (by have := iu.1; omega)
  have b0 : 0 ≤ (k.natAbs : Int) * (1 + isq l) := Int.mul_nonneg (by omega) (by have := il.1; omega)
  have bM : (1 + (w.natAbs : Int) + m.natAbs * (1 + isq u) + k.natAbs * (1 + isq l)).natAbs < 2 ^ 375 := by
    have p1 : (2 : Nat) ^ 375 = 16 * 2 ^ (270 + 101) := by rw [show 375 = (270 + 101) + 4 from rfl, Nat.pow_add, Nat.mul_comm]
    have p2 : (2 : Nat) ^ 272 < 2 ^ (270 + 101) := by decide +kernel
    omega
  generalize eM : 1 + (w.natAbs : Int) + m.natAbs * (1 + isq u) + k.natAbs * (1 + isq l) = M at bM
  have iM : Bi M 375 := ⟨bM⟩
  have bN : (216 * (M * M * M)).natAbs < 2 ^ 1142 := Nat.lt_of_lt_of_le (inferInstance : Bi (216 * (M * M * M)) _).le (Nat.pow_le_pow_right (by decide) (by decide))
  generalize eN : 216 * (M * M * M) = N at bN
  have mu : 0 ≤ m * N * (m * N) * u := Int.mul_nonneg (by rw [← Int.natAbs_mul_self]; omega) hu
  have kl : 0 ≤ k * N * (k * N) * l := Int.mul_nonneg (by rw [← Int.natAbs_mul_self]; omega) hl
  have M1 : 1 ≤ M := by omega
  have M3 : 0 < M * M * M := Int.mul_pos (Int.mul_pos M1 M1) M1
  have N0 : 0 < N := by omega
  have i1 := isq_is mu
  have i2 := isq_is kl
  have T := three_all hu hl eM.symm eN.symm i1 i2 a0 b0 (isr_up (Int.le_of_lt N0) hu i1 iu) (isr_up (Int.le_of_lt N0) hl i2 il) (up_sq2 hu iu) (up_sq2 hl il)
  exact ⟨N, _, _, N0, bN, i1, i2, fun h => by omega⟩
end OL.LW
namespace OL.LW
open PySem PySem.Spec PyProof.Rows L2
noncomputable def topF (x : Q4) (S : Int) : Int := (x.p * S + rootF x.q S x.r).fdiv x.s + 1
theorem bi_top {x : Q4} {S : Int} [bx : Bz x 200] (bs : Bi S 1420) (hr : 0 ≤ x.r) : (topF x S).natAbs < 2 ^ 1723 := by
  have i1 : Bi x.p 200 := ⟨bx.p⟩
  have i2 : Bi x.q 200 := ⟨bx.q⟩
  have i3 : Bi x.r 200 := ⟨bx.r⟩
  have n0 : 0 ≤ x.q * x.q * x.r * S * S := by
    rw [show x.q * x.q * x.r * S * S = x.q * S * (x.q * S) * x.r by grind]
    exact Int.mul_nonneg (by rw [← Int.natAbs_mul_self]; omega) hr
  have br := isq_half n0 1720 (inferInstance : Bi (x.q * x.q * x.r * S * S) _).le
  have b1 : (rootF x.q S x.r).natAbs ≤ 2 ^ 1720 := by
    unfold rootF
    split
    · split <;> omega
    · omega
  have ps := (inferInstance : Bi (x.p * S) _).le
  have p1 : (2 : Nat) ^ (200 + 1420) < 2 ^ 1720 := by decide +kernel
  have p2 : (2 : Nat) ^ 1723 = 8 * 2 ^ 1720 := by rw [show 1723 = 1720 + 3 from rfl, Nat.pow_add, Nat.mul_comm]
  have p3 : 1 < (2 : Nat) ^ 1720 := by decide +kernel
  have f := fdiv_abs (x.p * S + rootF x.q S x.r) x.s
  unfold topF
  omega
theorem above {x : Q4} {S : Int} (hr : 0 ≤ x.r) (hs : 1 ≤ x.s) (hS : 1 ≤ S) : ordQ x ⟨topF x S, 0, 0, S⟩ = -1 := by
  unfold ordQ
  simp only
  rw [Int.zero_mul, sg3_rat]
  refine above_ok hs hS hr (rootF_is hr) ?_
  obtain ⟨f1, f2, _⟩ := floor_facts (n := x.p * S + rootF x.q S x.r) (d := x.s) hs
  unfold topF
  omega
theorem below_end {x y : Q4} {S N A B : Int} (hr : 0 ≤ x.r) (hs : 1 ≤ x.s) (yr : 0 ≤ y.r) (ys : 1 ≤ y.s) (hS : 1 ≤ S) (hN : 0 < N)
    (hA : IsR (y.q * x.s * N * (y.q * x.s * N) * y.r) A) (hB : IsR (x.q * y.s * N * (x.q * y.s * N) * x.r) B) (g : 3 ≤ (y.p * x.s - x.p * y.s) * N + sgr (y.q * x.s) A - sgr (x.q * y.s) B) (big : N * (x.s * y.s) ≤ S) :
    ordQ ⟨topF x S, 0, 0, S⟩ y = -1 := by
  have e : ordQ y ⟨topF x S, 0, 0, S⟩ = 1 := by
    unfold ordQ
    simp only
    rw [Int.zero_mul, sg3_rat]
    refine exit_ok (root := rootF x.q S x.r) hs ys hS hN hr yr (rootF_is hr) ?_ hA hB g big
    obtain ⟨f1, f2, _⟩ := floor_facts (n := x.p * S + rootF x.q S x.r) (d := x.s) hs
    unfold topF
    rw [Int.add_mul, Int.one_mul]
    omega
  rw [ord_anti (x := y) yr (Int.le_refl 0), e]
theorem betw_go {x y : Q4} [bx : Bz x 200] [by' : Bz y 200] {M : Int} (hr : 0 ≤ x.r) (hs : 1 ≤ x.s) (yr : 0 ≤ y.r) (hM : M.natAbs < 2 ^ 1419) (ex : ∀ S, 1 ≤ S → M ≤ S → ordQ ⟨topF x S, 0, 0, S⟩ y = -1) : ∀ (k : Nat) (S : Int), (2 * M - S).toNat = k → 1 ≤ S → S ≤ 2 * M →
    ∃ S' : Int, 1 ≤ S' ∧ S' ≤ 2 * M ∧ ordQ ⟨topF x S', 0, 0, S'⟩ y = -1 ∧
      wlO (.cmp .ne (.call N_root_order false [(.tup [(.var 3), (.lit (.int 0)), (.lit (.int 0)), (.var 2)]), (.var 1)]) (.neg (.lit (.int 1)))) [.asg 2 false (.bin .mul (.lit (.int 2)) (.var 2)), .asg 3 false (.bin .add (.call N_whole_below false [(.var 0), (.var 2)]) (.lit (.int 1)))]
        [.v (qD x), .v (qD y), .v (.int S), .v (.int (topF x S))] = .nx [.v (qD x), .v (qD y), .v (.int S'), .v (.int (topF x S'))] := by
  intro k
  induction k using Nat.strongRecOn with
  | _ k ih =>
    intro S hk h1 h2
    have p1 : (2 : Nat) ^ 1420 = 2 * 2 ^ 1419 := by rw [show 1420 = 1419 + 1 from rfl, Nat.pow_add, Nat.mul_comm]
    have bS : Bi S 1420 := ⟨by omega⟩
    have bt := bi_top bS hr
    have bT : Bi (topF x S) 1723 := ⟨bt⟩
    have bz : Bz ⟨topF x S, 0, 0, S⟩ 2000 := ⟨lt_up bt (by decide), by show 0 < 2 ^ 2000; exact Nat.pow_pos (by decide), by show 0 < 2 ^ 2000; exact Nat.pow_pos (by decide), lt_up bS.le (by decide)⟩
    have o := order_ok (x := ⟨topF x S, 0, 0, S⟩) (y := y) (by decide) (by decide)
    have e : qD ⟨topF x S, 0, 0, S⟩ = .tup [.int (topF x S), .int 0, .int 0, .int S] := rfl
    rw [e] at o
    by_cases c : ordQ ⟨topF x S, 0, 0, S⟩ y = -1
    · rw [c] at o
      exact ⟨S, h1, h2, c, wl_stop (by simp -dsimp -implicitDefEqProofs [o])⟩
    · have lt : S < M := by
        rcases Int.lt_or_le S M with z | z
        · exact z
        · exact absurd (ex S h1 z) c
      have b2 : Bi (2 * S) 1420 := ⟨by omega⟩
      have m2 : mulOk 2 S = true := mulOk_b (by decide)
      have bl := below_ok (x := x) (S := 2 * S) hr hs
      obtain ⟨S', s1, s2, s3, s4⟩ := ih (2 * M - 2 * S).toNat (by omega) (2 * S) rfl (by omega) (by omega)
      refine ⟨S', s1, s2, s3, ?_⟩
      rw [wl_nx (ρ' := [.v (qD x), .v (qD y), .v (.int (2 * S)), .v (.int (topF x (2 * S)))]) (by simp -dsimp -implicitDefEqProofs [o, c]) (by unfold topF; simp -dsimp -implicitDefEqProofs [m2, bl])]
      exact s4
theorem between_lt {x y : Q4} [bx : Bz x 200] [by' : Bz y 200] (hr : 0 ≤ x.r) (hs : 1 ≤ x.s) (yr : 0 ≤ y.r) (ys : 1 ≤ y.s)
    (bm : Bi (y.q * x.s) 270) (bk : Bi (x.q * y.s) 270) (bw : (y.p * x.s - x.p * y.s).natAbs < 2 ^ 272) (bss : (x.s * y.s).natAbs < 2 ^ 270) (h : ordQ x y = -1) :
    ∃ S : Int, F_root_between [qD x, qD y] = .ok (frD (Rat.divInt (topF x S) S)) ∧ 1 ≤ S ∧ S.natAbs < 2 ^ 1420 ∧ ordQ x ⟨topF x S, 0, 0, S⟩ = -1 ∧ ordQ ⟨topF x S, 0, 0, S⟩ y = -1 := by
  obtain ⟨N, A, B, N0, bN, hA, hB, g⟩ := gap_ex yr hr bw bm bk by'.r bx.r
  have g : 3 ≤ (y.p * x.s - x.p * y.s) * N + sgr (y.q * x.s) A - sgr (x.q * y.s) B := g (by
    have := ord_anti hr yr
    rw [h] at this
    exact this)
  have M1 : 1 ≤ N * (x.s * y.s) := Int.mul_pos N0 (Int.mul_pos hs ys)
  have iN : Bi N 1142 := ⟨bN⟩
  have iS : Bi (x.s * y.s) 270 := ⟨bss⟩
  have bM : (N * (x.s * y.s)).natAbs < 2 ^ 1419 := Nat.lt_of_lt_of_le (inferInstance : Bi (N * (x.s * y.s)) _).le (Nat.pow_le_pow_right (by decide) (by decide))
  obtain ⟨S, s1, s2, s3, s4⟩ := betw_go (M := N * (x.s * y.s)) hr hs yr bM (fun S h1 h2 => below_end hr hs yr ys h1 N0 hA hB g h2) _ 1 rfl (by decide) (by omega)
  have p1 : (2 : Nat) ^ 1420 = 2 * 2 ^ 1419 := by rw [show 1420 = 1419 + 1 from rfl, Nat.pow_add, Nat.mul_comm]
  have bS : Bi S 1420 := ⟨by omega⟩
  have o := order_ok (x := x) (y := y) (by decide) (by decide)
  rw [h] at o
  have b1 : Bi (1 : Int) 1420 := ⟨by decide +kernel⟩
  have bl := below_ok (x := x) (S := 1) hr hs
  clear b1
  have rt := ratio_fr (a := topF x S) (b := S) (by omega) (lt_up bS.le (by decide))
  refine ⟨S, ?_, s1, bS.le, above hr hs s1, s3⟩
  rw [D_root_between]
  have e1 : (x.p * 1 + rootF x.q 1 x.r).fdiv x.s + 1 = topF x 1 := rfl
  generalize (x.p * 1 + rootF x.q 1 x.r).fdiv x.s = t1 at *
  simp -dsimp -implicitDefEqProofs [B_root_between, o, bl, e1, s4, rt]
end OL.LW
namespace OL.LW
open PySem PySem.Spec PyProof.Rows L2
section
variable {w m u k l : Int}
theorem bi_lM2 [bw : Bi w 1950] [bm : Bi m 1650] [bu : Bi u 210] [bk : Bi k 1650] [bl : Bi l 210] (hu : 0 ≤ u) (hl : 0 ≤ l) : Bi (lM w m u k l) 1954 := ⟨by
  have h1 := bw.le
  have iu := bi_isq hu
  have il := bi_isq hl
  have x : ∀ {i j : Int}, Bi i 1650 → Bi j 210 → ((i.natAbs : Int) * (1 + j)).natAbs < 2 ^ 1951 := fun {i j} a b => by
    have c : Bi (1 + j) 211 := ⟨by have := b.le; rw [Nat.pow_succ]; have : 1 < 2 ^ 210 := by decide +kernel
                                   omega⟩
    exact lt_up (inferInstance : Bi ((i.natAbs : Int) * (1 + j)) _).le (by decide)
  have x1 := x bm iu
  have x2 := x bk il
  have p : 2 ^ 1954 = 8 * 2 ^ 1951 := by rw [show 1954 = 1951 + 3 from rfl, Nat.pow_add, Nat.mul_comm]
  have p2 : 2 ^ 1951 = 2 * 2 ^ 1950 := by rw [show 1951 = 1950 + 1 from rfl, Nat.pow_add, Nat.mul_comm]
  unfold lM
  rw [p]
  omega⟩
theorem lsign2_ok [bw : Bi w 1950] [bm : Bi m 1650] [bu : Bi u 210] [bk : Bi k 1650] [bl : Bi l 210] (hu : 0 ≤ u) (hl : 0 ≤ l) : F__law_sign [.int w, .int m, .int u, .int k, .int l] = .ok (.int (sg3 w m u (-k) l)) := by
  have bM := bi_lM2 (w := w) (m := m) (u := u) (k := k) (l := l) hu hl
  have iu := isq_is hu
  have il := isq_is hl
  have bu2 := bi_isq hu
  have bl2 := bi_isq hl
  have r1 := lroot_s hu (by decide)
  have r2 := lroot_s hl (by decide)
  have a0 : 0 ≤ (m.natAbs : Int) * (1 + isq u) := Int.mul_nonneg (by omega) (by have := iu.1; omega)
  have b0 : 0 ≤ (k.natAbs : Int) * (1 + isq l) := Int.mul_nonneg (by omega) (by have := il.1; omega)
  generalize hM : lM w m u k l = M at bM
  have eM : M = 1 + (w.natAbs : Int) + m.natAbs * (1 + isq u) + k.natAbs * (1 + isq l) := hM.symm
  have bN : Bi (8 * (3 * M) ^ 3) 5950 := by
    rw [show 8 * (3 * M) ^ 3 = 8 * ((3 * M) * (3 * M) * (3 * M)) by grind]
    exact Bi.up (inferInstance : Bi (8 * ((3 * M) * (3 * M) * (3 * M))) _) (by decide)
  generalize hN : 8 * (3 * M) ^ 3 = N at bN
  have eN : N = 216 * (M * M * M) := by rw [← hN]; grind
  have sq : ∀ x : Int, 0 ≤ x * x := fun x => by rw [← Int.natAbs_mul_self]; omega
  have mu : 0 ≤ m * N * (m * N) * u := Int.mul_nonneg (sq _) hu
  have kl : 0 ≤ k * N * (k * N) * l := Int.mul_nonneg (sq _) hl
  have M1 : 1 ≤ M := by omega
  have N0 : 0 ≤ N := by rw [eN]; exact Int.mul_nonneg (by decide) (Int.mul_nonneg (Int.mul_nonneg (by omega) (by omega)) (by omega))
  have i1 := isq_is mu
  have i2 := isq_is kl
  have up : ∀ {m u r : Int}, 0 ≤ u → IsR u r → m * m * u ≤ m.natAbs * (1 + r) * (m.natAbs * (1 + r)) := fun {m u r} h0 h => by
    have e : (m.natAbs : Int) * (m.natAbs : Int) = m * m := Int.natAbs_mul_self
    have := Int.mul_nonneg (sq m) (show 0 ≤ (r + 1) * (r + 1) - u by have := h.2.2; omega)
    grind
  have T := three_all hu hl eM eN i1 i2 a0 b0 (isr_up N0 hu i1 iu) (isr_up N0 hl i2 il) (up hu iu) (up hl il)
  have q1 := lroot_s mu (by decide)
  have q2 := lroot_s kl (by decide)
  have e2 : ∀ x : Int, x ^ 2 = x * x := fun x => by grind
  rw [← e2] at q1 q2
  have o1 : mulOk (m.natAbs : Int) (1 + isq u) = true := mulOk_b (by decide)
  have o2 : mulOk (k.natAbs : Int) (1 + isq l) = true := mulOk_b (by decide)
  have o3 : mulOk 3 M = true := mulOk_b (by decide)
  have o4 : pwOk (3 * M) 3 = true := pwOk_b (by decide) (by decide) (by decide)
  have o5 : mulOk 8 ((3 * M) ^ 3) = true := by
    rw [show (3 * M) ^ 3 = (3 * M) * (3 * M) * (3 * M) by grind]
    exact mulOk_b (by decide)
  have o6 : mulOk m N = true := mulOk_b (by decide)
  have o7 : mulOk k N = true := mulOk_b (by decide)
  have o8 : pwOk (m * N) 2 = true := pwOk_b (by decide) (by decide) (by decide)
  have o9 : pwOk (k * N) 2 = true := pwOk_b (by decide) (by decide) (by decide)
  have o10 : mulOk ((m * N) ^ 2) u = true := by rw [e2]; exact mulOk_b (by decide)
  have o11 : mulOk ((k * N) ^ 2) l = true := by rw [e2]; exact mulOk_b (by decide)
  have o12 : mulOk w N = true := mulOk_b (by decide)
  rw [← e2, ← e2] at T
  have bA := bi_isq (n := m * N * (m * N) * u) mu
  have bB := bi_isq (n := k * N * (k * N) * l) kl
  rw [← e2] at bA bB
  generalize isq ((m * N) ^ 2 * u) = A at *
  generalize isq ((k * N) ^ 2 * l) = B at *
  have o13 : mulOk A m.sign = true := mulOk_b (by decide)
  have o14 : mulOk B k.sign = true := mulOk_b (by decide)
  unfold sgr at T
  rw [Int.mul_comm m.sign, Int.mul_comm k.sign] at T
  rw [D__law_sign]
  have hM2 : 1 + (w.natAbs : Int) + (m.natAbs : Int) * (1 + isq u) + (k.natAbs : Int) * (1 + isq l) = M := eM.symm
  generalize isq u = ru at *
  generalize isq l = rl at *
  rcases T with ⟨t1, t2⟩ | ⟨t1, t2⟩ | ⟨t1, t2⟩
  · rw [t1]
    simp -dsimp -implicitDefEqProofs [B__law_sign, r1, r2, o1, o2, hM2, o3, o4, o5, hN, o6, o7, o8, o9, o10, o11, o12, q1, q2, o13, o14, show 2 < w * N + A * m.sign - B * k.sign by omega, show ¬ w * N + A * m.sign - B * k.sign < -2 by omega]
  · rw [t1]
    simp -dsimp -implicitDefEqProofs [B__law_sign, r1, r2, o1, o2, hM2, o3, o4, o5, hN, o6, o7, o8, o9, o10, o11, o12, q1, q2, o13, o14, show ¬ 2 < w * N + A * m.sign - B * k.sign by omega, show w * N + A * m.sign - B * k.sign < -2 by omega]
  · rw [t1]
    simp -dsimp -implicitDefEqProofs [B__law_sign, r1, r2, o1, o2, hM2, o3, o4, o5, hN, o6, o7, o8, o9, o10, o11, o12, q1, q2, o13, o14, show ¬ 2 < w * N + A * m.sign - B * k.sign by omega, show ¬ w * N + A * m.sign - B * k.sign < -2 by omega]
end
end OL.LW
namespace OL.LW
open PySem PySem.Spec PyProof.Rows L2
theorem ord_red {x : Q4} {t S : Int} (h : 1 ≤ S) : ordQ x ⟨(Rat.divInt t S).num, 0, 0, (Rat.divInt t S).den⟩ = ordQ x ⟨t, 0, 0, S⟩ := by
  obtain ⟨f1, f2, f3, f4, f5⟩ := rat_facts (a := t) (b := S) (by omega)
  obtain ⟨e1, e2⟩ := rat_eq (a := t) (b := S) (by omega)
  rw [e1, e2, ← ord_scale (x := x) (t := t) (s := S) (g := rd t S) (by omega), ← ord_scale (x := x) (t := rn t S) (s := rd t S) (g := S) h]
  rw [Int.mul_comm (rd t S) t, f3, Int.mul_comm (rn t S) S, Int.mul_comm (rd t S) S]
section
variable {x : Q4} {t s : Int} [bx : Bz x 200]
theorem wide_bi (ht : t.natAbs < 2 ^ 1723) (hs : s.natAbs < 2 ^ 1420) : Bi (x.p * s - t * x.s) 1950 ∧ Bi (t * x.s - x.p * s) 1950 := by
  have i1 : Bi x.p 200 := ⟨bx.p⟩
  have i4 : Bi x.s 200 := ⟨bx.s⟩
  have it : Bi t 1723 := ⟨ht⟩
  have is' : Bi s 1420 := ⟨hs⟩
  have h1 := (inferInstance : Bi (x.p * s) _).le
  have h2 := (inferInstance : Bi (t * x.s) _).le
  have p1 : (2 : Nat) ^ (200 + 1420) < 2 ^ 1940 := by decide +kernel
  have p2 : (2 : Nat) ^ (1723 + 200) < 2 ^ 1940 := by decide +kernel
  have p3 : (2 : Nat) ^ 1950 = 1024 * 2 ^ 1940 := by rw [show 1950 = 1940 + 10 from rfl, Nat.pow_add, Nat.mul_comm]
  exact ⟨⟨by omega⟩, ⟨by omega⟩⟩
theorem lorder_r (ht : t.natAbs < 2 ^ 1723) (hs : s.natAbs < 2 ^ 1420) (hr : 0 ≤ x.r) : F__law_order [qD x, .tup [.int t, .int 0, .int 0, .int s]] = .ok (.int (ordQ x ⟨t, 0, 0, s⟩)) ∧
    F__law_order [.tup [.int t, .int 0, .int 0, .int s], qD x] = .ok (.int (ordQ ⟨t, 0, 0, s⟩ x)) := by
  obtain ⟨w1, w2⟩ := wide_bi (x := x) ht hs
  have i1 : Bi x.p 200 := ⟨bx.p⟩
  have i2 : Bi x.q 200 := ⟨bx.q⟩
  have i4 : Bi x.s 200 := ⟨bx.s⟩
  have it : Bi t 1723 := ⟨ht⟩
  have is' : Bi s 1420 := ⟨hs⟩
  have b0 : Bi (0 : Int) 1650 := ⟨by decide +kernel⟩
  have b1 : Bi (x.q * s) 1650 := Bi.up (inferInstance : Bi (x.q * s) (200 + 1420)) (by decide)
  have br : Bi x.r 210 := ⟨lt_up bx.r (by decide)⟩
  have b9 : Bi (0 : Int) 210 := ⟨by decide +kernel⟩
  have o1 := lsign2_ok (w := x.p * s - t * x.s) (m := x.q * s) (u := x.r) (k := 0) (l := 0) (bk := b0) (bl := b9) hr (Int.le_refl 0)
  have o2 := lsign2_ok (w := t * x.s - x.p * s) (m := 0) (u := 0) (k := x.q * s) (l := x.r) (bm := b0) (bu := b9) (Int.le_refl 0) hr
  clear w1 w2 b0 b1 br b9
  have m1 : mulOk x.p s = true := mulOk_b (by decide)
  have m2 : mulOk t x.s = true := mulOk_b (by decide)
  have m3 : mulOk x.q s = true := mulOk_b (by decide)
  have m4 : mulOk 0 x.s = true := mulOk_b (by decide)
  have m5 : mulOk 0 s = true := mulOk_b (by decide)
  have m6 : mulOk x.q s = true := m3
  constructor
  · rw [D__law_order]
    unfold ordQ
    simp only [Int.zero_mul]
    simp -dsimp -implicitDefEqProofs [B__law_order, qD, m1, m2, m3, m4, m5, o1]
  · rw [D__law_order]
    unfold ordQ
    simp only [Int.zero_mul]
    simp -dsimp -implicitDefEqProofs [B__law_order, qD, m1, m2, m3, m4, m5, o2]
end
end OL.LW
namespace OL.LW
open PySem PySem.Spec PyProof.Rows L2
theorem com_go : ∀ (n : Nat) (a b : Int), b.toNat = n → 0 ≤ a → 0 ≤ b →
    wlO (.cmp .gt (.var 1) (.lit (.int 0))) [.par 0 1 (.var 1) (.bin .mod (.var 0) (.var 1))] [.v (.int a), .v (.int b)] = .nx [.v (.int (Int.gcd a b)), .v (.int 0)] := by
  intro n
  induction n using Nat.strongRecOn with
  | _ n ih =>
    intro a b hn ha hb
    by_cases h : b = 0
    · subst h
      rw [wl_stop (by simp -dsimp -implicitDefEqProofs [])]
      simp -dsimp -implicitDefEqProofs [Int.natAbs_of_nonneg ha]
    · have h0 : 0 < b := by omega
      rw [wl_nx (ρ' := [.v (.int b), .v (.int (a.fmod b))]) (by simp -dsimp -implicitDefEqProofs [h0]) (by simp -dsimp -implicitDefEqProofs [h])]
      have e : a.fmod b = a % b := Int.fmod_eq_emod_of_nonneg a hb
      rw [e]
      rw [ih (a % b).toNat (by have := Int.emod_lt_of_pos a h0; have := Int.emod_nonneg a h; omega) b (a % b) rfl hb (Int.emod_nonneg a h)]
      have g : Int.gcd b (a % b) = Int.gcd a b := by rw [Int.gcd_comm, emod_gcd a b ha, Int.gcd_comm]
      rw [g]
theorem common_ok (a b : Int) (ha : 0 ≤ a) (hb : 0 ≤ b) : F__law_common [.int a, .int b] = .ok (.int (Int.gcd a b)) := by
  simp -dsimp -implicitDefEqProofs [F__law_common, B__law_common, defR]
  rw [com_go _ a b rfl ha hb]
  simp -dsimp -implicitDefEqProofs []
end OL.LW
namespace OL.LW
open PySem PySem.Spec PyProof.Rows L2
theorem mixed_ok (c k : Int) (h0 : 0 ≤ k) (h1 : k ≤ 1000000) : ∃ m : Int, F__law_mixed [.int c, .int k] = .ok (.int m) ∧ 0 ≤ m ∧ m < 2147483647 := by
  have b1 := fmod_b c (m := 2147483629) (by decide)
  have m1 : mulOk 7919 k = true := mulOk_le 7919 1000000 (by decide) (by omega) (by decide)
  have m2 : mulOk (c.fmod 2147483629 + 7919 * k + 11) 48271 = true := mulOk_le 100000000000 48271 (by omega) (by decide) (by decide)
  generalize hx : (c.fmod 2147483629 + 7919 * k + 11) * 48271 = x at *
  have b2 := fmod_b x (m := 2147483647) (by decide)
  generalize hy : x.fmod 2147483647 = y at *
  have m3 : mulOk y y = true := mulOk_le 2147483647 2147483647 (by omega) (by omega) (by decide)
  have m4 : mulOk 104729 k = true := mulOk_le 104729 1000000 (by decide) (by omega) (by decide)
  generalize hz : ((y * y).fmod 2147483629 + 104729 * k) = z at *
  have b3 := fmod_b z (m := 2147483629) (by decide)
  have m5 : mulOk (z.fmod 2147483629) 39373 = true := mulOk_le 2147483647 39373 (by omega) (by decide) (by decide)
  have b4 := fmod_b (z.fmod 2147483629 * 39373) (m := 2147483647) (by decide)
  refine ⟨(z.fmod 2147483629 * 39373).fmod 2147483647, ?_, b4⟩
  simp -dsimp -implicitDefEqProofs [F__law_mixed, B__law_mixed, defR, m1, m2, m3, m4, m5, hx, hy, hz]
/-- the inner loop: a number out of parts -/
theorem inner_go (c mn base kk : Int) (hk : 0 ≤ kk) (hk2 : kk ≤ 1000) (fs : List D) (lf : D) (bits : Nat) (hb : bits < 9001) (hbit : Builtin.Int.intBits base = bits) :
    ∀ (n t N : Nat), 400 - t = n → t ≤ 399 → N < 2 ^ (31 * t) →
    ∃ m t' : Int, wlO (.cmp .lt (.bin .mul (.var 7) (.lit (.int 30))) (.bin .add (.mth .bitlen (.var 2) []) (.lit (.int 8)))) [.asg 6 false (.bin .add (.bin .mul (.var 6) (.lit (.int 2147483647))) (.call N__law_mixed false [(.var 0), (.bin .add (.bin .mul (.lit (.int 8)) (.var 5)) (.var 7))])), .asg 7 false (.bin .add (.var 7) (.lit (.int 1)))]
      [.v (.int c), .v (.int mn), .v (.int base), .o fs, .v lf, .v (.int kk), .v (.int N), .v (.int t)] = .nx [.v (.int c), .v (.int mn), .v (.int base), .o fs, .v lf, .v (.int kk), .v (.int m), .v (.int t')] := by
  intro n
  induction n with
  | zero => intro t N e h; omega
  | succ n ih =>
    intro t N e h hN
    have m0 : mulOk (t : Int) 30 = true := mulOk_le 400 30 (by omega) (by decide) (by decide)
    by_cases ht : (t : Int) * 30 < (bits : Int) + 8
    · have ht2 : t ≤ 301 := by omega
      obtain ⟨x, e1, e2, e3⟩ := mixed_ok c (8 * kk + t) (by omega) (by omega)
      have m1 : mulOk (N : Int) 2147483647 = true := mulOk_of 12400 32 (by rw [Int.natAbs_natCast]; exact Nat.lt_of_lt_of_le hN (Nat.pow_le_pow_right (by decide) (by omega))) (by decide) (by decide) (by decide) (by decide)
      have m2 : mulOk 8 kk = true := mulOk_le 8 1000 (by decide) (by omega) (by decide)
      obtain ⟨y, rfl⟩ : ∃ y : Nat, x = y := ⟨x.toNat, by omega⟩
      have hN2 : N * 2147483647 + y < 2 ^ (31 * (t + 1)) := by
        have e : 2 ^ (31 * (t + 1)) = 2 ^ (31 * t) * 2147483648 := by rw [Nat.mul_add, Nat.pow_add]
        rw [e]
        generalize 2 ^ (31 * t) = P at *
        omega
      rw [wl_nx (ρ' := [.v (.int c), .v (.int mn), .v (.int base), .o fs, .v lf, .v (.int kk), .v (.int ((N * 2147483647 + y : Nat) : Int)), .v (.int ((t + 1 : Nat) : Int))])
        (by simp -dsimp -implicitDefEqProofs [m0, bitlen_i, hbit, ht]) (by simp -dsimp -implicitDefEqProofs [m1, m2, N__law_mixed, e1])]
      exact ih (t + 1) (N * 2147483647 + y) (by omega) (by omega) hN2
    · exact ⟨N, t, wl_stop (by simp -dsimp -implicitDefEqProofs [m0, bitlen_i, hbit, ht])⟩
/-- many numbers below the base -/
theorem numbers_ok (c : Int) {many base : Int} (hm : 0 ≤ many) (hm2 : many ≤ 1000) (hb : 0 < base) (hb2 : base.natAbs < 2 ^ 9000) :
    ∃ l : List Int, F__law_numbers [.int c, .int many, .int base] = .ok (.lst (l.map .int)) ∧ l.length = many.toNat ∧ ∀ x ∈ l, 0 ≤ x ∧ x < base := by
  have hbit : Builtin.Int.intBits base < 9001 := by
    have l := log2_lt (by decide) hb2
    unfold Builtin.Int.intBits
    split <;> omega
  have dv := divOk_of (by omega) hb2
  have hb0 : base ≠ 0 := by omega
  let I : List D → En → Prop := fun r ρ => ∃ (l : List Int) (lf : Int) (s5 s6 s7 : Sl), ρ = [.v (.int c), .v (.int many), .v (.int base), .o (l.map .int), .v (.int lf), s5, s6, s7] ∧ (∀ x ∈ l, 0 ≤ x ∧ x < base) ∧
    l.length + r.length = many.toNat ∧ ∀ d ∈ r, ∃ k : Int, d = .int k ∧ 0 ≤ k ∧ k ≤ 1000
  have st : I ((List.range many.toNat).map fun (k : Nat) => D.int k) [.v (.int c), .v (.int many), .v (.int base), .o [], .v (.int (c - 10 ^ 18)), .n, .n, .n] :=
    ⟨[], _, _, _, _, rfl, by simp, by simp, fun d hd => by
      obtain ⟨k, hk, rfl⟩ := List.mem_map.mp hd
      have := List.mem_range.mp hk
      exact ⟨k, rfl, by omega, by omega⟩⟩
  have go := fo_inv I (t := .nm 5) (b := [.asg 6 false (.var 4), .ife (.cmp .gt (.var 4) (.lit (.int 0))) [.asg 4 false (.bin .div (.var 4) (.var 2))] [.asg 6 false (.lit (.int 0)), .asg 7 false (.lit (.int 0)), .whl (.cmp .lt (.bin .mul (.var 7) (.lit (.int 30))) (.bin .add (.mth .bitlen (.var 2) []) (.lit (.int 8)))) [.asg 6 false (.bin .add (.bin .mul (.var 6) (.lit (.int 2147483647))) (.call N__law_mixed false [(.var 0), (.bin .add (.bin .mul (.lit (.int 8)) (.var 5)) (.var 7))])), .asg 7 false (.bin .add (.var 7) (.lit (.int 1)))]], .app 3 (.bin .mod (.var 6) (.var 2))]) st ?_
  · obtain ⟨ρ', e, l, lf, s5, s6, s7, rfl, h1, h2, _⟩ := go
    refine ⟨l, ?_, by simpa using h2, h1⟩
    simp -dsimp -implicitDefEqProofs [F__law_numbers, B__law_numbers, defR, rng_1 hm (by omega), show pwOk 10 18 = true by decide] at e ⊢
    rw [e]
    simp
  · rintro d r ρ ⟨l, lf, s5, s6, s7, rfl, h1, h2, h3⟩
    obtain ⟨k, rfl, hk0, hk1⟩ := h3 d List.mem_cons_self
    have ll : l.length < 16777216 := by rw [List.length_cons] at h2; omega
    by_cases hl : 0 < lf
    · refine ⟨_, _, by simp; rfl, by simp -dsimp -implicitDefEqProofs [hl, dv, hb0, ll]; rfl, l ++ [lf.fmod base], lf.fdiv base, _, _, _, by simp; exact ⟨rfl, rfl, rfl⟩, ?_, by simp at h2 ⊢; omega, fun d hd => h3 d (List.mem_cons_of_mem _ hd)⟩
      intro x hx
      rcases List.mem_append.mp hx with z | z
      · exact h1 x z
      · rw [List.mem_singleton.mp z]
        exact fmod_b lf hb
    · obtain ⟨m, t', e⟩ := inner_go c many base k hk0 hk1 (l.map .int) (.int lf) _ hbit rfl 400 0 0 rfl (by decide) (by decide)
      refine ⟨_, _, by simp; rfl, by simp -dsimp -implicitDefEqProofs [hl]; rw [show ((0 : Nat) : Int) = 0 from rfl] at e; rw [e]; simp -dsimp -implicitDefEqProofs [hb0, ll]; rfl, l ++ [m.fmod base], lf, _, _, _, by simp; exact ⟨rfl, rfl, rfl⟩, ?_, by simp at h2 ⊢; omega, fun d hd => h3 d (List.mem_cons_of_mem _ hd)⟩
      intro x hx
      rcases List.mem_append.mp hx with z | z
      · exact h1 x z
      · rw [List.mem_singleton.mp z]
        exact fmod_b m hb
end OL.LW
namespace OL.LW
open PySem PySem.Spec PyProof.Rows L2
@[simp] theorem lcommon_1 {n d : Int} (h1 : 1 ≤ d) (h2 : Int.gcd n d = 1) : F__law_common [.int (n.natAbs : Int), .int d] = .ok (.int 1) := by
  have e : Int.gcd (n.natAbs : Int) d = Int.gcd n d := by unfold Int.gcd; rw [Int.natAbs_natCast]
  have c := common_ok (n.natAbs : Int) d (by omega) (by omega)
  rw [e, h2] at c
  exact c
theorem lwhole_of {x : D} (h : (tyD x).isSome = true) : F__law_whole [x] = .ok (.bl (isI x)) := by
  rw [D__law_whole]
  cases x <;> first | (simp -dsimp -implicitDefEqProofs [B__law_whole, isT, isI, isiD, tyD]; done) | cases h
@[simp] theorem lwhole_int (i : Int) : F__law_whole [.int i] = .ok (.bl true) := lwhole_of rfl
@[simp] theorem llowest_fr (q : Rat) : F__law_lowest [frD q] = .ok (.bl true) := by
  rw [D__law_lowest]
  have d := den_pos q
  simp -dsimp -implicitDefEqProofs [B__law_lowest, isi_f, isT, show ¬ (q.den : Int) < 1 by omega, lcommon_1 (n := q.num) (show (1 : Int) ≤ q.den by omega) q.reduced]
/-- a fraction -/
def ratB : D → Bool
  | .tup [x, y] => frB x y
  | _ => false
def okT (d : D) : Prop := (tyD d).isSome = true ∧ ∀ x y, d = .tup [x, y] → (tyD x).isSome = true ∧ (tyD y).isSome = true
theorem ratB_2 (x y : D) : ratB (.tup [x, y]) = frB x y := rfl
theorem isratio_any {d : D} (h : okT d) : F_is_ratio [d] = .ok (.bl (ratB d)) := by
  by_cases hd : ∃ x y, d = .tup [x, y]
  · obtain ⟨x, y, rfl⟩ := hd
    exact isratio_two (h.2 x y rfl).1 (h.2 x y rfl).2
  · have e : ratB d = false := by
      unfold ratB
      split
      · exact absurd ⟨_, _, rfl⟩ hd
      · rfl
    rw [e]
    exact isratio_not h.1 fun x y z => hd ⟨x, y, z⟩
theorem llowest_two {x y : D} (hx : (tyD x).isSome = true) (hy : (tyD y).isSome = true) : F__law_lowest [.tup [x, y]] = .ok (.bl (frB x y)) := by
  rw [D__law_lowest]
  by_cases hi : isI x = true
  · by_cases hj : isI y = true
    · cases x <;> (try (cases hi; done))
      cases y <;> (try (cases hj; done))
      rename_i n d
      show _ = R.ok (D.bl (decide (1 ≤ d) && decide (Int.gcd n d = 1)))
      by_cases h1 : d < 1
      · simp -dsimp -implicitDefEqProofs [B__law_lowest, isT, h1, show ¬ 1 ≤ d by omega]
      · have e : Int.gcd (n.natAbs : Int) d = Int.gcd n d := by unfold Int.gcd; rw [Int.natAbs_natCast]
        have c := common_ok (n.natAbs : Int) d (by omega) (by omega)
        rw [e] at c
        simp -dsimp -implicitDefEqProofs [B__law_lowest, isT, h1, show 1 ≤ d by omega, c]
        omega
    · have e : isI y = false := by simpa using hj
      have wx := lwhole_of hx
      have wy := lwhole_of hy
      rw [hi] at wx
      rw [e] at wy
      rw [frB_r e]
      simp -dsimp -implicitDefEqProofs [B__law_lowest, isT, wx, wy]
  · have e : isI x = false := by simpa using hi
    have wx := lwhole_of hx
    rw [e] at wx
    rw [frB_l e]
    simp -dsimp -implicitDefEqProofs [B__law_lowest, isT, wx]
theorem llowest_not {d : D} (h : (tyD d).isSome = true) (hd : ∀ x y, d ≠ .tup [x, y]) : F__law_lowest [d] = .ok (.bl false) := by
  rw [D__law_lowest]
  cases d <;> first | (simp -dsimp -implicitDefEqProofs [B__law_lowest, isT, isiD, tyD]; done) | (cases h; done) | skip
  rename_i xs
  match xs, hd with
  | [], _ => simp -dsimp -implicitDefEqProofs [B__law_lowest, isT]
  | [x], _ => simp -dsimp -implicitDefEqProofs [B__law_lowest, isT]
  | [x, y], hd => exact absurd rfl (hd x y)
  | x :: y :: z :: r, _ => simp -dsimp -implicitDefEqProofs [B__law_lowest, isT, show ¬ (r.length : Int) + 1 + 1 + 1 = 2 by omega]
theorem llowest_any {d : D} (h : okT d) : F__law_lowest [d] = .ok (.bl (ratB d)) := by
  by_cases hd : ∃ x y, d = .tup [x, y]
  · obtain ⟨x, y, rfl⟩ := hd
    exact llowest_two (h.2 x y rfl).1 (h.2 x y rfl).2
  · have e : ratB d = false := by
      unfold ratB
      split
      · exact absurd ⟨_, _, rfl⟩ hd
      · rfl
    rw [e]
    exact llowest_not h.1 fun x y z => hd ⟨x, y, z⟩
/-- what passes is a fraction -/
theorem ratB_fr {d : D} (h : ratB d = true) : ∃ q : Rat, d = frD q := by
  unfold ratB at h
  split at h
  · rename_i x y
    unfold frB at h
    split at h
    · rename_i n b
      rw [Bool.and_eq_true, decide_eq_true_eq, decide_eq_true_eq] at h
      refine ⟨⟨n, b.toNat, by omega, ?_⟩, ?_⟩
      · have := h.2
        unfold Int.gcd at this
        rw [show b.toNat = b.natAbs by omega]
        exact this
      · unfold frD
        simp only
        rw [show ((b.toNat : Nat) : Int) = b by omega]
    · cases h
  · cases h
end OL.LW
namespace OL.LW
open PySem PySem.Spec PyProof.Rows L2
theorem ix3 {x0 x1 x2 : Int} (n : Int) : ∃ w, ixD (.lst [.int x0, .int x1, .int x2]) (.int (n.fmod 3)) = .ok (.int w) ∧ (w = x0 ∨ w = x1 ∨ w = x2) := by
  have b := fmod_b n (m := 3) (by decide)
  have r : n.fmod 3 = 0 ∨ n.fmod 3 = 1 ∨ n.fmod 3 = 2 := by omega
  rcases r with r | r | r <;> rw [r]
  · exact ⟨x0, by simp, by simp⟩
  · exact ⟨x1, by simp, by simp⟩
  · exact ⟨x2, by simp, by simp⟩
theorem ix4 {x0 x1 x2 x3 : Int} (n : Int) : ∃ w, ixD (.lst [.int x0, .int x1, .int x2, .int x3]) (.int (n.fmod 4)) = .ok (.int w) ∧ (w = x0 ∨ w = x1 ∨ w = x2 ∨ w = x3) := by
  have b := fmod_b n (m := 4) (by decide)
  have r : n.fmod 4 = 0 ∨ n.fmod 4 = 1 ∨ n.fmod 4 = 2 ∨ n.fmod 4 = 3 := by omega
  rcases r with r | r | r | r <;> rw [r]
  · exact ⟨x0, by simp, by simp⟩
  · exact ⟨x1, by simp, by simp⟩
  · exact ⟨x2, by simp, by simp⟩
  · exact ⟨x3, by simp, by simp⟩
theorem single_ok (a0 a1 a2 a3 a4 : Int) : ∃ x : Q4, F__law_single [.lst [.int a0, .int a1, .int a2, .int a3, .int a4]] = .ok (qD x) ∧ Bz x 67 ∧ 0 ≤ x.r ∧ 1 ≤ x.s := by
  have d4 : divOk 4 = true := by decide
  have d16 : divOk 16 = true := by decide
  have d64 : divOk 64 = true := by decide
  have p20 : pwOk 10 20 = true := by decide +kernel
  have p10 : pwOk 10 10 = true := by decide +kernel
  have b1 := fmod_b a1 (m := 41) (by decide)
  have b2 := fmod_b a1 (m := 200000000000000000001) (by decide)
  have b3 := fmod_b a2 (m := 9) (by decide)
  have b4 := fmod_b a2 (m := 200000000000000000001) (by decide)
  have b5 := fmod_b a3 (m := 40) (by decide)
  have b6 := fmod_b a3 (m := 10000000000) (by decide)
  have b7 := fmod_b a3 (m := 100000000000000000000) (by decide)
  have b8 := fmod_b a3 (m := 7) (by decide)
  have b9 := fmod_b a4 (m := 9) (by decide)
  have b10 := fmod_b a4 (m := 100000000000000000000) (by decide)
  obtain ⟨p, e1, c1⟩ := ix3 (x0 := a1.fmod 41 - 20) (x1 := a1.fmod 200000000000000000001 - 100000000000000000000) (x2 := 0) a0
  obtain ⟨q, e2, c2⟩ := ix4 (x0 := a2.fmod 9 - 4) (x1 := a2.fmod 200000000000000000001 - 100000000000000000000) (x2 := 1) (x3 := 0) (a0.fdiv 4)
  obtain ⟨r, e3, c3⟩ := ix4 (x0 := a3.fmod 40) (x1 := (a3.fmod 10000000000) ^ 2) (x2 := a3.fmod 100000000000000000000) (x3 := a3.fmod 7) (a0.fdiv 16)
  obtain ⟨s, e4, c4⟩ := ix3 (x0 := 1 + a4.fmod 9) (x1 := 1 + a4.fmod 100000000000000000000) (x2 := 1) (a0.fdiv 64)
  have bs : Bi (a3.fmod 10000000000) 40 := ⟨by omega⟩
  have pp : pwOk (a3.fmod 10000000000) 2 = true := pwOk_b (by decide) (by decide) (by decide)
  have sqb : 0 ≤ (a3.fmod 10000000000) ^ 2 ∧ (a3.fmod 10000000000) ^ 2 ≤ 100000000000000000000 := by
    rw [show (a3.fmod 10000000000) ^ 2 = a3.fmod 10000000000 * a3.fmod 10000000000 by grind]
    have := sq_le b6.1 (show a3.fmod 10000000000 ≤ 10000000000 by omega)
    have := Int.mul_nonneg b6.1 b6.1
    omega
  refine ⟨⟨p, q, r, s⟩, ?_, ⟨?_, ?_, ?_, ?_⟩, ?_, ?_⟩
  · rw [D__law_single]
    simp -dsimp -implicitDefEqProofs [B__law_single, d4, d16, d64, p20, p10, pp, e1, e2, e3, e4, mulOk_b, qD]
  all_goals simp only
  · omega
  · omega
  · omega
  · omega
  · omega
  · omega
theorem beside_ok {x : Q4} [z : Bz x 67] (hr : 0 ≤ x.r) (hs : 1 ≤ x.s) (b0 b1 b2 : Int) : ∃ y : Q4, F__law_beside [qD x, .lst [.int b0, .int b1, .int b2]] = .ok (qD y) ∧ Bz y 200 ∧ 0 ≤ y.r ∧ 1 ≤ y.s := by
  have p9 : pwOk 10 9 = true := by decide +kernel
  have p19 : pwOk 10 19 = true := by decide +kernel
  have p30 : pwOk 10 30 = true := by decide +kernel
  have p50 : pwOk 10 50 = true := by decide +kernel
  obtain ⟨m, e1, c1⟩ := ix3 (x0 := 10) (x1 := 1000000000) (x2 := 10000000000000000000) b2
  have m0 : 0 < m := by omega
  have mz : ¬ m = 0 := by omega
  have b := fmod_b b1 m0
  have dm : divOk m = true := divOk_of (by omega) (Nat.lt_of_lt_of_le (by omega : m.natAbs < 2 ^ 64) (Nat.pow_le_pow_right (by decide) (by decide)))
  have bb : Bi (1 + b1.fmod m) 64 := ⟨by omega⟩
  have by1 : 1 ≤ 1 + b1.fmod m := by omega
  generalize hby : 1 + b1.fmod m = n at bb by1
  obtain ⟨p, q, r, s⟩ := x
  have ip : Bi p 67 := ⟨z.p⟩
  have iq : Bi q 67 := ⟨z.q⟩
  have ir : Bi r 67 := ⟨z.r⟩
  have is' : Bi s 67 := ⟨z.s⟩
  simp only at hr hs
  have ps : 1 ≤ s * n := Int.mul_pos hs by1
  have rn : 0 ≤ r * n * n := Int.mul_nonneg (Int.mul_nonneg hr (by omega)) (by omega)
  have qq : 0 ≤ q * q * r * n * n := by
    have : 0 ≤ q * q := by rw [← Int.natAbs_mul_self]; omega
    exact Int.mul_nonneg (Int.mul_nonneg (Int.mul_nonneg this hr) (by omega)) (by omega)
  have r1 := lroot_s qq (by decide)
  have br : Bi (isq (q * q * r * n * n)) 165 := ⟨isq_half qq 165 (lt_up (inferInstance : Bi (q * q * r * n * n) _).le (by decide))⟩
  generalize isq (q * q * r * n * n) = rt at r1 br
  have ds : divOk s = true := divOk_b (by omega) (by decide)
  have o1 : mulOk q.sign rt = true := mulOk_b (by decide)
  have bw := fmod_b b0 (m := 8) (by decide)
  have ms : ∀ {i j : Int}, Bi i 400 → Bi j 400 → mulOk i j = true := fun a b => mulOk_b (by decide)
  have last : ∀ (c : b0.fmod 8 = 1 ∨ b0.fmod 8 = 2 ∨ b0.fmod 8 = 7), Bz ⟨p, q, r + n, s⟩ 200 ∧ 0 ≤ r + n ∧ 1 ≤ s := fun _ => ⟨bz_of 200 (by decide), by omega, hs⟩
  rw [D__law_beside]
  have w : b0.fmod 8 = 0 ∨ b0.fmod 8 = 1 ∨ b0.fmod 8 = 2 ∨ b0.fmod 8 = 3 ∨ b0.fmod 8 = 4 ∨ b0.fmod 8 = 5 ∨ b0.fmod 8 = 6 ∨ b0.fmod 8 = 7 := by omega
  rcases w with w | w | w | w | w | w | w | w
  · refine ⟨⟨p * n, q * n, r, s * n⟩, ?_, bz_of 200 (by decide), hr, ps⟩
    simp -dsimp -implicitDefEqProofs [B__law_beside, qD, w, p9, p19, p30, p50, e1, dm, mz, hby, mulOk_b]
  · by_cases c : (q.natAbs : Int) * n < 1000000000000000000000000000000
    · refine ⟨⟨p, q * n, r, s⟩, ?_, bz_of 200 (by decide), hr, hs⟩
      simp -dsimp -implicitDefEqProofs [B__law_beside, qD, w, p9, p19, p30, p50, e1, dm, mz, hby, mulOk_b, c]
    · refine ⟨⟨p, q, r + n, s⟩, ?_, bz_of 200 (by decide), by simp only; omega, hs⟩
      simp -dsimp -implicitDefEqProofs [B__law_beside, qD, w, p9, p19, p30, p50, e1, dm, mz, hby, mulOk_b, c]
  · by_cases c : r * n * n < 100000000000000000000000000000000000000000000000000
    · refine ⟨⟨p, q, r * n * n, s⟩, ?_, bz_of 200 (by decide), rn, hs⟩
      simp -dsimp -implicitDefEqProofs [B__law_beside, qD, w, p9, p19, p30, p50, e1, dm, mz, hby, mulOk_b, c]
    · refine ⟨⟨p, q, r + n, s⟩, ?_, bz_of 200 (by decide), by simp only; omega, hs⟩
      simp -dsimp -implicitDefEqProofs [B__law_beside, qD, w, p9, p19, p30, p50, e1, dm, mz, hby, mulOk_b, c]
  · refine ⟨⟨p, 0 - q, r, s⟩, ?_, bz_of 200 (by decide), hr, hs⟩
    simp -dsimp -implicitDefEqProofs [B__law_beside, qD, w, p9, p19, p30, p50, e1, dm, mz, hby, mulOk_b]
  · refine ⟨⟨p * n + s, q * n, r, s * n⟩, ?_, bz_of 200 (by decide), hr, ps⟩
    simp -dsimp -implicitDefEqProofs [B__law_beside, qD, w, p9, p19, p30, p50, e1, dm, mz, hby, mulOk_b]
  · refine ⟨⟨p * n - s, q * n, r, s * n⟩, ?_, bz_of 200 (by decide), hr, ps⟩
    simp -dsimp -implicitDefEqProofs [B__law_beside, qD, w, p9, p19, p30, p50, e1, dm, mz, hby, mulOk_b]
  · have bp : Bi ((p * n + q.sign * rt).fdiv s) 200 := ⟨by
      have f := fdiv_abs (p * n + q.sign * rt) s
      have h1 := (inferInstance : Bi (p * n) _).le
      have h2 := (inferInstance : Bi (q.sign * rt) _).le
      have p1 : (2 : Nat) ^ (67 + 64) < 2 ^ 190 := by decide +kernel
      have p2 : (2 : Nat) ^ (4 + 165) < 2 ^ 190 := by decide +kernel
      have p3 : (2 : Nat) ^ 190 + 2 ^ 190 < 2 ^ 200 := by decide +kernel
      omega⟩
    refine ⟨⟨(p * n + q.sign * rt).fdiv s, 0, 0, n⟩, ?_, bz_of 200 (by decide), Int.le_refl 0, by1⟩
    simp -dsimp -implicitDefEqProofs [B__law_beside, qD, w, p9, p19, p30, p50, e1, dm, mz, hby, mulOk_b, r1, o1, ds]
  · refine ⟨⟨p, q, r + n, s⟩, ?_, bz_of 200 (by decide), by simp only; omega, hs⟩
    simp -dsimp -implicitDefEqProofs [B__law_beside, qD, w, p9, p19, p30, p50, e1, dm, mz, hby, mulOk_b]
end OL.LW
namespace OL.LW
open PySem PySem.Spec PyProof.Rows L2
theorem fourteen {l : List Int} (h : l.length = 14) : ∃ a0 a1 a2 a3 a4 a5 a6 a7 a8 a9 a10 a11 a12 a13, l = [a0, a1, a2, a3, a4, a5, a6, a7, a8, a9, a10, a11, a12, a13] := by
  match l, h with
  | [a0, a1, a2, a3, a4, a5, a6, a7, a8, a9, a10, a11, a12, a13], _ => exact ⟨_, _, _, _, _, _, _, _, _, _, _, _, _, _, rfl⟩
theorem bz_up {x : Q4} {m n : Nat} (h : Bz x m) (l : m ≤ n) : Bz x n := ⟨lt_up h.p l, lt_up h.q l, lt_up h.r l, lt_up h.s l⟩
theorem pair_ok (k : Int) : ∃ x y : Q4, F__law_pair [.int k] = .ok (.tup [qD x, qD y]) ∧ Bz x 67 ∧ Bz y 200 ∧ 0 ≤ x.r ∧ 0 ≤ y.r ∧ 1 ≤ x.s ∧ 1 ≤ y.s := by
  obtain ⟨l, e, hl, hb⟩ := numbers_ok k (many := 14) (base := 10000000000000000000000000000000000000000) (by decide) (by decide) (by decide) (by decide +kernel)
  obtain ⟨a0, a1, a2, a3, a4, a5, a6, a7, a8, a9, a10, a11, a12, a13, rfl⟩ := fourteen hl
  have p40 : pwOk 10 40 = true := by decide +kernel
  have s1 : cutD [D.int a0, .int a1, .int a2, .int a3, .int a4, .int a5, .int a6, .int a7, .int a8, .int a9, .int a10, .int a11, .int a12, .int a13] none (some 5) = [D.int a0, .int a1, .int a2, .int a3, .int a4] := rfl
  have s2 : cutD [D.int a0, .int a1, .int a2, .int a3, .int a4, .int a5, .int a6, .int a7, .int a8, .int a9, .int a10, .int a11, .int a12, .int a13] (some 8) (some 13) = [D.int a8, .int a9, .int a10, .int a11, .int a12] := rfl
  have s3 : cutD [D.int a0, .int a1, .int a2, .int a3, .int a4, .int a5, .int a6, .int a7, .int a8, .int a9, .int a10, .int a11, .int a12, .int a13] (some 5) (some 8) = [D.int a5, .int a6, .int a7] := rfl
  obtain ⟨x, x1, x2, x3, x4⟩ := single_ok a0 a1 a2 a3 a4
  obtain ⟨w, w1, w2, w3, w4⟩ := single_ok a8 a9 a10 a11 a12
  obtain ⟨y, y1, y2, y3, y4⟩ := beside_ok (x := x) x3 x4 a5 a6 a7
  rw [D__law_pair]
  by_cases c1 : a13.fmod 4 = 3
  · refine ⟨x, w, ?_, x2, bz_up w2 (by decide), x3, w3, x4, w4⟩
    simp -dsimp -implicitDefEqProofs [B__law_pair, e, p40, s1, s2, x1, w1, c1]
  · refine ⟨x, y, ?_, x2, y2, x3, y3, x4, y4⟩
    simp -dsimp -implicitDefEqProofs [B__law_pair, e, p40, s1, s3, x1, y1, c1]
theorem parted_ok {x y : Q4} [bx : Bz x 200] [by' : Bz y 200] (hr : 0 ≤ x.r) (hs : 1 ≤ x.s) (yr : 0 ≤ y.r) (ys : 1 ≤ y.s)
    (bm : Bi (y.q * x.s) 270) (bk : Bi (x.q * y.s) 270) (bw : (y.p * x.s - x.p * y.s).natAbs < 2 ^ 272) (bss : (x.s * y.s).natAbs < 2 ^ 270) (h : ordQ x y = -1) : F__law_parted [qD x, qD y] = .ok (.bl true) := by
  obtain ⟨S, f1, s1, s2, g1, g2⟩ := between_lt hr hs yr ys bm bk bw bss h
  have bt := bi_top (x := x) ⟨s2⟩ hr
  obtain ⟨_, _, _, r4, r5⟩ := rat_facts (a := topF x S) (b := S) (by omega)
  obtain ⟨e1, e2⟩ := rat_eq (a := topF x S) (b := S) (by omega)
  have n1 : (Rat.divInt (topF x S) S).num.natAbs < 2 ^ 1723 := by rw [e1]; omega
  have n2 : ((Rat.divInt (topF x S) S).den : Int).natAbs < 2 ^ 1420 := by rw [e2]; omega
  have o1 := (lorder_r (x := x) n1 n2 hr).1
  have o2 := (lorder_r (x := y) n1 n2 yr).2
  rw [ord_red s1, g1] at o1
  rw [ord_anti (x := y) yr (Int.le_refl 0), ord_red s1, ← ord_anti (x := y) yr (Int.le_refl 0), g2] at o2
  generalize Rat.divInt (topF x S) S = q at *
  rw [D__law_parted]
  simp -dsimp -implicitDefEqProofs [B__law_parted, f1, o1, o2]
theorem same_ok {x y : Q4} (bx : Bz x 67) [by' : Bz y 200] (hr : 0 ≤ x.r) (hs : 1 ≤ x.s) (h : ordQ x y = 0) : F_root_between [qD x, qD y] = .ok (frD (Rat.divInt (x.p + x.q * isq x.r) x.s)) := by
  have o := order_ok (x := x) (y := y) (by decide) (by decide)
  rw [h] at o
  obtain ⟨p, q, r, s⟩ := x
  have i1 : Bi p 67 := ⟨bx.p⟩
  have i2 : Bi q 67 := ⟨bx.q⟩
  have i3 : Bi r 67 := ⟨bx.r⟩
  have i4 : Bi s 67 := ⟨bx.s⟩
  simp only at hr hs ⊢
  have r1 := root_s hr (by decide)
  have br := bi_isq hr
  have m1 : mulOk q (isq r) = true := mulOk_b (by decide)
  have rt := ratio_fr (a := p + q * isq r) (b := s) (by omega) (lt_up i4.le (by decide))
  rw [D_root_between]
  unfold qD at o ⊢
  simp only at o ⊢
  simp -dsimp -implicitDefEqProofs [B_root_between, o, r1, m1, rt]
theorem that_ok {x : Q4} (bx : Bz x 67) (hr : 0 ≤ x.r) (hs : 1 ≤ x.s) : F__law_is_that [frD (Rat.divInt (x.p + x.q * isq x.r) x.s), qD x] = .ok (.bl true) := by
  obtain ⟨p, q, r, s⟩ := x
  have i1 : Bi p 67 := ⟨bx.p⟩
  have i2 : Bi q 67 := ⟨bx.q⟩
  have i3 : Bi r 67 := ⟨bx.r⟩
  have i4 : Bi s 67 := ⟨bx.s⟩
  simp only at hr hs ⊢
  have r1 := lroot_s hr (by decide)
  have br := bi_isq hr
  obtain ⟨_, _, f3, _, _⟩ := rat_facts (a := p + q * isq r) (b := s) (by omega)
  obtain ⟨e1, e2⟩ := rat_eq (a := p + q * isq r) (b := s) (by omega)
  rw [← e1, ← e2] at f3
  have bq : Bq (Rat.divInt (p + q * isq r) s) (67 + (67 + 67) + 1) 67 := bq_div
  have m1 : mulOk q (isq r) = true := mulOk_b (by decide)
  have m2 : mulOk (isq r) (isq r) = true := mulOk_b (by decide)
  have m3 : mulOk (Rat.divInt (p + q * isq r) s).num s = true := mulOk_b (by decide)
  have m4 : mulOk (p + q * isq r) ((Rat.divInt (p + q * isq r) s).den : Int) = true := mulOk_b (by decide)
  generalize Rat.divInt (p + q * isq r) s = f at *
  rw [D__law_is_that]
  by_cases c1 : q = 0
  · subst c1
    simp -dsimp -implicitDefEqProofs [B__law_is_that, qD, r1, m1, m2, m3, m4]
    simp -dsimp -implicitDefEqProofs [] at f3 m1 m4
    simp -dsimp -implicitDefEqProofs [m1, m4, f3]
  · by_cases c2 : isq r * isq r = r
    · simp -dsimp -implicitDefEqProofs [B__law_is_that, qD, r1, m1, m2, m3, m4, c1, c2, f3]
    · simp -dsimp -implicitDefEqProofs [B__law_is_that, qD, r1, m1, m2, m3, m4, c1, c2]
theorem law_true : ∀ ns : List Int, ns.length ≤ 63 → F_law [.scr ns] = .ok (.bl true) := by
  intro ns hn
  rw [D_law]
  apply end_is
  have cl := cut_le ns none (some 10)
  simp -dsimp -implicitDefEqProofs [B_law, show (cutD ns none (some 10)).length ≤ 16777215 by omega]
  refine cells_sq (fun ρ => ∃ s1 s2 s3 s4 s5 s6 s7 s8 s9 : Sl, ρ = [.v (.scr ns), s1, s2, s3, s4, s5, s6, s7, s8, s9]) ⟨_, _, _, _, _, _, _, _, _, rfl⟩ ?_ ?_
  · rintro k ρ ⟨s1, s2, s3, s4, s5, s6, s7, s8, s9, rfl⟩
    obtain ⟨x, y, e1, bx, by', rx, ry, sx, sy⟩ := pair_ok k
    have o1 := lorder_ok (x := x) (y := y) (by decide) rx ry
    have bX : Bz x 200 := bz_up bx (by decide)
    have a1 : Bi x.p 67 := ⟨bx.p⟩
    have a2 : Bi x.q 67 := ⟨bx.q⟩
    have a3 : Bi x.s 67 := ⟨bx.s⟩
    have a4 : Bi y.p 200 := ⟨by'.p⟩
    have a5 : Bi y.q 200 := ⟨by'.q⟩
    have a6 : Bi y.s 200 := ⟨by'.s⟩
    have c1 : Bi (y.q * x.s) 270 := Bi.up (inferInstance : Bi (y.q * x.s) (200 + 67)) (by decide)
    have c2 : Bi (x.q * y.s) 270 := Bi.up (inferInstance : Bi (x.q * y.s) (67 + 200)) (by decide)
    have c3 : (x.s * y.s).natAbs < 2 ^ 270 := lt_up (inferInstance : Bi (x.s * y.s) (67 + 200)).le (by decide)
    have c4 : (y.s * x.s).natAbs < 2 ^ 270 := by rw [Int.mul_comm]; exact c3
    have d1 := (inferInstance : Bi (y.p * x.s) (200 + 67)).le
    have d2 := (inferInstance : Bi (x.p * y.s) (67 + 200)).le
    have d3 : (2 : Nat) ^ (200 + 67) < 2 ^ 270 := by decide +kernel
    have d4 : (2 : Nat) ^ (67 + 200) < 2 ^ 270 := by decide +kernel
    have d5 : (2 : Nat) ^ 272 = 4 * 2 ^ 270 := by rw [show 272 = 270 + 2 from rfl, Nat.pow_add, Nat.mul_comm]
    have c5 : (y.p * x.s - x.p * y.s).natAbs < 2 ^ 272 := by omega
    have c6 : (x.p * y.s - y.p * x.s).natAbs < 2 ^ 272 := by omega
    clear a1 a2 a3 a4 a5 a6
    by_cases g1 : ordQ x y = -1
    · have q1 := parted_ok (bx := bX) rx sx ry sy c1 c2 c5 c3 g1
      rw [g1] at o1
      unfold qD at e1 o1 q1
      simp -dsimp -implicitDefEqProofs [e1, o1, q1]
    · by_cases g2 : ordQ x y = 1
      · have q1 := parted_ok (x := y) (y := x) (by' := bX) ry sy rx sx c2 c1 c6 c4 (by rw [ord_anti rx ry, g2])
        rw [g2] at o1
        unfold qD at e1 o1 q1
        simp -dsimp -implicitDefEqProofs [e1, o1, q1]
      · by_cases g3 : ordQ x y = 0
        · have q1 := same_ok bx rx sx g3
          have q2 := that_ok bx rx sx
          have r1 := lroot_s (n := x.r) (k := 67) (x := ⟨bx.r⟩) rx (by decide)
          have pr : pwOk (isq x.r) 2 = true := by
            have b3 : Bi x.r 67 := ⟨bx.r⟩
            have br := bi_isq rx
            exact pwOk_b (by decide) (by decide) (by decide)
          have lw := llowest_fr (Rat.divInt (x.p + x.q * isq x.r) x.s)
          rw [g3] at o1
          generalize Rat.divInt (x.p + x.q * isq x.r) x.s = f at *
          unfold qD at e1 o1 q1 q2
          by_cases z1 : x.q = 0
          · rw [z1] at e1 o1 q1 q2
            simp -dsimp -implicitDefEqProofs [e1, o1, q1, q2, r1, pr, lw]
          · by_cases z2 : isq x.r ^ 2 = x.r
            · simp -dsimp -implicitDefEqProofs [e1, o1, q1, q2, r1, pr, z1, z2, lw]
            · simp -dsimp -implicitDefEqProofs [e1, o1, q1, q2, r1, pr, z1, z2, lw]
        · unfold qD at e1 o1
          simp -dsimp -implicitDefEqProofs [e1, o1, g1, g2, g3]
  · rintro ρ ⟨s1, s2, s3, s4, s5, s6, s7, s8, s9, rfl⟩
    simp -dsimp -implicitDefEqProofs []
end OL.LW
namespace OL.LW
open PySem PySem.Spec PyProof.Rows L2
def top (i : Nat) : Stmt := PySem.Challenge.pw_oneleash_k06_whole_roots_parted.main.body.getD i (.Pass ⟨0, 0, 0, 0⟩)
abbrev s_is_whole : Stmt := top 4
theorem S_is_whole : FnScope (["thing"] : List Str) ["thing"] (defScope s_is_whole) := ⟨rfl, rfl, rfl, by decide +kernel, rfl, by decide +kernel, by decide +kernel⟩
theorem C_is_whole : ckSs (["thing"] : List Str) (defScope s_is_whole) false B_is_whole (defBody s_is_whole) = true := by decide +kernel
abbrev s_divisor : Stmt := top 5
theorem S_divisor : FnScope (["one", "other"] : List Str) ["one", "other"] (defScope s_divisor) := ⟨rfl, rfl, rfl, by decide +kernel, rfl, by decide +kernel, by decide +kernel⟩
theorem C_divisor : ckSs (["one", "other"] : List Str) (defScope s_divisor) false B_divisor (defBody s_divisor) = true := by decide +kernel
abbrev s_ratio : Stmt := top 6
theorem S_ratio : FnScope (["top", "bottom", "by"] : List Str) ["top", "bottom"] (defScope s_ratio) := ⟨rfl, rfl, rfl, by decide +kernel, rfl, by decide +kernel, by decide +kernel⟩
theorem C_ratio : ckSs (["top", "bottom", "by"] : List Str) (defScope s_ratio) false B_ratio (defBody s_ratio) = true := by decide +kernel
abbrev s_sign_of : Stmt := top 8
theorem S_sign_of : FnScope (["number"] : List Str) ["number"] (defScope s_sign_of) := ⟨rfl, rfl, rfl, by decide +kernel, rfl, by decide +kernel, by decide +kernel⟩
theorem C_sign_of : ckSs (["number"] : List Str) (defScope s_sign_of) true B_sign_of (defBody s_sign_of) = true := by decide +kernel
abbrev s_sign_of_two : Stmt := top 9
theorem S_sign_of_two : FnScope (["whole", "many", "under", "one", "other"] : List Str) ["whole", "many", "under"] (defScope s_sign_of_two) := ⟨rfl, rfl, rfl, by decide +kernel, rfl, by decide +kernel, by decide +kernel⟩
theorem C_sign_of_two : ckSs (["whole", "many", "under", "one", "other"] : List Str) (defScope s_sign_of_two) false B_sign_of_two (defBody s_sign_of_two) = true := by decide +kernel
abbrev s_sign_of_three : Stmt := top 10
theorem S_sign_of_three : FnScope (["whole", "many", "under", "more", "lower", "one", "other", "left"] : List Str) ["whole", "many", "under", "more", "lower"] (defScope s_sign_of_three) := ⟨rfl, rfl, rfl, by decide +kernel, rfl, by decide +kernel, by decide +kernel⟩
theorem C_sign_of_three : ckSs (["whole", "many", "under", "more", "lower", "one", "other", "left"] : List Str) (defScope s_sign_of_three) false B_sign_of_three (defBody s_sign_of_three) = true := by decide +kernel
abbrev s_root_order : Stmt := top 11
theorem S_root_order : FnScope (["one", "other", "p", "q", "r", "s", "t", "u", "v", "w"] : List Str) ["one", "other"] (defScope s_root_order) := ⟨rfl, rfl, rfl, by decide +kernel, rfl, by decide +kernel, by decide +kernel⟩
theorem C_root_order : ckSs (["one", "other", "p", "q", "r", "s", "t", "u", "v", "w"] : List Str) (defScope s_root_order) false B_root_order (defBody s_root_order) = true := by decide +kernel
abbrev s_whole_root : Stmt := top 12
theorem S_whole_root : FnScope (["number", "found"] : List Str) ["number"] (defScope s_whole_root) := ⟨rfl, rfl, rfl, by decide +kernel, rfl, by decide +kernel, by decide +kernel⟩
theorem C_whole_root : ckSs (["number", "found"] : List Str) (defScope s_whole_root) false B_whole_root (defBody s_whole_root) = true := by decide +kernel
abbrev s_whole_below : Stmt := top 13
theorem S_whole_below : FnScope (["number", "scale", "square", "root", "p", "q", "r", "s"] : List Str) ["number", "scale"] (defScope s_whole_below) := ⟨rfl, rfl, rfl, by decide +kernel, rfl, by decide +kernel, by decide +kernel⟩
theorem C_whole_below : ckSs (["number", "scale", "square", "root", "p", "q", "r", "s"] : List Str) (defScope s_whole_below) true B_whole_below (defBody s_whole_below) = true := by decide +kernel
abbrev s_root_between : Stmt := top 14
theorem S_root_between : FnScope (["one", "other", "scale", "top"] : List Str) ["one", "other"] (defScope s_root_between) := ⟨rfl, rfl, rfl, by decide +kernel, rfl, by decide +kernel, by decide +kernel⟩
theorem C_root_between : ckSs (["one", "other", "scale", "top"] : List Str) (defScope s_root_between) false B_root_between (defBody s_root_between) = true := by decide +kernel
abbrev s__law_mixed : Stmt := top 16
theorem S__law_mixed : FnScope (["cell", "k", "number"] : List Str) ["cell", "k"] (defScope s__law_mixed) := ⟨rfl, rfl, rfl, by decide +kernel, rfl, by decide +kernel, by decide +kernel⟩
theorem C__law_mixed : ckSs (["cell", "k", "number"] : List Str) (defScope s__law_mixed) true B__law_mixed (defBody s__law_mixed) = true := by decide +kernel
abbrev s__law_numbers : Stmt := top 17
theorem S__law_numbers : FnScope (["cell", "many", "base", "found", "left", "k", "number", "turns"] : List Str) ["cell", "many", "base"] (defScope s__law_numbers) := ⟨rfl, rfl, rfl, by decide +kernel, rfl, by decide +kernel, by decide +kernel⟩
theorem C__law_numbers : ckSs (["cell", "many", "base", "found", "left", "k", "number", "turns"] : List Str) (defScope s__law_numbers) true B__law_numbers (defBody s__law_numbers) = true := by decide +kernel
abbrev s__law_whole : Stmt := top 18
theorem S__law_whole : FnScope (["found"] : List Str) ["found"] (defScope s__law_whole) := ⟨rfl, rfl, rfl, by decide +kernel, rfl, by decide +kernel, by decide +kernel⟩
theorem C__law_whole : ckSs (["found"] : List Str) (defScope s__law_whole) false B__law_whole (defBody s__law_whole) = true := by decide +kernel
abbrev s__law_common : Stmt := top 19
theorem S__law_common : FnScope (["one", "other"] : List Str) ["one", "other"] (defScope s__law_common) := ⟨rfl, rfl, rfl, by decide +kernel, rfl, by decide +kernel, by decide +kernel⟩
theorem C__law_common : ckSs (["one", "other"] : List Str) (defScope s__law_common) false B__law_common (defBody s__law_common) = true := by decide +kernel
abbrev s__law_lowest : Stmt := top 20
theorem S__law_lowest : FnScope (["found"] : List Str) ["found"] (defScope s__law_lowest) := ⟨rfl, rfl, rfl, by decide +kernel, rfl, by decide +kernel, by decide +kernel⟩
theorem C__law_lowest : ckSs (["found"] : List Str) (defScope s__law_lowest) false B__law_lowest (defBody s__law_lowest) = true := by decide +kernel
abbrev s__law_root : Stmt := top 21
theorem S__law_root : FnScope (["number", "found"] : List Str) ["number"] (defScope s__law_root) := ⟨rfl, rfl, rfl, by decide +kernel, rfl, by decide +kernel, by decide +kernel⟩
theorem C__law_root : ckSs (["number", "found"] : List Str) (defScope s__law_root) false B__law_root (defBody s__law_root) = true := by decide +kernel
abbrev s__law_side : Stmt := top 22
theorem S__law_side : FnScope (["number"] : List Str) ["number"] (defScope s__law_side) := ⟨rfl, rfl, rfl, by decide +kernel, rfl, by decide +kernel, by decide +kernel⟩
theorem C__law_side : ckSs (["number"] : List Str) (defScope s__law_side) true B__law_side (defBody s__law_side) = true := by decide +kernel
abbrev s__law_sign : Stmt := top 23
theorem S__law_sign : FnScope (["whole", "many", "under", "more", "lower", "most", "scale", "left", "right", "middle"] : List Str) ["whole", "many", "under", "more", "lower"] (defScope s__law_sign) := ⟨rfl, rfl, rfl, by decide +kernel, rfl, by decide +kernel, by decide +kernel⟩
theorem C__law_sign : ckSs (["whole", "many", "under", "more", "lower", "most", "scale", "left", "right", "middle"] : List Str) (defScope s__law_sign) true B__law_sign (defBody s__law_sign) = true := by decide +kernel
abbrev s__law_order : Stmt := top 24
theorem S__law_order : FnScope (["one", "other", "p", "q", "r", "s", "t", "u", "v", "w"] : List Str) ["one", "other"] (defScope s__law_order) := ⟨rfl, rfl, rfl, by decide +kernel, rfl, by decide +kernel, by decide +kernel⟩
theorem C__law_order : ckSs (["one", "other", "p", "q", "r", "s", "t", "u", "v", "w"] : List Str) (defScope s__law_order) true B__law_order (defBody s__law_order) = true := by decide +kernel
abbrev s__law_single : Stmt := top 25
theorem S__law_single : FnScope (["numbers", "most", "p", "q", "r", "s"] : List Str) ["numbers"] (defScope s__law_single) := ⟨rfl, rfl, rfl, by decide +kernel, rfl, by decide +kernel, by decide +kernel⟩
theorem C__law_single : ckSs (["numbers", "most", "p", "q", "r", "s"] : List Str) (defScope s__law_single) false B__law_single (defBody s__law_single) = true := by decide +kernel
abbrev s__law_beside : Stmt := top 26
theorem S__law_beside : FnScope (["one", "numbers", "way", "by", "p", "q", "r", "s", "root"] : List Str) ["one", "numbers"] (defScope s__law_beside) := ⟨rfl, rfl, rfl, by decide +kernel, rfl, by decide +kernel, by decide +kernel⟩
theorem C__law_beside : ckSs (["one", "numbers", "way", "by", "p", "q", "r", "s", "root"] : List Str) (defScope s__law_beside) false B__law_beside (defBody s__law_beside) = true := by decide +kernel
abbrev s__law_pair : Stmt := top 27
theorem S__law_pair : FnScope (["cell", "numbers", "one"] : List Str) ["cell"] (defScope s__law_pair) := ⟨rfl, rfl, rfl, by decide +kernel, rfl, by decide +kernel, by decide +kernel⟩
theorem C__law_pair : ckSs (["cell", "numbers", "one"] : List Str) (defScope s__law_pair) false B__law_pair (defBody s__law_pair) = true := by decide +kernel
abbrev s__law_is_that : Stmt := top 28
theorem S__law_is_that : FnScope (["found", "number", "root", "p", "q", "r", "s"] : List Str) ["found", "number"] (defScope s__law_is_that) := ⟨rfl, rfl, rfl, by decide +kernel, rfl, by decide +kernel, by decide +kernel⟩
theorem C__law_is_that : ckSs (["found", "number", "root", "p", "q", "r", "s"] : List Str) (defScope s__law_is_that) false B__law_is_that (defBody s__law_is_that) = true := by decide +kernel
abbrev s__law_parted : Stmt := top 29
theorem S__law_parted : FnScope (["one", "other", "found", "amid"] : List Str) ["one", "other"] (defScope s__law_parted) := ⟨rfl, rfl, rfl, by decide +kernel, rfl, by decide +kernel, by decide +kernel⟩
theorem C__law_parted : ckSs (["one", "other", "found", "amid"] : List Str) (defScope s__law_parted) false B__law_parted (defBody s__law_parted) = true := by decide +kernel
abbrev s_law : Stmt := top 30
theorem S_law : FnScope (["script", "cell", "side", "one", "other", "p", "q", "r", "s", "found"] : List Str) ["script"] (defScope s_law) := ⟨rfl, rfl, rfl, by decide +kernel, rfl, by decide +kernel, by decide +kernel⟩
theorem C_law : ckSs (["script", "cell", "side", "one", "other", "p", "q", "r", "s", "found"] : List Str) (defScope s_law) false B_law (defBody s_law) = true := by decide +kernel
def pres : List String := ["LeashError", "NoRatio"]
def more : List He.Fa :=
  [.glo "is_whole", .glo "divisor", .glo "ratio", .glo "sign_of", .glo "sign_of_two", .glo "sign_of_three", .glo "root_order", .glo "whole_root", .glo "whole_below", .glo "root_between",
   .glo "_law_mixed", .glo "_law_numbers", .glo "_law_whole", .glo "_law_common", .glo "_law_lowest", .glo "_law_root", .glo "_law_side", .glo "_law_sign", .glo "_law_order", .glo "_law_single",
   .glo "_law_beside", .glo "_law_pair", .glo "_law_is_that", .glo "_law_parted", .glo "law"]
def tups : List (String × List Int) := []
def fas : List He.Fa := modFa pres ++ more
def fns : List He.DefD :=
  [dd "is_whole" s_is_whole [], dd "divisor" s_divisor [], dd "ratio" s_ratio [.int (1)], dd "sign_of" s_sign_of [], dd "sign_of_two" s_sign_of_two [], dd "sign_of_three" s_sign_of_three [],
   dd "root_order" s_root_order [], dd "whole_root" s_whole_root [], dd "whole_below" s_whole_below [], dd "root_between" s_root_between [], dd "_law_mixed" s__law_mixed [],
   dd "_law_numbers" s__law_numbers [], dd "_law_whole" s__law_whole [], dd "_law_common" s__law_common [], dd "_law_lowest" s__law_lowest [], dd "_law_root" s__law_root [],
   dd "_law_side" s__law_side [], dd "_law_sign" s__law_sign [], dd "_law_order" s__law_order [], dd "_law_single" s__law_single [], dd "_law_beside" s__law_beside [], dd "_law_pair" s__law_pair [],
   dd "_law_is_that" s__law_is_that [], dd "_law_parted" s__law_parted [], dd "law" s_law []]
abbrev RR : PySem.W.OpenRow := PySem.W.OpenLaw.row PySem.Challenge.rw_oneleash_k06_whole_roots_parted
abbrev hk : PySem.W.Hook := hookX 4 pres tups fas fns
def ob (s : PySem.W.SharedT) : He.AlD := obsXG 4 pres tups fas fns (HandSHeadRun.getT s)
theorem ob_eq (s : PySem.W.SharedT) : ob s = hk.obs s.abs := obsXG_eq (HandSHeadRun.getT_eq s)
def names0 : List Str := ["LeashError", "NoRatio", "is_whole", "divisor", "ratio", "sign_of", "sign_of_two", "sign_of_three", "root_order", "whole_root", "whole_below", "root_between", "_law_mixed", "_law_numbers", "_law_whole", "_law_common", "_law_lowest", "_law_root", "_law_side", "_law_sign"]
def names1 : List Str := ["_law_order", "_law_single", "_law_beside", "_law_pair", "_law_is_that", "_law_parted"]
def names : List Str := names0 ++ names1
theorem run (w : World) : HandSHeadRun.RunEq RR (PySem.W.view RR.prog [30]) hk ob 15000 names w := by
  intro os
  kernel_rfl
theorem facts {P : Program} {w : World} {K : PySem.W.Frag} {h : Heap} {mg : Str → Option Value} {f : Addr} (X : K.In h) (G : h.Ns mainGlobals mg) (hfa : mg ("law" : Str) = some (.ref f)) (cx : SaysX pres tups fas fns K) :
    ∃ fd : FuncData, (∀ (s : Shared) (v : Value), BindsTo s fd ⟨[v], []⟩ [("script", v)]) ∧ ∀ base : Heap, K.In base → base.Ns mainGlobals mg → FnOk P w K mg base (L2.CX P w) 7 f fd ["script"] (spF K mg F_law false 1) := by
  have c := cx.d
  have M : ModOk K mg := modOk (pres := pres) c cx.x (fun f hf => List.mem_append_left _ hf) X G
  have d_is_whole := defIn c X G 0 (x := Str.ofString "is_whole") rfl (List.mem_append_right _ (List.mem_of_getElem? (i := 0) rfl))
  have d_divisor := defIn c X G 1 (x := Str.ofString "divisor") rfl (List.mem_append_right _ (List.mem_of_getElem? (i := 1) rfl))
  have d_ratio := defIn c X G 2 (x := Str.ofString "ratio") rfl (List.mem_append_right _ (List.mem_of_getElem? (i := 2) rfl))
  have d_sign_of := defIn c X G 3 (x := Str.ofString "sign_of") rfl (List.mem_append_right _ (List.mem_of_getElem? (i := 3) rfl))
  have d_sign_of_two := defIn c X G 4 (x := Str.ofString "sign_of_two") rfl (List.mem_append_right _ (List.mem_of_getElem? (i := 4) rfl))
  have d_sign_of_three := defIn c X G 5 (x := Str.ofString "sign_of_three") rfl (List.mem_append_right _ (List.mem_of_getElem? (i := 5) rfl))
  have d_root_order := defIn c X G 6 (x := Str.ofString "root_order") rfl (List.mem_append_right _ (List.mem_of_getElem? (i := 6) rfl))
  have d_whole_root := defIn c X G 7 (x := Str.ofString "whole_root") rfl (List.mem_append_right _ (List.mem_of_getElem? (i := 7) rfl))
  have d_whole_below := defIn c X G 8 (x := Str.ofString "whole_below") rfl (List.mem_append_right _ (List.mem_of_getElem? (i := 8) rfl))
  have d_root_between := defIn c X G 9 (x := Str.ofString "root_between") rfl (List.mem_append_right _ (List.mem_of_getElem? (i := 9) rfl))
  have d__law_mixed := defIn c X G 10 (x := Str.ofString "_law_mixed") rfl (List.mem_append_right _ (List.mem_of_getElem? (i := 10) rfl))
  have d__law_numbers := defIn c X G 11 (x := Str.ofString "_law_numbers") rfl (List.mem_append_right _ (List.mem_of_getElem? (i := 11) rfl))
  have d__law_whole := defIn c X G 12 (x := Str.ofString "_law_whole") rfl (List.mem_append_right _ (List.mem_of_getElem? (i := 12) rfl))
  have d__law_common := defIn c X G 13 (x := Str.ofString "_law_common") rfl (List.mem_append_right _ (List.mem_of_getElem? (i := 13) rfl))
  have d__law_lowest := defIn c X G 14 (x := Str.ofString "_law_lowest") rfl (List.mem_append_right _ (List.mem_of_getElem? (i := 14) rfl))
  have d__law_root := defIn c X G 15 (x := Str.ofString "_law_root") rfl (List.mem_append_right _ (List.mem_of_getElem? (i := 15) rfl))
  have d__law_side := defIn c X G 16 (x := Str.ofString "_law_side") rfl (List.mem_append_right _ (List.mem_of_getElem? (i := 16) rfl))
  have d__law_sign := defIn c X G 17 (x := Str.ofString "_law_sign") rfl (List.mem_append_right _ (List.mem_of_getElem? (i := 17) rfl))
  have d__law_order := defIn c X G 18 (x := Str.ofString "_law_order") rfl (List.mem_append_right _ (List.mem_of_getElem? (i := 18) rfl))
  have d__law_single := defIn c X G 19 (x := Str.ofString "_law_single") rfl (List.mem_append_right _ (List.mem_of_getElem? (i := 19) rfl))
  have d__law_beside := defIn c X G 20 (x := Str.ofString "_law_beside") rfl (List.mem_append_right _ (List.mem_of_getElem? (i := 20) rfl))
  have d__law_pair := defIn c X G 21 (x := Str.ofString "_law_pair") rfl (List.mem_append_right _ (List.mem_of_getElem? (i := 21) rfl))
  have d__law_is_that := defIn c X G 22 (x := Str.ofString "_law_is_that") rfl (List.mem_append_right _ (List.mem_of_getElem? (i := 22) rfl))
  have d__law_parted := defIn c X G 23 (x := Str.ofString "_law_parted") rfl (List.mem_append_right _ (List.mem_of_getElem? (i := 23) rfl))
  have x_LeashError : ExT K mg "LeashError" := exT (pres := pres) c (fun f hf => List.mem_append_left _ hf) X G (by decide)
  have y_LeashError : TgT K mg "LeashError" (.exc "LeashError") := tgT_exc x_LeashError
  have x_NoRatio : ExT K mg "NoRatio" := exT (pres := pres) c (fun f hf => List.mem_append_left _ hf) X G (by decide)
  have y_NoRatio : TgT K mg "NoRatio" (.exc "NoRatio") := tgT_exc x_NoRatio
  obtain ⟨fd, F⟩ := c.def_ 24 (d := dd "law" s_law []) rfl
  have e := hfa.symm.trans (He.glo_ok X G (say c (List.mem_append_right _ (List.mem_of_getElem? (i := 24) rfl))))
  cases e
  have b := FunD.bindsA (ps := ["script"]) F fun _ _ _ _ _ _ us hl => match us, hl with | [_], _ => rfl
  refine ⟨fd, fun s v => b s [v] rfl, fun base _ _ => ?_⟩
  have t_is_whole : FnT P w K mg base 1 N_is_whole := fnT_mk (k := 0) d_is_whole M S_is_whole (fun f fd F => ⟨[], .nil, F.bindsN fun _ _ _ _ _ _ us hl => match us, hl with | [_], _ => rfl⟩) rfl (by
    unfold B_is_whole
    simp only [calSs, calS, calL, cal, isE, List.forall_mem_cons, List.forall_mem_nil, or_true, true_or, List.not_mem_nil, false_implies, implies_true, and_true, true_and]) C_is_whole
  have t_divisor : FnT P w K mg base 1 N_divisor := fnT_mk (k := 0) d_divisor M S_divisor (fun f fd F => ⟨[], .nil, F.bindsN fun _ _ _ _ _ _ us hl => match us, hl with | [_, _], _ => rfl⟩) rfl (by
    unfold B_divisor
    simp only [calSs, calS, calL, cal, isE, List.forall_mem_cons, List.forall_mem_nil, or_true, true_or, List.not_mem_nil, false_implies, implies_true, and_true, true_and]) C_divisor
  have t_ratio : FnT P w K mg base 2 N_ratio := fnT_mk (k := 1) d_ratio M S_ratio (fun f fd F => F.binds1 2 1 (by simp) rfl fun T kV doc pm an cdv ct us its h1 h2 => match us, its, h1, h2 with | [_, _], [_], _, _ => ⟨_, rfl, rfl⟩) rfl (by
    have h0 : FnT P w K mg base 1 N_is_whole := (t_is_whole.mono (by decide : 1 ≤ 1))
    have h1 : FnT P w K mg base 1 N_divisor := (t_divisor.mono (by decide : 1 ≤ 1))
    unfold B_ratio
    simp only [calSs, calS, calL, cal, isE, List.forall_mem_cons, List.forall_mem_nil, or_true, true_or, List.not_mem_nil, false_implies, implies_true, h0, h1, x_NoRatio, and_true, true_and]) C_ratio
  have t_sign_of : FnT P w K mg base 1 N_sign_of := fnT_mk (k := 0) d_sign_of M S_sign_of (fun f fd F => ⟨[], .nil, F.bindsN fun _ _ _ _ _ _ us hl => match us, hl with | [_], _ => rfl⟩) rfl (by
    unfold B_sign_of
    simp only [calSs, calS, calL, cal, isE, List.forall_mem_cons, List.forall_mem_nil, or_true, true_or, List.not_mem_nil, false_implies, implies_true, and_true, true_and]) C_sign_of
  have t_sign_of_two : FnT P w K mg base 2 N_sign_of_two := fnT_mk (k := 1) d_sign_of_two M S_sign_of_two (fun f fd F => ⟨[], .nil, F.bindsN fun _ _ _ _ _ _ us hl => match us, hl with | [_, _, _], _ => rfl⟩) rfl (by
    have h0 : FnT P w K mg base 1 N_sign_of := (t_sign_of.mono (by decide : 1 ≤ 1))
    unfold B_sign_of_two
    simp only [calSs, calS, calL, cal, isE, List.forall_mem_cons, List.forall_mem_nil, or_true, true_or, List.not_mem_nil, false_implies, implies_true, h0, and_true, true_and]) C_sign_of_two
  have t_sign_of_three : FnT P w K mg base 3 N_sign_of_three := fnT_mk (k := 2) d_sign_of_three M S_sign_of_three (fun f fd F => ⟨[], .nil, F.bindsN fun _ _ _ _ _ _ us hl => match us, hl with | [_, _, _, _, _], _ => rfl⟩) rfl (by
    have h0 : FnT P w K mg base 2 N_sign_of_two := (t_sign_of_two.mono (by decide : 2 ≤ 2))
    have h1 : FnT P w K mg base 2 N_sign_of := (t_sign_of.mono (by decide : 1 ≤ 2))
    unfold B_sign_of_three
    simp only [calSs, calS, calL, cal, isE, List.forall_mem_cons, List.forall_mem_nil, or_true, true_or, List.not_mem_nil, false_implies, implies_true, h0, h1, and_true, true_and]) C_sign_of_three
  have t_root_order : FnT P w K mg base 4 N_root_order := fnT_mk (k := 3) d_root_order M S_root_order (fun f fd F => ⟨[], .nil, F.bindsN fun _ _ _ _ _ _ us hl => match us, hl with | [_, _], _ => rfl⟩) rfl (by
    have h0 : FnT P w K mg base 3 N_sign_of_three := (t_sign_of_three.mono (by decide : 3 ≤ 3))
    unfold B_root_order
    simp only [calSs, calS, calL, cal, isE, List.forall_mem_cons, List.forall_mem_nil, or_true, true_or, List.not_mem_nil, false_implies, implies_true, h0, and_true, true_and]) C_root_order
  have t_whole_root : FnT P w K mg base 1 N_whole_root := fnT_mk (k := 0) d_whole_root M S_whole_root (fun f fd F => ⟨[], .nil, F.bindsN fun _ _ _ _ _ _ us hl => match us, hl with | [_], _ => rfl⟩) rfl (by
    unfold B_whole_root
    simp only [calSs, calS, calL, cal, isE, List.forall_mem_cons, List.forall_mem_nil, or_true, true_or, List.not_mem_nil, false_implies, implies_true, and_true, true_and]) C_whole_root
  have t_whole_below : FnT P w K mg base 2 N_whole_below := fnT_mk (k := 1) d_whole_below M S_whole_below (fun f fd F => ⟨[], .nil, F.bindsN fun _ _ _ _ _ _ us hl => match us, hl with | [_, _], _ => rfl⟩) rfl (by
    have h0 : FnT P w K mg base 1 N_whole_root := (t_whole_root.mono (by decide : 1 ≤ 1))
    unfold B_whole_below
    simp only [calSs, calS, calL, cal, isE, List.forall_mem_cons, List.forall_mem_nil, or_true, true_or, List.not_mem_nil, false_implies, implies_true, h0, and_true, true_and]) C_whole_below
  have t_root_between : FnT P w K mg base 5 N_root_between := fnT_mk (k := 4) d_root_between M S_root_between (fun f fd F => ⟨[], .nil, F.bindsN fun _ _ _ _ _ _ us hl => match us, hl with | [_, _], _ => rfl⟩) rfl (by
    have h0 : FnT P w K mg base 4 N_root_order := (t_root_order.mono (by decide : 4 ≤ 4))
    have h1 : FnT P w K mg base 4 N_whole_root := (t_whole_root.mono (by decide : 1 ≤ 4))
    have h2 : FnT P w K mg base 4 N_ratio := (t_ratio.mono (by decide : 2 ≤ 4))
    have h3 : FnT P w K mg base 4 N_whole_below := (t_whole_below.mono (by decide : 2 ≤ 4))
    unfold B_root_between
    simp only [calSs, calS, calL, cal, isE, List.forall_mem_cons, List.forall_mem_nil, or_true, true_or, List.not_mem_nil, false_implies, implies_true, h0, h1, h2, h3, and_true, true_and]) C_root_between
  have t__law_mixed : FnT P w K mg base 1 N__law_mixed := fnT_mk (k := 0) d__law_mixed M S__law_mixed (fun f fd F => ⟨[], .nil, F.bindsN fun _ _ _ _ _ _ us hl => match us, hl with | [_, _], _ => rfl⟩) rfl (by
    unfold B__law_mixed
    simp only [calSs, calS, calL, cal, isE, List.forall_mem_cons, List.forall_mem_nil, or_true, true_or, List.not_mem_nil, false_implies, implies_true, and_true, true_and]) C__law_mixed
  have t__law_numbers : FnT P w K mg base 2 N__law_numbers := fnT_mk (k := 1) d__law_numbers M S__law_numbers (fun f fd F => ⟨[], .nil, F.bindsN fun _ _ _ _ _ _ us hl => match us, hl with | [_, _, _], _ => rfl⟩) rfl (by
    have h0 : FnT P w K mg base 1 N__law_mixed := (t__law_mixed.mono (by decide : 1 ≤ 1))
    unfold B__law_numbers
    simp only [calSs, calS, calL, cal, isE, List.forall_mem_cons, List.forall_mem_nil, or_true, true_or, List.not_mem_nil, false_implies, implies_true, h0, and_true, true_and]) C__law_numbers
  have t__law_whole : FnT P w K mg base 1 N__law_whole := fnT_mk (k := 0) d__law_whole M S__law_whole (fun f fd F => ⟨[], .nil, F.bindsN fun _ _ _ _ _ _ us hl => match us, hl with | [_], _ => rfl⟩) rfl (by
    unfold B__law_whole
    simp only [calSs, calS, calL, cal, isE, List.forall_mem_cons, List.forall_mem_nil, or_true, true_or, List.not_mem_nil, false_implies, implies_true, and_true, true_and]) C__law_whole
  have t__law_common : FnT P w K mg base 1 N__law_common := fnT_mk (k := 0) d__law_common M S__law_common (fun f fd F => ⟨[], .nil, F.bindsN fun _ _ _ _ _ _ us hl => match us, hl with | [_, _], _ => rfl⟩) rfl (by
    unfold B__law_common
    simp only [calSs, calS, calL, cal, isE, List.forall_mem_cons, List.forall_mem_nil, or_true, true_or, List.not_mem_nil, false_implies, implies_true, and_true, true_and]) C__law_common
  have t__law_lowest : FnT P w K mg base 2 N__law_lowest := fnT_mk (k := 1) d__law_lowest M S__law_lowest (fun f fd F => ⟨[], .nil, F.bindsN fun _ _ _ _ _ _ us hl => match us, hl with | [_], _ => rfl⟩) rfl (by
    have h0 : FnT P w K mg base 1 N__law_whole := (t__law_whole.mono (by decide : 1 ≤ 1))
    have h1 : FnT P w K mg base 1 N__law_common := (t__law_common.mono (by decide : 1 ≤ 1))
    unfold B__law_lowest
    simp only [calSs, calS, calL, cal, isE, List.forall_mem_cons, List.forall_mem_nil, or_true, true_or, List.not_mem_nil, false_implies, implies_true, h0, h1, and_true, true_and]) C__law_lowest
  have t__law_root : FnT P w K mg base 1 N__law_root := fnT_mk (k := 0) d__law_root M S__law_root (fun f fd F => ⟨[], .nil, F.bindsN fun _ _ _ _ _ _ us hl => match us, hl with | [_], _ => rfl⟩) rfl (by
    unfold B__law_root
    simp only [calSs, calS, calL, cal, isE, List.forall_mem_cons, List.forall_mem_nil, or_true, true_or, List.not_mem_nil, false_implies, implies_true, and_true, true_and]) C__law_root
  have t__law_side : FnT P w K mg base 1 N__law_side := fnT_mk (k := 0) d__law_side M S__law_side (fun f fd F => ⟨[], .nil, F.bindsN fun _ _ _ _ _ _ us hl => match us, hl with | [_], _ => rfl⟩) rfl (by
    unfold B__law_side
    simp only [calSs, calS, calL, cal, isE, List.forall_mem_cons, List.forall_mem_nil, or_true, true_or, List.not_mem_nil, false_implies, implies_true, and_true, true_and]) C__law_side
  have t__law_sign : FnT P w K mg base 2 N__law_sign := fnT_mk (k := 1) d__law_sign M S__law_sign (fun f fd F => ⟨[], .nil, F.bindsN fun _ _ _ _ _ _ us hl => match us, hl with | [_, _, _, _, _], _ => rfl⟩) rfl (by
    have h0 : FnT P w K mg base 1 N__law_root := (t__law_root.mono (by decide : 1 ≤ 1))
    have h1 : FnT P w K mg base 1 N__law_side := (t__law_side.mono (by decide : 1 ≤ 1))
    unfold B__law_sign
    simp only [calSs, calS, calL, cal, isE, List.forall_mem_cons, List.forall_mem_nil, or_true, true_or, List.not_mem_nil, false_implies, implies_true, h0, h1, and_true, true_and]) C__law_sign
  have t__law_order : FnT P w K mg base 3 N__law_order := fnT_mk (k := 2) d__law_order M S__law_order (fun f fd F => ⟨[], .nil, F.bindsN fun _ _ _ _ _ _ us hl => match us, hl with | [_, _], _ => rfl⟩) rfl (by
    have h0 : FnT P w K mg base 2 N__law_sign := (t__law_sign.mono (by decide : 2 ≤ 2))
    unfold B__law_order
    simp only [calSs, calS, calL, cal, isE, List.forall_mem_cons, List.forall_mem_nil, or_true, true_or, List.not_mem_nil, false_implies, implies_true, h0, and_true, true_and]) C__law_order
  have t__law_single : FnT P w K mg base 1 N__law_single := fnT_mk (k := 0) d__law_single M S__law_single (fun f fd F => ⟨[], .nil, F.bindsN fun _ _ _ _ _ _ us hl => match us, hl with | [_], _ => rfl⟩) rfl (by
    unfold B__law_single
    simp only [calSs, calS, calL, cal, isE, List.forall_mem_cons, List.forall_mem_nil, or_true, true_or, List.not_mem_nil, false_implies, implies_true, and_true, true_and]) C__law_single
  have t__law_beside : FnT P w K mg base 2 N__law_beside := fnT_mk (k := 1) d__law_beside M S__law_beside (fun f fd F => ⟨[], .nil, F.bindsN fun _ _ _ _ _ _ us hl => match us, hl with | [_, _], _ => rfl⟩) rfl (by
    have h0 : FnT P w K mg base 1 N__law_side := (t__law_side.mono (by decide : 1 ≤ 1))
    have h1 : FnT P w K mg base 1 N__law_root := (t__law_root.mono (by decide : 1 ≤ 1))
    unfold B__law_beside
    simp only [calSs, calS, calL, cal, isE, List.forall_mem_cons, List.forall_mem_nil, or_true, true_or, List.not_mem_nil, false_implies, implies_true, h0, h1, and_true, true_and]) C__law_beside
  have t__law_pair : FnT P w K mg base 3 N__law_pair := fnT_mk (k := 2) d__law_pair M S__law_pair (fun f fd F => ⟨[], .nil, F.bindsN fun _ _ _ _ _ _ us hl => match us, hl with | [_], _ => rfl⟩) rfl (by
    have h0 : FnT P w K mg base 2 N__law_numbers := (t__law_numbers.mono (by decide : 2 ≤ 2))
    have h1 : FnT P w K mg base 2 N__law_single := (t__law_single.mono (by decide : 1 ≤ 2))
    have h2 : FnT P w K mg base 2 N__law_beside := (t__law_beside.mono (by decide : 2 ≤ 2))
    unfold B__law_pair
    simp only [calSs, calS, calL, cal, isE, List.forall_mem_cons, List.forall_mem_nil, or_true, true_or, List.not_mem_nil, false_implies, implies_true, h0, h1, h2, and_true, true_and]) C__law_pair
  have t__law_is_that : FnT P w K mg base 2 N__law_is_that := fnT_mk (k := 1) d__law_is_that M S__law_is_that (fun f fd F => ⟨[], .nil, F.bindsN fun _ _ _ _ _ _ us hl => match us, hl with | [_, _], _ => rfl⟩) rfl (by
    have h0 : FnT P w K mg base 1 N__law_root := (t__law_root.mono (by decide : 1 ≤ 1))
    unfold B__law_is_that
    simp only [calSs, calS, calL, cal, isE, List.forall_mem_cons, List.forall_mem_nil, or_true, true_or, List.not_mem_nil, false_implies, implies_true, h0, and_true, true_and]) C__law_is_that
  have t__law_parted : FnT P w K mg base 6 N__law_parted := fnT_mk (k := 5) d__law_parted M S__law_parted (fun f fd F => ⟨[], .nil, F.bindsN fun _ _ _ _ _ _ us hl => match us, hl with | [_, _], _ => rfl⟩) rfl (by
    have h0 : FnT P w K mg base 5 N_root_between := (t_root_between.mono (by decide : 5 ≤ 5))
    have h1 : FnT P w K mg base 5 N__law_lowest := (t__law_lowest.mono (by decide : 2 ≤ 5))
    have h2 : FnT P w K mg base 5 N__law_order := (t__law_order.mono (by decide : 3 ≤ 5))
    unfold B__law_parted
    simp only [calSs, calS, calL, cal, isE, List.forall_mem_cons, List.forall_mem_nil, or_true, true_or, List.not_mem_nil, false_implies, implies_true, h0, h1, h2, and_true, true_and]) C__law_parted
  exact fn_ok (k := 6) F M S_law (by
    have h0 : FnT P w K mg base 6 N__law_pair := (t__law_pair.mono (by decide : 3 ≤ 6))
    have h1 : FnT P w K mg base 6 N__law_order := (t__law_order.mono (by decide : 3 ≤ 6))
    have h2 : FnT P w K mg base 6 N__law_parted := (t__law_parted.mono (by decide : 6 ≤ 6))
    have h3 : FnT P w K mg base 6 N__law_root := (t__law_root.mono (by decide : 1 ≤ 6))
    have h4 : FnT P w K mg base 6 N_root_between := (t_root_between.mono (by decide : 5 ≤ 6))
    have h5 : FnT P w K mg base 6 N__law_lowest := (t__law_lowest.mono (by decide : 2 ≤ 6))
    have h6 : FnT P w K mg base 6 N__law_is_that := (t__law_is_that.mono (by decide : 2 ≤ 6))
    unfold B_law
    simp only [calSs, calS, calL, cal, isE, List.forall_mem_cons, List.forall_mem_nil, or_true, true_or, List.not_mem_nil, false_implies, implies_true, h0, h1, h2, h3, h4, h5, h6, and_true, true_and]) C_law
end OL.LW
open PySem PySem.W PySem.Calls PyProof.Rows
set_option maxRecDepth 100000 in
set_option maxHeartbeats 0 in
theorem PySem.Challenge.cw_oneleash_k06_whole_roots_parted_holds : PySem.Challenge.rw_oneleash_k06_whole_roots_parted.Holds := by
  w_on; o_law
  refine HandSHeadRun.head_any (r := OpenLaw.row PySem.Challenge.rw_oneleash_k06_whole_roots_parted) (q := view (OpenLaw.row PySem.Challenge.rw_oneleash_k06_whole_roots_parted).prog [30]) (H := OL.LW.hk) (ob := OL.LW.ob) (M := 15000) (loose := OL.LW.names) (d := HandSHeadRun.topDef (OpenLaw.row PySem.Challenge.rw_oneleash_k06_whole_roots_parted).prog 30) (kwd := []) OL.LW.ob_eq
    (by kernel_rfl) (fun s => by kernel_rfl) OL.LW.run (by kernel_rfl) (by kernel_rfl) (by kernel_rfl) (by rfl) (by first | assumption | decide +kernel) (by decide +kernel) ⟨rfl, rfl, rfl, rfl, rfl, by decide +kernel⟩ ?hw ?hc
  case hw => w_witness2
  case hc =>
    refine OL.walk (l := PySem.Challenge.rw_oneleash_k06_whole_roots_parted) (k := 7) OL.LW.law_true rfl (by kernel_rfl) ⟨rfl, by decide, by decide⟩ ?F
    intro w mg fa h Y G hmg0
    obtain ⟨K, KX, c⟩ := Y
    have hmg : mg ("law" : PySem.Str) = some (.ref fa) := by
      have e : (HandSHeadRun.topDef (OpenLaw.row PySem.Challenge.rw_oneleash_k06_whole_roots_parted).prog 30).name = ("law" : PySem.Str) := by kernel_rfl
      rw [← e]
      exact hmg0
    obtain ⟨fd, hb, hF⟩ := OL.LW.facts (P := (PySem.Challenge.rw_oneleash_k06_whole_roots_parted).prog) (w := w) KX G hmg c
    exact ⟨K, fd, KX, hb, hF⟩
