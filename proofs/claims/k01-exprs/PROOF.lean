import PyProof.Rows.All
import Wide.All
import OpenK.AllK
import Wide.FinOn
import HandS.ForMost
import HandS.Deep
import HandS.TupMul
import HandS.TupAny
import HandS.RaiseMore
import HandS.More
import HandS.Wide
import HandS.Style
import HandS.TryOnly
import HandS.Small
import HandS.Strs
import HandS.Text
import HandS.SortKw
import KE.DatumOrd
import HandS.Head0
import HandS.Head1
import HandS.Head2
import HandS.HeadEnd
import HandS.HeadHook1
import HandS.HeadHook2
import PyProof.ReprLen
import PyProof.FitsInt
import PySem.Challenge.RW_haltstoreys_k01_expr_values
set_option Elab.async false
set_option linter.all false
set_option maxRecDepth 100000
namespace Mv

/-- a key of a dict -/
abbrev KD := Sum Int (List Nat)

/-- data that nobody changes any more -/
inductive D where
  | non | bl (b : Bool) | int (i : Int) | str (s : List Nat)
  | tup (l : List D) | lst (l : List D) | dic (l : List (KD × D)) | scr (l : List Int)
  deriving Inhabited

/-- what a name may hold: data, or a list or dict that it alone owns -/
inductive RV where
  | imm (d : D) | oL (l : List RV) | oD (l : List (KD × D))
  deriving Inhabited

abbrev Slot := Option RV
abbrev Loc := List Slot

mutual
def fz : RV → D
  | .imm d => d
  | .oL l => .lst (fzs l)
  | .oD l => .dic l
def fzs : List RV → List D
  | [] => []
  | x :: r => fz x :: fzs r
end
theorem fzs_map : ∀ l : List RV, fzs l = l.map fz
  | [] => rfl
  | x :: r => by rw [fzs, fzs_map r]; rfl

def imm? : RV → Option D
  | .imm d => some d
  | _ => none
def imms : List RV → Option (List D)
  | [] => some []
  | x :: r => match imm? x, imms r with
    | some d, some ds => some (d :: ds)
    | _, _ => none
/-- a look at a value, no name of it is taken -/
def vw : RV → Option D
  | .imm d => some d
  | .oL l => (imms l).map D.lst
  | .oD l => some (.dic l)
@[simp] theorem imms_map (ds : List D) : imms (ds.map RV.imm) = some ds := by
  induction ds with
  | nil => rfl
  | cons d r ih => simp [imms, imm?, ih]
theorem imms_eq : ∀ {l : List RV} {ds : List D}, imms l = some ds → l = ds.map RV.imm
  | [], ds, h => by simp [imms] at h; subst h; rfl
  | x :: r, ds, h => by
    unfold imms at h
    cases hx : imm? x with
    | none => rw [hx] at h; simp at h
    | some d =>
      cases hr : imms r with
      | none => rw [hx, hr] at h; simp at h
      | some es =>
        rw [hx, hr] at h
        simp at h
        subst h
        rw [imms_eq hr]
        cases x with
        | imm d' => simp [imm?] at hx; subst hx; rfl
        | oL _ => simp [imm?] at hx
        | oD _ => simp [imm?] at hx

mutual
def D.nd : D → Bool
  | .dic _ => false
  | .scr _ => false
  | .tup l => nds l
  | .lst l => nds l
  | .str s => s.all fun c => decide (c < 1114112)
  | _ => true
def nds : List D → Bool
  | [] => true
  | d :: r => d.nd && nds r
end
mutual
def D.dep : D → Nat
  | .tup l => deps l + 1
  | .lst l => deps l + 1
  | _ => 0
def deps : List D → Nat
  | [] => 0
  | d :: r => max d.dep (deps r)
end
mutual
def deq : D → D → Bool
  | .non, .non => true
  | .bl a, .bl b => a == b
  | .bl a, .int j => (if a then 1 else 0) == j
  | .int i, .bl b => i == (if b then 1 else 0)
  | .int i, .int j => i == j
  | .str x, .str y => x == y
  | .lst xs, .lst ys => deqs xs ys
  | .tup xs, .tup ys => deqs xs ys
  | _, _ => false
def deqs : List D → List D → Bool
  | [], [] => true
  | x :: xs, y :: ys => deq x y && deqs xs ys
  | _, _ => false
end
/-- what may be compared: no dict in it, not too deep -/
def flatD : D → Bool
  | .non => true
  | .bl _ => true
  | .int _ => true
  | .str _ => true
  | _ => false
def okEq (d : D) : Bool := d.nd && decide (d.dep ≤ 60)
/-- two plain things of which == is asked without a further look -/
def scalD : D → D → Bool
  | .non, .non => true | .non, .int _ => true | .int _, .non => true | .non, .bl _ => true | .bl _, .non => true | .non, .str _ => true | .str _, .non => true
  | .int _, .int _ => true | .bl _, .bl _ => true | .str _, .str _ => true
  | .int _, .str _ => true | .str _, .int _ => true | .bl _, .str _ => true | .str _, .bl _ => true
  | _, _ => false
def eqOk (a b : D) : Bool := scalD a b || (okEq a && okEq b)
def inOk (d : D) (l : List D) : Bool := (flatD d && l.all flatD) || (okEq d && okEq (.lst l))

def atD {α : Type} (xs : List α) (i : Int) : Option α :=
  if 0 ≤ i then xs[i.toNat]? else if -(xs.length : Int) ≤ i then xs[(i + xs.length).toNat]? else none
def cutIx (n d : Nat) : Option Int → Nat
  | none => d
  | some v => if v < 0 then (v + n).toNat else min v.toNat n
def cut {α : Type} (xs : List α) (lo hi : Option Int) : List α :=
  (xs.drop (cutIx xs.length 0 lo)).take (cutIx xs.length xs.length hi - cutIx xs.length 0 lo)

def dget (l : List (KD × D)) (k : KD) : Option D := (l.find? fun p => decide (p.1 = k)).map (·.2)
def dput (l : List (KD × D)) (k : KD) (v : D) : List (KD × D) :=
  if l.any (fun p => decide (p.1 = k)) = true then l.map (fun p => if p.1 = k then (p.1, v) else p) else l ++ [(k, v)]
def keyOf : D → Option KD
  | .int i => some (.inl i)
  | .str s => some (.inr s)
  | _ => none
def ofKey : KD → D
  | .inl i => .int i
  | .inr s => .str s

abbrev LINE : Nat := PySem.sizeLine

inductive Op where
  | add | sub | mul | fdiv | mod | pow | neg
  | eq | ne | lt | le | gt | ge | isN | notN | inn | notIn
  | item | slice (lo hi : Bool)
  | len | abs | int1 | str1 | sum | tuple | list | repr | all | any
  | max | min | maxd | split | indexT | indexL
  deriving DecidableEq

def small64 (i : Int) : Prop := -(2 ^ 64) < i ∧ i < 2 ^ 64
instance (i : Int) : Decidable (small64 i) := inferInstanceAs (Decidable (_ ∧ _))

def apAdd : D → D → Option RV
  | .int i, .int j => some (.imm (.int (i + j)))
  | .str s, .str t => if s.length + t.length ≤ LINE then some (.imm (.str (s ++ t))) else none
  | .tup l, .tup m => if l.length + m.length ≤ LINE then some (.imm (.tup (l ++ m))) else none
  | .lst l, .lst m => if l.length + m.length ≤ LINE then some (.oL ((l ++ m).map .imm)) else none
  | _, _ => none
def apSub : D → D → Option RV
  | .int i, .int j => some (.imm (.int (i - j)))
  | _, _ => none
noncomputable def okM (i j : Int) : Bool := @decide (i.natAbs.log2 + j.natAbs.log2 < 1000000) (Classical.propDecidable _)
noncomputable def apMul : D → D → Option RV
  | .int i, .int j => if small64 i ∨ small64 j then some (.imm (.int (i * j))) else if okM i j = true then some (.imm (.int (i * j))) else none
  | _, _ => none
def apFdiv : D → D → Option RV
  | .int i, .int j => if 0 < j ∧ j < 1073741824 then some (.imm (.int (i / j))) else none
  | _, _ => none
def apMod : D → D → Option RV
  | .int i, .int j => if 0 < j then some (.imm (.int (i % j))) else none
  | _, _ => none
def apPow : D → D → Option RV
  | .int i, .int j => if 0 ≤ j ∧ j ≤ 1000000 ∧ i.natAbs < 2 ^ 64 then some (.imm (.int (i ^ j.toNat))) else none
  | _, _ => none
def apNeg : D → Option RV
  | .int i => some (.imm (.int (-i)))
  | _ => none
def bool (b : Bool) : RV := .imm (.bl b)
def flatDic (l : List (KD × D)) : Bool := l.all fun p => flatD p.2
open Classical in
/-- two dicts that are the same -/
noncomputable def apEqDic : D → D → Option RV
  | .dic l, .dic m => if l = m ∧ (l.map (·.1)).Nodup ∧ flatDic l = true then some (bool true) else none
  | _, _ => none
noncomputable def apEq (a b : D) : Option RV := if eqOk a b = true then some (bool (deq a b)) else apEqDic a b
def apNe (a b : D) : Option RV := if eqOk a b = true then some (bool (!deq a b)) else none
def apLt : D → D → Option RV
  | .int i, .int j => some (bool (decide (i < j)))
  | .str s, .str t => some (bool (decide (s < t)))
  | _, _ => none
def apLe : D → D → Option RV
  | .int i, .int j => some (bool (decide (i ≤ j)))
  | _, _ => none
def apGt : D → D → Option RV
  | .int i, .int j => some (bool (decide (j < i)))
  | _, _ => none
def apGe : D → D → Option RV
  | .int i, .int j => some (bool (decide (j ≤ i)))
  | _, _ => none
def isNon : D → Bool
  | .non => true
  | _ => false
def isIn : D → D → Option Bool
  | .str [c], .str t => some (t.contains c)
  | d, .lst l => if inOk d l = true then some (l.any fun z => deq z d) else none
  | d, .tup l => if inOk d l = true then some (l.any fun z => deq z d) else none
  | d, .dic l => (keyOf d).map fun k => (dget l k).isSome
  | _, _ => none
def apItem : D → D → Option RV
  | .tup l, .int i => (atD l i).map .imm
  | .lst l, .int i => (atD l i).map .imm
  | .str s, .int i => if s.length ≤ LINE then (atD s i).map fun c => .imm (.str [c]) else none
  | .dic l, d => (keyOf d).bind fun k => (dget l k).map .imm
  | _, _ => none
def part : D → Option (Option Int)
  | .int i => some (some i)
  | _ => none
def apSlice (lo hi : Option Int) : D → Option RV
  | .tup l => some (.imm (.tup (cut l lo hi)))
  | .lst l => some (.oL ((cut l lo hi).map .imm))
  | .str s => if s.length ≤ LINE then some (.imm (.str (cut s lo hi))) else none
  | .scr l => some (.oL ((cut l lo hi).map fun i => .imm (.int i)))
  | _ => none
def apLen : D → Option RV
  | .tup l => some (.imm (.int l.length))
  | .lst l => some (.imm (.int l.length))
  | .str s => if s.length ≤ LINE then some (.imm (.int s.length)) else none
  | .dic l => some (.imm (.int l.length))
  | _ => none
def apAbs : D → Option RV
  | .int i => some (.imm (.int (if i < 0 then -i else i)))
  | _ => none
def apInt1 : D → Option RV
  | .int i => some (.imm (.int i))
  | .bl b => some (.imm (.int (if b then 1 else 0)))
  | _ => none
/-- the signs of a number's text -/
def numText (i : Int) : List Nat := (toString i).toList.map Char.toNat
def apStr1 : D → Option RV
  | .int i => if i.natAbs.log2 < 1920 then some (.imm (.str (numText i))) else none
  | _ => none
def ints? : List D → Option (List Int)
  | [] => some []
  | .int i :: r => (ints? r).map (i :: ·)
  | _ => none
def bls? : List D → Option (List Bool)
  | [] => some []
  | .bl i :: r => (bls? r).map (i :: ·)
  | _ => none
def apSum : D → Option RV
  | .lst l => (ints? l).map fun ns => .imm (.int ns.sum)
  | _ => none
def apTuple : D → Option RV
  | .lst l => some (.imm (.tup l))
  | .tup l => some (.imm (.tup l))
  | _ => none
def apList : D → Option RV
  | .lst l => some (.oL (l.map .imm))
  | .tup l => some (.oL (l.map .imm))
  | _ => none
def apAll : D → Option RV
  | .lst l => (bls? l).map fun bs => bool (bs.all id)
  | _ => none
def apAny : D → Option RV
  | .lst l => (bls? l).map fun bs => bool (bs.any id)
  | _ => none

def toStr (s : List Nat) : PySem.Str := ⟨s.toArray⟩
mutual
def toP : D → PySem.PyData
  | .non => .none
  | .bl b => .bool b
  | .int i => .int i
  | .str s => .str (toStr s)
  | .tup l => .tuple (toPs l)
  | .lst l => .list (toPs l)
  | .dic _ => .none
  | .scr _ => .none
def toPs : List D → List PySem.PyData
  | [] => []
  | d :: r => toP d :: toPs r
end
def shown (d : D) : List Nat := (toP d).shown.cps.toList
mutual
/-- repr may be asked: no dict, the numbers not too long -/
def D.sh : D → Bool
  | .dic _ => false
  | .scr _ => false
  | .int i => decide (i.natAbs.log2 < 1920)
  | .tup l => shs l
  | .lst l => shs l
  | _ => true
def shs : List D → Bool
  | [] => true
  | d :: r => d.sh && shs r
end
def keyP : KD → PySem.PyData
  | .inl i => .int i
  | .inr s => .str (toStr s)
def dicP (l : List (KD × D)) : PySem.PyData := .dict (l.map fun p => (keyP p.1, toP p.2))
def shownDic (l : List (KD × D)) : List Nat := (dicP l).shown.cps.toList
def keySh : KD → Bool
  | .inl i => decide (i.natAbs.log2 < 1920)
  | .inr _ => true
def shDic (l : List (KD × D)) : Bool := l.all fun p => keySh p.1 && (flatD p.2 && p.2.sh)
def apReprDic : D → Option RV
  | .dic l => if shDic l = true ∧ (shownDic l).length ≤ LINE then some (.imm (.str (shownDic l))) else none
  | _ => none
def apRepr (d : D) : Option RV := if d.sh && decide (d.dep ≤ 60) && decide ((shown d).length ≤ LINE) then some (.imm (.str (shown d))) else apReprDic d

open PySem PySem.Spec PyProof.Rows L2 in
def splitD (s t : List Nat) : List (List Nat) := (Txt.split (toStr s) (toStr t)).map fun z => z.cps.toList
def apSplit : D → D → Option RV
  | .str s, .str t => if t ≠ [] ∧ s.length + 2 ≤ LINE then some (.oL ((splitD s t).map fun z => .imm (.str z))) else none
  | _, _ => none
def strs? : List D → Option (List (List Nat))
  | [] => some []
  | .str i :: r => (strs? r).map (i :: ·)
  | _ => none
def apIndexT : D → D → Option RV
  | .tup l, .str x => (strs? l).bind fun ys => if x ∈ ys then some (.imm (.int (ys.idxOf x : Nat))) else none
  | _, _ => none
def apIndexL : D → D → Option RV
  | .lst l, d => if okEq d = true ∧ okEq (.lst l) = true then (l.findIdx? fun z => deq z d).map fun i => .imm (.int (i : Nat)) else none
  | _, _ => none
def mxI (x : Int) (l : List Int) : Int := l.foldl (fun a y => if a < y then y else a) x
def mxd (d : Int) : List Int → Int
  | [] => d
  | x :: r => mxI x r
def apMax : D → D → Option RV
  | .int i, .int j => some (.imm (.int (if j > i then j else i)))
  | _, _ => none
def apMin : D → D → Option RV
  | .int i, .int j => some (.imm (.int (if j < i then j else i)))
  | _, _ => none
def apMaxd : D → D → Option RV
  | .lst l, .int d => (ints? l).map fun ns => .imm (.int (mxd d ns))
  | _, _ => none

noncomputable def Op.ap : Op → List D → Option RV
  | .add, [a, b] => apAdd a b
  | .sub, [a, b] => apSub a b
  | .mul, [a, b] => apMul a b
  | .fdiv, [a, b] => apFdiv a b
  | .mod, [a, b] => apMod a b
  | .pow, [a, b] => apPow a b
  | .neg, [a] => apNeg a
  | .eq, [a, b] => apEq a b
  | .ne, [a, b] => apNe a b
  | .lt, [a, b] => apLt a b
  | .le, [a, b] => apLe a b
  | .gt, [a, b] => apGt a b
  | .ge, [a, b] => apGe a b
  | .isN, [a] => some (bool (isNon a))
  | .notN, [a] => some (bool (!isNon a))
  | .inn, [a, b] => (isIn a b).map bool
  | .notIn, [a, b] => (isIn a b).map fun c => bool (!c)
  | .item, [a, b] => apItem a b
  | .slice false false, [a] => apSlice none none a
  | .slice true false, [a, l] => (part l).bind fun lo => apSlice lo none a
  | .slice false true, [a, h] => (part h).bind fun hi => apSlice none hi a
  | .slice true true, [a, l, h] => (part l).bind fun lo => (part h).bind fun hi => apSlice lo hi a
  | .len, [a] => apLen a
  | .abs, [a] => apAbs a
  | .int1, [a] => apInt1 a
  | .str1, [a] => apStr1 a
  | .sum, [a] => apSum a
  | .tuple, [a] => apTuple a
  | .list, [a] => apList a
  | .repr, [a] => apRepr a
  | .all, [a] => apAll a
  | .any, [a] => apAny a
  | .max, [a, b] => apMax a b
  | .min, [a, b] => apMin a b
  | .maxd, [a, b] => apMaxd a b
  | .split, [a, b] => apSplit a b
  | .indexT, [a, b] => apIndexT a b
  | .indexL, [a, b] => apIndexL a b
  | _, _ => none

/-- what a loop walks -/
inductive ItK where
  | seq | range | enum | zip | rev
  deriving DecidableEq
/-- a method that changes its list or dict -/
inductive Mt where
  | append | extend | pop | popAt | reverse
  deriving DecidableEq
/-- a method that only tells -/
inductive Mq where
  | split | index
  deriving DecidableEq
def Mq.op : Mq → Option D → Option Op
  | .split, some (.str _) => some .split
  | .index, some (.tup _) => some .indexT
  | .index, some (.lst _) => some .indexL
  | _, _ => none
/-- a target -/
inductive Tg where
  | name (i : Nat) | tup (l : List Nat)

inductive ME where
  | const (d : D)
  | var (i : Nat)
  | op (f : Op) (es : List ME)
  | tup (es : List ME)
  | list (es : List ME)
  | listF (es : List ME)
  | dnew
  | and (a b : ME) | or (a b : ME) | not (a : ME) | ite (c a b : ME)
  | slc (a b c : ME)
  | call (f : Nat) (es : List ME)
  | meth (i : Nat) (m : Mt) (es : List ME)
  | met (q : Mq) (o e : ME)
  | idx (i : Nat) (e : ME)
  | meth2 (i n : Nat) (m : Mt) (es : List ME)
  | comp (own : List Nat) (k : ItK) (src : List ME) (tg : Tg) (conds : List ME) (elt : ME)

inductive MS where
  | expr (e : ME)
  | asg (tg : Tg) (e : ME)
  | par (is : List Nat) (es : List ME)
  | setix (i : Nat) (ix e : ME)
  | ret (e : ME) | retv (i : Nat) | retN
  | ite (c : ME) (a b : List MS)
  | while (c : ME) (body : List MS)
  | for (k : ItK) (src : List ME) (tg : Tg) (body : List MS)
  | brk | cnt | pass

inductive Res (α : Type) where
  | ok (a : α) (ρ : Loc)
  | fail
inductive SRes where
  | nx (ρ : Loc) | ret (v : RV) (ρ : Loc) | bk (ρ : Loc) | ct (ρ : Loc) | fail
/-- a call's end: its value, what the parameters hold -/
inductive CRes where
  | ret (v : RV) (ps : List Slot)
  | fail

abbrev Od := Sum Nat RV
def slotAt (ρ : Loc) (i : Nat) : Option RV := (ρ[i]?).bind id
def lookO (ρ : Loc) : Od → Option D
  | .inl i => (slotAt ρ i).bind vw
  | .inr r => vw r
def looks (ρ : Loc) : List Od → Option (List D)
  | [] => some []
  | o :: r => match lookO ρ o, looks ρ r with
    | some d, some ds => some (d :: ds)
    | _, _ => none
/-- the operand's value is kept: what it owns is given up -/
def takeO (ρ : Loc) : Od → Option (D × Loc)
  | .inl i => (slotAt ρ i).map fun r => (fz r, ρ.set i (some (.imm (fz r))))
  | .inr r => some (fz r, ρ)
def takes : Loc → List Od → Option (List D × Loc)
  | ρ, [] => some ([], ρ)
  | ρ, o :: r => match takeO ρ o with
    | some (d, ρ1) => match takes ρ1 r with
      | some (ds, ρ2) => some (d :: ds, ρ2)
      | none => none
    | none => none
/-- items of a new list: a new thing stays owned within it -/
def holdO (ρ : Loc) : Od → Option (RV × Loc)
  | .inl i => (slotAt ρ i).map fun r => (.imm (fz r), ρ.set i (some (.imm (fz r))))
  | .inr r => some (r, ρ)
def holds : Loc → List Od → Option (List RV × Loc)
  | ρ, [] => some ([], ρ)
  | ρ, o :: r => match holdO ρ o with
    | some (d, ρ1) => match holds ρ1 r with
      | some (ds, ρ2) => some (d :: ds, ρ2)
      | none => none
    | none => none
/-- arguments: a name's own list is lent -/
def lends : Loc → List Od → Option (List RV × Loc)
  | ρ, [] => some ([], ρ)
  | ρ, .inl i :: r => match slotAt ρ i with
    | some (.imm d) => match lends ρ r with
      | some (ds, ρ2) => some (.imm d :: ds, ρ2)
      | none => none
    | some x => match lends (ρ.set i none) r with
      | some (ds, ρ2) => some (x :: ds, ρ2)
      | none => none
    | none => none
  | ρ, .inr x :: r => match lends ρ r with
    | some (ds, ρ2) => some (x :: ds, ρ2)
    | none => none
/-- behind the call -/
def backs : Loc → Loc → List Od → List Slot → Loc
  | _, ρ, [], _ => ρ
  | _, ρ, _, [] => ρ
  | ρ0, ρ, .inl i :: r, p :: ps => match slotAt ρ0 i with
    | some (.imm _) => backs ρ0 ρ r ps
    | _ => backs ρ0 (ρ.set i p) r ps
  | ρ0, ρ, .inr _ :: r, _ :: ps => backs ρ0 ρ r ps

def truth : D → Option Bool
  | .non => some false
  | .bl b => some b
  | .int i => some (i != 0)
  | .str s => if s.length ≤ LINE then some (!s.isEmpty) else none
  | .tup l => some (!l.isEmpty)
  | .lst l => some (!l.isEmpty)
  | .dic l => some (!l.isEmpty)
  | _ => none

def rangeL (lo : Int) (n : Nat) : List D := (List.range n).map fun i => .int (lo + (i : Nat))
def enumL : Nat → List D → List D
  | _, [] => []
  | i, d :: r => .tup [.int i, d] :: enumL (i + 1) r
def zipL : List D → List D → List D
  | a :: r, b :: q => .tup [a, b] :: zipL r q
  | _, _ => []
/-- a bound of range; decided classically, so that nothing ever counts the numbers down -/
noncomputable def okR (n : Int) : Bool := @decide (-4611686018427387904 ≤ n ∧ n < 4611686018427387904) (Classical.propDecidable _)
theorem okR_iff {n : Int} : (okR n = true) ↔ (-4611686018427387904 ≤ n ∧ n < 4611686018427387904) := by
  unfold okR; exact @decide_eq_true_iff _ (Classical.propDecidable _)
noncomputable def itemsOf : ItK → List D → Option (List D)
  | .seq, [.tup l] => some l
  | .seq, [.lst l] => some l
  | .seq, [.str s] => some (s.map fun c => .str [c])
  | .range, [.int n] => if okR n = true then some (rangeL 0 n.toNat) else none
  | .range, [.int m, .int n] => if okR m = true ∧ okR n = true then some (rangeL m (n - m).toNat) else none
  | .enum, [.lst l] => some (enumL 0 l)
  | .zip, [.lst l, .lst m] => some (zipL l m)
  | .rev, [.lst l] => some l.reverse
  | _, _ => none
def setAll (ρ : Loc) : List Nat → List D → Option Loc
  | [], [] => some ρ
  | i :: is, d :: ds => setAll (ρ.set i (some (.imm d))) is ds
  | _, _ => none
def setRVs (ρ : Loc) : List Nat → List RV → Option Loc
  | [], [] => some ρ
  | i :: is, d :: ds => setRVs (ρ.set i (some d)) is ds
  | _, _ => none
/-- a target takes a loop's item -/
def give (ρ : Loc) : Tg → D → Option Loc
  | .name i, d => some (ρ.set i (some (.imm d)))
  | .tup is, .tup ds => setAll ρ is ds
  | _, _ => none
/-- a target takes a value -/
def giveRV (ρ : Loc) : Tg → RV → Option Loc
  | .name i, r => some (ρ.set i (some r))
  | .tup is, .imm (.tup ds) => setAll ρ is ds
  | .tup is, .imm (.lst ds) => setAll ρ is ds
  | .tup is, .oL l => setRVs ρ is l
  | _, _ => none

def chg : Mt → RV → List D → Option (D × RV)
  | .append, .oL l, [d] => if l.length < LINE then some (.non, .oL (l ++ [.imm d])) else none
  | .extend, .oL l, [.lst m] => if l.length + m.length ≤ LINE then some (.non, .oL (l ++ m.map .imm)) else none
  | .pop, .oL l, [] => match l.getLast? with
    | some (.imm d) => some (d, .oL l.dropLast)
    | _ => none
  | .popAt, .oL l, [.int i] => if -(2 ^ 63) ≤ i ∧ i < 2 ^ 63 then
      (match (if 0 ≤ i then some i.toNat else if -(l.length : Int) ≤ i then some (i + l.length).toNat else none) with
        | some k => (match l[k]? with
          | some (.imm d) => some (d, .oL (l.eraseIdx k))
          | _ => none)
        | none => none) else none
  | .reverse, .oL l, [] => some (.non, .oL l.reverse)
  | _, _, _ => none
def setAt (l : List RV) (i : Int) (d : RV) : Option (List RV) :=
  if 0 ≤ i then (if i < l.length then some (l.set i.toNat d) else none) else if -(l.length : Int) ≤ i then some (l.set (i + l.length).toNat d) else none
def putIx : RV → D → D → Option RV
  | .oL l, .int i, d => (setAt l i (.imm d)).map .oL
  | .oD l, k, d => (keyOf k).bind fun k => if l.length < LINE then some (.oD (dput l k d)) else none
  | _, _, _ => none

def unwipe (ρ0 ρ : Loc) : List Nat → Loc
  | [] => ρ
  | i :: is => (unwipe ρ0 ρ is).set i ((ρ0[i]?).getD none)
def wipes (ρ : Loc) : List Nat → Loc
  | [] => ρ
  | i :: is => (wipes ρ is).set i none
open Classical in
/-- what is walked stands as it did -/
noncomputable def stable (ρ0 ρ : Loc) : List Od → Bool
  | [] => true
  | .inl i :: r => (if slotAt ρ i = slotAt ρ0 i then true else false) && stable ρ0 ρ r
  | .inr _ :: r => stable ρ0 ρ r

def mapR {α β : Type} (f : α → β) : Res α → Res β
  | .ok a ρ => .ok (f a) ρ
  | .fail => .fail
def someR {α : Type} (ρ : Loc) : Option α → Res α
  | some a => .ok a ρ
  | none => .fail
def someP {α : Type} : Option (α × Loc) → Res α
  | some (a, ρ) => .ok a ρ
  | none => .fail
def lineR {α : Type} : Res (List α) → Res (List α)
  | .ok l ρ => if l.length ≤ LINE then .ok l ρ else .fail
  | .fail => .fail
noncomputable def apO (f : Op) : Option (List D) → Option RV
  | some ds => f.ap ds
  | none => none
noncomputable def opK (f : Op) : Res (List Od) → Res RV
  | .ok os ρ => someR ρ (apO f (looks ρ os))
  | .fail => .fail
def isInt : Option D → Bool
  | some (.int _) => true
  | _ => false
def chkInt : Res Od → Res Od
  | .ok o ρ => if isInt (lookO ρ o) = true then .ok o ρ else .fail
  | .fail => .fail
/-- an item of a name's own list; what the item owned is given up -/
def idxQ (i : Nat) (ρ : Loc) (l : List RV) (n : Nat) : Option RV → Res RV
  | some r => .ok (.imm (fz r)) (ρ.set i (some (.oL (l.set n (.imm (fz r))))))
  | none => .fail
def idxP (i : Nat) (ρ : Loc) : Option RV → Option D → Res RV
  | some (.oL l), some (.int k) => if 0 ≤ k then idxQ i ρ l k.toNat l[k.toNat]? else .fail
  | some (.imm (.lst l)), some (.int k) => if 0 ≤ k then someR ρ (l[k.toNat]?.map RV.imm) else .fail
  | _, _ => .fail
def idxK (i : Nat) : Res Od → Res RV
  | .ok o ρ => idxP i ρ (slotAt ρ i) (lookO ρ o)
  | .fail => .fail
def idxC (r : Res RV) : Option RV → Res RV
  | some _ => r
  | none => .fail
/-- a method of an own list within a name's own list; the name is put aside meanwhile -/
def meth2U (i n : Nat) (l : List RV) (ρ : Loc) : Option (D × RV) → Res RV
  | some (d, y) => .ok (.imm d) (ρ.set i (some (.oL (l.set n y))))
  | none => .fail
noncomputable def metO (g : Res (List Od)) (o : Od) : Option Op → Res RV
  | some f => opK f (mapR (List.cons o) g)
  | none => .fail
noncomputable def metK (q : Mq) (g : Loc → Res (List Od)) : Res Od → Res RV
  | .ok o ρ => metO (g ρ) o (q.op (lookO ρ o))
  | .fail => .fail
def takesK : Res (List Od) → Res (List D)
  | .ok os ρ => someP (takes ρ os)
  | .fail => .fail
def holdsK : Res (List Od) → Res (List RV)
  | .ok os ρ => someP (holds ρ os)
  | .fail => .fail
def consK (g : Loc → Res (List Od)) : Res Od → Res (List Od)
  | .ok o ρ => mapR (List.cons o) (g ρ)
  | .fail => .fail
def andK (g : Loc → Res RV) : Res RV → Res RV
  | .ok (.imm (.bl true)) ρ => g ρ
  | .ok (.imm (.bl false)) ρ => .ok (bool false) ρ
  | _ => .fail
def orK (g : Loc → Res RV) : Res RV → Res RV
  | .ok (.imm (.bl false)) ρ => g ρ
  | .ok (.imm (.bl true)) ρ => .ok (bool true) ρ
  | _ => .fail
def notK : Res RV → Res RV
  | .ok (.imm (.bl b)) ρ => .ok (bool (!b)) ρ
  | _ => .fail
def iteK {α : Type} (g h : Loc → Res α) : Res Bool → Res α
  | .ok true ρ => g ρ
  | .ok false ρ => h ρ
  | .fail => .fail
def andT (g : Loc → Res Bool) : Res Bool → Res Bool
  | .ok true ρ => g ρ
  | .ok false ρ => .ok false ρ
  | .fail => .fail
def orT (g : Loc → Res Bool) : Res Bool → Res Bool
  | .ok true ρ => .ok true ρ
  | .ok false ρ => g ρ
  | .fail => .fail
def backK (ρ0 ρ : Loc) (os : List Od) : CRes → Res RV
  | .ret v ps => .ok v (backs ρ0 ρ os ps)
  | .fail => .fail
def callL (c : List RV → CRes) (ρ0 : Loc) (os : List Od) : Option (List RV × Loc) → Res RV
  | some (rs, ρ) => backK ρ0 ρ os (c rs)
  | none => .fail
def callA (c : List RV → CRes) : Res (List Od) → Res RV
  | .ok os ρ => callL c ρ os (lends ρ os)
  | .fail => .fail
def chgO (m : Mt) (ds : List D) : Option RV → Option (D × RV)
  | some x => chg m x ds
  | none => none
def methP (i : Nat) (ρ : Loc) : Option (D × RV) → Res RV
  | some (d, y) => .ok (.imm d) (ρ.set i (some y))
  | none => .fail
def isOwn (m : Mt) : Option RV → Bool
  | some (.oL _) => true
  | _ => false
def methC (b : Bool) (r : Res (List D)) : Res (List D) := if b = true then r else .fail
def methK (i : Nat) (m : Mt) : Res (List D) → Res RV
  | .ok ds ρ => methP i ρ (chgO m ds (slotAt ρ i))
  | .fail => .fail
def meth2T (i n : Nat) (m : Mt) (l : List RV) : Option RV → Res (List D) → Res RV
  | some (.oL x), .ok ds ρ => meth2U i n l ρ (chg m (.oL x) ds)
  | _, _ => .fail
def meth2S (i n : Nat) (m : Mt) (evs : Loc → Res (List Od)) (ρ : Loc) : Option RV → Res RV
  | some (.oL l) => meth2T i n m l l[n]? (takesK (evs (ρ.set i none)))
  | _ => .fail
def bindO {α β : Type} (f : α → Option β) : Option α → Option β
  | some a => f a
  | none => none
def truthK : Res Od → Res Bool
  | .ok o ρ => someR ρ (bindO truth (lookO ρ o))
  | .fail => .fail


noncomputable def itemsK (k : ItK) : Res (List Od) → Res (List Od × List D)
  | .ok os ρ => match bindO (itemsOf k) (looks ρ os) with
    | some ds => .ok (os, ds) ρ
    | none => .fail
  | .fail => .fail
def giveT (test : Loc → Res Bool) : Option Loc → Res Bool
  | some ρ => test ρ
  | none => .fail
def testK (elt : Loc → Res RV) : Res Bool → Res (Option RV)
  | .ok true ρ => mapR some (elt ρ)
  | .ok false ρ => .ok none ρ
  | .fail => .fail
def addK (k : List RV → Loc → Res RV) (acc : List RV) : Res (Option RV) → Res RV
  | .ok (some x) ρ => if acc.length < LINE then k (acc ++ [x]) ρ else .fail
  | .ok none ρ => k acc ρ
  | .fail => .fail
/-- a comprehension's turns -/
noncomputable def compLoop (ρ0 : Loc) (os : List Od) (tg : Tg) (own : List Nat) (test : Loc → Res Bool) (elt : Loc → Res RV) : List D → List RV → Loc → Res RV
  | [], acc, ρ => if stable ρ0 ρ os = true then .ok (.oL acc) ρ else .fail
  | d :: r, acc, ρ => if stable ρ0 ρ os = true then addK (compLoop ρ0 os tg own test elt r) acc (testK elt (giveT test (give (wipes ρ own) tg d))) else .fail
def compEnd (ρ1 : Loc) (own : List Nat) : Res RV → Res RV
  | .ok x ρ2 => .ok x (unwipe ρ1 ρ2 own)
  | .fail => .fail
/-- the comprehension's own names hold nothing owned -/
def hideOk (ρ : Loc) : List Nat → Bool
  | [] => true
  | i :: is => (match slotAt ρ i with
    | none => true
    | some (.imm _) => true
    | _ => false) && hideOk ρ is
def apartO (own : List Nat) : List Od → Bool
  | [] => true
  | .inl i :: r => !own.contains i && apartO own r
  | .inr _ :: r => apartO own r
noncomputable def compK (tg : Tg) (own : List Nat) (test : Loc → Res Bool) (elt : Loc → Res RV) : Res (List Od × List D) → Res RV
  | .ok (os, ds) ρ => if (hideOk ρ own && apartO own os) = true then compEnd ρ own (compLoop ρ os tg own test elt ds [] ρ) else .fail
  | .fail => .fail
/-- behind a turn -/
def turnK (k : Loc → SRes) : SRes → SRes
  | .nx ρ => k ρ
  | .ct ρ => k ρ
  | .bk ρ => .nx ρ
  | .ret v ρ => .ret v ρ
  | .fail => .fail
def giveS (body : Loc → SRes) : Option Loc → SRes
  | some ρ => body ρ
  | none => .fail
noncomputable def forLoop (ρ0 : Loc) (os : List Od) (tg : Tg) (body : Loc → SRes) : List D → Loc → SRes
  | [], ρ => if stable ρ0 ρ os = true then .nx ρ else .fail
  | d :: r, ρ => if stable ρ0 ρ os = true then turnK (forLoop ρ0 os tg body r) (giveS body (give ρ tg d)) else .fail
noncomputable def forK (tg : Tg) (body : Loc → SRes) : Res (List Od × List D) → SRes
  | .ok (os, ds) ρ => forLoop ρ os tg body ds ρ
  | .fail => .fail
def whileK (k : Loc → SRes) (body : Loc → SRes) : Res Bool → SRes
  | .ok true ρ => turnK k (body ρ)
  | .ok false ρ => .nx ρ
  | .fail => .fail
def whileN (c : Loc → Res Bool) (body : Loc → SRes) : Nat → Loc → SRes
  | 0, _ => .fail
  | n + 1, ρ => whileK (whileN c body n) body (c ρ)
open Classical in
noncomputable def whileS (c : Loc → Res Bool) (body : Loc → SRes) (ρ : Loc) : SRes :=
  if h : ∃ n, whileN c body n ρ ≠ .fail then whileN c body h.choose ρ else .fail

def dropK {α : Type} : Res α → SRes
  | .ok _ ρ => .nx ρ
  | .fail => .fail
def nxO : Option Loc → SRes
  | some ρ => .nx ρ
  | none => .fail
def asgK (tg : Tg) : Res RV → SRes
  | .ok x ρ => nxO (giveRV ρ tg x)
  | .fail => .fail
def parK (is : List Nat) : Res (List RV) → SRes
  | .ok rs ρ => nxO (setRVs ρ is rs)
  | .fail => .fail
def putO (x : RV) : Option RV → Option D → Option RV
  | some y, some k => putIx y k (fz x)
  | _, _ => none
def setP (i : Nat) (ρ : Loc) : Option RV → SRes
  | some z => .nx (ρ.set i (some z))
  | none => .fail
def setK2 (i : Nat) (x : RV) : Res Od → SRes
  | .ok o ρ => setP i ρ (putO x (slotAt ρ i) (lookO ρ o))
  | .fail => .fail
def setK1 (i : Nat) (x : RV) (g : Loc → Res Od) (ρ : Loc) : Option RV → SRes
  | some _ => setK2 i x (g ρ)
  | none => .fail
def setK (i : Nat) (g : Loc → Res Od) : Res RV → SRes
  | .ok x ρ => setK1 i x g ρ (slotAt ρ i)
  | .fail => .fail
def retK : Res RV → SRes
  | .ok x ρ => .ret x ρ
  | .fail => .fail
def retvK (i : Nat) (ρ : Loc) : Option RV → SRes
  | some r => .ret r (ρ.set i none)
  | none => .fail
def iteS (g h : Loc → SRes) : Res Bool → SRes
  | .ok true ρ => g ρ
  | .ok false ρ => h ρ
  | .fail => .fail
def seqK (g : Loc → SRes) : SRes → SRes
  | .nx ρ => g ρ
  | .ret v ρ => .ret v ρ
  | .bk ρ => .bk ρ
  | .ct ρ => .ct ρ
  | .fail => .fail
def frozenK (i : Nat) (ρ : Loc) : Option RV → Res RV
  | some r => .ok (.imm (fz r)) (ρ.set i (some (.imm (fz r))))
  | none => .fail
def varK (i : Nat) (ρ : Loc) : Option RV → Res Od
  | some _ => .ok (.inl i) ρ
  | none => .fail

section
variable (cf : Nat → List RV → CRes)
mutual
noncomputable def evE : ME → Loc → Res RV
  | .const d, ρ => .ok (.imm d) ρ
  | .var i, ρ => frozenK i ρ (slotAt ρ i)
  | .op f es, ρ => opK f (evOs es ρ)
  | .tup es, ρ => mapR (fun ds => RV.imm (D.tup ds)) (lineR (takesK (evOs es ρ)))
  | .list es, ρ => mapR RV.oL (lineR (holdsK (evOs es ρ)))
  | .listF es, ρ => mapR (fun ds => RV.oL (ds.map .imm)) (lineR (takesK (evOs es ρ)))
  | .dnew, ρ => .ok (.oD []) ρ
  | .and a b, ρ => andK (evE b) (evE a ρ)
  | .or a b, ρ => orK (evE b) (evE a ρ)
  | .not a, ρ => notK (evE a ρ)
  | .ite c a b, ρ => iteK (evE a) (evE b) (evT c ρ)
  | .slc a b c, ρ => opK (.slice true true) (consK (fun ρ1 => consK (fun ρ2 => consK (fun ρ3 => .ok [] ρ3) (evO c ρ2)) (chkInt (evO b ρ1))) (evO a ρ))
  | .call f es, ρ => callA (cf f) (evOs es ρ)
  | .meth i m es, ρ => methK i m (methC (isOwn m (slotAt ρ i)) (takesK (evOs es ρ)))
  | .met q o e, ρ => metK q (fun ρ1 => consK (fun ρ2 => .ok [] ρ2) (evO e ρ1)) (evO o ρ)
  | .idx i e, ρ => idxC (idxK i (evO e ρ)) (slotAt ρ i)
  | .meth2 i n m es, ρ => meth2S i n m (evOs es) ρ (slotAt ρ i)
  | .comp own k src tg conds elt, ρ => compK tg own (evC conds) (evE elt) (itemsK k (evOs src ρ))
noncomputable def evOs : List ME → Loc → Res (List Od)
  | [], ρ => .ok [] ρ
  | e :: es, ρ => consK (evOs es) (evO e ρ)
noncomputable def evO : ME → Loc → Res Od
  | .var i, ρ => varK i ρ (slotAt ρ i)
  | e, ρ => mapR Sum.inr (evE e ρ)
noncomputable def evT : ME → Loc → Res Bool
  | .and a b, ρ => andT (evT b) (evT a ρ)
  | .or a b, ρ => orT (evT b) (evT a ρ)
  | .not a, ρ => mapR Bool.not (evT a ρ)
  | e, ρ => truthK (evO e ρ)
noncomputable def evC : List ME → Loc → Res Bool
  | [], ρ => .ok true ρ
  | [c], ρ => evT c ρ
  | _, _ => .fail
end
mutual
noncomputable def evS : MS → Loc → SRes
  | .expr e, ρ => dropK (evE cf e ρ)
  | .asg tg e, ρ => asgK tg (evE cf e ρ)
  | .par is es, ρ => parK is (holdsK (evOs cf es ρ))
  | .setix i ix e, ρ => setK i (evO cf ix) (evE cf e ρ)
  | .ret e, ρ => retK (evE cf e ρ)
  | .retv i, ρ => retvK i ρ (slotAt ρ i)
  | .retN, ρ => .ret (.imm .non) ρ
  | .ite c a b, ρ => iteS (evSs a) (evSs b) (evT cf c ρ)
  | .while c body, ρ => whileS (evT cf c) (evSs body) ρ
  | .for k src tg body, ρ => forK tg (evSs body) (itemsK k (evOs cf src ρ))
  | .brk, ρ => .bk ρ
  | .cnt, ρ => .ct ρ
  | .pass, ρ => .nx ρ
noncomputable def evSs : List MS → Loc → SRes
  | [], ρ => .nx ρ
  | s :: r, ρ => seqK (evSs r) (evS s ρ)
end
end

/-- a def: its parameters' number, its names' number, the names that it stores, its body -/
structure Fn where
  np : Nat
  ns : Nat
  w : List Nat
  body : List MS
def endC (np : Nat) (w : List Nat) : SRes → CRes
  | .ret v ρ => .ret v (wipes (ρ.take np) w)
  | .nx ρ => .ret (.imm .non) (wipes (ρ.take np) w)
  | _ => .fail
noncomputable def callF (cf : Nat → List RV → CRes) (F : Fn) (args : List RV) : CRes :=
  if args.length = F.np ∧ F.np ≤ F.ns then endC F.np F.w (evSs cf F.body (args.map some ++ List.replicate (F.ns - F.np) none)) else .fail
noncomputable def callK (prog : Nat → Option Fn) : Nat → Nat → List RV → CRes
  | 0, _, _ => .fail
  | k + 1, f, args => match prog f with
    | none => .fail
    | some F => callF (callK prog k) F args
end Mv
namespace Mv
@[simp] theorem mapR_ok {α β : Type} (f : α → β) (a : α) (ρ : Loc) : mapR f (.ok a ρ) = .ok (f a) ρ := rfl
@[simp] theorem mapR_fail {α β : Type} (f : α → β) : mapR f .fail = .fail := rfl
@[simp] theorem someR_some {α : Type} (a : α) (ρ : Loc) : someR ρ (some a) = .ok a ρ := rfl
@[simp] theorem someR_none {α : Type} (ρ : Loc) : (someR ρ none : Res α) = .fail := rfl
@[simp] theorem someP_some {α : Type} (a : α) (ρ : Loc) : someP (some (a, ρ)) = .ok a ρ := rfl
@[simp] theorem someP_none {α : Type} : (someP none : Res α) = .fail := rfl
@[simp] theorem lineR_ok {α : Type} (l : List α) (ρ : Loc) : lineR (.ok l ρ) = if l.length ≤ LINE then .ok l ρ else .fail := rfl
@[simp] theorem lineR_fail {α : Type} : lineR (.fail : Res (List α)) = .fail := rfl
@[simp] theorem apO_some (f : Op) (ds : List D) : apO f (some ds) = f.ap ds := rfl
@[simp] theorem apO_none (f : Op) : apO f none = none := rfl
@[simp] theorem opK_ok (f : Op) (os : List Od) (ρ : Loc) : opK f (.ok os ρ) = someR ρ (apO f (looks ρ os)) := rfl
@[simp] theorem opK_fail (f : Op) : opK f .fail = .fail := rfl
@[simp] theorem takesK_ok (os : List Od) (ρ : Loc) : takesK (.ok os ρ) = someP (takes ρ os) := rfl
@[simp] theorem holdsK_ok (os : List Od) (ρ : Loc) : holdsK (.ok os ρ) = someP (holds ρ os) := rfl
@[simp] theorem takesK_fail  : takesK .fail = .fail := rfl
@[simp] theorem holdsK_fail  : holdsK .fail = .fail := rfl
@[simp] theorem consK_ok (g : Loc → Res (List Od)) (o : Od) (ρ : Loc) : consK g (.ok o ρ) = mapR (List.cons o) (g ρ) := rfl
@[simp] theorem consK_fail (g : Loc → Res (List Od)) : consK g .fail = .fail := rfl
@[simp] theorem andK_t (g : Loc → Res RV) (ρ : Loc) : andK g (.ok (.imm (.bl true)) ρ) = g ρ := rfl
@[simp] theorem andK_f (g : Loc → Res RV) (ρ : Loc) : andK g (.ok (.imm (.bl false)) ρ) = .ok (bool false) ρ := rfl
@[simp] theorem andK_b (g : Loc → Res RV) (ρ : Loc) (b : Bool) : andK g (.ok (bool b) ρ) = if b = true then g ρ else .ok (bool false) ρ := by cases b <;> rfl
@[simp] theorem orK_b (g : Loc → Res RV) (ρ : Loc) (b : Bool) : orK g (.ok (bool b) ρ) = if b = true then .ok (bool true) ρ else g ρ := by cases b <;> rfl
@[simp] theorem orK_t (g : Loc → Res RV) (ρ : Loc) : orK g (.ok (.imm (.bl true)) ρ) = .ok (bool true) ρ := rfl
@[simp] theorem orK_f (g : Loc → Res RV) (ρ : Loc) : orK g (.ok (.imm (.bl false)) ρ) = g ρ := rfl
@[simp] theorem notK_b (b : Bool) (ρ : Loc) : notK (.ok (.imm (.bl b)) ρ) = .ok (bool (!b)) ρ := rfl
@[simp] theorem notK_b2 (b : Bool) (ρ : Loc) : notK (.ok (bool b) ρ) = .ok (bool (!b)) ρ := rfl
@[simp] theorem iteK_t {α : Type} (g h : Loc → Res α) (ρ : Loc) : iteK g h (.ok true ρ) = g ρ := rfl
@[simp] theorem iteK_f {α : Type} (g h : Loc → Res α) (ρ : Loc) : iteK g h (.ok false ρ) = h ρ := rfl
@[simp] theorem iteK_d {α : Type} (g h : Loc → Res α) (ρ : Loc) (c : Prop) [Decidable c] : iteK g h (.ok (decide c) ρ) = if c then g ρ else h ρ := by by_cases q : c <;> simp [q, iteK]
@[simp] theorem andT_t (g : Loc → Res Bool) (ρ : Loc) : andT g (.ok true ρ) = g ρ := rfl
@[simp] theorem andT_f (g : Loc → Res Bool) (ρ : Loc) : andT g (.ok false ρ) = .ok false ρ := rfl
@[simp] theorem orT_t (g : Loc → Res Bool) (ρ : Loc) : orT g (.ok true ρ) = .ok true ρ := rfl
@[simp] theorem orT_f (g : Loc → Res Bool) (ρ : Loc) : orT g (.ok false ρ) = g ρ := rfl
@[simp] theorem backK_ret (ρ0 ρ : Loc) (os : List Od) (v : RV) (ps : List Slot) : backK ρ0 ρ os (.ret v ps) = .ok v (backs ρ0 ρ os ps) := rfl
@[simp] theorem backK_fail (ρ0 ρ : Loc) (os : List Od) : backK ρ0 ρ os .fail = .fail := rfl
@[simp] theorem callL_some (c : List RV → CRes) (ρ0 ρ : Loc) (os : List Od) (rs : List RV) : callL c ρ0 os (some (rs, ρ)) = backK ρ0 ρ os (c rs) := rfl
@[simp] theorem callL_none (c : List RV → CRes) (ρ0 : Loc) (os : List Od) : callL c ρ0 os none = .fail := rfl
@[simp] theorem callA_ok (c : List RV → CRes) (ρ : Loc) (os : List Od) : callA c (.ok os ρ) = callL c ρ os (lends ρ os) := rfl
@[simp] theorem callA_fail (c : List RV → CRes) : callA c .fail = .fail := rfl
@[simp] theorem chgO_some (m : Mt) (ds : List D) (x : RV) : chgO m ds (some x) = chg m x ds := rfl
@[simp] theorem methP_some (i : Nat) (ρ : Loc) (d : D) (y : RV) : methP i ρ (some (d, y)) = .ok (.imm d) (ρ.set i (some y)) := rfl
@[simp] theorem methP_none (i : Nat) (ρ : Loc) : methP i ρ none = .fail := rfl
@[simp] theorem methK_ok (i : Nat) (m : Mt) (ds : List D) (ρ : Loc) : methK i m (.ok ds ρ) = methP i ρ (chgO m ds (slotAt ρ i)) := rfl
@[simp] theorem methK_fail (i : Nat) (m : Mt) : methK i m .fail = .fail := rfl
@[simp] theorem bindO_some {α β : Type} (f : α → Option β) (a : α) : bindO f (some a) = f a := rfl
@[simp] theorem bindO_none {α β : Type} (f : α → Option β) : bindO f none = none := rfl
@[simp] theorem truthK_ok (o : Od) (ρ : Loc) : truthK (.ok o ρ) = someR ρ (bindO truth (lookO ρ o)) := rfl
@[simp] theorem truthK_fail  : truthK .fail = .fail := rfl
@[simp] theorem itemsK_ok (k : ItK) (os : List Od) (ρ : Loc) : itemsK k (.ok os ρ) = someR ρ ((bindO (itemsOf k) (looks ρ os)).map fun ds => (os, ds)) := by rw [itemsK]; cases bindO (itemsOf k) (looks ρ os) <;> rfl
@[simp] theorem itemsK_fail (k : ItK) : itemsK k .fail = .fail := rfl
@[simp] theorem giveT_some (t : Loc → Res Bool) (ρ : Loc) : giveT t (some ρ) = t ρ := rfl
@[simp] theorem testK_t (e : Loc → Res RV) (ρ : Loc) : testK e (.ok true ρ) = mapR some (e ρ) := rfl
@[simp] theorem testK_f (e : Loc → Res RV) (ρ : Loc) : testK e (.ok false ρ) = .ok none ρ := rfl
@[simp] theorem addK_some (k : List RV → Loc → Res RV) (acc : List RV) (x : RV) (ρ : Loc) : addK k acc (.ok (some x) ρ) = if acc.length < LINE then k (acc ++ [x]) ρ else .fail := rfl
@[simp] theorem addK_none (k : List RV → Loc → Res RV) (acc : List RV) (ρ : Loc) : addK k acc (.ok none ρ) = k acc ρ := rfl
@[simp] theorem compEnd_ok (ρ1 : Loc) (own : List Nat) (x : RV) (ρ : Loc) : compEnd ρ1 own (.ok x ρ) = .ok x (unwipe ρ1 ρ own) := rfl
@[simp] theorem compK_ok (tg : Tg) (own : List Nat) (t : Loc → Res Bool) (e : Loc → Res RV) (os : List Od) (ds : List D) (ρ : Loc) : compK tg own t e (.ok (os, ds) ρ) = if (hideOk ρ own && apartO own os) = true then compEnd ρ own (compLoop ρ os tg own t e ds [] ρ) else .fail := rfl
@[simp] theorem turnK_nx (k : Loc → SRes) (ρ : Loc) : turnK k (.nx ρ) = k ρ := rfl
@[simp] theorem turnK_ct (k : Loc → SRes) (ρ : Loc) : turnK k (.ct ρ) = k ρ := rfl
@[simp] theorem turnK_bk (k : Loc → SRes) (ρ : Loc) : turnK k (.bk ρ) = .nx ρ := rfl
@[simp] theorem turnK_ret (k : Loc → SRes) (v : RV) (ρ : Loc) : turnK k (.ret v ρ) = .ret v ρ := rfl
@[simp] theorem turnK_fail (k : Loc → SRes) : turnK k .fail = .fail := rfl
@[simp] theorem giveS_some (b : Loc → SRes) (ρ : Loc) : giveS b (some ρ) = b ρ := rfl
@[simp] theorem forK_ok (tg : Tg) (b : Loc → SRes) (os : List Od) (ds : List D) (ρ : Loc) : forK tg b (.ok (os, ds) ρ) = forLoop ρ os tg b ds ρ := rfl
@[simp] theorem whileK_t (k b : Loc → SRes) (ρ : Loc) : whileK k b (.ok true ρ) = turnK k (b ρ) := rfl
@[simp] theorem whileK_f (k b : Loc → SRes) (ρ : Loc) : whileK k b (.ok false ρ) = .nx ρ := rfl
@[simp] theorem dropK_ok {α : Type} (a : α) (ρ : Loc) : dropK (.ok a ρ) = .nx ρ := rfl
@[simp] theorem nxO_some (ρ : Loc) : nxO (some ρ) = .nx ρ := rfl
@[simp] theorem nxO_none  : nxO none = .fail := rfl
@[simp] theorem asgK_ok (tg : Tg) (x : RV) (ρ : Loc) : asgK tg (.ok x ρ) = nxO (giveRV ρ tg x) := rfl
@[simp] theorem asgK_fail (tg : Tg) : asgK tg .fail = .fail := rfl
@[simp] theorem parK_ok (is : List Nat) (rs : List RV) (ρ : Loc) : parK is (.ok rs ρ) = nxO (setRVs ρ is rs) := rfl
@[simp] theorem putO_some (x y : RV) (k : D) : putO x (some y) (some k) = putIx y k (fz x) := rfl
@[simp] theorem setP_some (i : Nat) (ρ : Loc) (z : RV) : setP i ρ (some z) = .nx (ρ.set i (some z)) := rfl
@[simp] theorem setP_none (i : Nat) (ρ : Loc) : setP i ρ none = .fail := rfl
@[simp] theorem setK2_ok (i : Nat) (x : RV) (o : Od) (ρ : Loc) : setK2 i x (.ok o ρ) = setP i ρ (putO x (slotAt ρ i) (lookO ρ o)) := rfl
@[simp] theorem setK_ok (i : Nat) (g : Loc → Res Od) (x : RV) (ρ : Loc) : setK i g (.ok x ρ) = setK1 i x g ρ (slotAt ρ i) := rfl
@[simp] theorem setK1_some (i : Nat) (x : RV) (g : Loc → Res Od) (ρ : Loc) (r : RV) : setK1 i x g ρ (some r) = setK2 i x (g ρ) := rfl
@[simp] theorem setK1_none (i : Nat) (x : RV) (g : Loc → Res Od) (ρ : Loc) : setK1 i x g ρ none = .fail := rfl
@[simp] theorem setK_fail (i : Nat) (g : Loc → Res Od) : setK i g .fail = .fail := rfl
@[simp] theorem retK_ok (x : RV) (ρ : Loc) : retK (.ok x ρ) = .ret x ρ := rfl
@[simp] theorem retK_fail  : retK .fail = .fail := rfl
@[simp] theorem retvK_some (i : Nat) (ρ : Loc) (r : RV) : retvK i ρ (some r) = .ret r (ρ.set i none) := rfl
@[simp] theorem iteS_t (g h : Loc → SRes) (ρ : Loc) : iteS g h (.ok true ρ) = g ρ := rfl
@[simp] theorem iteS_f (g h : Loc → SRes) (ρ : Loc) : iteS g h (.ok false ρ) = h ρ := rfl
@[simp] theorem seqK_nx (g : Loc → SRes) (ρ : Loc) : seqK g (.nx ρ) = g ρ := rfl
@[simp] theorem seqK_ret (g : Loc → SRes) (v : RV) (ρ : Loc) : seqK g (.ret v ρ) = .ret v ρ := rfl
@[simp] theorem seqK_bk (g : Loc → SRes) (ρ : Loc) : seqK g (.bk ρ) = .bk ρ := rfl
@[simp] theorem seqK_ct (g : Loc → SRes) (ρ : Loc) : seqK g (.ct ρ) = .ct ρ := rfl
@[simp] theorem seqK_fail (g : Loc → SRes) : seqK g .fail = .fail := rfl
@[simp] theorem frozenK_some (i : Nat) (ρ : Loc) (r : RV) : frozenK i ρ (some r) = .ok (.imm (fz r)) (ρ.set i (some (.imm (fz r)))) := rfl
@[simp] theorem varK_some (i : Nat) (ρ : Loc) (r : RV) : varK i ρ (some r) = .ok (.inl i) ρ := rfl
@[simp] theorem evE_const (cf : Nat → List RV → CRes) (d : D) (ρ : Loc) : evE cf (.const d) ρ = .ok (.imm d) ρ := by rw [evE]
@[simp] theorem evE_var (cf : Nat → List RV → CRes) (i : Nat) (ρ : Loc) : evE cf (.var i) ρ = frozenK i ρ (slotAt ρ i) := by rw [evE]
@[simp] theorem evE_op (cf : Nat → List RV → CRes) (f : Op) (es : List ME) (ρ : Loc) : evE cf (.op f es) ρ = opK f (evOs cf es ρ) := by rw [evE]
@[simp] theorem evE_tup (cf : Nat → List RV → CRes) (es : List ME) (ρ : Loc) : evE cf (.tup es) ρ = mapR (fun ds => RV.imm (D.tup ds)) (lineR (takesK (evOs cf es ρ))) := by rw [evE]
@[simp] theorem evE_listF (cf : Nat → List RV → CRes) (es : List ME) (ρ : Loc) : evE cf (.listF es) ρ = mapR (fun ds => RV.oL (ds.map .imm)) (lineR (takesK (evOs cf es ρ))) := by rw [evE]
@[simp] theorem evE_list (cf : Nat → List RV → CRes) (es : List ME) (ρ : Loc) : evE cf (.list es) ρ = mapR RV.oL (lineR (holdsK (evOs cf es ρ))) := by rw [evE]
@[simp] theorem evE_dnew (cf : Nat → List RV → CRes) (ρ : Loc) : evE cf .dnew ρ = .ok (.oD []) ρ := by rw [evE]
@[simp] theorem evE_and (cf : Nat → List RV → CRes) (a b : ME) (ρ : Loc) : evE cf (.and a b) ρ = andK (evE cf b) (evE cf a ρ) := by rw [evE]
@[simp] theorem evE_or (cf : Nat → List RV → CRes) (a b : ME) (ρ : Loc) : evE cf (.or a b) ρ = orK (evE cf b) (evE cf a ρ) := by rw [evE]
@[simp] theorem evE_not (cf : Nat → List RV → CRes) (a : ME) (ρ : Loc) : evE cf (.not a) ρ = notK (evE cf a ρ) := by rw [evE]
@[simp] theorem evE_ite (cf : Nat → List RV → CRes) (c a b : ME) (ρ : Loc) : evE cf (.ite c a b) ρ = iteK (evE cf a) (evE cf b) (evT cf c ρ) := by rw [evE]
@[simp] theorem evE_slc (cf : Nat → List RV → CRes) (a b c : ME) (ρ : Loc) : evE cf (.slc a b c) ρ = opK (.slice true true) (consK (fun ρ1 => consK (fun ρ2 => consK (fun ρ3 => .ok [] ρ3) (evO cf c ρ2)) (chkInt (evO cf b ρ1))) (evO cf a ρ)) := by rw [evE]
@[simp] theorem chkInt_ok (o : Od) (ρ : Loc) : chkInt (.ok o ρ) = if isInt (lookO ρ o) = true then .ok o ρ else .fail := rfl
@[simp] theorem isInt_int (i : Int) : isInt (some (.int i)) = true := rfl
@[simp] theorem evE_met (cf : Nat → List RV → CRes) (q : Mq) (o e : ME) (ρ : Loc) : evE cf (.met q o e) ρ = metK q (fun ρ1 => consK (fun ρ2 => .ok [] ρ2) (evO cf e ρ1)) (evO cf o ρ) := by rw [evE]
@[simp] theorem metK_ok (q : Mq) (g : Loc → Res (List Od)) (o : Od) (ρ : Loc) : metK q g (.ok o ρ) = metO (g ρ) o (q.op (lookO ρ o)) := rfl
@[simp] theorem metO_some (g : Res (List Od)) (o : Od) (f : Op) : metO g o (some f) = opK f (mapR (List.cons o) g) := rfl
@[simp] theorem mq_split (s : List Nat) : Mq.op .split (some (.str s)) = some .split := rfl
@[simp] theorem mq_indexT (l : List D) : Mq.op .index (some (.tup l)) = some .indexT := rfl
@[simp] theorem mq_indexL (l : List D) : Mq.op .index (some (.lst l)) = some .indexL := rfl
@[simp] theorem evE_idx (cf : Nat → List RV → CRes) (i : Nat) (e : ME) (ρ : Loc) : evE cf (.idx i e) ρ = idxC (idxK i (evO cf e ρ)) (slotAt ρ i) := by rw [evE]
@[simp] theorem idxC_ok (r : Res RV) (x : RV) : idxC r (some x) = r := rfl
@[simp] theorem idxK_ok (i : Nat) (o : Od) (ρ : Loc) : idxK i (.ok o ρ) = idxP i ρ (slotAt ρ i) (lookO ρ o) := rfl
@[simp] theorem idxP_ok (i : Nat) (ρ : Loc) (l : List RV) (k : Int) : idxP i ρ (some (.oL l)) (some (.int k)) = if 0 ≤ k then idxQ i ρ l k.toNat l[k.toNat]? else .fail := rfl
@[simp] theorem idxP_imm (i : Nat) (ρ : Loc) (l : List D) (k : Int) : idxP i ρ (some (.imm (.lst l))) (some (.int k)) = if 0 ≤ k then someR ρ (l[k.toNat]?.map RV.imm) else .fail := rfl
@[simp] theorem idxQ_ok (i : Nat) (ρ : Loc) (l : List RV) (n : Nat) (r : RV) : idxQ i ρ l n (some r) = .ok (.imm (fz r)) (ρ.set i (some (.oL (l.set n (.imm (fz r)))))) := rfl
@[simp] theorem evE_meth2 (cf : Nat → List RV → CRes) (i n : Nat) (m : Mt) (es : List ME) (ρ : Loc) : evE cf (.meth2 i n m es) ρ = meth2S i n m (evOs cf es) ρ (slotAt ρ i) := by rw [evE]
@[simp] theorem meth2S_ok (i n : Nat) (m : Mt) (evs : Loc → Res (List Od)) (ρ : Loc) (l : List RV) : meth2S i n m evs ρ (some (.oL l)) = meth2T i n m l l[n]? (takesK (evs (ρ.set i none))) := rfl
@[simp] theorem meth2T_ok (i n : Nat) (m : Mt) (l x : List RV) (ds : List D) (ρ : Loc) : meth2T i n m l (some (.oL x)) (.ok ds ρ) = meth2U i n l ρ (chg m (.oL x) ds) := rfl
@[simp] theorem meth2U_ok (i n : Nat) (l : List RV) (ρ : Loc) (d : D) (y : RV) : meth2U i n l ρ (some (d, y)) = .ok (.imm d) (ρ.set i (some (.oL (l.set n y)))) := rfl
@[simp] theorem evE_call (cf : Nat → List RV → CRes) (f : Nat) (es : List ME) (ρ : Loc) : evE cf (.call f es) ρ = callA (cf f) (evOs cf es ρ) := by rw [evE]
@[simp] theorem evE_meth (cf : Nat → List RV → CRes) (i : Nat) (m : Mt) (es : List ME) (ρ : Loc) : evE cf (.meth i m es) ρ = methK i m (methC (isOwn m (slotAt ρ i)) (takesK (evOs cf es ρ))) := by rw [evE]
@[simp] theorem evE_comp (cf : Nat → List RV → CRes) (own : List Nat) (k : ItK) (src : List ME) (tg : Tg) (conds : List ME) (elt : ME) (ρ : Loc) : evE cf (.comp own k src tg conds elt) ρ = compK tg own (evC cf conds) (evE cf elt) (itemsK k (evOs cf src ρ)) := by rw [evE]
@[simp] theorem evOs_nil (cf : Nat → List RV → CRes) (ρ : Loc) : evOs cf [] ρ = .ok [] ρ := by rw [evOs]
@[simp] theorem evOs_cons (cf : Nat → List RV → CRes) (e : ME) (es : List ME) (ρ : Loc) : evOs cf (e :: es) ρ = consK (evOs cf es) (evO cf e ρ) := by rw [evOs]
@[simp] theorem evO_var (cf : Nat → List RV → CRes) (i : Nat) (ρ : Loc) : evO cf (.var i) ρ = varK i ρ (slotAt ρ i) := by rw [evO]
@[simp] theorem evO_const (cf : Nat → List RV → CRes) (d : D) (ρ : Loc) : evO cf (.const d) ρ = mapR Sum.inr (evE cf (.const d) ρ) := by rw [evO] <;> nofun
@[simp] theorem evT_const (cf : Nat → List RV → CRes) (d : D) (ρ : Loc) : evT cf (.const d) ρ = truthK (evO cf (.const d) ρ) := by rw [evT] <;> nofun
@[simp] theorem evO_op (cf : Nat → List RV → CRes) (f : Op) (es : List ME) (ρ : Loc) : evO cf (.op f es) ρ = mapR Sum.inr (evE cf (.op f es) ρ) := by rw [evO] <;> nofun
@[simp] theorem evT_op (cf : Nat → List RV → CRes) (f : Op) (es : List ME) (ρ : Loc) : evT cf (.op f es) ρ = truthK (evO cf (.op f es) ρ) := by rw [evT] <;> nofun
@[simp] theorem evO_tup (cf : Nat → List RV → CRes) (es : List ME) (ρ : Loc) : evO cf (.tup es) ρ = mapR Sum.inr (evE cf (.tup es) ρ) := by rw [evO] <;> nofun
@[simp] theorem evT_tup (cf : Nat → List RV → CRes) (es : List ME) (ρ : Loc) : evT cf (.tup es) ρ = truthK (evO cf (.tup es) ρ) := by rw [evT] <;> nofun
@[simp] theorem evO_list (cf : Nat → List RV → CRes) (es : List ME) (ρ : Loc) : evO cf (.list es) ρ = mapR Sum.inr (evE cf (.list es) ρ) := by rw [evO] <;> nofun
@[simp] theorem evT_list (cf : Nat → List RV → CRes) (es : List ME) (ρ : Loc) : evT cf (.list es) ρ = truthK (evO cf (.list es) ρ) := by rw [evT] <;> nofun
@[simp] theorem evO_listF (cf : Nat → List RV → CRes) (es : List ME) (ρ : Loc) : evO cf (.listF es) ρ = mapR Sum.inr (evE cf (.listF es) ρ) := by rw [evO] <;> nofun
@[simp] theorem evT_listF (cf : Nat → List RV → CRes) (es : List ME) (ρ : Loc) : evT cf (.listF es) ρ = truthK (evO cf (.listF es) ρ) := by rw [evT] <;> nofun
@[simp] theorem evO_dnew (cf : Nat → List RV → CRes)  (ρ : Loc) : evO cf (.dnew) ρ = mapR Sum.inr (evE cf (.dnew) ρ) := by rw [evO] <;> nofun
@[simp] theorem evT_dnew (cf : Nat → List RV → CRes)  (ρ : Loc) : evT cf (.dnew) ρ = truthK (evO cf (.dnew) ρ) := by rw [evT] <;> nofun
@[simp] theorem evO_and (cf : Nat → List RV → CRes) (a : ME) (b : ME) (ρ : Loc) : evO cf (.and a b) ρ = mapR Sum.inr (evE cf (.and a b) ρ) := by rw [evO] <;> nofun
@[simp] theorem evO_or (cf : Nat → List RV → CRes) (a : ME) (b : ME) (ρ : Loc) : evO cf (.or a b) ρ = mapR Sum.inr (evE cf (.or a b) ρ) := by rw [evO] <;> nofun
@[simp] theorem evO_not (cf : Nat → List RV → CRes) (a : ME) (ρ : Loc) : evO cf (.not a) ρ = mapR Sum.inr (evE cf (.not a) ρ) := by rw [evO] <;> nofun
@[simp] theorem evO_ite (cf : Nat → List RV → CRes) (c : ME) (a : ME) (b : ME) (ρ : Loc) : evO cf (.ite c a b) ρ = mapR Sum.inr (evE cf (.ite c a b) ρ) := by rw [evO] <;> nofun
@[simp] theorem evT_ite (cf : Nat → List RV → CRes) (c : ME) (a : ME) (b : ME) (ρ : Loc) : evT cf (.ite c a b) ρ = truthK (evO cf (.ite c a b) ρ) := by rw [evT] <;> nofun
@[simp] theorem evO_call (cf : Nat → List RV → CRes) (f : Nat) (es : List ME) (ρ : Loc) : evO cf (.call f es) ρ = mapR Sum.inr (evE cf (.call f es) ρ) := by rw [evO] <;> nofun
@[simp] theorem evT_call (cf : Nat → List RV → CRes) (f : Nat) (es : List ME) (ρ : Loc) : evT cf (.call f es) ρ = truthK (evO cf (.call f es) ρ) := by rw [evT] <;> nofun
@[simp] theorem evO_meth (cf : Nat → List RV → CRes) (i : Nat) (m : Mt) (es : List ME) (ρ : Loc) : evO cf (.meth i m es) ρ = mapR Sum.inr (evE cf (.meth i m es) ρ) := by rw [evO] <;> nofun
@[simp] theorem evT_meth (cf : Nat → List RV → CRes) (i : Nat) (m : Mt) (es : List ME) (ρ : Loc) : evT cf (.meth i m es) ρ = truthK (evO cf (.meth i m es) ρ) := by rw [evT] <;> nofun
@[simp] theorem evO_slc (cf : Nat → List RV → CRes) (a : ME) (b : ME) (c : ME) (ρ : Loc) : evO cf (.slc a b c) ρ = mapR Sum.inr (evE cf (.slc a b c) ρ) := by rw [evO] <;> nofun
@[simp] theorem evT_slc (cf : Nat → List RV → CRes) (a : ME) (b : ME) (c : ME) (ρ : Loc) : evT cf (.slc a b c) ρ = truthK (evO cf (.slc a b c) ρ) := by rw [evT] <;> nofun
@[simp] theorem evO_met (cf : Nat → List RV → CRes) (q : Mq) (a : ME) (b : ME) (ρ : Loc) : evO cf (.met q a b) ρ = mapR Sum.inr (evE cf (.met q a b) ρ) := by rw [evO] <;> nofun
@[simp] theorem evT_met (cf : Nat → List RV → CRes) (q : Mq) (a : ME) (b : ME) (ρ : Loc) : evT cf (.met q a b) ρ = truthK (evO cf (.met q a b) ρ) := by rw [evT] <;> nofun
@[simp] theorem evO_idx (cf : Nat → List RV → CRes) (i : Nat) (a : ME) (ρ : Loc) : evO cf (.idx i a) ρ = mapR Sum.inr (evE cf (.idx i a) ρ) := by rw [evO] <;> nofun
@[simp] theorem evT_idx (cf : Nat → List RV → CRes) (i : Nat) (a : ME) (ρ : Loc) : evT cf (.idx i a) ρ = truthK (evO cf (.idx i a) ρ) := by rw [evT] <;> nofun
@[simp] theorem evO_meth2 (cf : Nat → List RV → CRes) (i : Nat) (n : Nat) (m : Mt) (es : List ME) (ρ : Loc) : evO cf (.meth2 i n m es) ρ = mapR Sum.inr (evE cf (.meth2 i n m es) ρ) := by rw [evO] <;> nofun
@[simp] theorem evT_meth2 (cf : Nat → List RV → CRes) (i : Nat) (n : Nat) (m : Mt) (es : List ME) (ρ : Loc) : evT cf (.meth2 i n m es) ρ = truthK (evO cf (.meth2 i n m es) ρ) := by rw [evT] <;> nofun
@[simp] theorem evO_comp (cf : Nat → List RV → CRes) (own : List Nat) (k : ItK) (src : List ME) (tg : Tg) (conds : List ME) (elt : ME) (ρ : Loc) : evO cf (.comp own k src tg conds elt) ρ = mapR Sum.inr (evE cf (.comp own k src tg conds elt) ρ) := by rw [evO] <;> nofun
@[simp] theorem evT_comp (cf : Nat → List RV → CRes) (own : List Nat) (k : ItK) (src : List ME) (tg : Tg) (conds : List ME) (elt : ME) (ρ : Loc) : evT cf (.comp own k src tg conds elt) ρ = truthK (evO cf (.comp own k src tg conds elt) ρ) := by rw [evT] <;> nofun
@[simp] theorem evT_var (cf : Nat → List RV → CRes) (i : Nat) (ρ : Loc) : evT cf (.var i) ρ = truthK (evO cf (.var i) ρ) := by rw [evT] <;> nofun
@[simp] theorem evT_and (cf : Nat → List RV → CRes) (a b : ME) (ρ : Loc) : evT cf (.and a b) ρ = andT (evT cf b) (evT cf a ρ) := by rw [evT]
@[simp] theorem evT_or (cf : Nat → List RV → CRes) (a b : ME) (ρ : Loc) : evT cf (.or a b) ρ = orT (evT cf b) (evT cf a ρ) := by rw [evT]
@[simp] theorem evT_not (cf : Nat → List RV → CRes) (a : ME) (ρ : Loc) : evT cf (.not a) ρ = mapR Bool.not (evT cf a ρ) := by rw [evT]
@[simp] theorem evC_nil (cf : Nat → List RV → CRes) (ρ : Loc) : evC cf [] ρ = .ok true ρ := by rw [evC]
@[simp] theorem evC_one (cf : Nat → List RV → CRes) (c : ME) (ρ : Loc) : evC cf [c] ρ = evT cf c ρ := by rw [evC]
@[simp] theorem evS_expr (cf : Nat → List RV → CRes) (e : ME) (ρ : Loc) : evS cf (.expr e) ρ = dropK (evE cf e ρ) := by rw [evS]
@[simp] theorem evS_asg (cf : Nat → List RV → CRes) (tg : Tg) (e : ME) (ρ : Loc) : evS cf (.asg tg e) ρ = asgK tg (evE cf e ρ) := by rw [evS]
@[simp] theorem evS_par (cf : Nat → List RV → CRes) (is : List Nat) (es : List ME) (ρ : Loc) : evS cf (.par is es) ρ = parK is (holdsK (evOs cf es ρ)) := by rw [evS]
@[simp] theorem evS_setix (cf : Nat → List RV → CRes) (i : Nat) (ix : ME) (e : ME) (ρ : Loc) : evS cf (.setix i ix e) ρ = setK i (evO cf ix) (evE cf e ρ) := by rw [evS]
@[simp] theorem evS_ret (cf : Nat → List RV → CRes) (e : ME) (ρ : Loc) : evS cf (.ret e) ρ = retK (evE cf e ρ) := by rw [evS]
@[simp] theorem evS_retv (cf : Nat → List RV → CRes) (i : Nat) (ρ : Loc) : evS cf (.retv i) ρ = retvK i ρ (slotAt ρ i) := by rw [evS]
@[simp] theorem evS_retN (cf : Nat → List RV → CRes)  (ρ : Loc) : evS cf (.retN) ρ = .ret (.imm .non) ρ := by rw [evS]
@[simp] theorem evS_ite (cf : Nat → List RV → CRes) (c : ME) (a : List MS) (b : List MS) (ρ : Loc) : evS cf (.ite c a b) ρ = iteS (evSs cf a) (evSs cf b) (evT cf c ρ) := by rw [evS]
@[simp] theorem evS_while (cf : Nat → List RV → CRes) (c : ME) (body : List MS) (ρ : Loc) : evS cf (.while c body) ρ = whileS (evT cf c) (evSs cf body) ρ := by rw [evS]
@[simp] theorem evS_for (cf : Nat → List RV → CRes) (k : ItK) (src : List ME) (tg : Tg) (body : List MS) (ρ : Loc) : evS cf (.for k src tg body) ρ = forK tg (evSs cf body) (itemsK k (evOs cf src ρ)) := by rw [evS]
@[simp] theorem evS_brk (cf : Nat → List RV → CRes)  (ρ : Loc) : evS cf (.brk) ρ = .bk ρ := by rw [evS]
@[simp] theorem evS_cnt (cf : Nat → List RV → CRes)  (ρ : Loc) : evS cf (.cnt) ρ = .ct ρ := by rw [evS]
@[simp] theorem evS_pass (cf : Nat → List RV → CRes)  (ρ : Loc) : evS cf (.pass) ρ = .nx ρ := by rw [evS]
@[simp] theorem evSs_nil (cf : Nat → List RV → CRes) (ρ : Loc) : evSs cf [] ρ = .nx ρ := by rw [evSs]
@[simp] theorem evSs_cons (cf : Nat → List RV → CRes) (s : MS) (r : List MS) (ρ : Loc) : evSs cf (s :: r) ρ = seqK (evSs cf r) (evS cf s ρ) := by rw [evSs]
@[simp] theorem slotAt_nil (i : Nat) : slotAt [] i = none := by simp [slotAt]
@[simp] theorem slotAt_zero (x : Slot) (r : Loc) : slotAt (x :: r) 0 = x := by simp [slotAt]
@[simp] theorem slotAt_succ (x : Slot) (r : Loc) (i : Nat) : slotAt (x :: r) (i + 1) = slotAt r i := by simp [slotAt]

@[simp] theorem fz_imm (d : D) : fz (.imm d) = d := by rw [fz]
@[simp] theorem fz_oL (l : List RV) : fz (.oL l) = .lst (fzs l) := by rw [fz]
@[simp] theorem fz_oD (l : List (KD × D)) : fz (.oD l) = .dic l := by rw [fz]
@[simp] theorem vw_imm (d : D) : vw (.imm d) = some d := rfl
@[simp] theorem vw_oL (l : List RV) : vw (.oL l) = (imms l).map D.lst := rfl
@[simp] theorem vw_oD (l : List (KD × D)) : vw (.oD l) = some (.dic l) := rfl
@[simp] theorem imms_nil  : imms [] = some [] := rfl
@[simp] theorem imms_cons (d : D) (r : List RV) : imms (.imm d :: r) = (imms r).map (d :: ·) := by rw [imms]; show (match some d, imms r with | some d, some ds => some (d :: ds) | _, _ => none) = _; cases imms r <;> rfl
@[simp] theorem fzs_nil  : fzs [] = [] := by rw [fzs]
@[simp] theorem fzs_cons (x : RV) (r : List RV) : fzs (x :: r) = fz x :: fzs r := by rw [fzs]
@[simp] theorem fzs_imm (ds : List D) : fzs (ds.map RV.imm) = ds := by induction ds with | nil => rw [List.map_nil, fzs] | cons d r ih => rw [List.map_cons, fzs, ih, fz]
@[simp] theorem lookO_inl (ρ : Loc) (i : Nat) : lookO ρ (.inl i) = bindO vw (slotAt ρ i) := by show (slotAt ρ i).bind vw = _; cases slotAt ρ i <;> rfl
@[simp] theorem lookO_inr (ρ : Loc) (r : RV) : lookO ρ (.inr r) = vw r := rfl
def consO {α : Type} : Option α → Option (List α) → Option (List α)
  | some a, some l => some (a :: l)
  | _, _ => none
@[simp] theorem consO_some {α : Type} (a : α) (l : List α) : consO (some a) (some l) = some (a :: l) := rfl
@[simp] theorem looks_nil (ρ : Loc) : looks ρ [] = some [] := rfl
@[simp] theorem looks_cons (ρ : Loc) (o : Od) (r : List Od) : looks ρ (o :: r) = consO (lookO ρ o) (looks ρ r) := by rw [looks]; cases lookO ρ o <;> cases looks ρ r <;> rfl
def bindP {α β : Type} (f : α → Loc → Option β) : Option (α × Loc) → Option β
  | some (a, ρ) => f a ρ
  | none => none
@[simp] theorem bindP_some {α β : Type} (f : α → Loc → Option β) (a : α) (ρ : Loc) : bindP f (some (a, ρ)) = f a ρ := rfl
@[simp] theorem takes_nil (ρ : Loc) : takes ρ [] = some ([], ρ) := rfl
theorem takes_cons (ρ : Loc) (o : Od) (r : List Od) : takes ρ (o :: r) = bindP (fun d ρ1 => (takes ρ1 r).map fun p => (d :: p.1, p.2)) (takeO ρ o) := by
  rw [takes]
  cases takeO ρ o with
  | none => rfl
  | some p => obtain ⟨d, ρ1⟩ := p; show (match takes ρ1 r with | _ => _) = _; simp only [bindP_some]; cases takes ρ1 r with
    | none => rfl
    | some q => rfl
theorem holds_cons (ρ : Loc) (o : Od) (r : List Od) : holds ρ (o :: r) = bindP (fun d ρ1 => (holds ρ1 r).map fun p => (d :: p.1, p.2)) (holdO ρ o) := by
  rw [holds]
  cases holdO ρ o with
  | none => rfl
  | some p => obtain ⟨d, ρ1⟩ := p; show (match holds ρ1 r with | _ => _) = _; simp only [bindP_some]; cases holds ρ1 r with
    | none => rfl
    | some q => rfl
@[simp] theorem holds_nil (ρ : Loc) : holds ρ [] = some ([], ρ) := rfl
@[simp] theorem takes_inr (ρ : Loc) (x : RV) (r : List Od) : takes ρ (.inr x :: r) = (takes ρ r).map fun p => (fz x :: p.1, p.2) := by rw [takes_cons]; rfl
@[simp] theorem holds_inr (ρ : Loc) (x : RV) (r : List Od) : holds ρ (.inr x :: r) = (holds ρ r).map fun p => (x :: p.1, p.2) := by rw [holds_cons]; rfl
def takeI (ρ : Loc) (i : Nat) (r : List Od) : Option RV → Option (List D × Loc)
  | some x => (takes (ρ.set i (some (.imm (fz x)))) r).map fun p => (fz x :: p.1, p.2)
  | none => none
def holdI (ρ : Loc) (i : Nat) (r : List Od) : Option RV → Option (List RV × Loc)
  | some x => (holds (ρ.set i (some (.imm (fz x)))) r).map fun p => (.imm (fz x) :: p.1, p.2)
  | none => none
@[simp] theorem takeI_some (ρ : Loc) (i : Nat) (r : List Od) (x : RV) : takeI ρ i r (some x) = (takes (ρ.set i (some (.imm (fz x)))) r).map fun p => (fz x :: p.1, p.2) := rfl
@[simp] theorem holdI_some (ρ : Loc) (i : Nat) (r : List Od) (x : RV) : holdI ρ i r (some x) = (holds (ρ.set i (some (.imm (fz x)))) r).map fun p => (.imm (fz x) :: p.1, p.2) := rfl
@[simp] theorem takes_inl (ρ : Loc) (i : Nat) (r : List Od) : takes ρ (.inl i :: r) = takeI ρ i r (slotAt ρ i) := by rw [takes_cons, takeO]; cases slotAt ρ i <;> rfl
@[simp] theorem holds_inl (ρ : Loc) (i : Nat) (r : List Od) : holds ρ (.inl i :: r) = holdI ρ i r (slotAt ρ i) := by rw [holds_cons, holdO]; cases slotAt ρ i <;> rfl
@[simp] theorem lends_nil (ρ : Loc) : lends ρ [] = some ([], ρ) := rfl
@[simp] theorem lends_inr (ρ : Loc) (x : RV) (r : List Od) : lends ρ (.inr x :: r) = (lends ρ r).map fun p => (x :: p.1, p.2) := by rw [lends]; cases lends ρ r <;> rfl
def lendI (ρ : Loc) (i : Nat) (r : List Od) : Option RV → Option (List RV × Loc)
  | some (.imm d) => (lends ρ r).map fun p => (.imm d :: p.1, p.2)
  | some x => (lends (ρ.set i none) r).map fun p => (x :: p.1, p.2)
  | none => none
@[simp] theorem lendI_imm (ρ : Loc) (i : Nat) (r : List Od) (d : D) : lendI ρ i r (some (.imm d)) = (lends ρ r).map fun p => (.imm d :: p.1, p.2) := rfl
@[simp] theorem lendI_oL (ρ : Loc) (i : Nat) (r : List Od) (l : List RV) : lendI ρ i r (some (.oL l)) = (lends (ρ.set i none) r).map fun p => (.oL l :: p.1, p.2) := rfl
@[simp] theorem lendI_oD (ρ : Loc) (i : Nat) (r : List Od) (l : List (KD × D)) : lendI ρ i r (some (.oD l)) = (lends (ρ.set i none) r).map fun p => (.oD l :: p.1, p.2) := rfl
@[simp] theorem lends_inl (ρ : Loc) (i : Nat) (r : List Od) : lends ρ (.inl i :: r) = lendI ρ i r (slotAt ρ i) := by
  rw [lends]
  cases slotAt ρ i with
  | none => rfl
  | some x => cases x <;> (simp only [lendI]; split <;> simp_all)
@[simp] theorem backs_nil (ρ0 ρ : Loc) (ps : List Slot) : backs ρ0 ρ [] ps = ρ := by cases ps <;> rfl
@[simp] theorem backs_inr (ρ0 ρ : Loc) (x : RV) (r : List Od) (p : Slot) (ps : List Slot) : backs ρ0 ρ (.inr x :: r) (p :: ps) = backs ρ0 ρ r ps := rfl
def backI (ρ0 ρ : Loc) (i : Nat) (r : List Od) (p : Slot) (ps : List Slot) : Option RV → Loc
  | some (.imm _) => backs ρ0 ρ r ps
  | _ => backs ρ0 (ρ.set i p) r ps
@[simp] theorem backI_imm (ρ0 ρ : Loc) (i : Nat) (r : List Od) (p : Slot) (ps : List Slot) (d : D) : backI ρ0 ρ i r p ps (some (.imm d)) = backs ρ0 ρ r ps := rfl
@[simp] theorem backI_oL (ρ0 ρ : Loc) (i : Nat) (r : List Od) (p : Slot) (ps : List Slot) (l : List RV) : backI ρ0 ρ i r p ps (some (.oL l)) = backs ρ0 (ρ.set i p) r ps := rfl
@[simp] theorem backI_oD (ρ0 ρ : Loc) (i : Nat) (r : List Od) (p : Slot) (ps : List Slot) (l : List (KD × D)) : backI ρ0 ρ i r p ps (some (.oD l)) = backs ρ0 (ρ.set i p) r ps := rfl
@[simp] theorem backs_inl (ρ0 ρ : Loc) (i : Nat) (r : List Od) (p : Slot) (ps : List Slot) : backs ρ0 ρ (.inl i :: r) (p :: ps) = backI ρ0 ρ i r p ps (slotAt ρ0 i) := by
  rw [backs]
  cases slotAt ρ0 i with
  | none => rfl
  | some x => cases x <;> rfl
@[simp] theorem ap_add_int (i j : Int) : Op.ap .add [.int i, .int j] = some (.imm (.int (i + j))) := rfl
@[simp] theorem ap_add_str (s t : List Nat) : Op.ap .add [.str s, .str t] = if s.length + t.length ≤ LINE then some (.imm (.str (s ++ t))) else none := rfl
@[simp] theorem ap_add_tup (s t : List D) : Op.ap .add [.tup s, .tup t] = if s.length + t.length ≤ LINE then some (.imm (.tup (s ++ t))) else none := rfl
@[simp] theorem ap_add_lst (s t : List D) : Op.ap .add [.lst s, .lst t] = if s.length + t.length ≤ LINE then some (.oL ((s ++ t).map .imm)) else none := rfl
@[simp] theorem ap_sub (i j : Int) : Op.ap .sub [.int i, .int j] = some (.imm (.int (i - j))) := rfl
@[simp] theorem ap_mul (i j : Int) : Op.ap .mul [.int i, .int j] = if small64 i ∨ small64 j then some (.imm (.int (i * j))) else if okM i j = true then some (.imm (.int (i * j))) else none := rfl
theorem okM_true {i j : Int} (h : i.natAbs.log2 + j.natAbs.log2 < 1000000) : okM i j = true := @decide_eq_true _ (Classical.propDecidable _) h
@[simp] theorem ap_fdiv (i j : Int) : Op.ap .fdiv [.int i, .int j] = if 0 < j ∧ j < 1073741824 then some (.imm (.int (i / j))) else none := rfl
@[simp] theorem ap_mod (i j : Int) : Op.ap .mod [.int i, .int j] = if 0 < j then some (.imm (.int (i % j))) else none := rfl
@[simp] theorem ap_pow (i j : Int) : Op.ap .pow [.int i, .int j] = if 0 ≤ j ∧ j ≤ 1000000 ∧ i.natAbs < 2 ^ 64 then some (.imm (.int (i ^ j.toNat))) else none := rfl
@[simp] theorem ap_neg (i : Int) : Op.ap .neg [.int i] = some (.imm (.int (-i))) := rfl
@[simp] theorem ap_eq (a b : D) : Op.ap .eq [a, b] = if eqOk a b = true then some (bool (deq a b)) else apEqDic a b := rfl
@[simp] theorem ap_ne (a b : D) : Op.ap .ne [a, b] = if eqOk a b = true then some (bool (!deq a b)) else none := rfl
@[simp] theorem ap_lt (i j : Int) : Op.ap .lt [.int i, .int j] = some (bool (decide (i < j))) := rfl
@[simp] theorem ap_lts (s t : List Nat) : Op.ap .lt [.str s, .str t] = some (bool (decide (s < t))) := rfl
@[simp] theorem ap_le (i j : Int) : Op.ap .le [.int i, .int j] = some (bool (decide (i ≤ j))) := rfl
@[simp] theorem ap_gt (i j : Int) : Op.ap .gt [.int i, .int j] = some (bool (decide (j < i))) := rfl
@[simp] theorem ap_ge (i j : Int) : Op.ap .ge [.int i, .int j] = some (bool (decide (j ≤ i))) := rfl
@[simp] theorem ap_isN (a : D) : Op.ap .isN [a] = some (bool (isNon a)) := rfl
@[simp] theorem ap_notN (a : D) : Op.ap .notN [a] = some (bool (!isNon a)) := rfl
@[simp] theorem ap_inn (a b : D) : Op.ap .inn [a, b] = (isIn a b).map bool := rfl
@[simp] theorem ap_notIn (a b : D) : Op.ap .notIn [a, b] = (isIn a b).map fun c => bool (!c) := rfl
@[simp] theorem ap_item_tup (l : List D) (i : Int) : Op.ap .item [.tup l, .int i] = (atD l i).map .imm := rfl
@[simp] theorem ap_item_lst (l : List D) (i : Int) : Op.ap .item [.lst l, .int i] = (atD l i).map .imm := rfl
@[simp] theorem ap_item_str (s : List Nat) (i : Int) : Op.ap .item [.str s, .int i] = if s.length ≤ LINE then (atD s i).map (fun c => .imm (.str [c])) else none := rfl
@[simp] theorem ap_item_dic (l : List (KD × D)) (d : D) : Op.ap .item [.dic l, d] = (keyOf d).bind fun k => (dget l k).map .imm := rfl
@[simp] theorem ap_slice00 (a : D) : Op.ap (.slice false false) [a] = apSlice none none a := rfl
@[simp] theorem ap_slice10 (a : D) (i : Int) : Op.ap (.slice true false) [a, .int i] = apSlice (some i) none a := rfl
@[simp] theorem ap_slice01 (a : D) (i : Int) : Op.ap (.slice false true) [a, .int i] = apSlice none (some i) a := rfl
@[simp] theorem ap_slice11 (a : D) (i j : Int) : Op.ap (.slice true true) [a, .int i, .int j] = apSlice (some i) (some j) a := rfl
@[simp] theorem apSlice_tup (lo hi : Option Int) (l : List D) : apSlice lo hi (.tup l) = some (.imm (.tup (cut l lo hi))) := rfl
@[simp] theorem apSlice_lst (lo hi : Option Int) (l : List D) : apSlice lo hi (.lst l) = some (.oL ((cut l lo hi).map .imm)) := rfl
@[simp] theorem apSlice_str (lo hi : Option Int) (s : List Nat) : apSlice lo hi (.str s) = if s.length ≤ LINE then some (.imm (.str (cut s lo hi))) else none := rfl
@[simp] theorem apSlice_scr (lo hi : Option Int) (l : List Int) : apSlice lo hi (.scr l) = some (.oL ((cut l lo hi).map fun i => .imm (.int i))) := rfl
@[simp] theorem ap_len_tup (l : List D) : Op.ap .len [.tup l] = some (.imm (.int l.length)) := rfl
@[simp] theorem ap_len_lst (l : List D) : Op.ap .len [.lst l] = some (.imm (.int l.length)) := rfl
@[simp] theorem ap_len_str (l : List Nat) : Op.ap .len [.str l] = if l.length ≤ LINE then some (.imm (.int l.length)) else none := rfl
@[simp] theorem ap_len_dic (l : List (KD × D)) : Op.ap .len [.dic l] = some (.imm (.int l.length)) := rfl
@[simp] theorem ap_abs (i : Int) : Op.ap .abs [.int i] = some (.imm (.int (if i < 0 then -i else i))) := rfl
@[simp] theorem ap_int1 (i : Int) : Op.ap .int1 [.int i] = some (.imm (.int i)) := rfl
@[simp] theorem ap_int1b (b : Bool) : Op.ap .int1 [.bl b] = some (.imm (.int (if b then 1 else 0))) := rfl
@[simp] theorem ap_str1 (i : Int) : Op.ap .str1 [.int i] = if i.natAbs.log2 < 1920 then some (.imm (.str (numText i))) else none := rfl
@[simp] theorem ap_sum (l : List D) : Op.ap .sum [.lst l] = (ints? l).map fun ns => .imm (.int ns.sum) := rfl
@[simp] theorem ap_tuple_l (l : List D) : Op.ap .tuple [.lst l] = some (.imm (.tup l)) := rfl
@[simp] theorem ap_tuple_t (l : List D) : Op.ap .tuple [.tup l] = some (.imm (.tup l)) := rfl
@[simp] theorem ap_list_l (l : List D) : Op.ap .list [.lst l] = some (.oL (l.map .imm)) := rfl
@[simp] theorem ap_list_t (l : List D) : Op.ap .list [.tup l] = some (.oL (l.map .imm)) := rfl
@[simp] theorem ap_repr (d : D) : Op.ap .repr [d] = apRepr d := rfl
@[simp] theorem ap_all (l : List D) : Op.ap .all [.lst l] = (bls? l).map fun bs => bool (bs.all id) := rfl
@[simp] theorem ap_max (i j : Int) : Op.ap .max [.int i, .int j] = some (.imm (.int (if j > i then j else i))) := rfl
@[simp] theorem ap_min (i j : Int) : Op.ap .min [.int i, .int j] = some (.imm (.int (if j < i then j else i))) := rfl
@[simp] theorem ap_maxd (l : List D) (d : Int) : Op.ap .maxd [.lst l, .int d] = (ints? l).map fun ns => .imm (.int (mxd d ns)) := rfl
@[simp] theorem ap_split (s t : List Nat) : Op.ap .split [.str s, .str t] = if t ≠ [] ∧ s.length + 2 ≤ LINE then some (.oL ((splitD s t).map fun z => .imm (.str z))) else none := rfl
@[simp] theorem ap_indexT (l : List D) (x : List Nat) : Op.ap .indexT [.tup l, .str x] = (strs? l).bind fun ys => if x ∈ ys then some (.imm (.int (ys.idxOf x : Nat))) else none := rfl
@[simp] theorem ap_any (l : List D) : Op.ap .any [.lst l] = (bls? l).map fun bs => bool (bs.any id) := rfl
@[simp] theorem truth_bl (b : Bool) : truth (.bl b) = some b := rfl
@[simp] theorem truth_non  : truth .non = some false := rfl
@[simp] theorem truth_int (i : Int) : truth (.int i) = some (i != 0) := rfl
@[simp] theorem truth_tup (l : List D) : truth (.tup l) = some (!l.isEmpty) := rfl
@[simp] theorem truth_lst (l : List D) : truth (.lst l) = some (!l.isEmpty) := rfl
@[simp] theorem truth_bool (b : Bool) : bindO truth (vw (bool b)) = some b := rfl
@[simp] theorem vw_bool (b : Bool) : vw (bool b) = some (.bl b) := rfl
@[simp] theorem isIn_sign (c : Nat) (t : List Nat) : isIn (.str [c]) (.str t) = some (t.contains c) := rfl
@[simp] theorem keyOf_int (i : Int) : keyOf (.int i) = some (.inl i) := rfl
@[simp] theorem keyOf_str (s : List Nat) : keyOf (.str s) = some (.inr s) := rfl
theorem isIn_tup (d : D) (l : List D) : isIn d (.tup l) = if inOk d l = true then some (l.any fun z => deq z d) else none := by unfold isIn; split <;> simp_all
theorem isIn_lst (d : D) (l : List D) : isIn d (.lst l) = if inOk d l = true then some (l.any fun z => deq z d) else none := by unfold isIn; split <;> simp_all
@[simp] theorem items_tup (l : List D) : itemsOf .seq [.tup l] = some l := rfl
@[simp] theorem items_lst (l : List D) : itemsOf .seq [.lst l] = some l := rfl
@[simp] theorem items_str (s : List Nat) : itemsOf .seq [.str s] = some (s.map fun c => .str [c]) := rfl
@[simp] theorem items_range1 (n : Int) : itemsOf .range [.int n] = if okR n = true then some (rangeL 0 n.toNat) else none := rfl
@[simp] theorem okR_true {n : Int} (h1 : -4611686018427387904 ≤ n) (h2 : n < 4611686018427387904) : okR n = true := okR_iff.2 ⟨h1, h2⟩
@[simp] theorem items_range2 (m n : Int) : itemsOf .range [.int m, .int n] = if okR m = true ∧ okR n = true then some (rangeL m (n - m).toNat) else none := rfl
@[simp] theorem give_name (ρ : Loc) (i : Nat) (d : D) : give ρ (.name i) d = some (ρ.set i (some (.imm d))) := rfl
@[simp] theorem give_tup (ρ : Loc) (is : List Nat) (ds : List D) : give ρ (.tup is) (.tup ds) = setAll ρ is ds := rfl
@[simp] theorem giveRV_name (ρ : Loc) (i : Nat) (r : RV) : giveRV ρ (.name i) r = some (ρ.set i (some r)) := rfl
@[simp] theorem giveRV_tup (ρ : Loc) (is : List Nat) (ds : List D) : giveRV ρ (.tup is) (.imm (.tup ds)) = setAll ρ is ds := rfl
@[simp] theorem giveRV_lst (ρ : Loc) (is : List Nat) (ds : List D) : giveRV ρ (.tup is) (.imm (.lst ds)) = setAll ρ is ds := rfl
@[simp] theorem giveRV_oL (ρ : Loc) (is : List Nat) (ds : List RV) : giveRV ρ (.tup is) (.oL ds) = setRVs ρ is ds := rfl
@[simp] theorem setAll_nil (ρ : Loc) : setAll ρ [] [] = some ρ := rfl
@[simp] theorem setAll_cons (ρ : Loc) (i : Nat) (is : List Nat) (d : D) (ds : List D) : setAll ρ (i :: is) (d :: ds) = setAll (ρ.set i (some (.imm d))) is ds := rfl
@[simp] theorem setRVs_nil (ρ : Loc) : setRVs ρ [] [] = some ρ := rfl
@[simp] theorem setRVs_cons (ρ : Loc) (i : Nat) (is : List Nat) (d : RV) (ds : List RV) : setRVs ρ (i :: is) (d :: ds) = setRVs (ρ.set i (some d)) is ds := rfl
@[simp] theorem chg_append (l : List RV) (d : D) : chg .append (.oL l) [d] = if l.length < LINE then some (.non, .oL (l ++ [.imm d])) else none := rfl
@[simp] theorem chg_extend (l : List RV) (m : List D) : chg .extend (.oL l) [.lst m] = if l.length + m.length ≤ LINE then some (.non, .oL (l ++ m.map .imm)) else none := rfl
@[simp] theorem putIx_oL (l : List RV) (i : Int) (d : D) : putIx (.oL l) (.int i) d = (setAt l i (.imm d)).map .oL := rfl
@[simp] theorem putIx_oD (l : List (KD × D)) (k d : D) : putIx (.oD l) k d = (keyOf k).bind fun k => if l.length < LINE then some (.oD (dput l k d)) else none := rfl
@[simp] theorem wipes_nil (ρ : Loc) : wipes ρ [] = ρ := rfl
@[simp] theorem wipes_cons (ρ : Loc) (i : Nat) (is : List Nat) : wipes ρ (i :: is) = (wipes ρ is).set i none := rfl
@[simp] theorem unwipe_nil (ρ0 ρ : Loc) : unwipe ρ0 ρ [] = ρ := rfl
@[simp] theorem unwipe_cons (ρ0 ρ : Loc) (i : Nat) (is : List Nat) : unwipe ρ0 ρ (i :: is) = (unwipe ρ0 ρ is).set i ((ρ0[i]?).getD none) := rfl
@[simp] theorem stable_nil (ρ0 ρ : Loc) : stable ρ0 ρ [] = true := by rw [stable]
@[simp] theorem stable_inr (ρ0 ρ : Loc) (x : RV) (r : List Od) : stable ρ0 ρ (.inr x :: r) = stable ρ0 ρ r := by rw [stable]
theorem stable_inl (ρ0 ρ : Loc) (i : Nat) (r : List Od) (h : slotAt ρ i = slotAt ρ0 i) : stable ρ0 ρ (.inl i :: r) = stable ρ0 ρ r := by rw [stable]; simp [h]
theorem stable_inl_iff (ρ0 ρ : Loc) (i : Nat) (r : List Od) : stable ρ0 ρ (.inl i :: r) = true ↔ slotAt ρ i = slotAt ρ0 i ∧ stable ρ0 ρ r = true := by
  rw [stable]; by_cases h : slotAt ρ i = slotAt ρ0 i <;> simp [h]
def hideI : Option RV → Bool
  | none => true
  | some (.imm _) => true
  | _ => false
@[simp] theorem hideI_none : hideI none = true := rfl
@[simp] theorem hideI_imm (d : D) : hideI (some (.imm d)) = true := rfl
@[simp] theorem hideOk_nil (ρ : Loc) : hideOk ρ [] = true := rfl
@[simp] theorem hideOk_cons (ρ : Loc) (i : Nat) (is : List Nat) : hideOk ρ (i :: is) = (hideI (slotAt ρ i) && hideOk ρ is) := rfl
@[simp] theorem apartO_nil (own : List Nat) : apartO own [] = true := rfl
@[simp] theorem apartO_inl (own : List Nat) (i : Nat) (r : List Od) : apartO own (.inl i :: r) = (!own.contains i && apartO own r) := rfl
@[simp] theorem apartO_inr (own : List Nat) (x : RV) (r : List Od) : apartO own (.inr x :: r) = apartO own r := rfl
@[simp] theorem compLoop_nil (ρ0 : Loc) (os : List Od) (tg : Tg) (own : List Nat) (t : Loc → Res Bool) (e : Loc → Res RV) (acc : List RV) (ρ : Loc) : compLoop ρ0 os tg own t e [] acc ρ = if stable ρ0 ρ os = true then .ok (.oL acc) ρ else .fail := by rw [compLoop]
theorem compLoop_cons (ρ0 : Loc) (os : List Od) (tg : Tg) (own : List Nat) (t : Loc → Res Bool) (e : Loc → Res RV) (d : D) (r : List D) (acc : List RV) (ρ : Loc) : compLoop ρ0 os tg own t e (d :: r) acc ρ = if stable ρ0 ρ os = true then addK (compLoop ρ0 os tg own t e r) acc (testK e (giveT t (give (wipes ρ own) tg d))) else .fail := by rw [compLoop]
@[simp] theorem forLoop_nil (ρ0 : Loc) (os : List Od) (tg : Tg) (b : Loc → SRes) (ρ : Loc) : forLoop ρ0 os tg b [] ρ = if stable ρ0 ρ os = true then .nx ρ else .fail := by rw [forLoop]
theorem forLoop_cons (ρ0 : Loc) (os : List Od) (tg : Tg) (b : Loc → SRes) (d : D) (r : List D) (ρ : Loc) : forLoop ρ0 os tg b (d :: r) ρ = if stable ρ0 ρ os = true then turnK (forLoop ρ0 os tg b r) (giveS b (give ρ tg d)) else .fail := by rw [forLoop]
@[simp] theorem endC_ret (n : Nat) (w : List Nat) (v : RV) (ρ : Loc) : endC n w (.ret v ρ) = .ret v (wipes (ρ.take n) w) := rfl
@[simp] theorem endC_nx (n : Nat) (w : List Nat) (ρ : Loc) : endC n w (.nx ρ) = .ret (.imm .non) (wipes (ρ.take n) w) := rfl
@[simp] theorem isOwn_oL (m : Mt) (l : List RV) : isOwn m (some (.oL l)) = true := rfl
@[simp] theorem methC_t (r : Res (List D)) : methC true r = r := rfl
@[simp] theorem deq_int (i j : Int) : deq (.int i) (.int j) = (i == j) := by rw [deq]
@[simp] theorem deq_str (i j : List Nat) : deq (.str i) (.str j) = (i == j) := by rw [deq]
@[simp] theorem deq_tup (i j : List D) : deq (.tup i) (.tup j) = deqs i j := by rw [deq]
@[simp] theorem deq_lst (i j : List D) : deq (.lst i) (.lst j) = deqs i j := by rw [deq]
@[simp] theorem deq_bl (i j : Bool) : deq (.bl i) (.bl j) = (i == j) := by rw [deq]
@[simp] theorem okEq_int (i : Int) : okEq (.int i) = true := rfl
@[simp] theorem okEq_non  : okEq .non = true := rfl
@[simp] theorem okEq_bl (b : Bool) : okEq (.bl b) = true := rfl
@[simp] theorem eqOk_ii (i j : Int) : eqOk (.int i) (.int j) = true := rfl
@[simp] theorem eqOk_ss (i j : List Nat) : eqOk (.str i) (.str j) = true := rfl
@[simp] theorem eqOk_bb (i j : Bool) : eqOk (.bl i) (.bl j) = true := rfl
@[simp] theorem okEq_tup (l : List D) : okEq (.tup l) = (nds l && decide (deps l + 1 ≤ 60)) := by rw [okEq, D.nd, D.dep]
@[simp] theorem okEq_lst (l : List D) : okEq (.lst l) = (nds l && decide (deps l + 1 ≤ 60)) := by rw [okEq, D.nd, D.dep]
end Mv
namespace Mv
open PySem PySem.Spec PyProof.Rows L2

abbrev Frag := PySem.W.Frag
abbrev Reg := Addr → Prop
def kK : KD → Key
  | .inl i => .inl i
  | .inr s => .inr (toStr s)

/-- a tuple's object without a dict of its own: its methods may be asked -/
def BareO (o : Obj) : Prop := o.cls = .type "tuple" ∧ o.dict = Option.none
def Bare (K : Frag) (Z : Hp) (a : Addr) : Prop := (∃ o u, Z a = some (.frz o u) ∧ BareO o) ∨ ∃ o, K.lookup a = some o ∧ BareO o
def SqN (K : Frag) (Z : Hp) (a : Addr) (vs : List V) : Prop := SqT K Z a vs ∧ Bare K Z a
inductive RepD (K : Frag) (Z : Hp) : D → V → Prop
  | non : RepD K Z .non .non
  | bl (b : Bool) : RepD K Z (.bl b) (.bl b)
  | int (i : Int) : RepD K Z (.int i) (.int i)
  | str (s : List Nat) : RepD K Z (.str s) (.str (toStr s))
  | tup {l : List D} {a : Addr} {vs : List V} : SqN K Z a vs → l.length = vs.length → (∀ (i : Nat) (d : D) (v : V), l[i]? = some d → vs[i]? = some v → RepD K Z d v) → RepD K Z (.tup l) (.ref a)
  | lst {l : List D} {a : Addr} {vs : List V} : Z a = some (.lst vs) → l.length = vs.length → (∀ (i : Nat) (d : D) (v : V), l[i]? = some d → vs[i]? = some v → RepD K Z d v) → RepD K Z (.lst l) (.ref a)
  | dic {l : List (KD × D)} {a : Addr} {kvs : List (Key × V)} : Z a = some (.dK kvs) → l.length = kvs.length → (∀ (i : Nat) p q, l[i]? = some p → kvs[i]? = some q → kK p.1 = q.1) →
      (∀ (i : Nat) p q, l[i]? = some p → kvs[i]? = some q → RepD K Z p.2 q.2) → RepD K Z (.dic l) (.ref a)
  | scr {l : List Int} {a : Addr} : SqL K Z a (l.map V.int) → RepD K Z (.scr l) (.ref a)

/-- all of a list -/
def RepDs (K : Frag) (Z : Hp) (l : List D) (vs : List V) : Prop := l.length = vs.length ∧ ∀ (i : Nat) (d : D) (v : V), l[i]? = some d → vs[i]? = some v → RepD K Z d v
def RepKs (K : Frag) (Z : Hp) (l : List (KD × D)) (kvs : List (Key × V)) : Prop :=
  l.length = kvs.length ∧ (∀ (i : Nat) p q, l[i]? = some p → kvs[i]? = some q → kK p.1 = q.1) ∧ ∀ (i : Nat) p q, l[i]? = some p → kvs[i]? = some q → RepD K Z p.2 q.2

inductive RepV (K : Frag) (Z H : Hp) : RV → V → Reg → Prop
  | imm {d : D} {v : V} {F : Reg} : RepD K Z d v → RepV K Z H (.imm d) v F
  | oL {l : List RV} {a : Addr} {vs : List V} {F : Reg} (G : Nat → Reg) : H a = some (.lst vs) → F a → l.length = vs.length → (∀ i b, G i b → F b ∧ b ≠ a) → (∀ i j b, i ≠ j → G i b → ¬ G j b) →
      (∀ (i : Nat) (x : RV) (v : V), l[i]? = some x → vs[i]? = some v → RepV K Z H x v (G i)) → RepV K Z H (.oL l) (.ref a) F
  | oD {l : List (KD × D)} {a : Addr} {kvs : List (Key × V)} {F : Reg} : H a = some (.dK kvs) → F a → RepKs K Z l kvs → RepV K Z H (.oD l) (.ref a) F

abbrev Sub (Z H : Hp) : Prop := ∀ a o, Z a = some o → H a = some o
theorem Sub.sqT {K : Frag} {Z H : Hp} (s : Sub Z H) {a : Addr} {xs : List V} (h : SqT K Z a xs) : SqT K H a xs := by
  rcases h with (h | ⟨o, h⟩) | h
  · exact .inl (.inl (s _ _ h))
  · exact .inl (.inr ⟨o, s _ _ h⟩)
  · exact .inr h
theorem Sub.sqL {K : Frag} {Z H : Hp} (s : Sub Z H) {a : Addr} {xs : List V} (h : SqL K Z a xs) : SqL K H a xs := by
  rcases h with (h | ⟨o, h⟩) | h
  · exact .inl (.inl (s _ _ h))
  · exact .inl (.inr ⟨o, s _ _ h⟩)
  · exact .inr h
theorem Sub.bare {K : Frag} {Z H : Hp} (s : Sub Z H) {a : Addr} (h : Bare K Z a) : Bare K H a := by
  rcases h with ⟨o, u, h, b⟩ | h
  · exact .inl ⟨o, u, s _ _ h, b⟩
  · exact .inr h
theorem Sub.sqN {K : Frag} {Z H : Hp} (s : Sub Z H) {a : Addr} {xs : List V} (h : SqN K Z a xs) : SqN K H a xs := ⟨s.sqT h.1, s.bare h.2⟩
theorem RepD.sub {K : Frag} {Z Z' : Hp} (s : Sub Z Z') {d : D} {v : V} (h : RepD K Z d v) : RepD K Z' d v := by
  induction h with
  | non => exact .non
  | bl b => exact .bl b
  | int i => exact .int i
  | str x => exact .str x
  | tup h1 h2 _ ih => exact .tup (s.sqN h1) h2 ih
  | lst h1 h2 _ ih => exact .lst (s _ _ h1) h2 ih
  | dic h1 h2 h3 _ ih => exact .dic (s _ _ h1) h2 h3 ih
  | scr h1 => exact .scr (s.sqL h1)
theorem RepDs.sub {K : Frag} {Z Z' : Hp} (s : Sub Z Z') {l : List D} {vs : List V} (h : RepDs K Z l vs) : RepDs K Z' l vs := ⟨h.1, fun i d v a b => (h.2 i d v a b).sub s⟩
theorem RepKs.sub {K : Frag} {Z Z' : Hp} (s : Sub Z Z') {l : List (KD × D)} {vs : List (Key × V)} (h : RepKs K Z l vs) : RepKs K Z' l vs := ⟨h.1, h.2.1, fun i d v a b => (h.2.2 i d v a b).sub s⟩
theorem RepV.keep {K : Frag} {Z Z' H H' : Hp} (s : Sub Z Z') {r : RV} {v : V} {F : Reg} (h : RepV K Z H r v F) : (∀ a o, F a → H a = some o → H' a = some o) → RepV K Z' H' r v F := by
  induction h with
  | imm h => exact fun _ => .imm (h.sub s)
  | oL G h1 h2 h3 h4 h5 _ ih => exact fun k => .oL G (k _ _ h2 h1) h2 h3 h4 h5 fun i x v a b => ih i x v a b fun c o hc => k c o (h4 i c hc).1
  | oD h1 h2 h3 => exact fun k => .oD (k _ _ h2 h1) h2 (h3.sub s)
theorem RepV.wider {K : Frag} {Z H : Hp} {r : RV} {v : V} {F F' : Reg} (h : RepV K Z H r v F) (k : ∀ a, F a → F' a) : RepV K Z H r v F' := by
  cases h with
  | imm h => exact .imm h
  | oL G h1 h2 h3 h4 h5 h6 => exact .oL G h1 (k _ h2) h3 (fun i b q => ⟨k _ (h4 i b q).1, (h4 i b q).2⟩) h5 h6
  | oD h1 h2 h3 => exact .oD h1 (k _ h2) h3

open Classical in
/-- the region's things are laid open for good -/
noncomputable def over (Z H : Hp) (F : Reg) : Hp := fun a => if F a then H a else Z a
theorem over_in {Z H : Hp} {F : Reg} {a : Addr} (h : F a) : over Z H F a = H a := by unfold over; rw [if_pos h]
theorem over_out {Z H : Hp} {F : Reg} {a : Addr} (h : ¬ F a) : over Z H F a = Z a := by unfold over; rw [if_neg h]
theorem over_sub {Z H : Hp} {F : Reg} (d : ∀ a, F a → Z a = none) : Sub Z (over Z H F) := fun a o h => by
  by_cases q : F a
  · rw [d a q] at h; cases h
  · rw [over_out q]; exact h
theorem over_le {Z H : Hp} {F : Reg} (s : Sub Z H) : Sub (over Z H F) H := fun a o h => by
  by_cases q : F a
  · rw [over_in q] at h; exact h
  · rw [over_out q] at h; exact s a o h
theorem fzs_get : ∀ {l : List RV} {i : Nat} {d : D}, (fzs l)[i]? = some d → ∃ x, l[i]? = some x ∧ d = fz x
  | [], _, _, h => by simp [fzs] at h
  | x :: r, 0, d, h => by simp [fzs] at h; exact ⟨x, rfl, h.symm⟩
  | x :: r, i + 1, d, h => by
    have h' : (fzs r)[i]? = some d := by simpa [fzs] using h
    obtain ⟨y, h1, h2⟩ := fzs_get h'
    exact ⟨y, by simpa using h1, h2⟩
theorem fzs_len (l : List RV) : (fzs l).length = l.length := by rw [fzs_map, List.length_map]
/-- a thing is frozen -/
theorem RepV.freeze {K : Frag} {Z H : Hp} {r : RV} {v : V} {F : Reg} (h : RepV K Z H r v F) : ∀ {Z' : Hp}, Sub Z Z' → (∀ a o, F a → H a = some o → Z' a = some o) → RepD K Z' (fz r) v := by
  induction h with
  | imm h =>
    intro Z' s _
    rw [fz]; exact h.sub s
  | oL G h1 h2 h3 h4 h5 _ ih =>
    intro Z' s k
    rw [fz]
    refine .lst (k _ _ h2 h1) (by rw [fzs_len]; exact h3) fun i d v a b => ?_
    obtain ⟨x, hx, rfl⟩ := fzs_get a
    exact ih i x v hx b s fun c o hc => k c o (h4 i c hc).1
  | oD h1 h2 h3 =>
    intro Z' s k
    rw [fz]
    exact .dic (k _ _ h2 h1) h3.1 h3.2.1 fun i p q a b => (h3.2.2 i p q a b).sub s

/-- what is looked at -/
inductive RepW (K : Frag) (Z H : Hp) : D → V → Prop
  | of {d : D} {v : V} : RepD K Z d v → RepW K Z H d v
  | lst {l : List D} {a : Addr} {vs : List V} : H a = some (.lst vs) → RepDs K Z l vs → RepW K Z H (.lst l) (.ref a)
  | dic {l : List (KD × D)} {a : Addr} {kvs : List (Key × V)} : H a = some (.dK kvs) → RepKs K Z l kvs → RepW K Z H (.dic l) (.ref a)
theorem RepV.look {K : Frag} {Z H : Hp} {r : RV} {v : V} {F : Reg} {d : D} (h : RepV K Z H r v F) (e : vw r = some d) : RepW K Z H d v := by
  cases h with
  | imm h => cases e; exact .of h
  | oL G h1 h2 h3 h4 h5 h6 =>
    rename_i l a vs
    have e : (imms l).map D.lst = some d := e
    cases q : imms l with
    | none => rw [q] at e; cases e
    | some ds =>
      rw [q] at e
      cases e
      have := imms_eq q
      subst this
      refine .lst h1 ⟨by simpa using h3, fun i d v a b => ?_⟩
      have := h6 i (.imm d) v (by rw [List.getElem?_map, a]; rfl) b
      cases this with
      | imm h => exact h
  | oD h1 h2 h3 => cases e; exact .dic h1 h3

structure St0 (K : Frag) (Z H : Hp) (ρ : Loc) (σ : L2.St) (F : Reg) : Prop where
  sub : Sub Z H
  len : ρ.length = σ.length
  dj : ∀ a, F a → Z a = none
  al : ∀ a, F a → H a ≠ none
  env : ∃ G : Nat → Reg, (∀ i b, G i b → F b) ∧ (∀ i j b, i ≠ j → G i b → ¬ G j b) ∧ ∀ i r, slotAt ρ i = some r → ∃ v, σ[i]? = some (some v) ∧ RepV K Z H r v (G i)
structure Frm (Z H : Hp) (F : Reg) (Z' H' : Hp) (F' : Reg) : Prop where
  keep : ∀ a o, H a = some o → ¬ F a → H' a = some o
  own : ∀ a, F' a → F a ∨ H a = none
  zs : Sub Z Z'
  zn : ∀ a o, Z' a = some o → Z a = some o ∨ F a ∨ H a = none
theorem Frm.refl {Z H : Hp} {F : Reg} : Frm Z H F Z H F := ⟨fun _ _ h _ => h, fun _ h => .inl h, fun _ _ h => h, fun _ _ h => .inl h⟩
theorem Frm.trans {Z H Z1 H1 Z2 H2 : Hp} {F F1 F2 : Reg} (a : Frm Z H F Z1 H1 F1) (b : Frm Z1 H1 F1 Z2 H2 F2) : Frm Z H F Z2 H2 F2 := by
  have back : ∀ c, H1 c = none → F c ∨ H c = none := fun c h => by
    cases q : H c with
    | none => exact .inr rfl
    | some o =>
      by_cases f : F c
      · exact .inl f
      · rw [a.keep c o q f] at h; cases h
  refine ⟨fun c o h n => ?_, fun c h => ?_, fun c o h => b.zs c o (a.zs c o h), fun c o h => ?_⟩
  · refine b.keep c o (a.keep c o h n) fun f => ?_
    rcases a.own c f with z | z
    · exact n z
    · rw [z] at h; cases h
  · rcases b.own c h with z | z
    · exact a.own c z
    · exact back c z
  · rcases b.zn c o h with z | z | z
    · exact a.zn c o z
    · exact .inr (a.own c z)
    · exact .inr (back c z)
/-- a wider region ahead, a smaller one behind -/
theorem Frm.mono {Z H Z1 H1 : Hp} {F F0 F1 F2 : Reg} (a : Frm Z H F Z1 H1 F1) (h0 : ∀ c, F c → F0 c) (h : ∀ c, F2 c → F1 c ∨ F0 c ∨ H c = none) : Frm Z H F0 Z1 H1 F2 :=
  ⟨fun c o q n => a.keep c o q fun f => n (h0 c f), fun c f => by
    rcases h c f with z | z
    · rcases a.own c z with z | z
      · exact .inl (h0 c z)
      · exact .inr z
    · exact z, a.zs, fun c o q => by
      rcases a.zn c o q with z | z | z
      · exact .inl z
      · exact .inr (.inl (h0 c z))
      · exact .inr (.inr z)⟩
theorem Frm.sub' {Z H Z1 H1 : Hp} {F F1 : Reg} (a : Frm Z H F Z1 H1 F1) (s : Sub Z H) (d : ∀ c, F c → Z c = none) {c : Addr} {o : HO} (h : Z c = some o) : H1 c = some o :=
  a.keep c o (s c o h) fun f => by rw [d c f] at h; cases h

/-- a value of a new thing, or of an old one -/
def New (K : Frag) (Z H : Hp) (r : RV) (v : V) (H' : Hp) : Prop :=
  ∃ Z' Fv, Sub Z' H' ∧ RepV K Z' H' r v Fv ∧ Sub H H' ∧ (∀ a, Fv a → H a = none ∧ H' a ≠ none) ∧ (∀ a, Fv a → Z' a = none) ∧ Sub Z Z' ∧ ∀ a o, Z' a = some o → Z a = some o ∨ H a = none
theorem New.old {K : Frag} {Z H : Hp} {d : D} {v : V} (s : Sub Z H) (h : RepD K Z d v) : New K Z H (.imm d) v H :=
  ⟨Z, fun _ => False, s, .imm h, fun _ _ h => h, fun _ z => z.elim, fun _ z => z.elim, fun _ _ h => h, fun _ _ h => .inl h⟩
theorem sub_upd {H : Hp} {p : Addr} {o : HO} (h : H p = none) : Sub H (upd H p o) := fun b x e => by
  rw [upd_ne (ne_of_none e h)]
  exact e
theorem sub_upd2 {Z H : Hp} {p : Addr} {o : HO} (s : Sub Z H) : Sub (upd Z p o) (upd H p o) := fun b x e => by
  by_cases q : b = p
  · subst q; rw [upd_same] at e; rw [upd_same]; exact e
  · rw [upd_ne q] at e; rw [upd_ne q]; exact s _ _ e
theorem Sub.none {Z H : Hp} (s : Sub Z H) {a : Addr} (h : H a = Option.none) : Z a = Option.none := by
  cases q : Z a with
  | none => rfl
  | some o => rw [s a o q] at h; cases h
theorem New.tup {K : Frag} {Z H : Hp} {l : List D} {vs : List V} {p : Addr} {o : Obj} (s : Sub Z H) (n : H p = none) (b : BareO o) (h : RepDs K Z l vs) : New K Z H (.imm (.tup l)) (.ref p) (upd H p (.frz o (.tup vs))) := by
  have zp := s.none n
  refine ⟨upd Z p (.frz o (.tup vs)), fun _ => False, sub_upd2 s, .imm (.tup ⟨.inl (.inr ⟨o, upd_same⟩), .inl ⟨o, _, upd_same, b⟩⟩ h.1 fun i d v a b => (h.2 i d v a b).sub (sub_upd zp)), sub_upd n, fun _ z => z.elim, fun _ z => z.elim, sub_upd zp, fun a o e => ?_⟩
  by_cases q : a = p
  · subst q; exact .inr n
  · rw [upd_ne q] at e; exact .inl e
theorem New.lst {K : Frag} {Z H : Hp} {l : List D} {vs : List V} {p : Addr} (s : Sub Z H) (n : H p = none) (h : RepDs K Z l vs) : New K Z H (.oL (l.map .imm)) (.ref p) (upd H p (.lst vs)) := by
  refine ⟨Z, fun a => a = p, fun a o e => sub_upd n a o (s a o e), .oL (fun _ _ => False) upd_same rfl (by simpa using h.1) (fun _ _ z => z.elim) (fun _ _ _ _ z => z.elim) (fun i x v a b => ?_), sub_upd n, fun a e => by rw [e]; exact ⟨n, by rw [upd_same]; exact fun z => by cases z⟩, fun a e => by rw [e]; exact s.none n, fun _ _ h => h, fun _ _ h => .inl h⟩
  rw [List.getElem?_map] at a
  cases q : l[i]? with
  | none => rw [q] at a; cases a
  | some d => rw [q] at a; cases a; exact .imm (h.2 i d v q b)

theorem repDs_cons {K : Frag} {Z : Hp} {d : D} {l : List D} {vs : List V} (h : RepDs K Z (d :: l) vs) : ∃ v r, vs = v :: r ∧ RepD K Z d v ∧ RepDs K Z l r := by
  obtain ⟨h1, h2⟩ := h
  cases vs with
  | nil => simp at h1
  | cons v r => exact ⟨v, r, rfl, h2 0 d v rfl rfl, by simpa using h1, fun i d v a b => h2 (i + 1) d v (by simpa using a) (by simpa using b)⟩
theorem repDs_nil {K : Frag} {Z : Hp} {vs : List V} (h : RepDs K Z [] vs) : vs = [] := by
  have := h.1
  cases vs with
  | nil => rfl
  | cons v r => simp at this
theorem RepDs.nil {K : Frag} {Z : Hp} : RepDs K Z [] [] := ⟨rfl, fun i d v a b => by simp at a⟩
theorem RepDs.cons {K : Frag} {Z : Hp} {d : D} {v : V} {l : List D} {vs : List V} (h : RepD K Z d v) (h2 : RepDs K Z l vs) : RepDs K Z (d :: l) (v :: vs) :=
  ⟨by simp [h2.1], fun i x y a b => by
    cases i with
    | zero => simp at a b; subst a; subst b; exact h
    | succ i => exact h2.2 i x y (by simpa using a) (by simpa using b)⟩
mutual
theorem dp_of {K : Frag} {Z : Hp} : ∀ (d : D) (v : V), d.nd = true → RepD K Z d v → Dp K Z v (toP d)
  | .non, _, _, h => by cases h; rw [toP]; exact .non
  | .bl b, _, _, h => by cases h; rw [toP]; exact .bl b
  | .int i, _, _, h => by cases h; rw [toP]; exact .int i
  | .str s, _, _, h => by cases h; rw [toP]; exact .str _
  | .tup l, _, n, h => by
    cases h with
    | tup h1 h2 h3 =>
      rw [toP]
      rw [D.nd] at n
      exact .tup h1.1 (dps_of l _ n ⟨h2, h3⟩)
  | .lst l, _, n, h => by
    cases h with
    | lst h1 h2 h3 =>
      rw [toP]
      rw [D.nd] at n
      exact .lst (SqL.of h1) (dps_of l _ n ⟨h2, h3⟩)
  | .dic _, _, n, _ => by rw [D.nd] at n; cases n
  | .scr _, _, n, _ => by rw [D.nd] at n; cases n
theorem dps_of {K : Frag} {Z : Hp} : ∀ (l : List D) (vs : List V), nds l = true → RepDs K Z l vs → DpAll K Z vs (toPs l)
  | [], vs, _, h => by rw [repDs_nil h, toPs]; exact .nil
  | d :: l, vs, n, h => by
    obtain ⟨v, r, rfl, h1, h2⟩ := repDs_cons h
    rw [nds, Bool.and_eq_true] at n
    rw [toPs]
    exact .cons (dp_of d v n.1 h1) (dps_of l r n.2 h2)
end
mutual
theorem Dp.le {K : Frag} {Z H : Hp} (s : Sub Z H) : ∀ (v : V) (d : PyData), Dp K Z v d → Dp K H v d
  | _, _, .non => .non
  | _, _, .bl b => .bl b
  | _, _, .int i => .int i
  | _, _, .str x => .str x
  | _, _, .lst h a => .lst (s.sqL h) (DpAll.le s _ _ a)
  | _, _, .tup h a => .tup (s.sqT h) (DpAll.le s _ _ a)
theorem DpAll.le {K : Frag} {Z H : Hp} (s : Sub Z H) : ∀ (vs : List V) (ds : List PyData), DpAll K Z vs ds → DpAll K H vs ds
  | _, _, .nil => .nil
  | _, _, .cons h a => .cons (Dp.le s _ _ h) (DpAll.le s _ _ a)
end
theorem RepW.dp {K : Frag} {Z H : Hp} (s : Sub Z H) {d : D} {v : V} (n : d.nd = true) (h : RepW K Z H d v) : Dp K H v (toP d) := by
  cases h with
  | of h => exact Dp.le s _ _ (dp_of d v n h)
  | lst h1 h2 =>
    rw [toP]
    rw [D.nd] at n
    exact .lst (SqL.of h1) (DpAll.le s _ _ (dps_of _ _ n h2))
  | dic _ _ => rw [D.nd] at n; cases n
mutual
theorem canLay_of : ∀ d : D, d.nd = true → (toP d).canLay0 = true
  | .non, _ => by simp [toP, PyData.canLay0]
  | .bl b, _ => by simp [toP, PyData.canLay0]
  | .int i, _ => by simp [toP, PyData.canLay0]
  | .str s, n => by rw [D.nd] at n; simpa [toP, PyData.canLay0, PyData.strOk, toStr] using n
  | .tup l, n => by rw [D.nd] at n; simp only [toP, PyData.canLay0]; exact canLays_of l n
  | .lst l, n => by rw [D.nd] at n; simp only [toP, PyData.canLay0]; exact canLays_of l n
  | .dic _, n => by rw [D.nd] at n; cases n
  | .scr _, n => by rw [D.nd] at n; cases n
theorem canLays_of : ∀ l : List D, nds l = true → PyData.canLayAll0 (toPs l) = true
  | [], _ => by simp [toPs, PyData.canLayAll0]
  | d :: l, n => by
    rw [nds, Bool.and_eq_true] at n
    simp [toPs, PyData.canLayAll0, canLay_of d n.1, canLays_of l n.2]
end
mutual
theorem dep_of : ∀ d : D, (toP d).depth = d.dep
  | .non => by simp [toP, PyData.depth, D.dep]
  | .bl b => by simp [toP, PyData.depth, D.dep]
  | .int i => by simp [toP, PyData.depth, D.dep]
  | .str s => by simp [toP, PyData.depth, D.dep]
  | .tup l => by simp only [toP, PyData.depth, D.dep, deps_of l]
  | .lst l => by simp only [toP, PyData.depth, D.dep, deps_of l]
  | .dic _ => by simp [toP, PyData.depth, D.dep]
  | .scr _ => by simp [toP, PyData.depth, D.dep]
theorem deps_of : ∀ l : List D, PyData.depthAll (toPs l) = deps l
  | [] => by simp [toPs, PyData.depthAll, deps]
  | d :: l => by simp only [toPs, PyData.depthAll, deps, dep_of d, deps_of l]
end
theorem okEq_shaped {d : D} (h : okEq d = true) : d.nd = true ∧ SeqAt.shaped (toP d) = true := by
  unfold okEq at h
  rw [Bool.and_eq_true] at h
  refine ⟨h.1, ?_⟩
  unfold SeqAt.shaped
  rw [Bool.and_eq_true]
  have := of_decide_eq_true h.2
  exact ⟨canLay_of d h.1, decide_eq_true (by rw [dep_of]; omega)⟩
theorem toStr_inj {s t : List Nat} : (toStr s == toStr t) = (s == t) := by
  by_cases h : s = t
  · subst h; simp
  · rw [beq_false_of_ne h, beq_false_of_ne]
    intro e
    unfold toStr at e
    injection e with e
    exact h (by simpa using congrArg Array.toList e)
mutual
theorem eqv_of : ∀ a b : D, a.nd = true → b.nd = true → PyData.eqv (toP a) (toP b) = deq a b
  | .non, b, _, nb => by cases b <;> simp_all [toP, PyData.eqv, deq, D.nd]
  | .bl x, b, _, nb => by cases b <;> simp_all [toP, PyData.eqv, deq, D.nd]
  | .int x, b, _, nb => by cases b <;> simp_all [toP, PyData.eqv, deq, D.nd]
  | .str x, b, _, nb => by
    cases b with
    | str y => simp only [toP, PyData.eqv, deq]; exact toStr_inj
    | _ => simp_all [toP, PyData.eqv, deq, D.nd]
  | .tup l, b, na, nb => by
    cases b with
    | tup m => rw [D.nd] at na nb; simp only [toP, PyData.eqv, deq]; exact eqvs_of l m na nb
    | _ => simp_all [toP, PyData.eqv, deq, D.nd]
  | .lst l, b, na, nb => by
    cases b with
    | lst m => rw [D.nd] at na nb; simp only [toP, PyData.eqv, deq]; exact eqvs_of l m na nb
    | _ => simp_all [toP, PyData.eqv, deq, D.nd]
  | .dic _, _, na, _ => by rw [D.nd] at na; cases na
  | .scr _, _, na, _ => by rw [D.nd] at na; cases na
theorem eqvs_of : ∀ l m : List D, nds l = true → nds m = true → PyData.eqvAll (toPs l) (toPs m) = deqs l m
  | [], [], _, _ => by simp [toPs, PyData.eqvAll, deqs]
  | [], _ :: _, _, _ => by simp [toPs, PyData.eqvAll, deqs]
  | _ :: _, [], _, _ => by simp [toPs, PyData.eqvAll, deqs]
  | x :: l, y :: m, na, nb => by
    rw [nds, Bool.and_eq_true] at na nb
    simp only [toPs, PyData.eqvAll, deqs]
    rw [eqv_of x y na.1 nb.1, eqvs_of l m na.2 nb.2]
end
end Mv
namespace Mv
open PySem PySem.Spec PyProof.Rows L2
theorem apEq_bool {a b : D} {r : RV} (h : apEq a b = some r) : ∃ c, r = bool c := by
  unfold apEq at h
  split at h
  · cases h; exact ⟨_, rfl⟩
  · unfold apEqDic at h
    split at h
    · split at h
      · cases h; exact ⟨_, rfl⟩
      · cases h
    · cases h
section
variable {X : Cx} {pins : List (Addr × Obj)} {σ : L2.St} {H : Hp} {s : Shared} {Q : VK}
/-- the wish at a new tuple -/
def Fresh (H : Hp) (Q : VK) (xs : List V) : Prop := ∀ (p : Addr) (o : Obj), BareO o → H p = none → Q (.ref p) (upd H p (.frz o (.tup xs)))
theorem fresh_ep {xs : List V} {vals : List Value} {tk : Nat} (I : Inv X pins σ H s) (r : Vals xs vals) (z : xs.length ≤ sizeLine) (q : Fresh H Q xs) :
    EP X pins σ Q (.ref s.heap.objs.size) { s with heap := s.heap.push { cls := .type "tuple", data := .seq vals.toArray }, toks := tk } := by
  have at' := Heap.get?_push_size (o := { cls := .type "tuple", data := .seq vals.toArray }) s.heap rfl
  have none' : H s.heap.objs.size = none := I.hok.fresh (Nat.le_refl _)
  exact ⟨.ref s.heap.objs.size, _, I.laid (t' := tk) (o := .frz { cls := .type "tuple", data := .seq vals.toArray } (.tup xs)) (fun _ _ e => Heap.get?_push_of_some _ e) (Nat.le_refl _) ⟨at', z, vals, r, _, at', rfl, _, rfl⟩, rfl, q _ _ ⟨rfl, rfl⟩ none'⟩
def tTupN (t : TA) : TE := fun σ H Q => t σ H fun xs H1 => xs.length ≤ sizeLine ∧ Fresh H1 Q xs
theorem pe_tupN {es : List Expr} {t : TA} {k : Nat} {pos : Pos} (h : PA X es t) : PE X (.Tuple es k pos) (tTupN t) :=
  ⟨fun pins s σ H Q I hq => wpAny_Tuple_spliced (thn (h.run pos pins s σ H _ I hq) fun us s1 ⟨_, _, I1, r, z, q⟩ => ⟨r.length ▸ z, fresh_ep (tk := s1.toks) I1 r z q⟩)⟩
theorem op_catN : OpR X (binaryOp .Add) fun x y H Q => ∃ a b xs ys, x = .ref a ∧ y = .ref b ∧ SqT X.K H a xs ∧ SqT X.K H b ys ∧ xs.length + ys.length ≤ sizeLine ∧
    (xs = [] → Q (.ref b) H) ∧ (xs ≠ [] → ys = [] → Q (.ref a) H) ∧ (xs ≠ [] → ys ≠ [] → Fresh H Q (xs ++ ys)) := by
  intro pins s σ H x y v u Q I rx ry h
  obtain ⟨a, b, xs, ys, rfl, rfl, ha, hb, hz, q0, q1, q2⟩ := h
  cases rx; cases ry
  obtain ⟨i1, r1, p1, _⟩ := I.tuple ha
  obtain ⟨i2, r2, p2, _⟩ := I.tuple hb
  by_cases n1 : xs = []
  · subst n1
    cases r1
    exact cat_tup0 p1 p2 ⟨.ref b, _, I, rfl, q0 rfl⟩
  · refine HT.cat_tup p1 p2 (n1 ∘ r1.nil_iff.mp) (fun e => ⟨.ref a, _, I, rfl, q1 n1 (r2.nil_iff.mp e)⟩) (fun e => ?_) (by rw [← r2.length, ← r1.length]; exact hz)
    exact fresh_ep (tk := s.toks) I (r1.append r2) (by rw [List.length_append]; exact hz) (q2 n1 (e ∘ r2.nil_iff.mpr))
theorem sl_tupN : SlR X fun x lo hi H Q => ∃ a xs, x = .ref a ∧ SqT X.K H a xs ∧ (HT.sIx xs.length 0 lo = 0 ∧ HT.sIx xs.length xs.length hi = xs.length → Q (.ref a) H) ∧
    (¬ (HT.sIx xs.length 0 lo = 0 ∧ HT.sIx xs.length xs.length hi = xs.length) → Fresh H Q (cutV xs lo hi)) := by
  intro pins s σ H x v vl vu lo hi sl Q I rx hs pl pu h
  obtain ⟨a, xs, rfl, hx, q1, q2⟩ := h
  cases rx
  obtain ⟨its, r, ht, hz⟩ := I.tuple hx
  have e : its.toArray.size = xs.length := by simpa using r.length.symm
  refine ⟨_, _, PyProof.Rows.slot_tuple_getitem.lookup, ht.typeIs, ?_⟩
  by_cases c : HT.sIx xs.length 0 lo = 0 ∧ HT.sIx xs.length xs.length hi = xs.length
  · exact getItem_tuple_whole ht hs pl pu (e ▸ c) ⟨.ref a, _, I, rfl, q1 c⟩
  · refine HT.getItem_tuple_cut ht hs pl pu (e ▸ c) ?_ (e ▸ hz)
    rw [e]
    exact fresh_ep (tk := s.toks) I ((r.drop _).take _) (Nat.le_trans (cutV_length xs lo hi) hz) (q2 c)
theorem call_tupleN : CallR X (.type "tuple") fun xs H Q => ∃ p ys, xs = [.ref p] ∧ ((SqL X.K H p ys ∧ Fresh H Q ys) ∨ (SqT X.K H p ys ∧ Q (.ref p) H)) := by
  intro pins s σ H xs us Q I r h
  obtain ⟨p, ys, rfl, h⟩ := h
  obtain ⟨u, rfl, rx⟩ := vals1 r
  cases rx
  rcases h with ⟨l, q⟩ | ⟨t, q⟩
  · obtain ⟨its, r2, pl, z⟩ := I.list l
    refine call_tuple_list pl.isList (fun h' kp => ?_) (by have := r2.length; simp only [List.size_toArray]; omega)
    exact fresh_ep (tk := s.toks) (I.kept (t' := s.toks) kp) r2 z q
  · obtain ⟨_, _, pl, _⟩ := I.tuple t
    exact call_tuple_same pl ⟨.ref p, _, I, rfl, q⟩
end
end Mv
namespace Mv
open PySem PySem.Spec PyProof.Rows L2

section
variable {K : Frag} {Z H : Hp}
theorem RepW.int_ {i : Int} {v : V} (h : RepW K Z H (.int i) v) : v = .int i := by cases h with | of h => cases h; rfl
theorem RepW.bl_ {i : Bool} {v : V} (h : RepW K Z H (.bl i) v) : v = .bl i := by cases h with | of h => cases h; rfl
theorem RepW.non_ {v : V} (h : RepW K Z H .non v) : v = .non := by cases h with | of h => cases h; rfl
theorem RepW.str_ {s : List Nat} {v : V} (h : RepW K Z H (.str s) v) : v = .str (toStr s) := by cases h with | of h => cases h; rfl
theorem RepW.tup_ {l : List D} {v : V} (h : RepW K Z H (.tup l) v) : ∃ a vs, v = .ref a ∧ SqT K Z a vs ∧ RepDs K Z l vs := by cases h with | of h => cases h with | tup h1 h2 h3 => exact ⟨_, _, rfl, h1.1, h2, h3⟩
theorem RepW.tupN_ {l : List D} {v : V} (h : RepW K Z H (.tup l) v) : ∃ a vs, v = .ref a ∧ SqN K Z a vs ∧ RepDs K Z l vs := by cases h with | of h => cases h with | tup h1 h2 h3 => exact ⟨_, _, rfl, h1, h2, h3⟩
theorem RepW.lst_ (s : Sub Z H) {l : List D} {v : V} (h : RepW K Z H (.lst l) v) : ∃ a vs, v = .ref a ∧ H a = some (.lst vs) ∧ RepDs K Z l vs := by
  cases h with
  | of h => cases h with | lst h1 h2 h3 => exact ⟨_, _, rfl, s _ _ h1, h2, h3⟩
  | lst h1 h2 => exact ⟨_, _, rfl, h1, h2⟩
theorem RepW.dic_ (s : Sub Z H) {l : List (KD × D)} {v : V} (h : RepW K Z H (.dic l) v) : ∃ a vs, v = .ref a ∧ H a = some (.dK vs) ∧ RepKs K Z l vs := by
  cases h with
  | of h => cases h with | dic h1 h2 h3 h4 => exact ⟨_, _, rfl, s _ _ h1, h2, h3, h4⟩
  | dic h1 h2 => exact ⟨_, _, rfl, h1, h2⟩
theorem RepW.scr_ {l : List Int} {v : V} (h : RepW K Z H (.scr l) v) : ∃ a, v = .ref a ∧ SqL K Z a (l.map V.int) := by cases h with | of h => cases h with | scr h1 => exact ⟨_, rfl, h1⟩
end

section
variable (K : Frag)
def M1 (g : D → Option RV) : V → Hp → VK → Prop := fun x H Q => ∃ Z a r, Sub Z H ∧ RepW K Z H a x ∧ g a = some r ∧ ∀ v H', New K Z H r v H' → Q v H'
def M2 (g : D → D → Option RV) : R2 := fun x y H Q => ∃ Z a b r, Sub Z H ∧ RepW K Z H a x ∧ RepW K Z H b y ∧ g a b = some r ∧ ∀ v H', New K Z H r v H' → Q v H'
def MC1 (g : D → Option RV) : List V → Hp → VK → Prop := fun xs H Q => ∃ x, xs = [x] ∧ M1 K g x H Q
end
theorem opR_imp {X : Cx} {f : Value → Value → Sem Value} {r r' : R2} (h : OpR X f r) (k : ∀ x y H Q, r' x y H Q → r x y H Q) : OpR X f r' :=
  fun pins s σ H x y v u Q I rx ry q => h pins s σ H x y v u Q I rx ry (k _ _ _ _ q)
theorem ixR_imp {X : Cx} {r r' : R2} (h : IxR X r) (k : ∀ x y H Q, r' x y H Q → r x y H Q) : IxR X r' :=
  fun a b pins s σ H x y v u Q I rx ry q => h a b pins s σ H x y v u Q I rx ry (k _ _ _ _ q)
theorem unR_imp {X : Cx} {f : Value → Sem Value} {r r' : V → Hp → VK → Prop} (h : UnR X f r) (k : ∀ x H Q, r' x H Q → r x H Q) : UnR X f r' :=
  fun pins s σ H x v Q I rx q => h pins s σ H x v Q I rx (k _ _ _ q)
theorem callR_imp {X : Cx} {f : Value} {r r' : List V → Hp → VK → Prop} (h : CallR X f r) (k : ∀ x H Q, r' x H Q → r x H Q) : CallR X f r' :=
  fun pins s σ H x v Q I rx q => h pins s σ H x v Q I rx (k _ _ _ q)
theorem slR_imp {X : Cx} {r r' : V → Option Int → Option Int → Hp → VK → Prop} (h : SlR X r) (k : ∀ x lo hi H Q, r' x lo hi H Q → r x lo hi H Q) : SlR X r' :=
  fun pins s σ H x v vl vu lo hi sl Q I rx hs pl pu q => h pins s σ H x v vl vu lo hi sl Q I rx hs pl pu (k _ _ _ _ _ q)

theorem strExt {x y : Str} (h : x.cps.toList = y.cps.toList) : x = y := Str.ext' (Array.toList_inj.mp h)
theorem toStr_len (s : List Nat) : (toStr s).length = s.length := by simp [toStr, Str.length]
theorem toStr_cat (s t : List Nat) : toStr s ++ toStr t = toStr (s ++ t) := by
  show Str.append (toStr s) (toStr t) = _
  simp [toStr, Str.append]
theorem toStr_cps (s : List Nat) : (toStr s).cps.toList = s := rfl

section
variable {K : Frag} {Z H : Hp}
/-- an answer that is no new thing -/
theorem fin_old {d : D} {v : V} {Q : VK} (s : Sub Z H) (q : ∀ v H', New K Z H (.imm d) v H' → Q v H') (h : RepD K Z d v) : Q v H := q _ _ (New.old s h)
theorem repDs_append {l m : List D} {vs ws : List V} (h : RepDs K Z l vs) (h2 : RepDs K Z m ws) : RepDs K Z (l ++ m) (vs ++ ws) := by
  refine ⟨by simp [h.1, h2.1], fun i d v a b => ?_⟩
  by_cases q : i < l.length
  · rw [List.getElem?_append_left q] at a
    rw [List.getElem?_append_left (by rw [← h.1]; exact q)] at b
    exact h.2 i d v a b
  · rw [List.getElem?_append_right (by omega)] at a
    rw [List.getElem?_append_right (by rw [← h.1]; omega), ← h.1] at b
    exact h2.2 _ d v a b
theorem repDs_take {l : List D} {vs : List V} (h : RepDs K Z l vs) (n : Nat) : RepDs K Z (l.take n) (vs.take n) := by
  refine ⟨by simp [h.1], fun i d v a b => ?_⟩
  rw [List.getElem?_take] at a b
  split at a
  · rename_i q; rw [if_pos q] at b; exact h.2 i d v a b
  · cases a
theorem repDs_drop {l : List D} {vs : List V} (h : RepDs K Z l vs) (n : Nat) : RepDs K Z (l.drop n) (vs.drop n) := by
  refine ⟨by simp [h.1], fun i d v a b => ?_⟩
  rw [List.getElem?_drop] at a b
  exact h.2 _ d v a b
theorem cutIx_eq (n d : Nat) (o : Option Int) : cutIx n d o = HT.sIx n d o := by
  cases o with
  | none => rfl
  | some v =>
    unfold cutIx HT.sIx
    first | rfl | (split <;> first | rfl | omega | (split <;> omega))
theorem repDs_cut {l : List D} {vs : List V} (h : RepDs K Z l vs) (lo hi : Option Int) : RepDs K Z (cut l lo hi) (cutV vs lo hi) := by
  unfold cut cutV
  rw [cutIx_eq, cutIx_eq, ← h.1]
  exact repDs_take (repDs_drop h _) _
theorem repDs_at {l : List D} {vs : List V} (h : RepDs K Z l vs) {i : Int} {d : D} (e : atD l i = some d) : ∃ v, atI vs i = some v ∧ RepD K Z d v := by
  have hl := h.1
  have get : ∀ j : Nat, l[j]? = some d → ∃ v, vs[j]? = some v ∧ RepD K Z d v := fun j a => by
    have hj : j < l.length := (List.getElem?_eq_some_iff.mp a).1
    have hv : j < vs.length := by omega
    exact ⟨vs[j], List.getElem?_eq_getElem hv, h.2 j d _ a (List.getElem?_eq_getElem hv)⟩
  unfold atD at e
  unfold atI ixN
  by_cases c : 0 ≤ i
  · rw [if_pos c] at e
    rw [if_pos c]
    obtain ⟨v, hv, r⟩ := get _ e
    have : i.toNat < vs.length := (List.getElem?_eq_some_iff.mp hv).1
    rw [if_pos (by omega)]
    exact ⟨v, hv, r⟩
  · rw [if_neg c] at e
    rw [if_neg c]
    by_cases c2 : -(l.length : Int) ≤ i
    · rw [if_pos c2] at e
      rw [if_pos (by omega), ← hl]
      obtain ⟨v, hv, r⟩ := get _ e
      exact ⟨v, hv, r⟩
    · rw [if_neg c2] at e; cases e
theorem ints_of : ∀ {l : List D} {vs : List V} {ns : List Int}, ints? l = some ns → RepDs K Z l vs → vs = ns.map V.int
  | [], vs, ns, h, r => by simp [ints?] at h; subst h; rw [repDs_nil r]; rfl
  | d :: l, vs, ns, h, r => by
    obtain ⟨v, w, rfl, h1, h2⟩ := repDs_cons r
    cases d <;> simp only [ints?, reduceCtorEq] at h
    rename_i i
    cases q : ints? l with
    | none => rw [q] at h; cases h
    | some ms => rw [q] at h; cases h; cases h1; rw [ints_of q h2]; rfl
theorem bls_of : ∀ {l : List D} {vs : List V} {ns : List Bool}, bls? l = some ns → RepDs K Z l vs → vs = ns.map V.bl
  | [], vs, ns, h, r => by simp [bls?] at h; subst h; rw [repDs_nil r]; rfl
  | d :: l, vs, ns, h, r => by
    obtain ⟨v, w, rfl, h1, h2⟩ := repDs_cons r
    cases d <;> simp only [bls?, reduceCtorEq] at h
    rename_i i
    cases q : bls? l with
    | none => rw [q] at h; cases h
    | some ms => rw [q] at h; cases h; cases h1; rw [bls_of q h2]; rfl
end

section
variable {X : Cx}
theorem k_add : OpR X (binaryOp .Add) (M2 X.K apAdd) := by
  refine opR_imp (OpR.or op_add (OpR.or op_add_str (OpR.or op_catN op_cat))) fun x y H Q ⟨Z, a, b, r, s, ha, hb, e, q⟩ => ?_
  cases a <;> cases b <;> simp only [apAdd, reduceCtorEq] at e
  · cases ha.int_; cases hb.int_; cases e
    exact .inl ⟨_, _, rfl, rfl, fin_old s q (.int _)⟩
  · cases ha.str_; cases hb.str_
    split at e
    · cases e
      refine .inr (.inl ⟨_, _, rfl, rfl, by rw [toStr_len, toStr_len]; assumption, ?_⟩)
      rw [toStr_cat]
      exact fin_old s q (.str _)
    · cases e
  · obtain ⟨a1, vs, rfl, h1, r1⟩ := ha.tupN_
    obtain ⟨b1, ws, rfl, h2, r2⟩ := hb.tupN_
    split at e
    · cases e
      refine .inr (.inr (.inl ⟨_, _, _, _, rfl, rfl, s.sqT h1.1, s.sqT h2.1, by rw [← r1.1, ← r2.1]; assumption, ?_⟩))
      have t1 : RepD X.K Z (.tup _) (.ref a1) := .tup h1 r1.1 r1.2
      have t2 : RepD X.K Z (.tup _) (.ref b1) := .tup h2 r2.1 r2.2
      refine ⟨fun e1 => ?_, fun _ e2 => ?_, fun _ _ p o b n => q _ _ (New.tup s n b (repDs_append r1 r2))⟩
      · have z := r1.1
        rw [e1] at z
        have e0 := List.length_eq_zero_iff.mp z
        subst e0
        exact fin_old s q t2
      · have z := r2.1
        rw [e2] at z
        have e0 := List.length_eq_zero_iff.mp z
        subst e0
        rw [List.append_nil] at q
        exact fin_old s q t1
    · cases e
  · obtain ⟨a1, vs, rfl, h1, r1⟩ := ha.lst_ s
    obtain ⟨b1, ws, rfl, h2, r2⟩ := hb.lst_ s
    split at e
    · cases e
      exact .inr (.inr (.inr ⟨_, _, _, _, rfl, rfl, h1, h2, by rw [← r1.1, ← r2.1]; assumption, fun p n => q _ _ (New.lst s n (repDs_append r1 r2))⟩))
    · cases e
theorem k_sub : OpR X (binaryOp .Sub) (M2 X.K apSub) := by
  refine opR_imp op_sub fun x y H Q ⟨Z, a, b, r, s, ha, hb, e, q⟩ => ?_
  cases a <;> cases b <;> simp only [apSub, reduceCtorEq] at e
  cases ha.int_; cases hb.int_; cases e
  exact ⟨_, _, rfl, rfl, fin_old s q (.int _)⟩
theorem k_mul : OpR X (binaryOp .Mult) (M2 X.K apMul) := by
  refine opR_imp (OpR.or op_mul op_mulW) fun x y H Q ⟨Z, a, b, r, s, ha, hb, e, q⟩ => ?_
  cases a <;> cases b <;> simp only [apMul, reduceCtorEq] at e
  cases ha.int_; cases hb.int_
  split at e
  · cases e
    rename_i c
    exact .inl ⟨_, _, rfl, rfl, c, fin_old s q (.int _)⟩
  · split at e
    · cases e
      rename_i c
      exact .inr ⟨_, _, rfl, rfl, @of_decide_eq_true _ (Classical.propDecidable _) c, fin_old s q (.int _)⟩
    · cases e
theorem k_fdiv : OpR X (binaryOp .FloorDiv) (M2 X.K apFdiv) := by
  refine opR_imp op_fdiv fun x y H Q ⟨Z, a, b, r, s, ha, hb, e, q⟩ => ?_
  cases a <;> cases b <;> simp only [apFdiv, reduceCtorEq] at e
  cases ha.int_; cases hb.int_
  split at e
  · cases e
    rename_i c
    exact ⟨_, _, rfl, rfl, c, fin_old s q (.int _)⟩
  · cases e
theorem k_mod : OpR X (binaryOp .Mod) (M2 X.K apMod) := by
  refine opR_imp op_mod fun x y H Q ⟨Z, a, b, r, s, ha, hb, e, q⟩ => ?_
  cases a <;> cases b <;> simp only [apMod, reduceCtorEq] at e
  cases ha.int_; cases hb.int_
  split at e
  · cases e
    rename_i c
    exact ⟨_, _, rfl, rfl, c, fin_old s q (.int _)⟩
  · cases e
theorem k_pow : OpR X (binaryOp .Pow) (M2 X.K apPow) := by
  refine opR_imp op_pow fun x y H Q ⟨Z, a, b, r, s, ha, hb, e, q⟩ => ?_
  cases a <;> cases b <;> simp only [apPow, reduceCtorEq] at e
  cases ha.int_; cases hb.int_
  split at e
  · cases e
    rename_i c
    exact ⟨_, _, rfl, rfl, c, fin_old s q (.int _)⟩
  · cases e
theorem k_neg : UnR X (unaryOp .USub) (M1 X.K apNeg) := by
  refine unR_imp un_neg fun x H Q ⟨Z, a, r, s, ha, e, q⟩ => ?_
  cases a <;> simp only [apNeg, reduceCtorEq] at e
  cases ha.int_; cases e
  exact ⟨_, rfl, fin_old s q (.int _)⟩

theorem scalD_of {K : Frag} {Z H : Hp} {a b : D} {x y : V} (ha : RepW K Z H a x) (hb : RepW K Z H b y) (h : scalD a b = true) : scal x y = true ∧ decide (x = y) = deq a b := by
  cases a <;> cases b <;> simp only [scalD, reduceCtorEq] at h <;>
    (first | cases ha.non_ | cases ha.int_ | cases ha.bl_ | cases ha.str_) <;> (first | cases hb.non_ | cases hb.int_ | cases hb.bl_ | cases hb.str_) <;>
    refine ⟨rfl, ?_⟩ <;> simp only [deq]
  · rfl
  · exact decide_eq_false (fun z => by cases z)
  · exact decide_eq_false (fun z => by cases z)
  · exact decide_eq_false (fun z => by cases z)
  · exact decide_eq_false (fun z => by cases z)
  · exact dec_bl
  · exact decide_eq_false (fun z => by cases z)
  · exact decide_eq_false (fun z => by cases z)
  · exact dec_int
  · exact decide_eq_false (fun z => by cases z)
  · exact decide_eq_false (fun z => by cases z)
  · exact decide_eq_false (fun z => by cases z)
  · exact decide_eq_false (fun z => by cases z)
  · exact dec_str.trans toStr_inj
theorem eqD_of {K : Frag} {Z H : Hp} {a b : D} {x y : V} (s : Sub Z H) (ha : RepW K Z H a x) (hb : RepW K Z H b y) (h : (okEq a && okEq b) = true) {Q : VK} :
    ∃ d e, Dp K H x d ∧ Dp K H y e ∧ SeqAt.shaped d = true ∧ SeqAt.shaped e = true ∧ PyData.eqv d e = deq a b := by
  rw [Bool.and_eq_true] at h
  have h1 := okEq_shaped h.1
  have h2 := okEq_shaped h.2
  exact ⟨toP a, toP b, ha.dp s h1.1, hb.dp s h2.1, h1.2, h2.2, eqv_of a b h1.1 h2.1⟩
theorem flatB_of {K : Frag} {Z : Hp} {d : D} {v : V} (h : RepD K Z d v) (f : flatD d = true) : flatB v = true ∧ ∀ w, RepD K Z d w → w = v := by
  cases h <;> first | (cases f; done) | exact ⟨rfl, fun w h => by cases h; rfl⟩
theorem kK_in {a b : KD} (h : kK a = kK b) : a = b := by
  cases a <;> cases b
  · rename_i i j
    have h : (Sum.inl i : Key) = .inl j := h
    cases h; rfl
  · rename_i i j
    have h : (Sum.inl i : Key) = .inr (toStr j) := h
    cases h
  · rename_i i j
    have h : (Sum.inr (toStr i) : Key) = .inl j := h
    cases h
  · rename_i i j
    have h : (Sum.inr (toStr i) : Key) = .inr (toStr j) := h
    have h : toStr i = toStr j := Sum.inr.inj h
    have : (toStr i == toStr j) = true := by rw [h]; exact beq_self_eq_true _
    rw [toStr_inj] at this
    rw [eq_of_beq this]
theorem repKs_one {K : Frag} {Z : Hp} {l : List (KD × D)} {vs ws : List (Key × V)} (h1 : RepKs K Z l vs) (h2 : RepKs K Z l ws) (f : flatDic l = true) : ws = vs ∧ (∀ p ∈ vs, flatB p.2 = true) ∧ vs.map (·.1) = l.map (fun p => kK p.1) := by
  have fl : ∀ (i : Nat) (p : KD × D), l[i]? = some p → flatD p.2 = true := fun i p h => List.all_eq_true.mp f p (List.mem_of_getElem? h)
  have at_ : ∀ (i : Nat) (q : Key × V), vs[i]? = some q → ∃ p, l[i]? = some p := fun i q h => by
    have : i < l.length := by rw [h1.1]; exact (List.getElem?_eq_some_iff.mp h).1
    exact ⟨l[i], List.getElem?_eq_getElem this⟩
  refine ⟨List.ext_getElem? fun i => ?_, fun q hq => ?_, List.ext_getElem? fun i => ?_⟩
  · cases hv : vs[i]? with
    | none =>
      have := List.getElem?_eq_none_iff.mp hv
      exact List.getElem?_eq_none (by rw [← h2.1, h1.1]; exact this)
    | some q =>
      obtain ⟨p, hp⟩ := at_ i q hv
      have lw : i < ws.length := by rw [← h2.1]; exact (List.getElem?_eq_some_iff.mp hp).1
      have hw : ws[i]? = some ws[i] := List.getElem?_eq_getElem lw
      rw [hw]
      have k1 := h1.2.1 i p q hp hv
      have k2 := h2.2.1 i p _ hp hw
      have v1 := h1.2.2 i p q hp hv
      have v2 := h2.2.2 i p _ hp hw
      have := (flatB_of v1 (fl i p hp)).2 _ v2
      exact congrArg some (Prod.ext (k2.symm.trans k1) this)
  · obtain ⟨i, hi⟩ := List.getElem?_of_mem hq
    obtain ⟨p, hp⟩ := at_ i q hi
    exact (flatB_of (h1.2.2 i p q hp hi) (fl i p hp)).1
  · rw [List.getElem?_map, List.getElem?_map]
    cases hv : vs[i]? with
    | none => rw [List.getElem?_eq_none (by rw [h1.1]; exact List.getElem?_eq_none_iff.mp hv)]; rfl
    | some q =>
      obtain ⟨p, hp⟩ := at_ i q hv
      rw [hp]
      exact congrArg some (h1.2.1 i p q hp hv).symm
theorem k_eq (hu : X.A.units + 64 < cLine) : OpR X (compareOp .Eq) (M2 X.K apEq) := by
  refine opR_imp (OpR.or op_eq (OpR.or (op_eqD hu) (op_eq_dict (by omega)))) fun x y H Q ⟨Z, a, b, r, s, ha, hb, e, q⟩ => ?_
  unfold apEq eqOk at e
  split at e
  · cases e
    rename_i c
    have fin := fin_old s q (.bl (deq a b))
    rcases Bool.or_eq_true _ _ |>.mp c with c | c
    · obtain ⟨h1, h2⟩ := scalD_of ha hb c
      exact .inl ⟨h1, by rw [h2]; exact fin⟩
    · obtain ⟨d, e, h1, h2, h3, h4, h5⟩ := eqD_of (Q := Q) s ha hb c
      exact .inr (.inl ⟨d, e, h1, h2, h3, h4, by rw [h5]; exact fin⟩)
  · cases a <;> try (simp [apEqDic] at e; done)
    cases b <;> try (simp [apEqDic] at e; done)
    rename_i l m
    simp only [apEqDic] at e
    split at e
    · rename_i c
      obtain ⟨rfl, nd, fl⟩ := c
      cases e
      obtain ⟨p, vs, rfl, h1, h2⟩ := ha.dic_ s
      obtain ⟨p', ws, rfl, h3, h4⟩ := hb.dic_ s
      obtain ⟨rfl, f1, f2⟩ := repKs_one h2 h4 fl
      refine .inr (.inr ⟨p, p', ws, rfl, rfl, h1, h3, ?_, f1, fin_old s q (.bl true)⟩)
      rw [f2]
      have := List.Pairwise.map (f := kK) (S := (· ≠ ·)) (R := (· ≠ ·)) (fun a b n z => n (kK_in z)) nd
      rwa [List.map_map] at this
    · cases e
theorem k_ne (hu : X.A.units + 64 < cLine) : OpR X (compareOp .NotEq) (M2 X.K apNe) := by
  refine opR_imp (OpR.or op_ne (op_neD hu)) fun x y H Q ⟨Z, a, b, r, s, ha, hb, e, q⟩ => ?_
  unfold apNe eqOk at e
  split at e
  · cases e
    rename_i c
    have fin := fin_old s q (.bl (!deq a b))
    rcases Bool.or_eq_true _ _ |>.mp c with c | c
    · obtain ⟨h1, h2⟩ := scalD_of ha hb c
      exact .inl ⟨h1, by rw [h2]; exact fin⟩
    · obtain ⟨d, e, h1, h2, h3, h4, h5⟩ := eqD_of (Q := Q) s ha hb c
      exact .inr ⟨d, e, h1, h2, h3, h4, by rw [h5]; exact fin⟩
  · cases e
theorem k_lt : OpR X (compareOp .Lt) (M2 X.K apLt) := by
  refine opR_imp (OpR.or op_lt op_lt_str) fun x y H Q ⟨Z, a, b, r, s, ha, hb, e, q⟩ => ?_
  cases a <;> cases b <;> simp only [apLt, reduceCtorEq] at e
  · cases ha.int_; cases hb.int_; cases e
    exact .inl ⟨_, _, rfl, rfl, fin_old s q (.bl _)⟩
  · cases ha.str_; cases hb.str_; cases e
    exact .inr ⟨_, _, rfl, rfl, fin_old s q (.bl _)⟩
theorem k_le : OpR X (compareOp .LtE) (M2 X.K apLe) := by
  refine opR_imp op_le fun x y H Q ⟨Z, a, b, r, s, ha, hb, e, q⟩ => ?_
  cases a <;> cases b <;> simp only [apLe, reduceCtorEq] at e
  cases ha.int_; cases hb.int_; cases e
  exact ⟨_, _, rfl, rfl, fin_old s q (.bl _)⟩
theorem k_gt : OpR X (compareOp .Gt) (M2 X.K apGt) := by
  refine opR_imp op_gt fun x y H Q ⟨Z, a, b, r, s, ha, hb, e, q⟩ => ?_
  cases a <;> cases b <;> simp only [apGt, reduceCtorEq] at e
  cases ha.int_; cases hb.int_; cases e
  exact ⟨_, _, rfl, rfl, fin_old s q (.bl _)⟩
theorem k_ge : OpR X (compareOp .GtE) (M2 X.K apGe) := by
  refine opR_imp op_ge fun x y H Q ⟨Z, a, b, r, s, ha, hb, e, q⟩ => ?_
  cases a <;> cases b <;> simp only [apGe, reduceCtorEq] at e
  cases ha.int_; cases hb.int_; cases e
  exact ⟨_, _, rfl, rfl, fin_old s q (.bl _)⟩
theorem isNon_of {K : Frag} {Z H : Hp} {a : D} {x : V} (ha : RepW K Z H a x) : decide (x = .non) = isNon a := by
  cases ha with
  | of h => cases h <;> simp [isNon]
  | lst _ _ => simp [isNon]
  | dic _ _ => simp [isNon]
theorem k_isN : OpR X (compareOp .Is) (fun x y H Q => y = .non ∧ M1 X.K (fun a => some (bool (isNon a))) x H Q) := by
  refine opR_imp op_isN fun x y H Q ⟨ey, Z, a, r, s, ha, e, q⟩ => ?_
  cases e
  exact ⟨ey, by rw [isNon_of ha]; exact fin_old s q (.bl _)⟩
theorem k_notN : OpR X (compareOp .IsNot) (fun x y H Q => y = .non ∧ M1 X.K (fun a => some (bool (!isNon a))) x H Q) := by
  refine opR_imp op_notN fun x y H Q ⟨ey, Z, a, r, s, ha, e, q⟩ => ?_
  cases e
  exact ⟨ey, by rw [isNon_of ha]; exact fin_old s q (.bl _)⟩

theorem flat_V {K : Frag} {Z : Hp} {d : D} {v : V} (h : RepD K Z d v) (f : flatD d = true) : flatV v = true ∧ ∀ e w, RepD K Z e w → flatD e = true → eqV v w = deq d e := by
  cases d <;> simp only [flatD, reduceCtorEq] at f <;> cases h <;> refine ⟨rfl, fun e w h2 f2 => ?_⟩ <;> cases e <;> simp only [flatD, reduceCtorEq] at f2 <;> cases h2 <;> simp only [eqV, deq]
  exact toStr_inj
theorem flats_V {K : Frag} {Z : Hp} : ∀ {l : List D} {vs : List V}, RepDs K Z l vs → l.all flatD = true → vs.all flatV = true ∧ ∀ e w, RepD K Z e w → flatD e = true → inV w vs = l.any fun z => deq z e
  | [], vs, h, _ => by rw [repDs_nil h]; exact ⟨rfl, fun _ _ _ _ => rfl⟩
  | d :: l, vs, h, f => by
    obtain ⟨v, r, rfl, h1, h2⟩ := repDs_cons h
    rw [List.all_cons, Bool.and_eq_true] at f
    obtain ⟨a1, a2⟩ := flat_V h1 f.1
    obtain ⟨b1, b2⟩ := flats_V h2 f.2
    refine ⟨by rw [List.all_cons, a1, b1]; rfl, fun e w hw fw => ?_⟩
    show (eqV v w || inV w r) = (deq d e || _)
    rw [a2 e w hw fw, b2 e w hw fw]
theorem any_toPs {e : D} (ne : e.nd = true) : ∀ {l : List D}, nds l = true → ((toPs l).any fun z => PyData.eqv z (toP e)) = l.any fun z => deq z e
  | [], _ => by simp [toPs]
  | d :: l, n => by
    rw [nds, Bool.and_eq_true] at n
    simp only [toPs, List.any_cons]
    rw [eqv_of d e n.1 ne, any_toPs ne n.2]
def rInT (K : Frag) (neg : Bool) : R2 := fun x y H Q => ∃ d ds, Dp K H x d ∧ Dp K H y (.tuple ds) ∧ SeqAt.shaped d = true ∧ SeqAt.shaped (.tuple ds) = true ∧ Q (.bl (if neg then !ds.any fun z => PyData.eqv z d else ds.any fun z => PyData.eqv z d)) H
theorem room_T {d : PyData} {ds : List PyData} (h : SeqAt.shaped d = true) (hu : X.A.units + 65 < cLine) : X.A.units + 1 + min (PyData.depthAll ds) d.depth < cLine := by
  have h1 := SeqAt.depth_of_shaped h
  have h2 : min (PyData.depthAll ds) d.depth ≤ d.depth := Nat.min_le_right _ _
  omega
theorem lay_T {ds : List PyData} (h : SeqAt.shaped (.tuple ds) = true) : PyData.canLayAll0 ds = true := by
  have := SeqAt.canLay_of_shaped h
  simpa [PyData.canLay0] using this
theorem op_inT (hu : X.A.units + 65 < cLine) : OpR X (compareOp .In) (rInT X.K false) := by
  intro pins s σ H x y v u Q I rx ry ⟨d, ds, hd, he, sd, se, q⟩
  obtain ⟨as, r1⟩ := Dp.reads I d x v hd rx
  obtain ⟨bs, r2⟩ := Dp.reads I (.tuple ds) y u he ry
  exact SeqAt.in_tuple_reads r2 r1 (lay_T se) (SeqAt.canLay_of_shaped sd) (room_T sd hu) ⟨.bl _, H, I, rfl, q⟩
theorem op_notInT (hu : X.A.units + 65 < cLine) : OpR X (compareOp .NotIn) (rInT X.K true) := by
  intro pins s σ H x y v u Q I rx ry ⟨d, ds, hd, he, sd, se, q⟩
  obtain ⟨as, r1⟩ := Dp.reads I d x v hd rx
  obtain ⟨bs, r2⟩ := Dp.reads I (.tuple ds) y u he ry
  exact SeqAt.notIn_tuple_reads r2 r1 (lay_T se) (SeqAt.canLay_of_shaped sd) (room_T sd hu) ⟨.bl _, H, I, rfl, q⟩
/-- y in a dict -/
def rInDic (neg : Bool) : R2 := fun x y H Q => ∃ a o, y = .ref a ∧ DGet H a x o ∧ Q (.bl (if neg then !o.isSome else o.isSome)) H
theorem op_inDic (hu : X.A.units + 1 < cLine) : OpR X (compareOp .In) (rInDic false) := by
  intro pins s σ H x y v u Q I rx ry ⟨a, o, ey, g, q⟩
  subst ey
  cases ry
  exact d_in hu I g rx fun s3 I3 => ⟨.bl o.isSome, H, I3, rfl, q⟩
theorem op_notInDic (hu : X.A.units + 1 < cLine) : OpR X (compareOp .NotIn) (rInDic true) := by
  intro pins s σ H x y v u Q I rx ry ⟨a, o, ey, g, q⟩
  subst ey
  cases ry
  exact d_notIn hu I g rx fun s3 I3 => ⟨.bl (!o.isSome), H, I3, rfl, q⟩
theorem toStr_cons_inj {s t : List Nat} (h : toStr s = toStr t) : s = t := by
  unfold toStr at h
  injection h with e
  simpa using congrArg Array.toList e
theorem kK_inj {a b : KD} : kK a = kK b ↔ a = b := by
  constructor
  · intro h
    cases a <;> cases b <;> simp only [kK, Sum.inl.injEq, Sum.inr.injEq, reduceCtorEq] at h
    · rw [h]
    · rw [toStr_cons_inj h]
  · rintro rfl; rfl
theorem keyOf_rep {K : Frag} {Z H : Hp} {d : D} {k : KD} {v : V} (h : RepW K Z H d v) (e : keyOf d = some k) : v = kV (kK k) := by
  cases d <;> simp only [keyOf, reduceCtorEq] at e
  · cases h.int_; cases e; rfl
  · cases h.str_; cases e; rfl
theorem repKs_cons {K : Frag} {Z : Hp} {p : KD × D} {l : List (KD × D)} {vs : List (Key × V)} (h : RepKs K Z (p :: l) vs) : ∃ v r, vs = (kK p.1, v) :: r ∧ RepD K Z p.2 v ∧ RepKs K Z l r := by
  obtain ⟨h1, h2, h3⟩ := h
  cases vs with
  | nil => simp at h1
  | cons q r =>
    obtain ⟨k, v⟩ := q
    have e : kK p.1 = k := h2 0 p _ rfl rfl
    subst e
    exact ⟨v, r, rfl, h3 0 p _ rfl rfl, by simpa using h1, fun i a b ha hb => h2 (i + 1) a b (by simpa using ha) (by simpa using hb), fun i a b ha hb => h3 (i + 1) a b (by simpa using ha) (by simpa using hb)⟩
theorem repKs_nil {K : Frag} {Z : Hp} {vs : List (Key × V)} (h : RepKs K Z [] vs) : vs = [] := by
  have := h.1
  cases vs with
  | nil => rfl
  | cons v r => simp at this
theorem RepKs.nil {K : Frag} {Z : Hp} : RepKs K Z [] [] := ⟨rfl, fun i d v a b => by simp at a, fun i d v a b => by simp at a⟩
theorem RepKs.cons {K : Frag} {Z : Hp} {k : KD} {d : D} {v : V} {l : List (KD × D)} {vs : List (Key × V)} (h : RepD K Z d v) (h2 : RepKs K Z l vs) : RepKs K Z ((k, d) :: l) ((kK k, v) :: vs) :=
  ⟨by simp [h2.1], fun i x y a b => by
    cases i with
    | zero => simp at a b; subst a; subst b; rfl
    | succ i => exact h2.2.1 i x y (by simpa using a) (by simpa using b), fun i x y a b => by
    cases i with
    | zero => simp at a b; subst a; subst b; exact h
    | succ i => exact h2.2.2 i x y (by simpa using a) (by simpa using b)⟩
theorem dget_cons (p : KD × D) (l : List (KD × D)) (k : KD) : dget (p :: l) k = if p.1 = k then some p.2 else dget l k := by
  unfold dget
  by_cases h : p.1 = k <;> simp [h]
theorem repKs_get {K : Frag} {Z : Hp} : ∀ {l : List (KD × D)} {vs : List (Key × V)} (k : KD), RepKs K Z l vs → (valV vs (kK k)).isSome = (dget l k).isSome ∧ ∀ d, dget l k = some d → ∃ v, valV vs (kK k) = some v ∧ RepD K Z d v
  | [], vs, k, h => by rw [repKs_nil h]; exact ⟨rfl, fun d e => by simp [dget] at e⟩
  | p :: l, vs, k, h => by
    obtain ⟨v, r, rfl, h1, h2⟩ := repKs_cons h
    obtain ⟨b1, b2⟩ := repKs_get k h2
    have hv : valV ((kK p.1, v) :: r) (kK k) = if kK p.1 = kK k then some v else valV r (kK k) := by
      unfold valV
      by_cases e : kK p.1 = kK k <;> simp [e]
    rw [dget_cons, hv]
    by_cases e : p.1 = k
    · rw [if_pos (kK_inj.mpr e), if_pos e]
      exact ⟨rfl, fun d q => by cases q; exact ⟨v, rfl, h1⟩⟩
    · rw [if_neg (fun z => e (kK_inj.mp z)), if_neg e]
      exact ⟨b1, b2⟩
theorem dget_of {K : Frag} {Z H : Hp} (s : Sub Z H) {l : List (KD × D)} {y v : V} {d : D} {k : KD} (ha : RepW K Z H (.dic l) y) (hd : RepW K Z H d v) (e : keyOf d = some k) :
    ∃ a o, y = .ref a ∧ DGet H a v o ∧ o.isSome = (dget l k).isSome ∧ ∀ x, dget l k = some x → ∃ w, o = some w ∧ RepD K Z x w := by
  obtain ⟨a, vs, rfl, h1, h2⟩ := ha.dic_ s
  have ev := keyOf_rep hd e
  obtain ⟨g1, g2⟩ := repKs_get k h2
  exact ⟨a, valV vs (kK k), rfl, by rw [ev]; exact DGet.k h1, g1, g2⟩
def xn (neg b : Bool) : Bool := if neg then !b else b
def rAllIn (K : Frag) (neg : Bool) : R2 := fun x y H Q =>
  (∃ (c : Nat) (z : Str), x = .str ⟨#[c]⟩ ∧ y = .str z ∧ Q (.bl (xn neg (decide (c ∈ z.cps.toList)))) H) ∨
  (∃ p xs, y = .ref p ∧ (SqL K H p xs ∨ SqT K H p xs) ∧ flatV x = true ∧ xs.all flatV = true ∧ Q (.bl (xn neg (inV x xs))) H) ∨
  (∃ d ds, Dp K H x d ∧ Dp K H y (.list ds) ∧ SeqAt.shaped d = true ∧ SeqAt.shaped (.list ds) = true ∧ Q (.bl (xn neg (ds.any fun z => PyData.eqv z d))) H) ∨
  (∃ d ds, Dp K H x d ∧ Dp K H y (.tuple ds) ∧ SeqAt.shaped d = true ∧ SeqAt.shaped (.tuple ds) = true ∧ Q (.bl (xn neg (ds.any fun z => PyData.eqv z d))) H) ∨
  (∃ a o, y = .ref a ∧ DGet H a x o ∧ Q (.bl (xn neg o.isSome)) H)
theorem all_in (hu : X.A.units + 65 < cLine) : OpR X (compareOp .In) (rAllIn X.K false) :=
  opR_imp (OpR.or op_in_sign (OpR.or op_in_seq (OpR.or (op_inD hu) (OpR.or (op_inT hu) (op_inDic (by omega)))))) fun _ _ _ _ h => h
theorem all_notIn (hu : X.A.units + 65 < cLine) : OpR X (compareOp .NotIn) (rAllIn X.K true) :=
  opR_imp (OpR.or op_notIn_sign (OpR.or op_notIn_seq (OpR.or (op_notInD hu) (OpR.or (op_notInT hu) (op_notInDic (by omega)))))) fun _ _ _ _ h => h
theorem in_all {K : Frag} (neg : Bool) {x y : V} {H : Hp} {Q : VK} {Z : Hp} {a b : D} {c : Bool} (s : Sub Z H) (ha : RepW K Z H a x) (hb : RepW K Z H b y) (e : isIn a b = some c) (fin : Q (.bl (xn neg c)) H) : rAllIn K neg x y H Q := by
  have seq : ∀ l : List D, (b = .lst l ∨ b = .tup l) → inOk a l = true → (l.any fun z => deq z a) = c → rAllIn K neg x y H Q := fun l hl ok er => by
    subst er
    rcases Bool.or_eq_true _ _ |>.mp ok with ok | ok
    · rw [Bool.and_eq_true] at ok
      have ra : RepD K Z a x := by
        cases ha with
        | of h => exact h
        | lst _ _ => simp [flatD] at ok
        | dic _ _ => simp [flatD] at ok
      obtain ⟨fx, _⟩ := flat_V ra ok.1
      have go : ∀ p vs, y = .ref p → (SqL K H p vs ∨ SqT K H p vs) → RepDs K Z l vs → rAllIn K neg x y H Q := fun p vs ey hs rs => by
        obtain ⟨f1, f2⟩ := flats_V rs ok.2
        exact .inr (.inl ⟨p, vs, ey, hs, fx, f1, by rw [f2 a _ ra ok.1]; exact fin⟩)
      rcases hl with rfl | rfl
      · obtain ⟨p, vs, ey, h1, h2⟩ := hb.lst_ s
        exact go p vs ey (.inl (SqL.of h1)) h2
      · obtain ⟨p, vs, ey, h1, h2⟩ := hb.tup_
        exact go p vs ey (.inr (s.sqT h1)) h2
    · rw [Bool.and_eq_true] at ok
      have h1 := okEq_shaped ok.1
      have h2 := okEq_shaped ok.2
      have nl : nds l = true := by have := h2.1; rw [D.nd] at this; exact this
      rcases hl with rfl | rfl
      · have hp := hb.dp s h2.1
        have sp := h2.2
        rw [toP] at hp sp
        exact .inr (.inr (.inl ⟨_, _, ha.dp s h1.1, hp, h1.2, sp, by rw [any_toPs h1.1 nl]; exact fin⟩))
      · have nt : (D.tup l).nd = true := by rw [D.nd]; exact nl
        have hp : Dp K H y (.tuple (toPs l)) := by have := hb.dp s nt; rwa [toP] at this
        have sp : SeqAt.shaped (.list (toPs l)) = true := by have := h2.2; rwa [toP] at this
        refine .inr (.inr (.inr (.inl ⟨_, _, ha.dp s h1.1, hp, h1.2, ?_, by rw [any_toPs h1.1 nl]; exact fin⟩)))
        unfold SeqAt.shaped at sp ⊢
        simpa [PyData.canLay0, PyData.depth] using sp
  cases b with
  | str t =>
    cases a with
    | str z =>
      match z, ha, e with
      | [z], ha, e =>
        cases ha.str_; cases hb.str_
        have e' : t.contains z = c := Option.some.inj e
        subst e'
        exact .inl ⟨z, _, rfl, rfl, by rw [toStr_cps, ← List.contains_eq_mem]; exact fin⟩
      | [], _, e => simp [isIn] at e
      | _ :: _ :: _, _, e => simp [isIn] at e
    | _ => simp [isIn] at e
  | lst l =>
    have e' : (if inOk a l = true then some (l.any fun z => deq z a) else none) = some c := by
      rw [← e]; unfold isIn; split <;> simp_all
    split at e'
    · rename_i ok; exact seq l (.inl rfl) ok (Option.some.inj e')
    · cases e'
  | tup l =>
    have e' : (if inOk a l = true then some (l.any fun z => deq z a) else none) = some c := by
      rw [← e]; unfold isIn; split <;> simp_all
    split at e'
    · rename_i ok; exact seq l (.inr rfl) ok (Option.some.inj e')
    · cases e'
  | dic l =>
    have e' : ((keyOf a).map fun k => (dget l k).isSome) = some c := by
      rw [← e]; unfold isIn; split <;> simp_all
    cases hk : keyOf a with
    | none => rw [hk] at e'; cases e'
    | some k =>
      rw [hk] at e'
      have e2 : (dget l k).isSome = c := Option.some.inj e'
      subst e2
      obtain ⟨p, o, ey, g, ho, _⟩ := dget_of s hb ha hk
      exact .inr (.inr (.inr (.inr ⟨p, o, ey, g, by rw [ho]; exact fin⟩)))
  | _ => cases a <;> simp_all [isIn]
theorem k_in (hu : X.A.units + 65 < cLine) : OpR X (compareOp .In) (M2 X.K fun a b => (isIn a b).map bool) := by
  refine opR_imp (all_in hu) fun x y H Q ⟨Z, a, b, r, s, ha, hb, e, q⟩ => ?_
  cases h : isIn a b with
  | none => simp [h] at e
  | some c => simp [h] at e; subst e; exact in_all false s ha hb h (fin_old s q (.bl _))
theorem k_notIn (hu : X.A.units + 65 < cLine) : OpR X (compareOp .NotIn) (M2 X.K fun a b => (isIn a b).map fun c => bool (!c)) := by
  refine opR_imp (all_notIn hu) fun x y H Q ⟨Z, a, b, r, s, ha, hb, e, q⟩ => ?_
  cases h : isIn a b with
  | none => simp [h] at e
  | some c => simp [h] at e; subst e; exact in_all true s ha hb h (fin_old s q (.bl _))

theorem ix_dic (hu : X.A.units + 1 < cLine) : IxR X (fun x y H Q => ∃ a v, x = .ref a ∧ DGet H a y (some v) ∧ Q v H) := by
  intro value slice pins s σ H x y v u Q I rx ry ⟨a, w, ex, g, q⟩ hs
  subst ex
  cases rx
  exact tail_any (dict_typeIs I g) PySem.F.slot_dict_getitem.lookup (d_getItem hu I g ry fun w' s3 I3 rw' => ⟨w, H, I3, rw', q⟩) hs
theorem k_item (hu : X.A.units + 1 < cLine) : IxR X (M2 X.K apItem) := by
  refine ixR_imp (IxR.or ix_tup (IxR.or ix_list (IxR.or ix_str (ix_dic hu)))) fun x y H Q ⟨Z, a, b, r, s, ha, hb, e, q⟩ => ?_
  have key : ∀ {l : List (KD × D)} {d : D}, RepW X.K Z H (.dic l) x → RepW X.K Z H d y → ((keyOf d).bind fun k => (dget l k).map RV.imm) = some r → ∃ a v, x = .ref a ∧ DGet H a y (some v) ∧ Q v H := fun {l d} hl hd er => by
    cases hk : keyOf d with
    | none => rw [hk] at er; cases er
    | some k =>
      rw [hk] at er
      cases hg : dget l k with
      | none => simp [hg] at er
      | some z =>
        simp [hg] at er
        subst er
        obtain ⟨p, o, ey, g, _, ho⟩ := dget_of s hl hd hk
        obtain ⟨w, rfl, rw⟩ := ho z hg
        exact ⟨p, w, ey, g, fin_old s q rw⟩
  cases a <;> cases b <;> simp only [apItem, reduceCtorEq] at e
  · rename_i sl i
    cases ha.str_; cases hb.int_
    split at e
    · rename_i hz
      cases hc : atD sl i with
      | none => rw [hc] at e; cases e
      | some c =>
        rw [hc] at e; cases e
        refine .inr (.inr (.inl ⟨_, _, c, rfl, rfl, by rw [toStr_len]; exact hz, ?_, fin_old s q (.str [c])⟩))
        rw [toStr_cps]
        unfold atD at hc
        unfold atI ixN
        by_cases c1 : 0 ≤ i
        · rw [if_pos c1] at hc ⊢
          have : i.toNat < sl.length := (List.getElem?_eq_some_iff.mp hc).1
          rw [if_pos (by omega)]
          exact hc
        · rw [if_neg c1] at hc ⊢
          by_cases c2 : -(sl.length : Int) ≤ i
          · rw [if_pos c2] at hc ⊢; exact hc
          · rw [if_neg c2] at hc; cases hc
    · cases e
  · rename_i l i
    cases hb.int_
    cases hd : atD l i with
    | none => rw [hd] at e; cases e
    | some d =>
      rw [hd] at e; cases e
      obtain ⟨p, vs, rfl, h1, h2⟩ := ha.tup_
      obtain ⟨v, hv, rv⟩ := repDs_at h2 hd
      exact .inl ⟨p, vs, i, v, rfl, rfl, s.sqT h1, hv, fin_old s q rv⟩
  · rename_i l i
    cases hb.int_
    cases hd : atD l i with
    | none => rw [hd] at e; cases e
    | some d =>
      rw [hd] at e; cases e
      obtain ⟨p, vs, rfl, h1, h2⟩ := ha.lst_ s
      obtain ⟨v, hv, rv⟩ := repDs_at h2 hd
      exact .inr (.inl ⟨p, vs, i, v, rfl, rfl, SqL.of h1, hv, fin_old s q rv⟩)
  all_goals first | exact .inr (.inr (.inr (key ha hb e))) | cases e
theorem cut_str (s : List Nat) (lo hi : Option Int) : cutS (toStr s) lo hi = toStr (cut s lo hi) := by
  apply strExt
  show ((toStr s).cps.toList.drop (HT.sIx (toStr s).length 0 lo)).take _ = cut s lo hi
  unfold cut
  rw [cutIx_eq, cutIx_eq, toStr_cps, toStr_len]
theorem cut_whole {α : Type} {l : List α} {lo hi : Option Int} (h : cutIx l.length 0 lo = 0 ∧ cutIx l.length l.length hi = l.length) : cut l lo hi = l := by
  unfold cut
  rw [h.1, h.2, List.drop_zero, Nat.sub_zero, List.take_length]
theorem k_slice : SlR X (fun x lo hi H Q => M1 X.K (fun a => apSlice lo hi a) x H Q) := by
  refine slR_imp (SlR.or sl_tupN (SlR.or sl_list sl_str)) fun x lo hi H Q ⟨Z, a, r, s, ha, e, q⟩ => ?_
  cases a <;> simp only [apSlice, reduceCtorEq] at e
  · cases ha.str_
    split at e
    · cases e
      rename_i hz
      exact .inr (.inr ⟨_, rfl, by rw [toStr_len]; exact hz, by rw [cut_str]; exact fin_old s q (.str _)⟩)
    · cases e
  · cases e
    rename_i l
    obtain ⟨p, vs, rfl, h1, h2⟩ := ha.tupN_
    refine .inl ⟨p, vs, rfl, s.sqT h1.1, fun hw => ?_, fun _ p o b n => q _ _ (New.tup s n b (repDs_cut h2 lo hi))⟩
    rw [← h2.1, ← cutIx_eq, ← cutIx_eq] at hw
    rw [cut_whole hw] at q
    exact fin_old s q (.tup h1 h2.1 h2.2)
  · cases e
    obtain ⟨p, vs, rfl, h1, h2⟩ := ha.lst_ s
    exact .inr (.inl ⟨p, vs, rfl, SqL.of h1, fun p n => q _ _ (New.lst s n (repDs_cut h2 lo hi))⟩)
  · cases e
    rename_i l
    obtain ⟨p, rfl, h1⟩ := ha.scr_
    refine .inr (.inl ⟨p, _, rfl, s.sqL h1, fun p n => q _ _ ?_⟩)
    have h3 : RepDs X.K Z ((cut l lo hi).map D.int) (cutV (l.map V.int) lo hi) := by
      have e1 : cutV (l.map V.int) lo hi = (cut l lo hi).map V.int := by
        unfold cutV cut
        rw [cutIx_eq, cutIx_eq, List.length_map, List.map_take, List.map_drop]
      rw [e1]
      refine ⟨by simp, fun i d v a b => ?_⟩
      rw [List.getElem?_map] at a b
      cases hc : (cut l lo hi)[i]? with
      | none => rw [hc] at a; cases a
      | some z => rw [hc] at a b; cases a; cases b; exact .int z
    have := New.lst s n h3
    rw [List.map_map] at this
    exact this

theorem k_len : CallR X (.builtin "len") (MC1 X.K apLen) := by
  refine callR_imp (CallR.or call_len_seq (CallR.or call_len_str call_lenD)) fun xs H Q ⟨x, ex, Z, a, r, s, ha, e, q⟩ => ?_
  cases a <;> simp only [apLen, reduceCtorEq] at e
  · cases ha.str_
    split at e
    · cases e
      rename_i hz
      exact .inr (.inl ⟨_, ex, by rw [toStr_len]; exact hz, by rw [toStr_len]; exact fin_old s q (.int _)⟩)
    · cases e
  · cases e
    obtain ⟨p, vs, rfl, h1, h2⟩ := ha.tup_
    exact .inl ⟨p, vs, ex, .inr (s.sqT h1), by rw [← h2.1]; exact fin_old s q (.int _)⟩
  · cases e
    obtain ⟨p, vs, rfl, h1, h2⟩ := ha.lst_ s
    exact .inl ⟨p, vs, ex, .inl (SqL.of h1), by rw [← h2.1]; exact fin_old s q (.int _)⟩
  · cases e
    obtain ⟨p, vs, rfl, h1, h2⟩ := ha.dic_ s
    exact .inr (.inr ⟨p, vs, ex, h1, by rw [← h2.1]; exact fin_old s q (.int _)⟩)
theorem k_abs : CallR X (.builtin "abs") (MC1 X.K apAbs) := by
  refine callR_imp call_abs fun xs H Q ⟨x, ex, Z, a, r, s, ha, e, q⟩ => ?_
  cases a <;> simp only [apAbs, reduceCtorEq] at e
  cases ha.int_; cases e
  exact ⟨_, ex, fin_old s q (.int _)⟩
theorem k_int1 : CallR X (.type "int") (MC1 X.K apInt1) := by
  refine callR_imp call_int1 fun xs H Q ⟨x, ex, Z, a, r, s, ha, e, q⟩ => ?_
  cases a <;> simp only [apInt1, reduceCtorEq] at e
  · cases ha.bl_; cases e
    exact .inr ⟨_, ex, fin_old s q (.int _)⟩
  · cases ha.int_; cases e
    exact .inl ⟨_, ex, fin_old s q (.int _)⟩
theorem numText_eq (i : Int) : (toString i : Str) = toStr (numText i) := by
  apply strExt
  show (Str.ofString (toString i)).cps.toList = _
  rw [Str.ofString_eq_toList]
  rfl
theorem k_str1 : CallR X (.type "str") (MC1 X.K apStr1) := by
  refine callR_imp call_str_int fun xs H Q ⟨x, ex, Z, a, r, s, ha, e, q⟩ => ?_
  cases a <;> simp only [apStr1, reduceCtorEq] at e
  cases ha.int_
  split at e
  · cases e
    exact ⟨_, ex, by assumption, by rw [numText_eq]; exact fin_old s q (.str _)⟩
  · cases e
theorem k_sum (hc : X.calm = true) : CallR X (.builtin "sum") (MC1 X.K apSum) := by
  refine callR_imp (cr_sum hc) fun xs H Q ⟨x, ex, Z, a, r, s, ha, e, q⟩ => ?_
  cases a <;> simp only [apSum, reduceCtorEq] at e
  rename_i l
  cases hn : ints? l with
  | none => rw [hn] at e; cases e
  | some ns =>
    rw [hn] at e; cases e
    obtain ⟨p, vs, rfl, h1, h2⟩ := ha.lst_ s
    exact ⟨p, ns, ex, by rw [← ints_of hn h2]; exact SqL.of h1, fin_old s q (.int _)⟩
theorem k_all (hc : X.calm = true) : CallR X (.builtin "all") (MC1 X.K apAll) := by
  refine callR_imp (cr_all hc) fun xs H Q ⟨x, ex, Z, a, r, s, ha, e, q⟩ => ?_
  cases a <;> simp only [apAll, reduceCtorEq] at e
  rename_i l
  cases hn : bls? l with
  | none => rw [hn] at e; cases e
  | some ns =>
    rw [hn] at e; cases e
    obtain ⟨p, vs, rfl, h1, h2⟩ := ha.lst_ s
    exact ⟨p, ns, ex, by rw [← bls_of hn h2]; exact SqL.of h1, fin_old s q (.bl _)⟩
theorem k_any (hc : X.calm = true) : CallR X (.builtin "any") (MC1 X.K apAny) := by
  refine callR_imp (cr_any hc) fun xs H Q ⟨x, ex, Z, a, r, s, ha, e, q⟩ => ?_
  cases a <;> simp only [apAny, reduceCtorEq] at e
  rename_i l
  cases hn : bls? l with
  | none => rw [hn] at e; cases e
  | some ns =>
    rw [hn] at e; cases e
    obtain ⟨p, vs, rfl, h1, h2⟩ := ha.lst_ s
    exact ⟨p, ns, ex, by rw [← bls_of hn h2]; exact SqL.of h1, fin_old s q (.bl _)⟩
theorem k_tuple : CallR X (.type "tuple") (MC1 X.K apTuple) := by
  refine callR_imp call_tupleN fun xs H Q ⟨x, ex, Z, a, r, s, ha, e, q⟩ => ?_
  cases a <;> simp only [apTuple, reduceCtorEq] at e
  · cases e
    obtain ⟨p, vs, rfl, h1, h2⟩ := ha.tupN_
    exact ⟨p, vs, ex, .inr ⟨s.sqT h1.1, fin_old s q (.tup h1 h2.1 h2.2)⟩⟩
  · cases e
    obtain ⟨p, vs, rfl, h1, h2⟩ := ha.lst_ s
    exact ⟨p, vs, ex, .inl ⟨SqL.of h1, fun p o b n => q _ _ (New.tup s n b h2)⟩⟩
theorem k_list : CallR X (.type "list") (MC1 X.K apList) := by
  refine callR_imp call_list_of fun xs H Q ⟨x, ex, Z, a, r, s, ha, e, q⟩ => ?_
  cases a <;> simp only [apList, reduceCtorEq] at e
  · cases e
    obtain ⟨p, vs, rfl, h1, h2⟩ := ha.tup_
    exact ⟨p, vs, ex, .inr (s.sqT h1), fun p n => q _ _ (New.lst s n h2)⟩
  · cases e
    obtain ⟨p, vs, rfl, h1, h2⟩ := ha.lst_ s
    exact ⟨p, vs, ex, .inl (SqL.of h1), fun p n => q _ _ (New.lst s n h2)⟩
mutual
theorem showable_of : ∀ d : D, d.sh = true → (toP d).showable = true
  | .non, _ => by simp [toP, PyData.showable]
  | .bl b, _ => by simp [toP, PyData.showable]
  | .int i, n => by rw [D.sh] at n; simpa [toP, PyData.showable] using n
  | .str s, _ => by simp [toP, PyData.showable]
  | .tup l, n => by rw [D.sh] at n; simp only [toP, PyData.showable]; exact showables_of l n
  | .lst l, n => by rw [D.sh] at n; simp only [toP, PyData.showable]; exact showables_of l n
  | .dic _, n => by rw [D.sh] at n; cases n
  | .scr _, n => by rw [D.sh] at n; cases n
theorem showables_of : ∀ l : List D, shs l = true → PyData.showableAll (toPs l) = true
  | [], _ => by simp [toPs, PyData.showableAll]
  | d :: l, n => by
    rw [shs, Bool.and_eq_true] at n
    simp [toPs, PyData.showableAll, showable_of d n.1, showables_of l n.2]
end
mutual
theorem noDict_of : ∀ d : D, d.sh = true → (toP d).hasDict = false
  | .non, _ => by simp [toP, PyData.hasDict]
  | .bl b, _ => by simp [toP, PyData.hasDict]
  | .int i, _ => by simp [toP, PyData.hasDict]
  | .str s, _ => by simp [toP, PyData.hasDict]
  | .tup l, n => by rw [D.sh] at n; simp only [toP, PyData.hasDict]; exact noDicts_of l n
  | .lst l, n => by rw [D.sh] at n; simp only [toP, PyData.hasDict]; exact noDicts_of l n
  | .dic _, n => by rw [D.sh] at n; cases n
  | .scr _, n => by rw [D.sh] at n; cases n
theorem noDicts_of : ∀ l : List D, shs l = true → PyData.hasDictAll (toPs l) = false
  | [], _ => by simp [toPs, PyData.hasDictAll]
  | d :: l, n => by
    rw [shs, Bool.and_eq_true] at n
    simp [toPs, PyData.hasDictAll, noDict_of d n.1, noDicts_of l n.2]
end
mutual
theorem dp_sh {K : Frag} {Z : Hp} : ∀ (d : D) (v : V), d.sh = true → RepD K Z d v → Dp K Z v (toP d)
  | .non, _, _, h => by cases h; rw [toP]; exact .non
  | .bl b, _, _, h => by cases h; rw [toP]; exact .bl b
  | .int i, _, _, h => by cases h; rw [toP]; exact .int i
  | .str s, _, _, h => by cases h; rw [toP]; exact .str _
  | .tup l, _, n, h => by
    cases h with
    | tup h1 h2 h3 =>
      rw [toP]
      rw [D.sh] at n
      exact .tup h1.1 (dps_sh l _ n ⟨h2, h3⟩)
  | .lst l, _, n, h => by
    cases h with
    | lst h1 h2 h3 =>
      rw [toP]
      rw [D.sh] at n
      exact .lst (SqL.of h1) (dps_sh l _ n ⟨h2, h3⟩)
  | .dic _, _, n, _ => by rw [D.sh] at n; cases n
  | .scr _, _, n, _ => by rw [D.sh] at n; cases n
theorem dps_sh {K : Frag} {Z : Hp} : ∀ (l : List D) (vs : List V), shs l = true → RepDs K Z l vs → DpAll K Z vs (toPs l)
  | [], vs, _, h => by rw [repDs_nil h, toPs]; exact .nil
  | d :: l, vs, n, h => by
    obtain ⟨v, r, rfl, h1, h2⟩ := repDs_cons h
    rw [shs, Bool.and_eq_true] at n
    rw [toPs]
    exact .cons (dp_sh d v n.1 h1) (dps_sh l r n.2 h2)
end
theorem RepW.dpS {K : Frag} {Z H : Hp} (s : Sub Z H) {d : D} {v : V} (n : d.sh = true) (h : RepW K Z H d v) : Dp K H v (toP d) := by
  cases h with
  | of h => exact Dp.le s _ _ (dp_sh d v n h)
  | lst h1 h2 =>
    rw [toP]
    rw [D.sh] at n
    exact .lst (SqL.of h1) (DpAll.le s _ _ (dps_sh _ _ n h2))
  | dic _ _ => rw [D.sh] at n; cases n
theorem repr_D (hu : X.A.units + 66 < cLine) (hg : X.A.guards = some []) : CallR X (.builtin "repr") (fun xs H Q => ∃ (x : V) (d : PyData), xs = [x] ∧ Dp X.K H x d ∧ d.showable = true ∧ d.hasDict = false ∧ d.depth ≤ 60 ∧ d.shown.length ≤ sizeLine ∧ Q (.str d.shown) H) := by
  intro pins s σ H xs us Q I r ⟨x, d, ex, hd, h1, h2, h3, h4, q⟩
  subst ex
  obtain ⟨u, rfl, ru⟩ := vals1 r
  obtain ⟨as, rd⟩ := Dp.reads I d x u hd ru
  have here : ∀ t : Tok, EP X pins σ Q (.str d.shown t) { s with toks := s.toks + 1 } := fun t => ⟨.str _, H, I.tok _, ⟨_, rfl⟩, q⟩
  cases rd with
  | none =>
    refine PySem.P.repr_of_none ?_
    have : (PyData.none).shown = ("None" : Str) := by simp [PyData.shown]
    rw [← this]; exact here _
  | bool b =>
    refine PySem.P.repr_of_bool ?_
    have := here s.toks
    simp only [PyData.shown] at this
    exact this
  | int i t =>
    refine PySem.P.repr_of_int (by simpa [PyData.showable] using h1) ?_
    have : (PyData.int i).shown = ((toString i : String) : Str) := by simp only [PyData.shown]
    rw [← this]; exact here _
  | str z t =>
    have e : (PyData.str z).shown = reprText z := by simp only [PyData.shown]
    refine PySem.P.repr_of_str ?_ (by rw [← e]; exact h4)
    rw [← e]; exact here _
  | list a1 a2 a3 a4 =>
    refine repr_of_reads' (h₀ := s.heap) (Reads.list a1 a2 a3 a4) h1 (fun z => by rw [h2] at z; cases z) hg (by omega) (fun _ _ e => e) (fun h' u tk k => ?_) h4
    exact ⟨.str _, H, I.kept k, ⟨_, rfl⟩, q⟩
  | tuple a1 a2 a3 a4 =>
    refine repr_of_reads' (h₀ := s.heap) (Reads.tuple a1 a2 a3 a4) h1 (fun z => by rw [h2] at z; cases z) hg (by omega) (fun _ _ e => e) (fun h' u tk k => ?_) h4
    exact ⟨.str _, H, I.kept k, ⟨_, rfl⟩, q⟩
  | dict _ _ _ _ _ => simp [PyData.hasDict] at h2
theorem reads_flat {K : Frag} {Z : Hp} {h : Heap} {d : D} {v : V} {u : Value} (r : RepD K Z d v) (f : flatD d = true) (ru : RelV v u) : Reads h u (toP d) [] := by
  cases r <;> try (cases f; done)
  · cases ru; rw [toP]; exact .none
  · cases ru; rw [toP]; exact .bool _
  · obtain ⟨t, rfl⟩ := ru; rw [toP]; exact .int _ _
  · obtain ⟨t, rfl⟩ := ru; rw [toP]; exact .str _ _
theorem reads_key {P : Program} {w : World} {h : Heap} {k : KD} {u : Value} (e : (mixKind P w).is (kK k) u = true) : Reads h u (keyP k) [] := by
  rcases keyIs_shape (show keyIs (kK k) u = true from e) with ⟨i, t, e1, rfl⟩ | ⟨x, t, e1, rfl⟩
  · cases k with
    | inl j => have : (Sum.inl j : Key) = .inl i := e1; cases this; exact .int _ _
    | inr y => have : (Sum.inr (toStr y) : Key) = .inl i := e1; cases this
  · cases k with
    | inl j => have : (Sum.inl j : Key) = .inr x := e1; cases this
    | inr y => have : (Sum.inr (toStr y) : Key) = .inr x := e1; cases this; exact .str _ _
theorem reads_dic {K : Frag} {Z : Hp} {P : Program} {w : World} {h : Heap} : ∀ {l : List (KD × D)} {kvs : List (Key × V)} {vs : List (Key × Value)} {es : List DictEntry}, RepKs K Z l kvs → KV kvs vs → Pairs (mixKind P w) es vs → flatDic l = true →
    ReadsAll h (es.map (·.key)) ((l.map fun p => (keyP p.1, toP p.2)).map (·.1)) [] ∧ ReadsAll h (es.map (·.val)) ((l.map fun p => (keyP p.1, toP p.2)).map (·.2)) []
  | [], kvs, vs, es, r, kv, pr, _ => by
    rw [repKs_nil r] at kv
    cases kv
    cases pr
    exact ⟨.nil, .nil⟩
  | p :: l, kvs, vs, es, r, kv, pr, f => by
    obtain ⟨v, t, rfl, r1, r2⟩ := repKs_cons r
    cases kv with
    | cons k1 k2 =>
      cases pr with
      | cons p1 p2 p3 =>
        have f : (flatD p.2 && flatDic l) = true := f
        rw [Bool.and_eq_true] at f
        obtain ⟨g1, g2⟩ := reads_dic r2 k2 p3 f.2
        have e1 := k1.1
        refine ⟨ReadsAll.cons (as := []) (bs := []) (reads_key (P := P) (w := w) (by rw [show kK p.1 = _ from e1]; exact p1)) g1, ReadsAll.cons (as := []) (bs := []) (reads_flat r1 f.1 ?_) g2⟩
        show RelV v (DictEntry.val _)
        rw [p2]; exact k1.2
theorem showableKv_of : ∀ {l : List (KD × D)}, shDic l = true → PyData.showableKv (l.map fun p => (keyP p.1, toP p.2)) = true
  | [], _ => by simp [PyData.showableKv]
  | p :: l, h => by
    have h : ((keySh p.1 && (flatD p.2 && p.2.sh)) && shDic l) = true := h
    rw [Bool.and_eq_true, Bool.and_eq_true, Bool.and_eq_true] at h
    have k : (keyP p.1).showable = true := by
      have := h.1.1
      generalize p.1 = z at this
      cases z with
      | inl i => simpa [keyP, PyData.showable, keySh] using this
      | inr s => simp [keyP, PyData.showable]
    simp [PyData.showableKv, k, showable_of _ h.1.2.2, showableKv_of h.2]
theorem depthKv_of : ∀ {l : List (KD × D)}, shDic l = true → (PyData.dict (l.map fun p => (keyP p.1, toP p.2))).depth ≤ 1 := fun {l} h => by
  have key : ∀ m : List (KD × D), shDic m = true → PyData.depthKv (m.map fun p => (keyP p.1, toP p.2)) = 0 := fun m => by
    induction m with
    | nil => intro _; simp [PyData.depthKv]
    | cons p m ih =>
      intro h
      have h : ((keySh p.1 && (flatD p.2 && p.2.sh)) && shDic m) = true := h
      rw [Bool.and_eq_true, Bool.and_eq_true, Bool.and_eq_true] at h
      have k1 : (keyP p.1).depth = 0 := by
        generalize p.1 = z
        cases z <;> simp [keyP, PyData.depth]
      have k2 : (toP p.2).depth = 0 := by
        have := h.1.2.1
        rw [dep_of]
        generalize p.2 = z at this
        cases z <;> first | (simp [D.dep]; done) | (cases this; done)
      simp [PyData.depthKv, k1, k2, ih h.2]
  simp [PyData.depth, key l h]
theorem repr_dic (hu : X.A.units + 66 < cLine) (hg : X.A.guards = some []) {Z : Hp} {l : List (KD × D)} {pins : List (Addr × Obj)} {s : Shared} {σ : L2.St} {H : Hp} {a : Addr} {kvs : List (Key × V)} {Q : VK} (I : Inv X pins σ H s) (h1 : H a = some (.dK kvs)) (h2 : RepKs X.K Z l kvs)
    (hs : shDic l = true) (hl : (shownDic l).length ≤ LINE) (q : Q (.str (toStr (shownDic l))) H) : wpAny (model X.prog X.w) X.A (call (.builtin "repr") [.ref a]) (EP X pins σ Q) X.xe s := by
  obtain ⟨_, ns, vs, kv, o, es, ep, ho, ex, hd, _, pr, _⟩ := I.hok a _ h1
  have fl : flatDic l = true := List.all_eq_true.mpr fun p hp => by
    have := List.all_eq_true.mp hs p hp
    simp only [Bool.and_eq_true] at this
    exact this.2.1
  obtain ⟨g1, g2⟩ := reads_dic (h := s.heap) h2 kv pr fl
  have rd : Reads s.heap (.ref a) (dicP l) [a] := Reads.dict (as := []) (bs := []) ho ex.1 hd g1 g2
  have es' : (dicP l).shown = toStr (shownDic l) := strExt rfl
  have dp : (dicP l).depth ≤ 1 := depthKv_of hs
  refine repr_of_reads' (h₀ := s.heap) rd (by unfold dicP; rw [PyData.showable]; exact showableKv_of hs) (fun _ => ?_) hg (by omega) (fun _ _ e => e) (fun h' u tk k => ?_) (by rw [es', toStr_len]; exact hl)
  · intro z
    have := List.mem_singleton.mp z
    rw [← this] at ns
    simp at ns
  · exact ⟨.str _, H, I.kept k, ⟨_, rfl⟩, by rw [es']; exact q⟩
theorem k_repr (hu : X.A.units + 66 < cLine) (hg : X.A.guards = some []) : CallR X (.builtin "repr") (MC1 X.K apRepr) := by
  intro pins s0 σ H xs us Q I rx h
  obtain ⟨x, ex, Z, a, r, s, ha, e, q⟩ := h
  unfold apRepr at e
  split at e
  · cases e
    rename_i c
    simp only [Bool.and_eq_true, decide_eq_true_eq] at c
    have es : (toP a).shown = toStr (shown a) := strExt rfl
    exact repr_D hu hg pins s0 σ H xs us Q I rx ⟨x, toP a, ex, ha.dpS s c.1.1, showable_of a c.1.1, noDict_of a c.1.1, by rw [dep_of]; exact c.1.2, by rw [es, toStr_len]; exact c.2, by rw [es]; exact fin_old s q (.str _)⟩
  · cases a <;> try (simp [apReprDic] at e; done)
    rename_i l
    simp only [apReprDic] at e
    split at e
    · rename_i c
      cases e
      obtain ⟨p, kvs, rfl, h1, h2⟩ := ha.dic_ s
      subst ex
      obtain ⟨u, rfl, ru⟩ := vals1 rx
      cases ru
      exact repr_dic hu hg I h1 h2 c.1 c.2 (fin_old s q (.str _))
    · cases e
end
end Mv
namespace Mv
open PySem PySem.Spec PyProof.Rows L2

def Done (K : Frag) (Z H : Hp) (F : Reg) (σ : L2.St) (ρ' : Loc) (R : Hp → Hp → Reg → Prop) (H' : Hp) : Prop :=
  ∃ Z' F' Fv, St0 K Z' H' ρ' σ F' ∧ R Z' H' Fv ∧ (∀ a, F' a → ¬ Fv a) ∧ (∀ a, Fv a → Z' a = none ∧ H' a ≠ none) ∧ Frm Z H F Z' H' (fun a => F' a ∨ Fv a)
/-- a reading by the evaluator -/
def rd {α β : Type} (K : Frag) (ev : Loc → Res α) (R : L2.St → α → β → Hp → Hp → Reg → Prop) : L2.St → Hp → (β → Hp → Prop) → Prop :=
  fun σ H Q => ∃ Z ρ F, St0 K Z H ρ σ F ∧ ∃ a ρ', ev ρ = .ok a ρ' ∧ ∀ b H', Done K Z H F σ ρ' (R σ a b) H' → Q b H'

def ROd (K : Frag) (σ : L2.St) (o : Od) (v : V) (Z H : Hp) (F : Reg) : Prop :=
  match o with
  | .inl i => σ[i]? = some (some v)
  | .inr r => RepV K Z H r v F
def ROds (K : Frag) (σ : L2.St) : List Od → List V → Hp → Hp → Reg → Prop
  | [], vs, _, _, _ => vs = []
  | o :: os, vs, Z, H, F => ∃ v r F1 F2, vs = v :: r ∧ (∀ a, F1 a → F a) ∧ (∀ a, F2 a → F a) ∧ (∀ a, F1 a → ¬ F2 a) ∧ ROd K σ o v Z H F1 ∧ ROds K σ os r Z H F2
abbrev RAv (K : Frag) : L2.St → RV → V → Hp → Hp → Reg → Prop := fun _ r v Z H F => RepV K Z H r v F
abbrev RAo (K : Frag) : L2.St → Od → V → Hp → Hp → Reg → Prop := fun σ o v Z H F => ROd K σ o v Z H F
abbrev RAos (K : Frag) : L2.St → List Od → List V → Hp → Hp → Reg → Prop := fun σ o v Z H F => ROds K σ o v Z H F
abbrev RAb : L2.St → Bool → Bool → Hp → Hp → Reg → Prop := fun _ t b _ _ _ => t = b

abbrev SE (X : Cx) (e : Expr) (ev : Loc → Res RV) : Prop := PE X e (rd X.K ev (RAv X.K))
abbrev SO (X : Cx) (e : Expr) (ev : Loc → Res Od) : Prop := PE X e (rd X.K ev (RAo X.K))
abbrev SA (X : Cx) (es : List Expr) (ev : Loc → Res (List Od)) : Prop := PA X es (rd X.K ev (RAos X.K))
abbrev ST (X : Cx) (e : Expr) (ev : Loc → Res Bool) : Prop := PT X e (rd X.K ev RAb)

theorem PE_imp {X : Cx} {e : Expr} {t t' : TE} (h : PE X e t) (k : ∀ σ H Q, t' σ H Q → t σ H Q) : PE X e t' := ⟨fun pins s σ H Q I q => h.run pins s σ H Q I (k _ _ _ q)⟩
theorem PT_imp {X : Cx} {e : Expr} {t t' : TT} (h : PT X e t) (k : ∀ σ H Q, t' σ H Q → t σ H Q) : PT X e t' := ⟨fun pins s σ H Q I q => h.run pins s σ H Q I (k _ _ _ q)⟩
theorem PW_imp {X : Cx} {e : Expr} {t t' : TT} (h : PW X e t) (k : ∀ σ H Q, t' σ H Q → t σ H Q) : PW X e t' := ⟨fun w pins s σ H Q I q => h.run w pins s σ H Q I (k _ _ _ q)⟩
theorem PA_imp {X : Cx} {e : List Expr} {t t' : TA} (h : PA X e t) (k : ∀ σ H Q, t' σ H Q → t σ H Q) : PA X e t' := ⟨fun pos pins s σ H Q I q => h.run pos pins s σ H Q I (k _ _ _ q)⟩

section
variable {K : Frag} {Z H Z' H' : Hp} {F F' : Reg} {σ : L2.St} {ρ ρ' : Loc}
theorem St0.none_ (S : St0 K Z H ρ σ F) {a : Addr} (h : H a = none) : ¬ F a := fun f => S.al a f h
/-- nothing was evaluated -/
theorem Done.here (S : St0 K Z H ρ σ F) {R : Hp → Hp → Reg → Prop} (r : R Z H fun _ => False) : Done K Z H F σ ρ R H :=
  ⟨Z, F, fun _ => False, S, r, fun _ _ z => z, fun _ z => z.elim, Frm.refl.mono (fun _ h => h) fun c h => by
    rcases h with h | h
    · exact .inl h
    · exact h.elim⟩
/-- the state behind a new thing -/
theorem St0.new (S : St0 K Z H ρ σ F) {Z' H' : Hp} (s1 : Sub Z' H') (s2 : Sub H H') (s3 : Sub Z Z') (zn : ∀ a o, Z' a = some o → Z a = some o ∨ H a = none) : St0 K Z' H' ρ σ F := by
  obtain ⟨G, g1, g2, g3⟩ := S.env
  refine ⟨s1, S.len, fun a f => ?_, fun a f z => ?_, G, g1, g2, fun i r h => ?_⟩
  · cases q : Z' a with
    | none => rfl
    | some o =>
      rcases zn a o q with z | z
      · rw [S.dj a f] at z; cases z
      · exact absurd z (S.al a f)
  · cases q : H a with
    | none => exact S.al a f q
    | some o => rw [s2 a o q] at z; cases z
  · obtain ⟨v, hv, rv⟩ := g3 i r h
    exact ⟨v, hv, rv.keep s3 fun a o _ e => s2 a o e⟩
theorem Done.new (S : St0 K Z H ρ σ F) {r : RV} {v : V} (n : New K Z H r v H') : Done K Z H F σ ρ (fun Z H F => RepV K Z H r v F) H' := by
  obtain ⟨Z', Fv, s1, rv, s2, f1, f2, s3, zn⟩ := n
  refine ⟨Z', F, Fv, S.new s1 s2 s3 zn, rv, fun a f g => S.al a f (f1 a g).1, fun a g => ⟨f2 a g, (f1 a g).2⟩, fun a o e _ => s2 a o e, fun a f => ?_, s3, fun a o e => ?_⟩
  · rcases f with f | f
    · exact .inl f
    · exact .inr (f1 a f).1
  · rcases zn a o e with z | z
    · exact .inl z
    · exact .inr (.inr z)
/-- what is held besides stays as it was -/
structure Side (Z H : Hp) (F Fv : Reg) : Prop where
  apart : ∀ a, F a → ¬ Fv a
  open_ : ∀ a, Fv a → Z a = none ∧ H a ≠ none
theorem Side.go {F1 Fw : Reg} (s : Side Z H F Fw) (f : Frm Z H F Z' H' F1) : Side Z' H' F1 Fw ∧ ∀ a o, Fw a → H a = some o → H' a = some o := by
  have kp : ∀ a o, Fw a → H a = some o → H' a = some o := fun a o w e => f.keep a o e fun z => s.apart a z w
  refine ⟨⟨fun a g w => ?_, fun a w => ⟨?_, fun z => ?_⟩⟩, kp⟩
  · rcases f.own a g with z | z
    · exact s.apart a z w
    · exact (s.open_ a w).2 z
  · cases q : Z' a with
    | none => rfl
    | some o =>
      rcases f.zn a o q with z | z | z
      · rw [(s.open_ a w).1] at z; cases z
      · exact absurd w (s.apart a z)
      · exact absurd z (s.open_ a w).2
  · cases q : H a with
    | none => exact (s.open_ a w).2 q
    | some o => rw [kp a o w q] at z; cases z
theorem ROd.keep {o : Od} {v : V} {Fv : Reg} (s : Sub Z Z') (k : ∀ a o, Fv a → H a = some o → H' a = some o) (h : ROd K σ o v Z H Fv) : ROd K σ o v Z' H' Fv := by
  cases o with
  | inl i => exact h
  | inr r => exact RepV.keep s h k
theorem ROds.keep (s : Sub Z Z') : ∀ {os : List Od} {vs : List V} {Fv : Reg}, (∀ a o, Fv a → H a = some o → H' a = some o) → ROds K σ os vs Z H Fv → ROds K σ os vs Z' H' Fv
  | [], _, _, _, h => h
  | o :: os, _, _, k, ⟨v, r, F1, F2, e, a1, a2, a3, h1, h2⟩ => ⟨v, r, F1, F2, e, a1, a2, a3, h1.keep s fun a o f => k a o (a1 a f), ROds.keep s (fun a o f => k a o (a2 a f)) h2⟩
end

section
variable {X : Cx}
theorem so_var {e : Expr} {i : Nat} (h : PE X e (tVar i)) : SO X e fun ρ => varK i ρ (slotAt ρ i) := by
  refine PE_imp h fun σ H Q ⟨Z, ρ, F, S, a, ρ', ev, q⟩ => ?_
  obtain ⟨G, g1, g2, g3⟩ := S.env
  cases hs : slotAt ρ i with
  | none => simp only [hs, varK, frozenK, reduceCtorEq] at ev
  | some r =>
    simp only [hs, varK, frozenK] at ev
    cases ev
    obtain ⟨v, hv, rv⟩ := g3 i r hs
    exact ⟨v, hv, q v H (Done.here S hv)⟩
/-- a slot is frozen -/
theorem slotAt_set {ρ : Loc} {i j : Nat} {x : Slot} (h : slotAt (ρ.set i x) j = some r) : (j = i ∧ x = some r) ∨ (j ≠ i ∧ slotAt ρ j = some r) := by
  unfold slotAt at h ⊢
  rw [List.getElem?_set] at h
  split at h
  · rename_i e
    subst e
    split at h
    · simp at h; exact .inl ⟨rfl, h⟩
    · simp at h
  · rename_i e
    exact .inr ⟨fun z => e z.symm, h⟩
theorem St0.freeze {K : Frag} {Z H : Hp} {F : Reg} {σ : L2.St} {ρ : Loc} (S : St0 K Z H ρ σ F) {i : Nat} {r : RV} (h : slotAt ρ i = some r) :
    ∃ Z' F' v, σ[i]? = some (some v) ∧ St0 K Z' H (ρ.set i (some (.imm (fz r)))) σ F' ∧ RepD K Z' (fz r) v ∧ Frm Z H F Z' H F' := by
  obtain ⟨G, g1, g2, g3⟩ := S.env
  obtain ⟨v, hv, rv⟩ := g3 i r h
  have dj : ∀ a, G i a → Z a = none := fun a f => S.dj a (g1 i a f)
  have s1 : Sub Z (over Z H (G i)) := over_sub dj
  have rz : RepD K (over Z H (G i)) (fz r) v := rv.freeze s1 fun a o f e => by rw [over_in f]; exact e
  refine ⟨over Z H (G i), fun a => F a ∧ ¬ G i a, v, hv, ⟨over_le S.sub, by rw [List.length_set]; exact S.len, fun a f => ?_, fun a f => S.al a f.1, fun j b => G j b ∧ j ≠ i, fun j b f => ⟨g1 j b f.1, g2 j i b f.2 f.1⟩, fun j k b ne f g => g2 j k b ne f.1 g.1, fun j q hq => ?_⟩, rz, ?_⟩
  · rw [over_out f.2]; exact S.dj a f.1
  · rcases slotAt_set hq with ⟨e1, e2⟩ | ⟨e1, e2⟩
    · cases e2; subst e1; exact ⟨v, hv, .imm rz⟩
    · obtain ⟨w, hw, rw'⟩ := g3 j q e2
      exact ⟨w, hw, (rw'.keep s1 fun a o _ e => e).wider fun a f => ⟨f, e1⟩⟩
  · refine ⟨fun a o e _ => e, fun a f => .inl f.1, s1, fun a o e => ?_⟩
    by_cases f : G i a
    · exact .inr (.inl (g1 i a f))
    · rw [over_out f] at e; exact .inl e
theorem se_var {e : Expr} {i : Nat} (h : PE X e (tVar i)) : SE X e fun ρ => frozenK i ρ (slotAt ρ i) := by
  refine PE_imp h fun σ H Q ⟨Z, ρ, F, S, a, ρ', ev, q⟩ => ?_
  cases hs : slotAt ρ i with
  | none => simp only [hs, varK, frozenK, reduceCtorEq] at ev
  | some r =>
    simp only [hs, varK, frozenK] at ev
    cases ev
    obtain ⟨Z', F', v, hv, S', rz, f⟩ := S.freeze hs
    refine ⟨v, hv, q v H ⟨Z', F', fun _ => False, S', .imm rz, fun _ _ z => z, fun _ z => z.elim, f.mono (fun _ h => h) fun c h => ?_⟩⟩
    rcases h with h | h
    · exact .inl h
    · exact h.elim
theorem so_of {e : Expr} {ev : Loc → Res RV} (h : SE X e ev) : SO X e fun ρ => mapR Sum.inr (ev ρ) := by
  refine PE_imp h fun σ H Q ⟨Z, ρ, F, S, a, ρ', e, q⟩ => ?_
  cases he : ev ρ with
  | fail => simp only [he, mapR, reduceCtorEq] at e
  | ok r ρ1 =>
    simp only [he, mapR] at e
    cases e
    exact ⟨Z, ρ, F, S, r, ρ', he, fun b H' d => q b H' d⟩
theorem se_const {e : Expr} {d : D} {v : V} (h : PE X e (tC v)) (hd : ∀ K Z, RepD K Z d v) : SE X e fun ρ => .ok (.imm d) ρ := by
  refine PE_imp h fun σ H Q ⟨Z, ρ, F, S, a, ρ', ev, q⟩ => ?_
  cases ev
  exact q v H (Done.here S (.imm (hd _ _)))
/-- a constant of the module -/
theorem se_glob {e : Expr} {d : D} {v : V} (h : PE X e (tC v)) (hd : ∀ Z, RepD X.K Z d v) : SE X e fun ρ => .ok (.imm d) ρ := by
  refine PE_imp h fun σ H Q ⟨Z, ρ, F, S, a, ρ', ev, q⟩ => ?_
  cases ev
  exact q v H (Done.here S (.imm (hd _)))

theorem sa_nil : SA X [] fun ρ => .ok [] ρ := by
  refine PA_imp pa_nil fun σ H Q ⟨Z, ρ, F, S, a, ρ', ev, q⟩ => ?_
  cases ev
  exact q [] H (Done.here S rfl)
theorem sa_cons {e : Expr} {es : List Expr} {ev : Loc → Res Od} {evs : Loc → Res (List Od)} (h : SO X e ev) (hs : SA X es evs) (hst : starEach (e :: es) X.env = (false, eval e X.env) :: starEach es X.env) :
    SA X (e :: es) fun ρ => consK evs (ev ρ) := by
  refine PA_imp (pa_cons h hs hst) fun σ H Q ⟨Z, ρ, F, S, a, ρ', e0, q⟩ => ?_
  cases h1 : ev ρ with
  | fail => simp only [h1, consK, reduceCtorEq] at e0
  | ok o ρ1 =>
    simp only [h1] at e0
    cases h2 : evs ρ1 with
    | fail => simp only [consK, h2, mapR] at e0; cases e0
    | ok os ρ2 =>
      simp only [consK, h2, mapR] at e0
      cases e0
      refine ⟨Z, ρ, F, S, o, ρ1, h1, fun x H1 ⟨Z1, F1, Fv1, S1, r1, d1, z1, f1⟩ => ⟨Z1, ρ1, F1, S1, os, ρ', h2, fun xs H2 ⟨Z2, F2, Fv2, S2, r2, d2, z2, f2⟩ => q (x :: xs) H2 ?_⟩⟩
      obtain ⟨sd, kp⟩ := Side.go ⟨d1, z1⟩ f2
      refine ⟨Z2, F2, fun a => Fv1 a ∨ Fv2 a, S2, ⟨x, xs, Fv1, Fv2, rfl, fun _ h => .inl h, fun _ h => .inr h, fun a h1 h2 => sd.apart a (.inr h2) h1, r1.keep f2.zs kp, r2⟩, fun a f g => ?_, fun a g => ?_, ?_⟩
      · rcases g with g | g
        · exact sd.apart a (.inl f) g
        · exact d2 a f g
      · rcases g with g | g
        · exact sd.open_ a g
        · exact z2 a g
      · refine f1.trans (f2.mono (fun c h => .inl h) fun c h => ?_)
        rcases h with h | h | h
        · exact .inl (.inl h)
        · exact .inr (.inl (.inr h))
        · exact .inl (.inr h)
/-- what is looked at, at the end -/
theorem look_ok {K : Frag} {Z H : Hp} {F Fv : Reg} {σ : L2.St} {ρ : Loc} (S : St0 K Z H ρ σ F) {o : Od} {v : V} {d : D} (h : ROd K σ o v Z H Fv) (e : lookO ρ o = some d) : RepW K Z H d v := by
  cases o with
  | inl i =>
    unfold lookO at e
    cases hs : slotAt ρ i with
    | none => simp [hs] at e
    | some r =>
      simp [hs] at e
      obtain ⟨G, g1, g2, g3⟩ := S.env
      obtain ⟨w, hw, rw'⟩ := g3 i r hs
      have h' : σ[i]? = some (some v) := h
      rw [hw] at h'
      cases h'
      exact rw'.look e
  | inr r => exact RepV.look h e
/-- one operator, one operand -/
theorem op1 {K : Frag} {ev : Loc → Res Od} {f : Op} {g : D → Option RV} {r : V → Hp → VK → Prop} (hf : ∀ a, f.ap [a] = g a) (hr : ∀ x H Q, M1 K g x H Q → r x H Q) {σ : L2.St} {H : Hp} {Q : VK}
    (h : rd K (fun ρ => opK f (consK (fun ρ => .ok [] ρ) (ev ρ))) (RAv K) σ H Q) : rd K ev (RAo K) σ H fun x H1 => r x H1 Q := by
  obtain ⟨Z, ρ, F, S, a, ρ', e0, q⟩ := h
  cases h1 : ev ρ with
  | fail => simp only [h1, consK, opK] at e0; cases e0
  | ok o ρ1 =>
    simp only [h1, consK, mapR, opK] at e0
    cases hl : lookO ρ1 o with
    | none => simp only [looks, hl, apO, someR] at e0; cases e0
    | some d =>
      simp only [looks, hl, apO, hf] at e0
      cases hg : g d with
      | none => simp only [hg, someR] at e0; cases e0
      | some z =>
        simp only [hg, someR] at e0
        cases e0
        refine ⟨Z, ρ, F, S, o, ρ', h1, fun x H1 ⟨Z1, F1, Fv1, S1, r1, d1, z1, f1⟩ => hr _ _ _ ⟨Z1, d, _, S1.sub, look_ok S1 r1 hl, hg, fun v H' n => q v H' ?_⟩⟩
        obtain ⟨Z2, F2, Fv2, S2, r2, d2, z2, f2⟩ := Done.new S1 n
        obtain ⟨sd, kp⟩ := Side.go ⟨d1, z1⟩ f2
        exact ⟨Z2, F2, Fv2, S2, r2, d2, z2, f1.trans (f2.mono (fun c h => .inl h) fun c h => .inl h)⟩
theorem op2 {K : Frag} {eva evb : Loc → Res Od} {f : Op} {g : D → D → Option RV} {r : R2} (hf : ∀ a b, f.ap [a, b] = g a b) (hr : ∀ x y H Q, M2 K g x y H Q → r x y H Q) {σ : L2.St} {H : Hp} {Q : VK}
    (h : rd K (fun ρ => opK f (consK (fun ρ => consK (fun ρ => .ok [] ρ) (evb ρ)) (eva ρ))) (RAv K) σ H Q) : tOp r (rd K eva (RAo K)) (rd K evb (RAo K)) σ H Q := by
  obtain ⟨Z, ρ, F, S, a, ρ', e0, q⟩ := h
  cases h1 : eva ρ with
  | fail => simp only [h1, consK, opK] at e0; cases e0
  | ok o ρ1 =>
    cases h2 : evb ρ1 with
    | fail => simp only [h1, h2, consK, opK, mapR] at e0; cases e0
    | ok o2 ρ2 =>
      simp only [h1, h2, consK, mapR, opK] at e0
      cases hl : lookO ρ2 o with
      | none => simp only [looks, hl, apO, someR] at e0; cases e0
      | some d =>
        cases hl2 : lookO ρ2 o2 with
        | none => simp only [looks, hl, hl2, apO, someR] at e0; cases e0
        | some d2 =>
          simp only [looks, hl, hl2, apO, hf] at e0
          cases hg : g d d2 with
          | none => simp only [hg, someR] at e0; cases e0
          | some z =>
            simp only [hg, someR] at e0
            cases e0
            refine ⟨Z, ρ, F, S, o, ρ1, h1, fun x H1 ⟨Z1, F1, Fv1, S1, r1, d1, z1, f1⟩ => ⟨Z1, ρ1, F1, S1, o2, ρ', h2, fun y H2 ⟨Z2, F2, Fv2, S2, r2, d2, z2, f2⟩ => ?_⟩⟩
            obtain ⟨sd, kp⟩ := Side.go ⟨d1, z1⟩ f2
            refine hr _ _ _ _ ⟨Z2, _, _, _, S2.sub, look_ok S2 (r1.keep f2.zs kp) hl, look_ok S2 r2 hl2, hg, fun v H' n => q v H' ?_⟩
            obtain ⟨Z3, F3, Fv3, S3, r3, d3, z3, f3⟩ := Done.new S2 n
            exact ⟨Z3, F3, Fv3, S3, r3, d3, z3, f1.trans ((f2.trans (f3.mono (F1 := fun a => F3 a ∨ Fv3 a) (F2 := fun a => F3 a ∨ Fv3 a) (fun c h => .inl h) fun c h => .inl h)).mono (fun c h => .inl h) fun c h => .inl h)⟩
/-- from a state that goes on to a later one -/
theorem Done.after {K : Frag} {Z H Z1 H1 : Hp} {F F1 Fw : Reg} {σ : L2.St} {ρ' : Loc} {R : Hp → Hp → Reg → Prop} {H' : Hp} (f : Frm Z H F Z1 H1 (fun a => F1 a ∨ Fw a)) (d : Done K Z1 H1 F1 σ ρ' R H') : Done K Z H F σ ρ' R H' := by
  obtain ⟨Z2, F2, Fv2, S2, r2, d2, z2, f2⟩ := d
  exact ⟨Z2, F2, Fv2, S2, r2, d2, z2, f.trans (f2.mono (fun c h => .inl h) fun c h => .inl h)⟩
theorem Done.imp {K : Frag} {Z H : Hp} {F : Reg} {σ : L2.St} {ρ' : Loc} {R R' : Hp → Hp → Reg → Prop} {H' : Hp} (d : Done K Z H F σ ρ' R H') (k : ∀ Z H F, R Z H F → R' Z H F) : Done K Z H F σ ρ' R' H' := by
  obtain ⟨Z2, F2, Fv2, S2, r2, d2, z2, f2⟩ := d
  exact ⟨Z2, F2, Fv2, S2, k _ _ _ r2, d2, z2, f2⟩
theorem op3 {K : Frag} {eva evb evc : Loc → Res Od} {f : Op} {g : D → D → D → Option RV} {r : V → V → V → Hp → VK → Prop} (hf : ∀ a b c, f.ap [a, b, c] = g a b c)
    (hr : ∀ x y z H Q, (∃ Z a b c r, Sub Z H ∧ RepW K Z H a x ∧ RepW K Z H b y ∧ RepW K Z H c z ∧ g a b c = some r ∧ ∀ v H', New K Z H r v H' → Q v H') → r x y z H Q) {σ : L2.St} {H : Hp} {Q : VK}
    (h : rd K (fun ρ => opK f (consK (fun ρ => consK (fun ρ => consK (fun ρ => .ok [] ρ) (evc ρ)) (evb ρ)) (eva ρ))) (RAv K) σ H Q) :
    rd K eva (RAo K) σ H fun x H1 => rd K evb (RAo K) σ H1 fun y H2 => rd K evc (RAo K) σ H2 fun z H3 => r x y z H3 Q := by
  obtain ⟨Z, ρ, F, S, a, ρ', e0, q⟩ := h
  cases h1 : eva ρ with
  | fail => simp only [h1, consK, opK, reduceCtorEq] at e0
  | ok o ρ1 =>
    cases h2 : evb ρ1 with
    | fail => simp only [h1, h2, consK, opK, mapR, reduceCtorEq] at e0
    | ok o2 ρ2 =>
      cases h3 : evc ρ2 with
      | fail => simp only [h1, h2, h3, consK, opK, mapR, reduceCtorEq] at e0
      | ok o3 ρ3 =>
        simp only [h1, h2, h3, consK, mapR, opK] at e0
        cases hl : lookO ρ3 o with
        | none => simp only [looks, hl, apO, someR, reduceCtorEq] at e0
        | some d =>
          cases hl2 : lookO ρ3 o2 with
          | none => simp only [looks, hl, hl2, apO, someR, reduceCtorEq] at e0
          | some d2 =>
            cases hl3 : lookO ρ3 o3 with
            | none => simp only [looks, hl, hl2, hl3, apO, someR, reduceCtorEq] at e0
            | some d3 =>
              simp only [looks, hl, hl2, hl3, apO, hf] at e0
              cases hg : g d d2 d3 with
              | none => simp only [hg, someR, reduceCtorEq] at e0
              | some z =>
                simp only [hg, someR] at e0
                cases e0
                refine ⟨Z, ρ, F, S, o, ρ1, h1, fun x H1 ⟨Z1, F1, Fv1, S1, r1, d1, z1, f1⟩ => ⟨Z1, ρ1, F1, S1, o2, ρ2, h2, fun y H2 ⟨Z2, F2, Fv2, S2, r2, d2, z2, f2⟩ => ⟨Z2, ρ2, F2, S2, o3, ρ', h3, fun w H3 ⟨Z3, F3, Fv3, S3, r3, d3, z3, f3⟩ => ?_⟩⟩⟩
                obtain ⟨sd, kp⟩ := Side.go ⟨d1, z1⟩ f2
                have f3' : Frm Z2 H2 (fun a => F2 a ∨ Fv2 a) Z3 H3 (fun a => F3 a ∨ Fv3 a) := f3.mono (fun c h => .inl h) fun c h => .inl h
                obtain ⟨sd3, kp3⟩ := Side.go sd f3'
                obtain ⟨_, kp2⟩ := Side.go ⟨d2, z2⟩ f3
                refine hr _ _ _ _ _ ⟨Z3, _, _, _, _, S3.sub, look_ok S3 ((r1.keep f2.zs kp).keep f3.zs kp3) hl, look_ok S3 (r2.keep f3.zs kp2) hl2, look_ok S3 r3 hl3, hg, fun v H' n => q v H' ?_⟩
                exact Done.after f1 (Done.after f2 (Done.after f3 (Done.new S3 n)))

variable {a b c : Expr} {eva evb evc : Loc → Res Od} {pos : Pos}
abbrev nilE : Loc → Res (List Od) := fun ρ => .ok [] ρ
theorem se_bin {o : Operator} {f : Op} {g : D → D → Option RV} (ho : OpR X (binaryOp o) (M2 X.K g)) (hf : ∀ a b, f.ap [a, b] = g a b) (ha : SO X a eva) (hb : SO X b evb) :
    SE X (.BinOp a o b pos) fun ρ => opK f (consK (fun ρ => consK nilE (evb ρ)) (eva ρ)) :=
  PE_imp (pe_op ho ha hb) fun σ H Q h => op2 hf (fun _ _ _ _ z => z) h
theorem se_neg (ha : SO X a eva) : SE X (.UnaryOp .USub a pos) fun ρ => opK .neg (consK nilE (eva ρ)) :=
  PE_imp (pe_un k_neg ha) fun σ H Q h => op1 (fun _ => rfl) (fun _ _ _ z => z) h
theorem se_cmp {o : CmpOp} {f : Op} {g : D → D → Option RV} (ho : OpR X (compareOp o) (M2 X.K g)) (hf : ∀ a b, f.ap [a, b] = g a b) (ha : SO X a eva) (hb : SO X b evb) (hm : behindInMarks o b = false) :
    SE X (.Compare a [o] [b] pos) fun ρ => opK f (consK (fun ρ => consK nilE (evb ρ)) (eva ρ)) :=
  PE_imp (pe_cmpR ho ha hb hm) fun σ H Q h => op2 hf (fun _ _ _ _ z => z) h
theorem to_test {K : Frag} {ev : Loc → Res RV} (hb : ∀ ρ r ρ', ev ρ = .ok r ρ' → ∃ c, r = bool c) {σ : L2.St} {H : Hp} {Q : Bool → Hp → Prop} (h : rd K (fun ρ => truthK (mapR Sum.inr (ev ρ))) RAb σ H Q) :
    rd K ev (RAv K) σ H fun x H' => ∃ k, x = .bl k ∧ Q k H' := by
  obtain ⟨Z, ρ, F, S, t, ρ', e0, q⟩ := h
  cases h1 : ev ρ with
  | fail => simp only [h1, mapR, truthK, reduceCtorEq] at e0
  | ok r ρ1 =>
    obtain ⟨c, rfl⟩ := hb _ _ _ h1
    simp only [h1, mapR, truthK, lookO, bool, vw, bindO, truth, someR] at e0
    cases e0
    refine ⟨Z, ρ, F, S, _, ρ', h1, fun x H' d => ?_⟩
    obtain ⟨Z2, F2, Fv2, S2, r2, d2, z2, f2⟩ := d
    cases r2 with
    | imm r2 => cases r2; exact ⟨t, rfl, q t H' ⟨Z2, F2, Fv2, S2, rfl, d2, z2, f2⟩⟩
theorem st_cmp {o : CmpOp} {f : Op} {g : D → D → Option RV} (ho : OpR X (compareOp o) (M2 X.K g)) (hf : ∀ a b, f.ap [a, b] = g a b) (hg : ∀ a b r, g a b = some r → ∃ c, r = bool c) (ha : SO X a eva) (hb : SO X b evb) (hm : behindInMarks o b = false) :
    ST X (.Compare a [o] [b] pos) fun ρ => truthK (mapR Sum.inr (opK f (consK (fun ρ => consK nilE (evb ρ)) (eva ρ)))) := by
  refine PT_imp (pt_cmpR ho ha hb hm) fun σ H Q h => ?_
  refine op2 hf (fun _ _ _ _ z => z) (to_test (fun ρ r ρ' e => ?_) h)
  cases h1 : consK (fun ρ => consK nilE (evb ρ)) (eva ρ) with
  | fail => simp only [h1, opK, reduceCtorEq] at e
  | ok os ρ1 =>
    simp only [h1, opK] at e
    cases hl : looks ρ1 os with
    | none => simp only [hl, apO, someR, reduceCtorEq] at e
    | some ds =>
      simp only [hl, apO] at e
      cases h2 : f.ap ds with
      | none => simp only [h2, someR, reduceCtorEq] at e
      | some z =>
        simp only [h2, someR] at e
        cases e
        -- two operands
        cases h3 : eva ρ with
        | fail => simp only [h3, consK, reduceCtorEq] at h1
        | ok o1 ρ2 =>
          cases h4 : evb ρ2 with
          | fail => simp only [h3, h4, consK, mapR, reduceCtorEq] at h1
          | ok o2 ρ3 =>
            simp only [h3, h4, consK, mapR] at h1
            cases h1
            cases a1 : lookO ρ' o1 with
            | none => simp only [looks, a1, reduceCtorEq] at hl
            | some d1 =>
              cases a2 : lookO ρ' o2 with
              | none => simp only [looks, a1, a2, reduceCtorEq] at hl
              | some d2 =>
                simp only [looks, a1, a2] at hl
                cases hl
                rw [hf] at h2
                exact hg _ _ _ h2
theorem isN_out {K : Frag} {eva : Loc → Res Od} {neg : Bool} {ρ : Loc} {r : RV} {ρ' : Loc} (e : opK (if neg then .notN else .isN) (consK nilE (eva ρ)) = .ok r ρ') : ∃ c, r = bool c := by
  cases h3 : eva ρ with
  | fail => simp only [h3, consK, opK, reduceCtorEq] at e
  | ok o1 ρ2 =>
    simp only [h3, consK, mapR, opK] at e
    cases a1 : lookO ρ2 o1 with
    | none => simp only [looks, a1, apO, someR, reduceCtorEq] at e
    | some d1 =>
      simp only [looks, a1, apO] at e
      cases neg <;> simp [Op.ap, someR] at e <;> exact ⟨_, e.1.symm⟩
theorem se_isN {j : Nat} {p : Pos} (ha : SO X a eva) : SE X (.Compare a [.Is] [.Constant .none j p] pos) fun ρ => opK .isN (consK nilE (eva ρ)) :=
  PE_imp (pe_cmpR k_isN ha pe_non (nomark _)) fun σ H Q h => op1 (r := fun x H Q => V.non = .non ∧ M1 X.K (fun a => some (bool (isNon a))) x H Q) (fun _ => rfl) (fun _ _ _ z => ⟨rfl, z⟩) h
theorem se_notN {j : Nat} {p : Pos} (ha : SO X a eva) : SE X (.Compare a [.IsNot] [.Constant .none j p] pos) fun ρ => opK .notN (consK nilE (eva ρ)) :=
  PE_imp (pe_cmpR k_notN ha pe_non (nomark _)) fun σ H Q h => op1 (r := fun x H Q => V.non = .non ∧ M1 X.K (fun a => some (bool (!isNon a))) x H Q) (fun _ => rfl) (fun _ _ _ z => ⟨rfl, z⟩) h
theorem st_isN {j : Nat} {p : Pos} (ha : SO X a eva) : ST X (.Compare a [.Is] [.Constant .none j p] pos) fun ρ => truthK (mapR Sum.inr (opK .isN (consK nilE (eva ρ)))) :=
  PT_imp (pt_cmpR k_isN ha pe_non (nomark _)) fun σ H Q h => op1 (r := fun x H Q => V.non = .non ∧ M1 X.K (fun a => some (bool (isNon a))) x H Q) (fun _ => rfl) (fun _ _ _ z => ⟨rfl, z⟩)
    (to_test (fun ρ r ρ' e => isN_out (K := X.K) (neg := false) e) h)
theorem st_notN {j : Nat} {p : Pos} (ha : SO X a eva) : ST X (.Compare a [.IsNot] [.Constant .none j p] pos) fun ρ => truthK (mapR Sum.inr (opK .notN (consK nilE (eva ρ)))) :=
  PT_imp (pt_cmpR k_notN ha pe_non (nomark _)) fun σ H Q h => op1 (r := fun x H Q => V.non = .non ∧ M1 X.K (fun a => some (bool (!isNon a))) x H Q) (fun _ => rfl) (fun _ _ _ z => ⟨rfl, z⟩)
    (to_test (fun ρ r ρ' e => isN_out (K := X.K) (neg := true) e) h)
theorem se_item (hu : X.A.units + 1 < cLine) (ha : SO X a eva) (hb : SO X b evb) (hs : PlainIx b) : SE X (.Subscript a b pos) fun ρ => opK .item (consK (fun ρ => consK nilE (evb ρ)) (eva ρ)) :=
  PE_imp (pe_ix (k_item hu) ha hb hs) fun σ H Q h => op2 (fun _ _ => rfl) (fun _ _ _ _ z => z) h
/-- truth of any value -/
theorem truV_of {K : Frag} {Z H : Hp} {d : D} {x : V} {k : Bool} (s : Sub Z H) (h : RepW K Z H d x) (e : truth d = some k) : TruV K x H k := by
  cases d <;> simp only [truth, reduceCtorEq] at e
  · cases h.non_; cases e; rfl
  · cases h.bl_; cases e; rfl
  · cases h.int_; cases e; rfl
  · cases h.str_
    split at e
    · cases e
      rename_i l hz
      refine ⟨by rw [toStr_len]; exact hz, ?_⟩
      rw [toStr_len]
      cases l <;> simp
      omega
    · cases e
  · cases e
    obtain ⟨p, vs, rfl, h1, h2⟩ := h.tup_
    refine .inr (.inl ⟨vs, s.sqT h1, ?_⟩)
    have := h2.1
    rename_i l
    cases l <;> cases vs <;> simp_all
  · cases e
    obtain ⟨p, vs, rfl, h1, h2⟩ := h.lst_ s
    refine .inl ⟨vs, SqL.of h1, ?_⟩
    have := h2.1
    rename_i l
    cases l <;> cases vs <;> simp_all
  · cases e
    obtain ⟨p, vs, rfl, h1, h2⟩ := h.dic_ s
    refine .inr (.inr ⟨vs, h1, ?_⟩)
    have := h2.1
    rename_i l
    cases l <;> cases vs <;> simp_all
theorem st_truth (ha : SO X a eva) (he : ∀ whole, isTrue a X.env whole = (do let v ← whole; standAt a.pos; holding [v] (truthy v))) : ST X a fun ρ => truthK (eva ρ) := by
  refine PT_imp (pt_truth ha he) fun σ H Q ⟨Z, ρ, F, S, t, ρ', e0, q⟩ => ?_
  cases h1 : eva ρ with
  | fail => simp only [h1, truthK, reduceCtorEq] at e0
  | ok o ρ1 =>
    simp only [h1, truthK] at e0
    cases hl : lookO ρ1 o with
    | none => simp only [hl, bindO, someR, reduceCtorEq] at e0
    | some d =>
      simp only [hl, bindO] at e0
      cases ht : truth d with
      | none => simp only [ht, someR, reduceCtorEq] at e0
      | some k =>
        simp only [ht, someR] at e0
        cases e0
        refine ⟨Z, ρ, F, S, o, ρ', h1, fun x H' d' => ?_⟩
        obtain ⟨Z2, F2, Fv2, S2, r2, d2, z2, f2⟩ := d'
        exact ⟨t, truV_of S2.sub (look_ok S2 r2 hl) ht, q t H' ⟨Z2, F2, Fv2, S2, rfl, d2, z2, f2⟩⟩

variable {ta tb : Loc → Res Bool} {va vb : Loc → Res RV}
theorem rd_bool {K : Frag} {ev : Loc → Res Bool} {σ : L2.St} {H : Hp} {Q : Bool → Hp → Prop} {Z : Hp} {ρ : Loc} {F : Reg} (S : St0 K Z H ρ σ F) {t : Bool} {ρ1 : Loc} (h1 : ev ρ = .ok t ρ1)
    (h : ∀ Z1 H1 F1, St0 K Z1 H1 ρ1 σ F1 → Frm Z H F Z1 H1 F1 → Q t H1) : rd K ev RAb σ H Q := by
  refine ⟨Z, ρ, F, S, t, ρ1, h1, fun b H' d => ?_⟩
  obtain ⟨Z2, F2, Fv2, S2, r2, d2, z2, f2⟩ := d
  cases r2
  exact h _ _ _ S2 (f2.mono (fun _ h => h) fun c h => .inl (.inl h))
theorem Done.then {K : Frag} {Z H Z1 H1 : Hp} {F F1 : Reg} {σ : L2.St} {ρ' : Loc} {R : Hp → Hp → Reg → Prop} {H' : Hp} (f : Frm Z H F Z1 H1 F1) (d : Done K Z1 H1 F1 σ ρ' R H') : Done K Z H F σ ρ' R H' := by
  obtain ⟨Z2, F2, Fv2, S2, r2, d2, z2, f2⟩ := d
  exact ⟨Z2, F2, Fv2, S2, r2, d2, z2, f.trans f2⟩
theorem Done.bool {K : Frag} {Z H Z1 H1 : Hp} {F F1 : Reg} {σ : L2.St} {ρ' : Loc} {t : Bool} (S : St0 K Z1 H1 ρ' σ F1) (f : Frm Z H F Z1 H1 F1) : Done K Z H F σ ρ' (RAb σ t t) H1 := Done.then f (Done.here S rfl)
theorem st_not (h : ST X a ta) : ST X (.UnaryOp .Not a pos) fun ρ => mapR Bool.not (ta ρ) := by
  refine PT_imp (pt_not h) fun σ H Q ⟨Z, ρ, F, S, t, ρ', e0, q⟩ => ?_
  cases h1 : ta ρ with
  | fail => simp only [h1, mapR, reduceCtorEq] at e0
  | ok t1 ρ1 =>
    simp only [h1, mapR] at e0
    cases e0
    exact rd_bool S h1 fun Z1 H1 F1 S1 f1 => q _ _ (Done.bool S1 f1)
theorem sw_and1 (h : ST X a ta) : PW X (.BoolOp .And [a] pos) (rd X.K ta RAb) := pw_and1 h
theorem sw_or1 (h : ST X a ta) : PW X (.BoolOp .Or [a] pos) (rd X.K ta RAb) := pw_or1 h
theorem sw_and {rest : List Expr} (h : ST X a ta) (hb : PW X (.BoolOp .And (b :: rest) pos) (rd X.K tb RAb)) : PW X (.BoolOp .And (a :: b :: rest) pos) (rd X.K (fun ρ => andT tb (ta ρ)) RAb) := by
  refine PW_imp (pw_and h hb) fun σ H Q ⟨Z, ρ, F, S, t, ρ', e0, q⟩ => ?_
  cases h1 : ta ρ with
  | fail => simp only [h1, andT, reduceCtorEq] at e0
  | ok t1 ρ1 =>
    refine rd_bool S h1 fun Z1 H1 F1 S1 f1 => ?_
    cases t1 with
    | true =>
      simp only [h1, andT] at e0
      rw [if_pos rfl]
      exact ⟨Z1, ρ1, F1, S1, t, ρ', e0, fun b H' d => q b H' (Done.then f1 d)⟩
    | false =>
      simp only [h1, andT] at e0
      cases e0
      rw [if_neg (by decide)]
      exact q _ _ (Done.bool S1 f1)
theorem sw_or {rest : List Expr} (h : ST X a ta) (hb : PW X (.BoolOp .Or (b :: rest) pos) (rd X.K tb RAb)) : PW X (.BoolOp .Or (a :: b :: rest) pos) (rd X.K (fun ρ => orT tb (ta ρ)) RAb) := by
  refine PW_imp (pw_or h hb) fun σ H Q ⟨Z, ρ, F, S, t, ρ', e0, q⟩ => ?_
  cases h1 : ta ρ with
  | fail => simp only [h1, orT, reduceCtorEq] at e0
  | ok t1 ρ1 =>
    refine rd_bool S h1 fun Z1 H1 F1 S1 f1 => ?_
    cases t1 with
    | false =>
      simp only [h1, orT] at e0
      rw [if_neg (by decide)]
      exact ⟨Z1, ρ1, F1, S1, t, ρ', e0, fun b H' d => q b H' (Done.then f1 d)⟩
    | true =>
      simp only [h1, orT] at e0
      cases e0
      rw [if_pos rfl]
      exact q _ _ (Done.bool S1 f1)
theorem se_ite (hc : ST X c ta) (ha : SE X a va) (hb : SE X b vb) : SE X (.IfExp c a b pos) fun ρ => iteK va vb (ta ρ) := by
  refine PE_imp (pe_ifExp hc ha hb) fun σ H Q ⟨Z, ρ, F, S, t, ρ', e0, q⟩ => ?_
  cases h1 : ta ρ with
  | fail => simp only [h1, iteK, reduceCtorEq] at e0
  | ok t1 ρ1 =>
    refine rd_bool S h1 fun Z1 H1 F1 S1 f1 => ?_
    cases t1 with
    | true =>
      simp only [h1, iteK] at e0
      rw [if_pos rfl]
      exact ⟨Z1, ρ1, F1, S1, t, ρ', e0, fun b H' d => q b H' (Done.then f1 d)⟩
    | false =>
      simp only [h1, iteK] at e0
      rw [if_neg (by decide)]
      exact ⟨Z1, ρ1, F1, S1, t, ρ', e0, fun b H' d => q b H' (Done.then f1 d)⟩
theorem rd_bl {K : Frag} {ev : Loc → Res RV} {σ : L2.St} {H : Hp} {Q : VK} {Z : Hp} {ρ : Loc} {F : Reg} (S : St0 K Z H ρ σ F) {t : Bool} {ρ1 : Loc} (h1 : ev ρ = .ok (.imm (.bl t)) ρ1)
    (h : ∀ Z1 H1 F1, St0 K Z1 H1 ρ1 σ F1 → Frm Z H F Z1 H1 F1 → Q (.bl t) H1) : rd K ev (RAv K) σ H Q := by
  refine ⟨Z, ρ, F, S, _, ρ1, h1, fun b H' d => ?_⟩
  obtain ⟨Z2, F2, Fv2, S2, r2, d2, z2, f2⟩ := d
  cases r2 with
  | imm r2 => cases r2; exact h _ _ _ S2 (f2.mono (fun _ h => h) fun c h => .inl (.inl h))
theorem Done.bl {K : Frag} {Z H Z1 H1 : Hp} {F F1 : Reg} {σ : L2.St} {ρ' : Loc} {t : Bool} (S : St0 K Z1 H1 ρ' σ F1) (f : Frm Z H F Z1 H1 F1) : Done K Z H F σ ρ' (RAv K σ (Mv.bool t) (.bl t)) H1 :=
  Done.then f (Done.here S (.imm (.bl t)))
theorem se_one {op : PySem.BoolOp} (h : SE X a va) : SE X (.BoolOp op [a] pos) va := pe_one h
theorem se_and {rest : List Expr} (h : SE X a va) (hb : SE X (.BoolOp .And (b :: rest) pos) vb) : SE X (.BoolOp .And (a :: b :: rest) pos) fun ρ => andK vb (va ρ) := by
  refine PE_imp (pe_and h hb) fun σ H Q ⟨Z, ρ, F, S, t, ρ', e0, q⟩ => ?_
  cases h1 : va ρ with
  | fail => simp only [h1, andK, reduceCtorEq] at e0
  | ok t1 ρ1 =>
    cases t1 with
    | imm d =>
      cases d with
      | bl t2 =>
        refine rd_bl S h1 fun Z1 H1 F1 S1 f1 => ⟨t2, rfl, ?_⟩
        cases t2 with
        | true =>
          simp only [h1, andK] at e0
          rw [if_pos rfl]
          exact ⟨Z1, ρ1, F1, S1, t, ρ', e0, fun b H' d => q b H' (Done.then f1 d)⟩
        | false =>
          simp only [h1, andK] at e0
          cases e0
          rw [if_neg (by decide)]
          exact q _ _ (Done.bl S1 f1)
      | _ => simp only [h1, andK, reduceCtorEq] at e0
    | _ => simp only [h1, andK, reduceCtorEq] at e0
theorem se_or {rest : List Expr} (h : SE X a va) (hb : SE X (.BoolOp .Or (b :: rest) pos) vb) : SE X (.BoolOp .Or (a :: b :: rest) pos) fun ρ => orK vb (va ρ) := by
  refine PE_imp (pe_or h hb) fun σ H Q ⟨Z, ρ, F, S, t, ρ', e0, q⟩ => ?_
  cases h1 : va ρ with
  | fail => simp only [h1, orK, reduceCtorEq] at e0
  | ok t1 ρ1 =>
    cases t1 with
    | imm d =>
      cases d with
      | bl t2 =>
        refine rd_bl S h1 fun Z1 H1 F1 S1 f1 => ⟨t2, rfl, ?_⟩
        cases t2 with
        | false =>
          simp only [h1, orK] at e0
          rw [if_neg (by decide)]
          exact ⟨Z1, ρ1, F1, S1, t, ρ', e0, fun b H' d => q b H' (Done.then f1 d)⟩
        | true =>
          simp only [h1, orK] at e0
          cases e0
          rw [if_pos rfl]
          exact q _ _ (Done.bl S1 f1)
      | _ => simp only [h1, orK, reduceCtorEq] at e0
    | _ => simp only [h1, orK, reduceCtorEq] at e0
theorem se_not (h : SE X a va) : SE X (.UnaryOp .Not a pos) fun ρ => notK (va ρ) := by
  refine PE_imp (pe_not h) fun σ H Q ⟨Z, ρ, F, S, t, ρ', e0, q⟩ => ?_
  cases h1 : va ρ with
  | fail => simp only [h1, notK, reduceCtorEq] at e0
  | ok t1 ρ1 =>
    cases t1 with
    | imm d =>
      cases d with
      | bl t2 =>
        simp only [h1, notK] at e0
        cases e0
        exact rd_bl S h1 fun Z1 H1 F1 S1 f1 => ⟨t2, rfl, q _ _ (Done.bl S1 f1)⟩
      | _ => simp only [h1, notK, reduceCtorEq] at e0
    | _ => simp only [h1, notK, reduceCtorEq] at e0
end
end Mv
namespace Mv
open PySem PySem.Spec PyProof.Rows L2

section
variable {K : Frag} {σ : L2.St}
/-- a region besides is frozen -/
theorem St0.freezeBeside {Z H : Hp} {ρ : Loc} {F G : Reg} (S : St0 K Z H ρ σ F) (sd : Side Z H F G) : St0 K (over Z H G) H ρ σ F ∧ Sub Z (over Z H G) ∧ ∀ a o, over Z H G a = some o → Z a = some o ∨ G a := by
  have s1 : Sub Z (over Z H G) := over_sub fun a g => (sd.open_ a g).1
  obtain ⟨E, g1, g2, g3⟩ := S.env
  refine ⟨⟨over_le S.sub, S.len, fun a f => ?_, S.al, E, g1, g2, fun i r h => ?_⟩, s1, fun a o e => ?_⟩
  · rw [over_out (sd.apart a f)]; exact S.dj a f
  · obtain ⟨v, hv, rv⟩ := g3 i r h
    exact ⟨v, hv, rv.keep s1 fun _ _ _ e => e⟩
  · by_cases g : G a
    · exact .inr g
    · rw [over_out g] at e; exact .inl e
theorem takes_ok : ∀ {os : List Od} {vs : List V} {Z H : Hp} {ρ ρ' : Loc} {F Fv : Reg} {ds : List D}, St0 K Z H ρ σ F → Side Z H F Fv → ROds K σ os vs Z H Fv → takes ρ os = some (ds, ρ') →
    ∃ Z' F', St0 K Z' H ρ' σ F' ∧ RepDs K Z' ds vs ∧ Sub Z Z' ∧ (∀ a, F' a → F a) ∧ ∀ a o, Z' a = some o → Z a = some o ∨ F a ∨ Fv a
  | [], vs, Z, H, ρ, ρ', F, Fv, ds, S, sd, r, e => by
    cases e
    cases r
    exact ⟨Z, F, S, RepDs.nil, fun _ _ h => h, fun _ h => h, fun _ _ h => .inl h⟩
  | o :: os, vs, Z, H, ρ, ρ', F, Fv, ds, S, sd, ⟨v, r, F1, F2, ev, a1, a2, a3, h1, h2⟩, e => by
    subst ev
    cases o with
    | inl i =>
      cases hs : slotAt ρ i with
      | none => simp [takes, takeO, hs] at e
      | some x =>
        obtain ⟨Z1, F1', w, hw, S1, rz, f1⟩ := S.freeze hs
        have h1' : σ[i]? = some (some v) := h1
        rw [hw] at h1'
        cases h1'
        have hno : ∀ c, F1' c → F c := fun c h => by
          rcases f1.own c h with z | z
          · exact z
          · exact absurd z (S1.al c h)
        have sd1 : Side Z1 H F1' F2 := ⟨fun c h g => sd.apart c (hno c h) (a2 c g), fun c g => ⟨by
          cases q : Z1 c with
          | none => rfl
          | some o =>
            rcases f1.zn c o q with z | z | z
            · rw [(sd.open_ c (a2 c g)).1] at z; cases z
            · exact absurd (a2 c g) (sd.apart c z)
            · exact absurd z (sd.open_ c (a2 c g)).2, (sd.open_ c (a2 c g)).2⟩⟩
        cases ht : takes (ρ.set i (some (.imm (fz x)))) os with
        | none => simp [takes, takeO, hs, ht] at e
        | some p =>
          obtain ⟨ds1, ρ1⟩ := p
          simp [takes, takeO, hs, ht] at e
          obtain ⟨rfl, rfl⟩ := e
          obtain ⟨Z2, F2', S2, rr, s2, n2, zn2⟩ := takes_ok S1 sd1 (h2.keep f1.zs fun _ _ _ e => e) ht
          refine ⟨Z2, F2', S2, RepDs.cons (rz.sub s2) rr, fun a o h => s2 a o (f1.zs a o h), fun a h => hno a (n2 a h), fun a o h => ?_⟩
          rcases zn2 a o h with z | z | z
          · rcases f1.zn a o z with z | z | z
            · exact .inl z
            · exact .inr (.inl z)
            · rw [S1.sub a o (by assumption)] at z; cases z
          · exact .inr (.inl (hno a z))
          · exact .inr (.inr (a2 a z))
    | inr x =>
      have sdF1 : Side Z H F F1 := ⟨fun c h g => sd.apart c h (a1 c g), fun c g => sd.open_ c (a1 c g)⟩
      obtain ⟨S1, s1, zn1⟩ := S.freezeBeside sdF1
      have rz : RepD K (over Z H F1) (fz x) v := RepV.freeze h1 s1 fun a o f e => by rw [over_in f]; exact e
      have sd1 : Side (over Z H F1) H F F2 := ⟨fun c h g => sd.apart c h (a2 c g), fun c g => ⟨by rw [over_out (fun z => a3 c z g)]; exact (sd.open_ c (a2 c g)).1, (sd.open_ c (a2 c g)).2⟩⟩
      cases ht : takes ρ os with
      | none => simp [takes, takeO, ht] at e
      | some p =>
        obtain ⟨ds1, ρ1⟩ := p
        simp [takes, takeO, ht] at e
        obtain ⟨rfl, rfl⟩ := e
        obtain ⟨Z2, F2', S2, rr, s2, n2, zn2⟩ := takes_ok S1 sd1 (h2.keep s1 fun _ _ _ e => e) ht
        refine ⟨Z2, F2', S2, RepDs.cons (rz.sub s2) rr, fun a o h => s2 a o (s1 a o h), n2, fun a o h => ?_⟩
        rcases zn2 a o h with z | z | z
        · rcases zn1 a o z with z | z
          · exact .inl z
          · exact .inr (.inr (a1 a z))
        · exact .inr (.inl z)
        · exact .inr (.inr (a2 a z))
/-- things of their own regions -/
def RepVs (K : Frag) (Z H : Hp) (rs : List RV) (vs : List V) (G : Nat → Reg) : Prop :=
  rs.length = vs.length ∧ (∀ i j b, i ≠ j → G i b → ¬ G j b) ∧ ∀ (i : Nat) (x : RV) (v : V), rs[i]? = some x → vs[i]? = some v → RepV K Z H x v (G i)
def shiftG (F1 : Reg) (G : Nat → Reg) : Nat → Reg
  | 0 => F1
  | i + 1 => G i
theorem RepVs.cons {Z H : Hp} {x : RV} {v : V} {rs : List RV} {vs : List V} {F1 : Reg} {G : Nat → Reg} (h : RepV K Z H x v F1) (h2 : RepVs K Z H rs vs G) (d : ∀ i a, F1 a → ¬ G i a) : RepVs K Z H (x :: rs) (v :: vs) (shiftG F1 G) :=
  ⟨by simp [h2.1], fun i j b ne f g => by
    cases i with
    | zero => cases j with
      | zero => exact ne rfl
      | succ j => exact d j b f g
    | succ i => cases j with
      | zero => exact d i b g f
      | succ j => exact h2.2.1 i j b (fun z => ne (by rw [z])) f g, fun i y w a b => by
    cases i with
    | zero => simp at a b; subst a; subst b; exact h
    | succ i => exact h2.2.2 i y w (by simpa using a) (by simpa using b)⟩
theorem RepVs.nil {Z H : Hp} : RepVs K Z H [] [] fun _ _ => False := ⟨rfl, fun _ _ _ _ h => h.elim, fun i x v a b => by simp at a⟩
theorem holds_ok : ∀ {os : List Od} {vs : List V} {Z H : Hp} {ρ ρ' : Loc} {F Fv : Reg} {rs : List RV}, St0 K Z H ρ σ F → Side Z H F Fv → ROds K σ os vs Z H Fv → holds ρ os = some (rs, ρ') →
    ∃ Z' F' G, St0 K Z' H ρ' σ F' ∧ RepVs K Z' H rs vs G ∧ (∀ i a, G i a → Fv a) ∧ Side Z' H F' Fv ∧ Sub Z Z' ∧ (∀ a, F' a → F a) ∧ ∀ a o, Z' a = some o → Z a = some o ∨ F a
  | [], vs, Z, H, ρ, ρ', F, Fv, rs, S, sd, r, e => by
    cases e
    cases r
    exact ⟨Z, F, _, S, RepVs.nil, fun _ _ h => h.elim, sd, fun _ _ h => h, fun _ h => h, fun _ _ h => .inl h⟩
  | o :: os, vs, Z, H, ρ, ρ', F, Fv, rs, S, sd, ⟨v, r, F1, F2, ev, a1, a2, a3, h1, h2⟩, e => by
    subst ev
    cases o with
    | inl i =>
      cases hs : slotAt ρ i with
      | none => simp [holds, holdO, hs] at e
      | some x =>
        obtain ⟨Z1, F1', w, hw, S1, rz, f1⟩ := S.freeze hs
        have h1' : σ[i]? = some (some v) := h1
        rw [hw] at h1'
        cases h1'
        have hno : ∀ c, F1' c → F c := fun c h => by
          rcases f1.own c h with z | z
          · exact z
          · exact absurd z (S1.al c h)
        have sdv : Side Z1 H F1' Fv := ⟨fun c h g => sd.apart c (hno c h) g, fun c g => ⟨by
          cases q : Z1 c with
          | none => rfl
          | some o =>
            rcases f1.zn c o q with z | z | z
            · rw [(sd.open_ c g).1] at z; cases z
            · exact absurd g (sd.apart c z)
            · exact absurd z (sd.open_ c g).2, (sd.open_ c g).2⟩⟩
        have sd1 : Side Z1 H F1' F2 := ⟨fun c h g => sdv.apart c h (a2 c g), fun c g => sdv.open_ c (a2 c g)⟩
        cases ht : holds (ρ.set i (some (.imm (fz x)))) os with
        | none => simp [holds, holdO, hs, ht] at e
        | some p =>
          obtain ⟨ds1, ρ1⟩ := p
          simp [holds, holdO, hs, ht] at e
          obtain ⟨rfl, rfl⟩ := e
          obtain ⟨Z2, F2', G, S2, rr, gg, sd2, s2, n2, zn2⟩ := holds_ok S1 sd1 (h2.keep f1.zs fun _ _ _ e => e) ht
          have znn : ∀ a o, Z2 a = some o → Z a = some o ∨ F a := fun a o h => by
            rcases zn2 a o h with z | z
            · rcases f1.zn a o z with z | z | z
              · exact .inl z
              · exact .inr z
              · rw [S1.sub a o (by assumption)] at z; cases z
            · exact .inr (hno a z)
          refine ⟨Z2, F2', shiftG (fun _ => False) G, S2, RepVs.cons (.imm (rz.sub s2)) rr (fun _ _ h => h.elim), fun i a h => ?_, ⟨fun c h g => sd.apart c (hno c (n2 c h)) g, fun c g => ⟨?_, (sd.open_ c g).2⟩⟩, fun a o h => s2 a o (f1.zs a o h), fun a h => hno a (n2 a h), znn⟩
          · cases i with
            | zero => exact h.elim
            | succ i => exact a2 a (gg i a h)
          · cases q : Z2 c with
            | none => rfl
            | some o =>
              rcases znn c o q with z | z
              · rw [(sd.open_ c g).1] at z; cases z
              · exact absurd g (sd.apart c z)
    | inr x =>
      have sd1 : Side Z H F F2 := ⟨fun c h g => sd.apart c h (a2 c g), fun c g => sd.open_ c (a2 c g)⟩
      cases ht : holds ρ os with
      | none => simp [holds, holdO, ht] at e
      | some p =>
        obtain ⟨ds1, ρ1⟩ := p
        simp [holds, holdO, ht] at e
        obtain ⟨rfl, rfl⟩ := e
        obtain ⟨Z2, F2', G, S2, rr, gg, sd2, s2, n2, zn2⟩ := holds_ok S sd1 h2 ht
        refine ⟨Z2, F2', shiftG F1 G, S2, RepVs.cons (RepV.keep s2 h1 fun _ _ _ e => e) rr (fun i a f g => a3 a f (gg i a g)), fun i a h => ?_, ⟨fun c h g => sd.apart c (n2 c h) g, fun c g => ⟨?_, (sd.open_ c g).2⟩⟩, s2, n2, zn2⟩
        · cases i with
          | zero => exact a1 a h
          | succ i => exact a2 a (gg i a h)
        · cases q : Z2 c with
          | none => rfl
          | some o =>
            rcases zn2 c o q with z | z
            · rw [(sd.open_ c g).1] at z; cases z
            · exact absurd g (sd.apart c z)
end

section
variable {X : Cx} {a b c e : Expr} {es : List Expr} {eva evb evc : Loc → Res Od} {evs : Loc → Res (List Od)} {pos : Pos}
theorem tup_line {K : Frag} {evs : Loc → Res (List Od)} {ρ ρ' : Loc} {x : RV} (h : mapR (fun ds => RV.imm (D.tup ds)) (lineR (takesK (evs ρ))) = .ok x ρ') :
    ∃ os ρ1 ds, evs ρ = .ok os ρ1 ∧ takes ρ1 os = some (ds, ρ') ∧ ds.length ≤ LINE ∧ x = .imm (.tup ds) := by
  cases h1 : evs ρ with
  | fail => simp only [h1, takesK, lineR, mapR, reduceCtorEq] at h
  | ok os ρ1 =>
    cases h2 : takes ρ1 os with
    | none => simp only [h1, h2, takesK, someP, lineR, mapR, reduceCtorEq] at h
    | some p =>
      obtain ⟨ds, ρ2⟩ := p
      simp only [h1, h2, takesK, someP, lineR] at h
      split at h
      · simp only [mapR] at h
        cases h
        exact ⟨os, ρ1, ds, rfl, h2, by assumption, rfl⟩
      · simp only [mapR, reduceCtorEq] at h
theorem list_line {evs : Loc → Res (List Od)} {ρ ρ' : Loc} {x : RV} (h : mapR RV.oL (lineR (holdsK (evs ρ))) = .ok x ρ') :
    ∃ os ρ1 ds, evs ρ = .ok os ρ1 ∧ holds ρ1 os = some (ds, ρ') ∧ ds.length ≤ LINE ∧ x = .oL ds := by
  cases h1 : evs ρ with
  | fail => simp only [h1, holdsK, lineR, mapR, reduceCtorEq] at h
  | ok os ρ1 =>
    cases h2 : holds ρ1 os with
    | none => simp only [h1, h2, holdsK, someP, lineR, mapR, reduceCtorEq] at h
    | some p =>
      obtain ⟨ds, ρ2⟩ := p
      simp only [h1, h2, holdsK, someP, lineR] at h
      split at h
      · simp only [mapR] at h
        cases h
        exact ⟨os, ρ1, ds, rfl, h2, by assumption, rfl⟩
      · simp only [mapR, reduceCtorEq] at h
theorem se_tup {k : Nat} (h : SA X es evs) : SE X (.Tuple es k pos) fun ρ => mapR (fun ds => RV.imm (D.tup ds)) (lineR (takesK (evs ρ))) := by
  refine PE_imp (pe_tupN h) fun σ H Q ⟨Z, ρ, F, S, x, ρ', e0, q⟩ => ?_
  obtain ⟨os, ρ1, ds, h1, h2, hl, rfl⟩ := tup_line (K := X.K) e0
  refine ⟨Z, ρ, F, S, os, ρ1, h1, fun vs H1 ⟨Z1, F1, Fv1, S1, r1, d1, z1, f1⟩ => ?_⟩
  obtain ⟨Z2, F2, S2, rr, s2, n2, zn2⟩ := takes_ok S1 ⟨d1, z1⟩ r1 h2
  refine ⟨by rw [← rr.1]; exact hl, fun p o b hp => q _ _ ?_⟩
  have f2 : Frm Z1 H1 (fun a => F1 a ∨ Fv1 a) Z2 H1 F2 := ⟨fun _ _ h _ => h, fun a h => .inl (.inl (n2 a h)), s2, fun a o h => by
    rcases zn2 a o h with z | z | z
    · exact .inl z
    · exact .inr (.inl (.inl z))
    · exact .inr (.inl (.inr z))⟩
  exact Done.then (f1.trans f2) (Done.new S2 (New.tup S2.sub hp b rr))
theorem se_list (h : SA X es evs) : SE X (.List es pos) fun ρ => mapR RV.oL (lineR (holdsK (evs ρ))) := by
  refine PE_imp (pe_lst h) fun σ H Q ⟨Z, ρ, F, S, x, ρ', e0, q⟩ => ?_
  obtain ⟨os, ρ1, rs, h1, h2, hl, rfl⟩ := list_line e0
  refine ⟨Z, ρ, F, S, os, ρ1, h1, fun vs H1 ⟨Z1, F1, Fv1, S1, r1, d1, z1, f1⟩ => ?_⟩
  obtain ⟨Z2, F2, G, S2, rr, gg, sd2, s2, n2, zn2⟩ := holds_ok S1 ⟨d1, z1⟩ r1 h2
  refine ⟨by rw [← rr.1]; exact hl, fun p hp => q _ _ ?_⟩
  have sp : Sub H1 (upd H1 p (.lst vs)) := sub_upd hp
  have np : ∀ a, Fv1 a → a ≠ p := fun a f z => (z1 a f).2 (z ▸ hp)
  refine ⟨Z2, F2, fun a => a = p ∨ Fv1 a, S2.new (fun a o h => sp a o (S2.sub a o h)) sp (fun _ _ h => h) (fun _ _ h => .inl h), ?_, fun a f g => ?_, fun a g => ?_, ?_⟩
  · refine .oL G upd_same (.inl rfl) rr.1 (fun i b f => ⟨.inr (gg i b f), np b (gg i b f)⟩) rr.2.1 fun i x v a b => ?_
    exact (rr.2.2 i x v a b).keep (fun _ _ h => h) fun c o _ e => sp c o e
  · rcases g with g | g
    · subst g; exact S2.al _ f hp
    · exact sd2.apart a f g
  · rcases g with g | g
    · subst g; exact ⟨S2.sub.none hp, by rw [upd_same]; exact fun z => by cases z⟩
    · refine ⟨(sd2.open_ a g).1, ?_⟩
      rw [upd_ne (np a g)]; exact (sd2.open_ a g).2
  · refine f1.trans ⟨fun a o h _ => sp a o h, fun a h => ?_, s2, fun a o h => ?_⟩
    · rcases h with h | h | h
      · exact .inl (.inl (n2 a h))
      · subst h; exact .inr hp
      · exact .inl (.inr h)
    · rcases zn2 a o h with z | z
      · exact .inl z
      · exact .inr (.inl (.inl z))
theorem list_lineF {evs : Loc → Res (List Od)} {ρ ρ' : Loc} {x : RV} (h : mapR (fun ds => RV.oL (ds.map .imm)) (lineR (takesK (evs ρ))) = .ok x ρ') :
    ∃ os ρ1 ds, evs ρ = .ok os ρ1 ∧ takes ρ1 os = some (ds, ρ') ∧ ds.length ≤ LINE ∧ x = .oL (ds.map .imm) := by
  cases h1 : evs ρ with
  | fail => simp only [h1, takesK, lineR, mapR, reduceCtorEq] at h
  | ok os ρ1 =>
    cases h2 : takes ρ1 os with
    | none => simp only [h1, h2, takesK, someP, lineR, mapR, reduceCtorEq] at h
    | some p =>
      obtain ⟨ds, ρ2⟩ := p
      simp only [h1, h2, takesK, someP, lineR] at h
      split at h
      · simp only [mapR] at h
        cases h
        exact ⟨os, ρ1, ds, rfl, h2, by assumption, rfl⟩
      · simp only [mapR, reduceCtorEq] at h
theorem se_listF (h : SA X es evs) : SE X (.List es pos) fun ρ => mapR (fun ds => RV.oL (ds.map .imm)) (lineR (takesK (evs ρ))) := by
  refine PE_imp (pe_lst h) fun σ H Q ⟨Z, ρ, F, S, x, ρ', e0, q⟩ => ?_
  obtain ⟨os, ρ1, ds, h1, h2, hl, rfl⟩ := list_lineF e0
  refine ⟨Z, ρ, F, S, os, ρ1, h1, fun vs H1 ⟨Z1, F1, Fv1, S1, r1, d1, z1, f1⟩ => ?_⟩
  obtain ⟨Z2, F2, S2, rr, s2, n2, zn2⟩ := takes_ok S1 ⟨d1, z1⟩ r1 h2
  refine ⟨by rw [← rr.1]; exact hl, fun p hp => q _ _ ?_⟩
  have f2 : Frm Z1 H1 (fun a => F1 a ∨ Fv1 a) Z2 H1 F2 := ⟨fun _ _ h _ => h, fun a h => .inl (.inl (n2 a h)), s2, fun a o h => by
    rcases zn2 a o h with z | z | z
    · exact .inl z
    · exact .inr (.inl (.inl z))
    · exact .inr (.inl (.inr z))⟩
  exact Done.then (f1.trans f2) (Done.new S2 (New.lst S2.sub hp rr))
theorem se_dnew : SE X (.Dict [] [] pos) fun ρ => .ok (.oD []) ρ := by
  refine PE_imp pe_dnewK fun σ H Q ⟨Z, ρ, F, S, x, ρ', e0, q⟩ p hp => q _ _ ?_
  cases e0
  refine Done.new S ⟨Z, fun a => a = p, fun a o h => sub_upd hp a o (S.sub a o h), .oD upd_same rfl RepKs.nil, sub_upd hp, fun a e => ?_, fun a e => ?_, fun _ _ h => h, fun _ _ h => .inl h⟩
  · subst e; exact ⟨hp, by rw [upd_same]; exact fun z => by cases z⟩
  · subst e; exact S.sub.none hp

theorem se_slice00 {p2 : Pos} (ha : SO X a eva) : SE X (.Subscript a (.Slice none none none p2) pos) fun ρ => opK (.slice false false) (consK nilE (eva ρ)) :=
  PE_imp (pe_slice k_slice ha po_none po_none) fun σ H Q h => op1 (g := fun a => apSlice none none a) (r := fun x H Q => M1 X.K (fun a => apSlice none none a) x H Q) (fun _ => rfl) (fun _ _ _ z => z) h
theorem part_int {d : D} {o : Option Int} (h : part d = some o) : ∃ i, d = .int i ∧ o = some i := by
  cases d <;> simp only [part, reduceCtorEq] at h
  cases h
  exact ⟨_, rfl, rfl⟩
theorem se_slice10 {p2 : Pos} (ha : SO X a eva) (hb : SO X b evb) : SE X (.Subscript a (.Slice (some b) none none p2) pos) fun ρ => opK (.slice true false) (consK (fun ρ => consK nilE (evb ρ)) (eva ρ)) := by
  refine PE_imp (pe_slice k_slice ha (po_some hb) po_none) fun σ H Q h => ?_
  refine op2 (g := fun a l => (part l).bind fun lo => apSlice lo none a) (r := fun x y H Q => ∃ i, y = .int i ∧ M1 X.K (fun a => apSlice (some i) none a) x H Q) (fun _ _ => rfl) (fun x y H Q ⟨Z, a, l, r, s, r1, r2, e, q⟩ => ?_) h
  cases hp : part l with
  | none => simp only [hp, Option.bind_none, reduceCtorEq] at e
  | some o =>
    simp only [hp, Option.bind_some] at e
    obtain ⟨i, rfl, rfl⟩ := part_int hp
    exact ⟨i, r2.int_, Z, a, r, s, r1, e, q⟩
theorem se_slice01 {p2 : Pos} (ha : SO X a eva) (hb : SO X b evb) : SE X (.Subscript a (.Slice none (some b) none p2) pos) fun ρ => opK (.slice false true) (consK (fun ρ => consK nilE (evb ρ)) (eva ρ)) := by
  refine PE_imp (pe_slice k_slice ha po_none (po_some hb)) fun σ H Q h => ?_
  refine op2 (g := fun a l => (part l).bind fun hi => apSlice none hi a) (r := fun x y H Q => ∃ i, y = .int i ∧ M1 X.K (fun a => apSlice none (some i) a) x H Q) (fun _ _ => rfl) (fun x y H Q ⟨Z, a, l, r, s, r1, r2, e, q⟩ => ?_) h
  cases hp : part l with
  | none => simp only [hp, Option.bind_none, reduceCtorEq] at e
  | some o =>
    simp only [hp, Option.bind_some] at e
    obtain ⟨i, rfl, rfl⟩ := part_int hp
    exact ⟨i, r2.int_, Z, a, r, s, r1, e, q⟩
theorem se_slice11 {p2 : Pos} (ha : SO X a eva) (hb : SO X b evb) (hc : SO X c evc) : SE X (.Subscript a (.Slice (some b) (some c) none p2) pos) fun ρ => opK (.slice true true) (consK (fun ρ => consK (fun ρ => consK nilE (evc ρ)) (chkInt (evb ρ))) (eva ρ)) := by
  refine PE_imp (pe_slice k_slice ha (po_some hb) (po_some hc)) fun σ H Q ⟨Z, ρ, F, S, x0, ρ', e0, q⟩ => ?_
  cases h1 : eva ρ with
  | fail => simp only [h1, consK, opK, reduceCtorEq] at e0
  | ok o ρ1 =>
    cases h2 : evb ρ1 with
    | fail => simp only [h1, h2, chkInt, consK, opK, mapR, reduceCtorEq] at e0
    | ok o2 ρ2 =>
      cases hi : lookO ρ2 o2 with
      | none => simp [h1, h2, hi, isInt, chkInt, consK, opK, mapR] at e0
      | some di =>
        cases di <;> try (simp [h1, h2, hi, isInt, chkInt, consK, opK, mapR] at e0; done)
        rename_i i
        cases h3 : evc ρ2 with
        | fail => simp [h1, h2, h3, hi, isInt, chkInt, consK, opK, mapR] at e0
        | ok o3 ρ3 =>
          simp only [h1, h2, h3, hi, isInt, chkInt, consK, mapR, opK, if_true] at e0
          cases hl : lookO ρ3 o with
          | none => simp only [looks, hl, apO, someR, reduceCtorEq] at e0
          | some d =>
            cases hl2 : lookO ρ3 o2 with
            | none => simp only [looks, hl, hl2, apO, someR, reduceCtorEq] at e0
            | some d2 =>
              cases hl3 : lookO ρ3 o3 with
              | none => simp only [looks, hl, hl2, hl3, apO, someR, reduceCtorEq] at e0
              | some d3 =>
                simp only [looks, hl, hl2, hl3, apO] at e0
                cases hg : Op.ap (.slice true true) [d, d2, d3] with
                | none => simp only [hg, someR, reduceCtorEq] at e0
                | some z =>
                  simp only [hg, someR] at e0
                  cases e0
                  refine ⟨Z, ρ, F, S, o, ρ1, h1, fun x H1 ⟨Z1, F1, Fv1, S1, r1, d1, z1, f1⟩ => ⟨Z1, ρ1, F1, S1, o2, ρ2, h2, fun y H2 ⟨Z2, F2, Fv2, S2, r2, d2', z2, f2⟩ => ?_⟩⟩
                  have ey := (look_ok S2 r2 hi).int_
                  refine ⟨i, ey, Z2, ρ2, F2, S2, o3, ρ', h3, fun w H3 ⟨Z3, F3, Fv3, S3, r3, d3', z3, f3⟩ => ?_⟩
                  obtain ⟨sd, kp⟩ := Side.go ⟨d1, z1⟩ f2
                  have f3' : Frm Z2 H2 (fun a => F2 a ∨ Fv2 a) Z3 H3 (fun a => F3 a ∨ Fv3 a) := f3.mono (fun c h => .inl h) fun c h => .inl h
                  obtain ⟨sd3, kp3⟩ := Side.go sd f3'
                  obtain ⟨_, kp2⟩ := Side.go ⟨d2', z2⟩ f3
                  have g1 := look_ok S3 ((r1.keep f2.zs kp).keep f3.zs kp3) hl
                  have g2 := look_ok S3 (r2.keep f3.zs kp2) hl2
                  have g3 := look_ok S3 r3 hl3
                  have hg' : ((part d2).bind fun lo => (part d3).bind fun hi => apSlice lo hi d) = some x0 := hg
                  cases hp : part d2 with
                  | none => simp [hp] at hg'
                  | some p1 =>
                    cases hp2 : part d3 with
                    | none => simp [hp, hp2] at hg'
                    | some p2 =>
                      simp only [hp, hp2, Option.bind_some] at hg'
                      obtain ⟨i2, rfl, rfl⟩ := part_int hp
                      obtain ⟨j, rfl, rfl⟩ := part_int hp2
                      have e2 := g2.int_
                      rw [ey] at e2
                      cases e2
                      exact ⟨j, g3.int_, Z3, d, x0, S3.sub, g1, hg', fun v H' n => q v H' (Done.after f1 (Done.after f2 (Done.after f3 (Done.new S3 n))))⟩

def RepWs (K : Frag) (Z H : Hp) : List D → List V → Prop
  | [], vs => vs = []
  | d :: ds, vs => ∃ v r, vs = v :: r ∧ RepW K Z H d v ∧ RepWs K Z H ds r
def MCn (K : Frag) (g : List D → Option RV) : List V → Hp → VK → Prop := fun xs H Q => ∃ Z ds r, Sub Z H ∧ RepWs K Z H ds xs ∧ g ds = some r ∧ ∀ v H', New K Z H r v H' → Q v H'
theorem looks_ok {K : Frag} {Z H : Hp} {F : Reg} {σ : L2.St} {ρ : Loc} (S : St0 K Z H ρ σ F) : ∀ {os : List Od} {vs : List V} {ds : List D} {Fv : Reg}, ROds K σ os vs Z H Fv → looks ρ os = some ds → RepWs K Z H ds vs
  | [], vs, ds, _, r, e => by cases e; exact r
  | o :: os, vs, ds, _, ⟨v, r, F1, F2, ev, a1, a2, a3, h1, h2⟩, e => by
    subst ev
    unfold looks at e
    cases hl : lookO ρ o with
    | none => simp [hl] at e
    | some d =>
      cases hl2 : looks ρ os with
      | none => simp [hl, hl2] at e
      | some ds2 =>
        simp [hl, hl2] at e
        subst e
        exact ⟨v, r, rfl, look_ok S h1 hl, looks_ok S h2 hl2⟩
theorem opN {K : Frag} {evs : Loc → Res (List Od)} {f : Op} {r : List V → Hp → VK → Prop} (hr : ∀ x H Q, MCn K f.ap x H Q → r x H Q) {σ : L2.St} {H : Hp} {Q : VK}
    (h : rd K (fun ρ => opK f (evs ρ)) (RAv K) σ H Q) : tCB r (rd K evs (RAos K)) σ H Q := by
  obtain ⟨Z, ρ, F, S, a, ρ', e0, q⟩ := h
  cases h1 : evs ρ with
  | fail => simp only [h1, opK, reduceCtorEq] at e0
  | ok os ρ1 =>
    simp only [h1, opK] at e0
    cases hl : looks ρ1 os with
    | none => simp only [hl, apO, someR, reduceCtorEq] at e0
    | some ds =>
      simp only [hl, apO] at e0
      cases hg : f.ap ds with
      | none => simp only [hg, someR, reduceCtorEq] at e0
      | some z =>
        simp only [hg, someR] at e0
        cases e0
        refine ⟨Z, ρ, F, S, os, ρ', h1, fun x H1 ⟨Z1, F1, Fv1, S1, r1, d1, z1, f1⟩ => hr _ _ _ ⟨Z1, ds, _, S1.sub, looks_ok S1 r1 hl, hg, fun v H' n => q v H' ?_⟩⟩
        exact Done.after f1 (Done.new S1 n)
theorem mcn1 {K : Frag} {f : Op} {g : D → Option RV} (hf : ∀ ds r, f.ap ds = some r → ∃ a, ds = [a] ∧ g a = some r) {xs : List V} {H : Hp} {Q : VK} (h : MCn K f.ap xs H Q) : MC1 K g xs H Q := by
  obtain ⟨Z, ds, r, s, rr, e, q⟩ := h
  obtain ⟨a, rfl, e2⟩ := hf ds r e
  obtain ⟨v, t, rfl, r1, r2⟩ := rr
  have r2' : t = [] := r2
  subst r2'
  exact ⟨v, rfl, Z, a, r, s, r1, e2, q⟩
/-- a built-in function's call -/
theorem se_callB {x : Str} {id : String} {p : Pos} {f : Op} (hc : CallR X (.builtin id) (MCn X.K f.ap)) (hg : Gl X x) (hm : X.mg x = none) (hv : bootBuiltins x = some (.builtin id)) (ha : SA X (e :: es) evs) (hn : x ≠ "__name__") (hdb : (x == ("__debug__" : Str)) = false)
    (he : starEach (e :: es) X.env = (false, eval e X.env) :: starEach es X.env) (hpl : (backTo pos (starEach es X.env)).any (·.1) = false) : SE X (.Call (.Name x p) (e :: es) [] pos) fun ρ => opK f (evs ρ) :=
  PE_imp (pe_callB hc hg hm hv ha hn hdb he hpl) fun σ H Q h => opN (fun _ _ _ z => z) h
theorem se_callTy {x : Str} {T : String} {p : Pos} {f : Op} (hc : CallR X (.type T) (MCn X.K f.ap)) (hg : Gl X x) (hm : X.mg x = none) (hv : bootBuiltins x = some (.type T)) (ha : SA X (e :: es) evs) (hn : x ≠ "__name__") (hdb : (x == ("__debug__" : Str)) = false)
    (he : starEach (e :: es) X.env = (false, eval e X.env) :: starEach es X.env) (hpl : (backTo pos (starEach es X.env)).any (·.1) = false) : SE X (.Call (.Name x p) (e :: es) [] pos) fun ρ => opK f (evs ρ) :=
  PE_imp (pe_callTy hc hg hm hv ha hn hdb he hpl) fun σ H Q h => opN (fun _ _ _ z => z) h
end
end Mv
namespace Mv
open PySem PySem.Spec PyProof.Rows L2

/-- a def as it stands behind the top, its defaults whatever they are -/
structure FunA (K : Frag) (x qual : Str) (st : Stmt) (f : Addr) (fd : FuncData) : Prop where
  ex : ∃ (oc : Value) (od : Option Addr) (dV kV doc pm : Value) (an : Option Addr) (cdv ct : Value) (osl : Array (Option Value)),
    fd = PySem.W.fnOf x qual (defArgs st) (defBody st) (defScope st) dV kV doc pm an cdv ct ∧ K.lookup f = some ⟨oc, od, .func fd, osl⟩ ∧ PySem.W.codeIn K cdv qual = true
/-- a def's promise where no repr runs around it -/
structure FnG (P : Program) (w : World) (K : Frag) (mg : Str → Option Value) (base : Heap) (k : Nat) (f : Addr) (fd : FuncData) (ps : List Str) (sp : Sp) : Prop where
  len : ∀ vs H Q E, sp vs H Q E → vs.length = ps.length
  run : ∀ (A : Around) (outer : List Env) (s : Shared) (H : Hp) (args : Args) (us : List Value) (vs : List V) (Q : VK) (E : XK), Room k A → A.guards = some [] →
    Env0 P w K mg base A outer s H → BindsTo s fd args (ps.zip us) → Vals vs us → sp vs H Q E → codeAny (model P w) A (.call (.ref f) args) (CR CX0 outer P w H s Q E) s
theorem guards_deeper {A : Around} {env : Env} (h : A.guards = some []) : (A.deeper env).guards = some [] := h

section
variable {P : Program} {w : World} {K : Frag} {mg : Str → Option Value} {base : Heap}
theorem fnG_of {k : Nat} {f : Addr} {x qual : Str} {st : Stmt} {fd : FuncData} {N ps : List Str} {sp : Sp} (F : FunA K x qual st f fd) (S : FnScope N ps (defScope st)) (len : ∀ vs H Q E, sp vs H Q E → vs.length = ps.length)
    (hb : ∀ (cdv : Value) (A : Around) (outer : List Env) (s : Shared) (H : Hp) (vs : List V) (Q : VK) (E : XK), Room k (A.deeper (envOfC qual (defScope st) s.heap.objs.size f cdv)) →
      (A.deeper (envOfC qual (defScope st) s.heap.objs.size f cdv)).guards = some [] → sp vs H Q E →
      ∃ t, PSs (cxOf CX0 P w K mg base N qual (defScope st) f cdv A outer s H E).nox (defBody st) t ∧ t { nx := fun _ H' => Q .non H', rt := Q } (start N vs) H) : FnG P w K mg base (k + 1) f fd ps sp := by
  obtain ⟨oc, od, dV, kV, doc, pm, an, cdv, ct, osl, rfl, lk, hcd⟩ := F.ex
  refine ⟨len, fun A outer s H args us vs Q E hr hg e0 hbd r hsp => ?_⟩
  have sz := len _ _ _ _ hsp
  have kin : K.In s.heap := e0.mod.kin.keeps fun b o e => (e0.bs b o e).1
  have nl : s.heap.NoLimit := e0.mod.nolimit.keeps fun b o e => (e0.bs b o e).1
  have kinds : ∀ y ∈ ps.zip us, (defScope st).names.lookup y.1 = some .local ∨ ((defScope st).names.lookup y.1 = some .cell ∧ ((cellsFrom (s.heap.objs.size + 1) (defScope st).names []).lookup y.1).isSome = true) := by
    rintro ⟨n, v⟩ hy
    rcases S.par n (List.of_mem_zip hy).1 with q | q
    · exact .inl q
    · exact .inr ⟨q, PySem.W.cellsFrom_some _ _ _ (.inl q)⟩
  refine codeAny_call_function hr.depth (kin _ _ lk) rfl S.co S.gen rfl (PySem.W.codeRec_of kin hcd) (hbd _ _ _ _ ?_)
  refine wpAny_newFunctionEnv_cells S.kind kinds fun env he s1 x => ?_
  subst he
  refine ⟨nl.keeps x.toInCall.keep, codeAny_func ?_⟩
  obtain ⟨t, ht, hq⟩ := hb cdv A outer s H vs Q E (hr.deeper _) (guards_deeper hg) hsp
  have I := inv_start (CX := CX0) (E := E) S hr.hd e0 sz r x
  refine wpAny_mono (ht.nox.run [] s1 (start N vs) H _ I hq) (fun fl s' hs => ?_) fun e s' hs => hs
  cases fl with
  | ret u =>
    obtain ⟨v, σ', H', J, rv, q⟩ := hs
    exact ⟨v, H', J.os, J.bare, J.base, J.hok, rv, q⟩
  | next =>
    obtain ⟨σ', H', J, q⟩ := hs
    exact ⟨.non, H', J.os, J.bare, J.base, J.hok, rfl, q⟩
  | brk =>
    obtain ⟨_, _, _, q⟩ := hs
    exact q.elim
  | cont =>
    obtain ⟨_, _, _, q⟩ := hs
    exact q.elim
end
section
variable {X : Cx} {k : Nat} {f : Addr} {fd : FuncData} {ps : List Str} {sp : Sp} {x : Str} {p pos : Pos} {e : Expr} {es : List Expr} {t : TA}
theorem runG {pins : List (Addr × Obj)} {σ : L2.St} {H : Hp} {s : Shared} {Q : VK} {us : List Value} {vs : List V} (F : FnG X.prog X.w X.K X.mg X.base k f fd ps sp) (hr : Room k X.A) (hg : X.A.guards = some []) (hb : Binds X.K fd ps [])
    (I : L2.Inv X pins σ H s) (r : Vals vs us) (h : sp vs H Q E0) : wpAny (model X.prog X.w) X.A (call (.ref f) us) (EP X pins σ Q) X.xe s := by
  have hl : (us ++ []).length = ps.length := by rw [List.append_nil, ← r.length]; exact F.len _ _ _ _ h
  have bd := hb s us I.kIn hl
  rw [List.append_nil] at bd
  refine wpAny_call (codeAny_mono (F.run X.A X.stack s H ⟨us, []⟩ us vs Q E0 hr hg I.env0 bd r h) fun z s' hq => ?_)
  cases z with
  | error e => exact False.elim hq
  | ok fl =>
    cases fl with
    | ret u => exact I.after hq
    | next => exact False.elim hq
    | brk => exact False.elim hq
    | cont => exact False.elim hq
/-- the same, the last values filled up -/
theorem runGD {pins : List (Addr × Obj)} {σ : L2.St} {H : Hp} {s : Shared} {Q : VK} {us ds : List Value} {vs dvs : List V} (F : FnG X.prog X.w X.K X.mg X.base k f fd ps sp) (hr : Room k X.A) (hg : X.A.guards = some []) (hb : Binds X.K fd ps ds) (hd : Vals dvs ds)
    (I : L2.Inv X pins σ H s) (r : Vals vs us) (h : sp (vs ++ dvs) H Q E0) : wpAny (model X.prog X.w) X.A (call (.ref f) us) (EP X pins σ Q) X.xe s := by
  have r2 := r.append hd
  have hl : (us ++ ds).length = ps.length := by rw [← r2.length]; exact F.len _ _ _ _ h
  refine wpAny_call (codeAny_mono (F.run X.A X.stack s H ⟨us, []⟩ (us ++ ds) (vs ++ dvs) Q E0 hr hg I.env0 (hb s us I.kIn hl) r2 h) fun z s' hq => ?_)
  match z, hq with
  | .error _, hq => exact False.elim hq
  | .ok (.ret _), hq => exact I.after hq
  | .ok .next, hq => exact False.elim hq
  | .ok .brk, hq => exact False.elim hq
  | .ok .cont, hq => exact False.elim hq
theorem pe_callGD {ds : List Value} {dvs : List V} (F : FnG X.prog X.w X.K X.mg X.base k f fd ps sp) (hr : Room k X.A) (hgd : X.A.guards = some []) (hg : Gl X x) (hm : X.mg x = some (.ref f)) (hk : PySem.W.keepIn X.K (.ref f) = true) (hb : Binds X.K fd ps ds) (hd : Vals dvs ds)
    (ha : PA X (e :: es) t) (hdb : (x == ("__debug__" : Str)) = false) (he : starEach (e :: es) X.env = (false, eval e X.env) :: starEach es X.env) (hpl : (backTo pos (starEach es X.env)).any (·.1) = false) :
    PE X (.Call (.Name x p) (e :: es) [] pos) (fun σ H Q => t σ H fun vs H1 => sp (vs ++ dvs) H1 Q E0) := by
  constructor
  intro pins s σ H Q I h
  apply wpAny_Call_Name_kw
  refine ld_glob I hg hm ?_ hdb
  refine PySem.W.callWith_K (h₀ := X.base) I.ok.mod.kin hk ?_ he hpl
  exact thn (ha.run pos pins s σ H _ I h) fun us s1 ⟨vs, H1, I1, r, q⟩ => ⟨I1.kIn, runGD F hr hgd hb hd I1 r q⟩
theorem pe_callGD0 {ds : List Value} {dvs : List V} (F : FnG X.prog X.w X.K X.mg X.base k f fd ps sp) (hr : Room k X.A) (hgd : X.A.guards = some []) (hg : Gl X x) (hm : X.mg x = some (.ref f)) (hk : PySem.W.keepIn X.K (.ref f) = true) (hb : Binds X.K fd ps ds) (hd : Vals dvs ds)
    (hdb : (x == ("__debug__" : Str)) = false) : PE X (.Call (.Name x p) [] [] pos) (fun σ H Q => sp dvs H Q E0) := by
  constructor
  intro pins s σ H Q I h
  apply wpAny_Call_Name_kw
  refine ld_glob I hg hm ?_ hdb
  exact PySem.W.callWith_K0 I.kIn hk (runGD (us := []) F hr hgd hb hd I .nil h)
theorem pe_callG (F : FnG X.prog X.w X.K X.mg X.base k f fd ps sp) (hr : Room k X.A) (hgd : X.A.guards = some []) (hg : Gl X x) (hm : X.mg x = some (.ref f)) (hk : PySem.W.keepIn X.K (.ref f) = true) (hb : Binds X.K fd ps [])
    (ha : PA X (e :: es) t) (hdb : (x == ("__debug__" : Str)) = false) (he : starEach (e :: es) X.env = (false, eval e X.env) :: starEach es X.env) (hpl : (backTo pos (starEach es X.env)).any (·.1) = false) :
    PE X (.Call (.Name x p) (e :: es) [] pos) (fun σ H Q => t σ H fun vs H1 => sp vs H1 Q E0) := by
  constructor
  intro pins s σ H Q I h
  apply wpAny_Call_Name_kw
  refine ld_glob I hg hm ?_ hdb
  refine PySem.W.callWith_K (h₀ := X.base) I.ok.mod.kin hk ?_ he hpl
  exact thn (ha.run pos pins s σ H _ I h) fun us s1 ⟨vs, H1, I1, r, q⟩ => ⟨I1.kIn, runG F hr hgd hb I1 r q⟩
theorem pe_callG0 (F : FnG X.prog X.w X.K X.mg X.base k f fd ps sp) (hr : Room k X.A) (hgd : X.A.guards = some []) (hg : Gl X x) (hm : X.mg x = some (.ref f)) (hk : PySem.W.keepIn X.K (.ref f) = true) (hb : Binds X.K fd ps [])
    (hdb : (x == ("__debug__" : Str)) = false) : PE X (.Call (.Name x p) [] [] pos) (fun σ H Q => sp [] H Q E0) := by
  constructor
  intro pins s σ H Q I h
  apply wpAny_Call_Name_kw
  refine ld_glob I hg hm ?_ hdb
  exact PySem.W.callWith_K0 I.kIn hk (runG (us := []) F hr hgd hb I .nil h)
end

def spF (K : Frag) (c : List RV → CRes) : Sp := fun vs H Q _ => ∃ Z rs F, St0 K Z H (rs.map some) (vs.map some) F ∧
  ∃ v ps, c rs = .ret v ps ∧ ∀ x H', Done K Z H F (vs.map some) ps (fun Z H F => RepV K Z H v x F) H' → Q x H'

/-- one more name -/
theorem St0.put {K : Frag} {Z H : Hp} {F G : Reg} {σ : L2.St} {ρ : Loc} (S : St0 K Z H ρ σ F) (i : Nat) (p : Slot) (sd : Side Z H F G) (h : ∀ r, p = some r → ∃ v, σ[i]? = some (some v) ∧ RepV K Z H r v G) : St0 K Z H (ρ.set i p) σ (fun a => F a ∨ G a) := by
  obtain ⟨E, g1, g2, g3⟩ := S.env
  refine ⟨S.sub, by rw [List.length_set]; exact S.len, fun a f => ?_, fun a f => ?_, fun j a => (j ≠ i ∧ E j a) ∨ (j = i ∧ G a), fun j b f => ?_, fun j k b ne f g => ?_, fun j r hj => ?_⟩
  · rcases f with f | f
    · exact S.dj a f
    · exact (sd.open_ a f).1
  · rcases f with f | f
    · exact S.al a f
    · exact (sd.open_ a f).2
  · rcases f with f | f
    · exact .inl (g1 j b f.2)
    · exact .inr f.2
  · rcases f with f | f <;> rcases g with g | g
    · exact g2 j k b ne f.2 g.2
    · exact sd.apart b (g1 j b f.2) g.2
    · exact sd.apart b (g1 k b g.2) f.2
    · exact ne (f.1.trans g.1.symm)
  · rcases slotAt_set hj with ⟨e1, e2⟩ | ⟨e1, e2⟩
    · obtain ⟨v, hv, rv⟩ := h r e2
      subst e1
      exact ⟨v, hv, rv.wider fun a g => .inr ⟨rfl, g⟩⟩
    · obtain ⟨v, hv, rv⟩ := g3 j r e2
      exact ⟨v, hv, rv.wider fun a g => .inl ⟨e1, g⟩⟩
/-- a name less; what it owned is free -/
theorem St0.drop {K : Frag} {Z H : Hp} {F : Reg} {σ : L2.St} {ρ : Loc} (S : St0 K Z H ρ σ F) {i : Nat} {r : RV} (h : slotAt ρ i = some r) :
    ∃ G v, σ[i]? = some (some v) ∧ RepV K Z H r v G ∧ (∀ a, G a → F a) ∧ St0 K Z H (ρ.set i none) σ (fun a => F a ∧ ¬ G a) := by
  obtain ⟨E, g1, g2, g3⟩ := S.env
  obtain ⟨v, hv, rv⟩ := g3 i r h
  refine ⟨E i, v, hv, rv, g1 i, S.sub, by rw [List.length_set]; exact S.len, fun a f => S.dj a f.1, fun a f => S.al a f.1, fun j a => j ≠ i ∧ E j a, fun j b f => ⟨g1 j b f.2, fun g => g2 j i b f.1 f.2 g⟩, fun j k b ne f g => g2 j k b ne f.2 g.2, fun j q hj => ?_⟩
  rcases slotAt_set hj with ⟨e1, e2⟩ | ⟨e1, e2⟩
  · cases e2
  · obtain ⟨w, hw, rw'⟩ := g3 j q e2
    exact ⟨w, hw, rw'.wider fun a g => ⟨e1, g⟩⟩
theorem St0.narrow {K : Frag} {Z H : Hp} {F : Reg} {σ : L2.St} {ρ : Loc} (S : St0 K Z H ρ σ F) {F' : Reg} (h : ∀ a, F' a → F a) (k : ∀ i r, slotAt ρ i = some r → True) : True := trivial
theorem slotAt_cons_zero (x : Slot) (ρ : Loc) : slotAt (x :: ρ) 0 = x := by simp [slotAt]
theorem slotAt_cons_succ (x : Slot) (ρ : Loc) (i : Nat) : slotAt (x :: ρ) (i + 1) = slotAt ρ i := by simp [slotAt]
theorem St0.nil {K : Frag} {Z H : Hp} (s : Sub Z H) : St0 K Z H [] [] fun _ => False := ⟨s, rfl, fun _ h => h.elim, fun _ h => h.elim, fun _ _ => False, fun _ _ h => h, fun _ _ _ _ h => h.elim, fun i r h => by simp [slotAt] at h⟩
theorem St0.cons {K : Frag} {Z H : Hp} {F G : Reg} {σ : L2.St} {ρ : Loc} (S : St0 K Z H ρ σ F) (sd : Side Z H F G) {r : RV} {v : V} (h : RepV K Z H r v G) : St0 K Z H (some r :: ρ) (some v :: σ) (fun a => G a ∨ F a) := by
  obtain ⟨E, g1, g2, g3⟩ := S.env
  refine ⟨S.sub, by simp [S.len], fun a f => ?_, fun a f => ?_, shiftG G E, fun j b f => ?_, fun j k b ne f g => ?_, fun j q hj => ?_⟩
  · rcases f with f | f
    · exact (sd.open_ a f).1
    · exact S.dj a f
  · rcases f with f | f
    · exact (sd.open_ a f).2
    · exact S.al a f
  · cases j with
    | zero => exact .inl f
    | succ j => exact .inr (g1 j b f)
  · cases j with
    | zero => cases k with
      | zero => exact ne rfl
      | succ k => exact sd.apart b (g1 k b g) f
    | succ j => cases k with
      | zero => exact sd.apart b (g1 j b f) g
      | succ k => exact g2 j k b (fun z => ne (by rw [z])) f g
  · cases j with
    | zero => rw [slotAt_cons_zero] at hj; cases hj; exact ⟨v, rfl, h⟩
    | succ j => rw [slotAt_cons_succ] at hj; obtain ⟨w, hw, rw'⟩ := g3 j q hj; exact ⟨w, by simpa using hw, rw'⟩
theorem lends_ok {K : Frag} {σ : L2.St} {Z H : Hp} : ∀ {os : List Od} {vs : List V} {ρ ρ' : Loc} {F Fv : Reg} {rs : List RV}, St0 K Z H ρ σ F → Side Z H F Fv → ROds K σ os vs Z H Fv → lends ρ os = some (rs, ρ') →
    ∃ Fa F', St0 K Z H (rs.map some) (vs.map some) Fa ∧ St0 K Z H ρ' σ F' ∧ Side Z H F' Fa ∧ (∀ a, Fa a → F a ∨ Fv a) ∧ ∀ a, F' a → F a
  | [], vs, ρ, ρ', F, Fv, rs, S, sd, r, e => by
    cases e
    cases r
    exact ⟨fun _ => False, F, St0.nil S.sub, S, ⟨fun _ _ h => h, fun _ h => h.elim⟩, fun _ h => h.elim, fun _ h => h⟩
  | o :: os, vs, ρ, ρ', F, Fv, rs, S, sd, ⟨v, r, F1, F2, ev, a1, a2, a3, h1, h2⟩, e => by
    subst ev
    have sd2 : Side Z H F F2 := ⟨fun c h g => sd.apart c h (a2 c g), fun c g => sd.open_ c (a2 c g)⟩
    cases o with
    | inr x =>
      cases ht : lends ρ os with
      | none => simp [lends, ht] at e
      | some p =>
        obtain ⟨rs1, ρ1⟩ := p
        simp [lends, ht] at e
        obtain ⟨rfl, rfl⟩ := e
        obtain ⟨Fa, F', Sa, S', sa, fa, ff⟩ := lends_ok S sd2 h2 ht
        have rv : RepV K Z H x v F1 := h1
        have s1 : Side Z H Fa F1 := ⟨fun c f g => by
          rcases fa c f with z | z
          · exact sd.apart c z (a1 c g)
          · exact a3 c g z, fun c g => sd.open_ c (a1 c g)⟩
        refine ⟨_, F', Sa.cons s1 rv, S', ⟨fun c f g => ?_, fun c g => ?_⟩, fun c g => ?_, ff⟩
        · rcases g with g | g
          · exact sd.apart c (ff c f) (a1 c g)
          · exact sa.apart c f g
        · rcases g with g | g
          · exact sd.open_ c (a1 c g)
          · exact sa.open_ c g
        · rcases g with g | g
          · exact .inr (a1 c g)
          · rcases fa c g with z | z
            · exact .inl z
            · exact .inr (a2 c z)
    | inl i =>
      cases hs : slotAt ρ i with
      | none => simp [lends, hs] at e
      | some x =>
        have h1' : σ[i]? = some (some v) := h1
        have own : (∃ d, x = .imm d) ∨ lends ρ (.inl i :: os) = (match lends (ρ.set i none) os with | some (ds, ρ2) => some (x :: ds, ρ2) | none => none) := by
          cases x with
          | imm d => exact .inl ⟨d, rfl⟩
          | oL l => exact .inr (by rw [lends, hs] <;> rfl)
          | oD l => exact .inr (by rw [lends, hs] <;> rfl)
        rcases own with ⟨d, rfl⟩ | own
        · cases ht : lends ρ os with
          | none => simp [lends, hs, ht] at e
          | some p =>
            obtain ⟨rs1, ρ1⟩ := p
            simp [lends, hs, ht] at e
            obtain ⟨rfl, rfl⟩ := e
            obtain ⟨Fa, F', Sa, S', sa, fa, ff⟩ := lends_ok S sd2 h2 ht
            obtain ⟨E, g1, g2, g3⟩ := S.env
            obtain ⟨w, hw, rw'⟩ := g3 i _ hs
            rw [h1'] at hw
            cases hw
            have rv : RepV K Z H (.imm d) v fun _ => False := by cases rw' with | imm h => exact .imm h
            refine ⟨_, F', Sa.cons ⟨fun _ _ g => g, fun _ g => g.elim⟩ rv, S', ⟨fun c f g => ?_, fun c g => ?_⟩, fun c g => ?_, ff⟩
            · rcases g with g | g
              · exact g
              · exact sa.apart c f g
            · rcases g with g | g
              · exact g.elim
              · exact sa.open_ c g
            · rcases g with g | g
              · exact g.elim
              · rcases fa c g with z | z
                · exact .inl z
                · exact .inr (a2 c z)
        · rw [own] at e
          obtain ⟨G, w, hw, rv, gF, S1⟩ := S.drop hs
          rw [h1'] at hw
          cases hw
          cases ht : lends (ρ.set i none) os with
          | none => rw [ht] at e; cases e
          | some p =>
            obtain ⟨rs1, ρ1⟩ := p
            rw [ht] at e
            cases e
            obtain ⟨Fa, F', Sa, S', sa, fa, ff⟩ := lends_ok S1 ⟨fun c f g => sd2.apart c f.1 g, sd2.open_⟩ h2 ht
            have opn : ∀ c, G c → Z c = none ∧ H c ≠ none := fun c g => ⟨S.dj c (gF c g), S.al c (gF c g)⟩
            have s1 : Side Z H Fa G := ⟨fun c f g => by
              rcases fa c f with z | z
              · exact z.2 g
              · exact sd2.apart c (gF c g) z, opn⟩
            refine ⟨_, F', Sa.cons s1 rv, S', ⟨fun c f g => ?_, fun c g => ?_⟩, fun c g => ?_, fun c f => (ff c f).1⟩
            · rcases g with g | g
              · exact (ff c f).2 g
              · exact sa.apart c f g
            · rcases g with g | g
              · exact opn c g
              · exact sa.open_ c g
            · rcases g with g | g
              · exact .inl (gF c g)
              · rcases fa c g with z | z
                · exact .inl z.1
                · exact .inr (a2 c z)
theorem backs_ok {K : Frag} {σ : L2.St} {Z H : Hp} {ρ0 : Loc} {Zr Hr : Hp} : ∀ {os : List Od} {vs : List V} {ps : List Slot} {ρ : Loc} {F Fr : Reg} (E : Nat → Reg), St0 K Z H ρ σ F → (∀ j a, E j a → Z a = none ∧ H a ≠ none ∧ ¬ F a) →
    (∀ i j b, i ≠ j → E i b → ¬ E j b) → (∀ j r, slotAt ps j = some r → ∃ v, (vs.map some)[j]? = some (some v) ∧ RepV K Z H r v (E j)) → ROds K σ os vs Zr Hr Fr → ∃ F', St0 K Z H (backs ρ0 ρ os ps) σ F' ∧ ∀ a, F' a → F a ∨ ∃ j, E j a
  | [], vs, ps, ρ, F, Fr, E, S, h1, h2, h3, r => ⟨F, by cases ps <;> exact S, fun a h => .inl h⟩
  | o :: os, vs, [], ρ, F, Fr, E, S, h1, h2, h3, r => ⟨F, by cases o <;> exact S, fun a h => .inl h⟩
  | .inr x :: os, vs, p :: ps, ρ, F, Fr, E, S, h1, h2, h3, ⟨v, r, F1, F2, ev, a1, a2, a3, r1, r2⟩ => by
    subst ev
    obtain ⟨F', S', f'⟩ := backs_ok (ρ0 := ρ0) (ps := ps) (fun j => E (j + 1)) S (fun j a h => h1 (j + 1) a h) (fun i j b ne f g => h2 (i + 1) (j + 1) b (by omega) f g)
      (fun j q hj => by obtain ⟨w, hw, rw'⟩ := h3 (j + 1) q (by rw [slotAt_cons_succ]; exact hj); exact ⟨w, by simpa using hw, rw'⟩) r2
    exact ⟨F', S', fun a h => (f' a h).imp id fun ⟨j, z⟩ => ⟨j + 1, z⟩⟩
  | .inl i :: os, vs, p :: ps, ρ, F, Fr, E, S, h1, h2, h3, ⟨v, r, F1, F2, ev, a1, a2, a3, r1, r2⟩ => by
    subst ev
    have r1' : σ[i]? = some (some v) := r1
    have skip : ∃ F', St0 K Z H (backs ρ0 ρ os ps) σ F' ∧ ∀ a, F' a → F a ∨ ∃ j, E j a := by
      obtain ⟨F', S', f'⟩ := backs_ok (ρ0 := ρ0) (ps := ps) (fun j => E (j + 1)) S (fun j a h => h1 (j + 1) a h) (fun i j b ne f g => h2 (i + 1) (j + 1) b (by omega) f g)
        (fun j q hj => by obtain ⟨w, hw, rw'⟩ := h3 (j + 1) q (by rw [slotAt_cons_succ]; exact hj); exact ⟨w, by simpa using hw, rw'⟩) r2
      exact ⟨F', S', fun a h => (f' a h).imp id fun ⟨j, z⟩ => ⟨j + 1, z⟩⟩
    have set : ∃ F', St0 K Z H (backs ρ0 (ρ.set i p) os ps) σ F' ∧ ∀ a, F' a → F a ∨ ∃ j, E j a := by
      have S1 := S.put (G := E 0) i p ⟨fun a f g => (h1 0 a g).2.2 f, fun a g => ⟨(h1 0 a g).1, (h1 0 a g).2.1⟩⟩ fun q hq => by
        obtain ⟨w, hw, rw'⟩ := h3 0 q (by rw [slotAt_cons_zero]; exact hq)
        have : v = w := by simpa using hw
        subst this
        exact ⟨v, r1', rw'⟩
      obtain ⟨F', S', f'⟩ := backs_ok (ρ0 := ρ0) (ps := ps) (fun j => E (j + 1)) S1 (fun j a h => ⟨(h1 (j + 1) a h).1, (h1 (j + 1) a h).2.1, fun f => by
          rcases f with f | f
          · exact (h1 (j + 1) a h).2.2 f
          · exact h2 0 (j + 1) a (by omega) f h⟩) (fun i j b ne f g => h2 (i + 1) (j + 1) b (by omega) f g)
        (fun j q hj => by obtain ⟨w, hw, rw'⟩ := h3 (j + 1) q (by rw [slotAt_cons_succ]; exact hj); exact ⟨w, by simpa using hw, rw'⟩) r2
      refine ⟨F', S', fun a h => ?_⟩
      rcases f' a h with (z | z) | ⟨j, z⟩
      · exact .inl z
      · exact .inr ⟨0, z⟩
      · exact .inr ⟨j + 1, z⟩
    show ∃ F', St0 K Z H (match slotAt ρ0 i with | some (.imm _) => backs ρ0 ρ os ps | _ => backs ρ0 (ρ.set i p) os ps) σ F' ∧ _
    split
    · exact skip
    · exact set
/-- a state at rest while another goes on -/
theorem St0.rest {K : Frag} {Z H Z' H' : Hp} {F F1 F' : Reg} {σ : L2.St} {ρ : Loc} (S : St0 K Z H ρ σ F) (sd : Side Z H F1 F) (f : Frm Z H F1 Z' H' F') (s : Sub Z' H') : St0 K Z' H' ρ σ F := by
  obtain ⟨sd', kp⟩ := Side.go sd f
  obtain ⟨E, g1, g2, g3⟩ := S.env
  refine ⟨s, S.len, fun a h => (sd'.open_ a h).1, fun a h => (sd'.open_ a h).2, E, g1, g2, fun i r h => ?_⟩
  obtain ⟨v, hv, rv⟩ := g3 i r h
  exact ⟨v, hv, rv.keep f.zs fun a o g e => kp a o (g1 i a g) e⟩
theorem call_ok {K : Frag} {c : List RV → CRes} {evs : Loc → Res (List Od)} {σ : L2.St} {H : Hp} {Q : VK} (h : rd K (fun ρ => callA c (evs ρ)) (RAv K) σ H Q) : rd K evs (RAos K) σ H fun vs H1 => spF K c vs H1 Q E0 := by
  obtain ⟨Z, ρ, F, S, a, ρ', e0, q⟩ := h
  cases h1 : evs ρ with
  | fail => simp only [h1, callA, reduceCtorEq] at e0
  | ok os ρ1 =>
    simp only [h1, callA] at e0
    cases h2 : lends ρ1 os with
    | none => simp only [h2, callL, reduceCtorEq] at e0
    | some p =>
      obtain ⟨rs, ρ2⟩ := p
      simp only [h2, callL] at e0
      cases h3 : c rs with
      | fail => simp only [h3, backK, reduceCtorEq] at e0
      | ret v ps =>
        simp only [h3, backK] at e0
        cases e0
        refine ⟨Z, ρ, F, S, os, ρ1, h1, fun vs H1 ⟨Z1, F1, Fv1, S1, r1, d1, z1, f1⟩ => ?_⟩
        obtain ⟨Fa, F2, Sa, S2, sa, fa, ff⟩ := lends_ok S1 ⟨d1, z1⟩ r1 h2
        refine ⟨Z1, rs, Fa, Sa, _, ps, h3, fun x H' ⟨Z3, F3, Fv3, S3, r3, d3, z3, f3⟩ => q x H' ?_⟩
        have sdc : Side Z1 H1 Fa F2 := ⟨fun c f g => sa.apart c g f, fun c g => ⟨S2.dj c g, S2.al c g⟩⟩
        have S2' := S2.rest sdc f3 S3.sub
        obtain ⟨sd', _⟩ := Side.go sdc f3
        obtain ⟨E, g1, g2, g3⟩ := S3.env
        obtain ⟨F4, S4, f4⟩ := backs_ok (ρ0 := ρ1) (ps := ps) E S2' (fun j a h => ⟨S3.dj a (g1 j a h), S3.al a (g1 j a h), fun f => sd'.apart a (.inl (g1 j a h)) f⟩) g2 g3 r1
        have in4 : ∀ a, F4 a → F2 a ∨ F3 a := fun a h => (f4 a h).imp id fun ⟨j, z⟩ => g1 j a z
        refine ⟨Z3, F4, Fv3, S4, r3, fun a f g => ?_, z3, f1.trans (f3.mono (F1 := fun a => F3 a ∨ Fv3 a) (fun c h => (fa c h)) fun c h => ?_)⟩
        · rcases in4 a f with z | z
          · exact sd'.apart a (.inr g) z
          · exact d3 a z g
        · rcases h with h | h
          · rcases in4 c h with z | z
            · exact .inr (.inl (.inl (ff c z)))
            · exact .inl (.inl z)
          · exact .inl (.inr h)
end Mv
namespace Mv
open PySem PySem.Spec PyProof.Rows L2

/-- a change of an owned thing, by values -/
def MM (K : Frag) (m : Mt) : V → List V → Hp → VK → Prop := fun x vs H Q => ∃ Z r ds G d r', Sub Z H ∧ RepV K Z H r x G ∧ (∀ a, G a → Z a = none ∧ H a ≠ none) ∧ RepDs K Z ds vs ∧ chg m r ds = some (d, r') ∧
  ∀ v a o, x = .ref a → G a → RepD K Z d v → RepV K Z (upd H a o) r' x G → Q v (upd H a o)
/-- an owned list is rewritten -/
theorem RepV.relist {K : Frag} {Z H : Hp} {a : Addr} {G : Reg} {l' : List RV} {xs' : List V} (E : Nat → Reg) (hG : G a) (h3 : l'.length = xs'.length) (h4 : ∀ i b, E i b → G b ∧ b ≠ a) (h5 : ∀ i j b, i ≠ j → E i b → ¬ E j b)
    (h6 : ∀ (i : Nat) (x : RV) (v : V), l'[i]? = some x → xs'[i]? = some v → RepV K Z H x v (E i)) : RepV K Z (upd H a (.lst xs')) (.oL l') (.ref a) G :=
  .oL E upd_same hG h3 h4 h5 fun i x v e1 e2 => (h6 i x v e1 e2).keep (fun _ _ h => h) fun c o hc e => by rw [upd_ne (h4 i c hc).2]; exact e
theorem repDs_one {K : Frag} {Z : Hp} {d : D} {vs : List V} (h : RepDs K Z [d] vs) : ∃ v, vs = [v] ∧ RepD K Z d v := by
  obtain ⟨v, r, rfl, h1, h2⟩ := repDs_cons h
  rw [repDs_nil h2]
  exact ⟨v, rfl, h1⟩
section
variable {X : Cx}
theorem mm_append : MtR X "list.append" (MM X.K .append) := by
  intro pins s σ H x xs v us Q I rx rs ⟨Z, r, ds, G, d, r', sub, hr, op, hd, e, q⟩
  refine mt_append pins s σ H x xs v us Q I rx rs ?_
  unfold chg at e
  split at e <;> try contradiction
  rename_i l d0 _
  split at e
  · cases e
    rename_i hl
    cases hr with
    | oL E h1 h2 h3 h4 h5 h6 =>
      rename_i a vs
      obtain ⟨y, rfl, hy⟩ := repDs_one hd
      refine ⟨a, vs, y, rfl, rfl, h1, by rw [← h3]; exact hl, q _ a _ rfl h2 .non ?_⟩
      refine RepV.relist (fun i b => i < l.length ∧ E i b) h2 (by simp [h3]) (fun i b f => h4 i b f.2) (fun i j b ne f g => h5 i j b ne f.2 g.2) fun i x v e1 e2 => ?_
      by_cases c : i < l.length
      · rw [List.getElem?_append_left c] at e1
        rw [List.getElem?_append_left (by rw [← h3]; exact c)] at e2
        exact (h6 i x v e1 e2).wider fun b f => ⟨c, f⟩
      · rw [List.getElem?_append_right (by omega)] at e1
        rw [List.getElem?_append_right (by rw [← h3]; omega), ← h3] at e2
        obtain ⟨z, hz⟩ : ∃ z, i - l.length = z := ⟨_, rfl⟩
        rw [hz] at e1 e2
        cases z with
        | zero => simp at e1 e2; subst e1; subst e2; exact .imm hy
        | succ z => simp at e1
  · cases e
theorem mm_extend : MtR X "list.extend" (MM X.K .extend) := by
  intro pins s σ H x xs v us Q I rx rs ⟨Z, r, ds, G, d, r', sub, hr, op, hd, e, q⟩
  refine mt_extend pins s σ H x xs v us Q I rx rs ?_
  unfold chg at e
  split at e <;> try contradiction
  rename_i l m _
  split at e
  · cases e
    rename_i hl
    cases hr with
    | oL E h1 h2 h3 h4 h5 h6 =>
      rename_i a vs
      obtain ⟨y, rfl, hy⟩ := repDs_one hd
      cases hy with
      | lst g1 g2 g3 =>
        rename_i b ws
        refine ⟨a, b, vs, ws, rfl, rfl, h1, sub _ _ g1, by rw [← h3, ← g2]; exact hl, q _ a _ rfl h2 .non ?_⟩
        refine RepV.relist (fun i b => i < l.length ∧ E i b) h2 (by simp [h3, g2]) (fun i b f => h4 i b f.2) (fun i j b ne f g => h5 i j b ne f.2 g.2) fun i x v e1 e2 => ?_
        by_cases c : i < l.length
        · rw [List.getElem?_append_left c] at e1
          rw [List.getElem?_append_left (by rw [← h3]; exact c)] at e2
          exact (h6 i x v e1 e2).wider fun b f => ⟨c, f⟩
        · rw [List.getElem?_append_right (by omega), List.getElem?_map] at e1
          rw [List.getElem?_append_right (by rw [← h3]; omega), ← h3] at e2
          cases hm : m[i - l.length]? with
          | none => rw [hm] at e1; cases e1
          | some d => rw [hm] at e1; cases e1; exact .imm (g3 _ d v hm e2)
  · cases e
theorem mm_pop : MtR X "list.pop" (MM X.K .pop) := by
  intro pins s σ H x xs v us Q I rx rs ⟨Z, r, ds, G, d, r', sub, hr, op, hd, e, q⟩
  refine mt_pop pins s σ H x xs v us Q I rx rs ?_
  unfold chg at e
  split at e <;> try contradiction
  rename_i l _
  split at e
  · cases e
    rename_i hl
    cases hr with
    | oL E h1 h2 h3 h4 h5 h6 =>
      rename_i a vs
      have hn := repDs_nil hd
      subst hn
      rw [List.getLast?_eq_getElem?] at hl
      have hlt : l.length - 1 < l.length := (List.getElem?_eq_some_iff.mp hl).1
      obtain ⟨w, hv⟩ : ∃ w, vs[l.length - 1]? = some w := ⟨_, List.getElem?_eq_getElem (by omega)⟩
      have hy := h6 _ _ _ hl hv
      refine ⟨a, vs, w, rfl, rfl, h1, by rw [← h3]; exact hv, q _ a _ rfl h2 (by cases hy with | imm h => exact h) ?_⟩
      refine RepV.relist E h2 (by simp [h3]) h4 h5 fun i x v e1 e2 => ?_
      rw [List.getElem?_dropLast] at e1 e2
      split at e1
      · split at e2
        · exact h6 i x v e1 e2
        · cases e2
      · cases e1
  · cases e
theorem mm_popAt : MtR X "list.pop" (MM X.K .popAt) := by
  intro pins s σ H x xs v us Q I rx rs ⟨Z, r, ds, G, d, r', sub, hr, op, hd, e, q⟩
  refine mt_popAt pins s σ H x xs v us Q I rx rs ?_
  unfold chg at e
  split at e <;> try contradiction
  rename_i l i _
  split at e
  · rename_i hb
    split at e
    · rename_i k hk
      split at e
      · cases e
        rename_i d0 hl
        cases hr with
        | oL E h1 h2 h3 h4 h5 h6 =>
          rename_i a vs
          obtain ⟨y, rfl, hy⟩ := repDs_one hd
          cases hy
          have hlt : k < l.length := (List.getElem?_eq_some_iff.mp hl).1
          have hv : vs[k]? = some vs[k] := List.getElem?_eq_getElem (by omega)
          have hz := h6 _ _ _ hl hv
          have hix : ixN vs.length i = some k := by
            unfold ixN
            split at hk
            · rename_i c
              rw [if_pos c]
              cases hk
              rw [if_pos (by omega)]
            · rename_i c
              rw [if_neg c]
              split at hk
              · rename_i c2
                cases hk
                rw [if_pos (by omega), ← h3]
              · cases hk
          refine ⟨a, vs, i, k, vs[k], rfl, rfl, h1, hb.1, hb.2, (ixN_seq hix).1, hv, q _ a _ rfl h2 (by cases hz with | imm h => exact h) ?_⟩
          refine RepV.relist (fun j => if j < k then E j else E (j + 1)) h2 ?_ (fun j b f => ?_) (fun j1 j2 b ne f g => ?_) fun j x v e1 e2 => ?_
          · rw [List.length_eraseIdx_of_lt hlt, List.length_eraseIdx_of_lt (by omega), h3]
          · split at f <;> exact h4 _ b f
          · split at f <;> split at g
            · exact h5 _ _ b ne f g
            · exact h5 _ _ b (by omega) f g
            · exact h5 _ _ b (by omega) f g
            · exact h5 _ _ b (by omega) f g
          · rw [List.getElem?_eraseIdx] at e1 e2
            split at e1
            · rename_i c
              rw [if_pos c] at e2
              rw [if_pos c]
              exact h6 j x v e1 e2
            · rename_i c
              rw [if_neg c] at e2
              rw [if_neg c]
              exact h6 _ x v e1 e2
      · cases e
    · cases e
  · cases e
theorem mm_reverse : MtR X "list.reverse" (MM X.K .reverse) := by
  intro pins s σ H x xs v us Q I rx rs ⟨Z, r, ds, G, d, r', sub, hr, op, hd, e, q⟩
  refine mt_reverse pins s σ H x xs v us Q I rx rs ?_
  unfold chg at e
  split at e <;> try contradiction
  rename_i l _
  cases e
  cases hr with
  | oL E h1 h2 h3 h4 h5 h6 =>
    rename_i a vs
    have hn := repDs_nil hd
    subst hn
    refine ⟨a, vs, rfl, rfl, h1, q _ a _ rfl h2 .non ?_⟩
    refine RepV.relist (fun j b => j < l.length ∧ E (l.length - 1 - j) b) h2 (by simp [h3]) (fun j b f => h4 _ b f.2) (fun j1 j2 b ne f g => h5 _ _ b (by have := f.1; have := g.1; omega) f.2 g.2) fun j x v e1 e2 => ?_
    have hj : j < l.length := by have := (List.getElem?_eq_some_iff.mp e1).1; simpa using this
    rw [List.getElem?_reverse hj] at e1
    rw [List.getElem?_reverse (by omega), ← h3] at e2
    exact (h6 _ x v e1 e2).wider fun b f => ⟨hj, f⟩

variable {e o : Expr} {es : List Expr} {evs : Loc → Res (List Od)} {i : Nat} {name : Str} {id : String} {apos cpos : Pos} {m : Mt}
theorem meth_core {K : Frag} {σ : L2.St} {H : Hp} {Q : VK} (h : rd K (fun ρ => methK i m (methC (isOwn m (slotAt ρ i)) (takesK (evs ρ)))) (RAv K) σ H Q) :
    ∃ v, σ[i]? = some (some v) ∧ tyV K "list" v H ∧ rd K evs (RAos K) σ H fun xs H2 => MM K m v xs H2 Q := by
  obtain ⟨Z, ρ, F, S, a, ρ', e0, q⟩ := h
  cases hs : slotAt ρ i with
  | none => simp [hs, isOwn, methC, methK] at e0
  | some r0 =>
    cases r0 with
    | imm d => simp [hs, isOwn, methC, methK] at e0
    | oD d => simp [hs, isOwn, methC, methK] at e0
    | oL l0 =>
      have hS := S.env
      obtain ⟨E, g1, g2, g3⟩ := hS
      obtain ⟨v, hv, rv⟩ := g3 i _ hs
      cases rv with
      | oL E0 k1 k2 k3 k4 k5 k6 =>
        rename_i a0 vs0
        refine ⟨.ref a0, hv, .inl ⟨rfl, _, SqL.of k1⟩, ?_⟩
        simp only [hs, isOwn, methC, if_true] at e0
        cases h1 : evs ρ with
        | fail => simp [h1, takesK, methK] at e0
        | ok os ρ1 =>
          cases h2 : takes ρ1 os with
          | none => simp [h1, h2, takesK, someP, methK] at e0
          | some p =>
            obtain ⟨ds, ρ2⟩ := p
            simp only [h1, h2, takesK, someP, methK] at e0
            cases hs2 : slotAt ρ2 i with
            | none => simp [hs2, chgO, methP] at e0
            | some x =>
              simp only [hs2, chgO] at e0
              cases hc : chg m x ds with
              | none => simp [hc, methP] at e0
              | some dy =>
                obtain ⟨d, y⟩ := dy
                simp only [hc, methP] at e0
                cases e0
                refine ⟨Z, ρ, F, S, os, ρ1, h1, fun vs H1 ⟨Z1, F1, Fv1, S1, r1, d1, z1, f1⟩ => ?_⟩
                obtain ⟨Z2, F2, S2, rr, s2, n2, zn2⟩ := takes_ok S1 ⟨d1, z1⟩ r1 h2
                have f2 : Frm Z1 H1 (fun a => F1 a ∨ Fv1 a) Z2 H1 F2 := ⟨fun _ _ h _ => h, fun a h => .inl (.inl (n2 a h)), s2, fun a o h => by
                  rcases zn2 a o h with z | z | z
                  · exact .inl z
                  · exact .inr (.inl (.inl z))
                  · exact .inr (.inl (.inr z))⟩
                obtain ⟨E2, c1, c2, c3⟩ := S2.env
                obtain ⟨w, hw, rw'⟩ := c3 i _ hs2
                rw [hv] at hw
                cases hw
                refine ⟨Z2, x, ds, E2 i, d, y, S2.sub, rw', fun a h => ⟨S2.dj a (c1 i a h), S2.al a (c1 i a h)⟩, rr, hc, fun v a o ea ga rd ry => q _ _ (Done.then (f1.trans f2) ?_)⟩
                have alH : ∀ c, H1 c ≠ none → (upd H1 a o) c ≠ none := fun c h => by
                  by_cases e : c = a
                  · subst e; rw [upd_same]; exact fun z => by cases z
                  · rw [upd_ne e]; exact h
                have za : Z2 a = none := S2.dj a (c1 i a ga)
                have sub2 : Sub Z2 (upd H1 a o) := fun c u h => by
                  rw [upd_ne (fun e => by subst e; rw [za] at h; cases h)]; exact S2.sub c u h
                refine ⟨Z2, F2, fun _ => False, ⟨sub2, by rw [List.length_set]; exact S2.len, S2.dj, fun c h => alH c (S2.al c h), E2, c1, c2, fun j r hj => ?_⟩, .imm rd, fun _ _ h => h, fun _ h => h.elim, ?_⟩
                · rcases slotAt_set hj with ⟨e1, e2⟩ | ⟨e1, e2⟩
                  · cases e2; subst e1; exact ⟨_, hv, ry⟩
                  · obtain ⟨w, hw, rw2⟩ := c3 j r e2
                    exact ⟨w, hw, rw2.keep (fun _ _ h => h) fun c u hc e => by rw [upd_ne (fun z => by subst z; exact c2 j i c e1 hc ga)]; exact e⟩
                · refine ⟨fun c u h n => ?_, fun c h => ?_, fun _ _ h => h, fun _ _ h => .inl h⟩
                  · rw [upd_ne (fun z => by subst z; exact n (c1 i c ga))]; exact h
                  · rcases h with h | h
                    · exact .inl h
                    · exact h.elim
theorem se_meth (pa : PlainAttrs "list") (slot : PySem.Slot "list" name id) (hty : typeOf (.builtin id) = pure (.type "method_descriptor")) (hm : MtR X id (MM X.K m)) (ho : PE X o (tVar i)) (ha : SA X (e :: es) evs)
    (hbase : attributeBase o name X.env (eval o X.env) = eval o X.env)
    (hfew : ((backTo cpos (starEach (e :: es) X.env)).all (fun x => !x.1) && (backToKw cpos (keywordEach [] X.env)).all (fun x => x.1.isSome) && decide ((e :: es).length + ([] : List Keyword).length + (if ([] : List Keyword).isEmpty then 0 else 1) < 30)) = true)
    (hline : (apos.endLine == cpos.line) = true) (hs : starEach (e :: es) X.env = (false, eval e X.env) :: starEach es X.env) (hplain : (backTo cpos (starEach es X.env)).any (·.1) = false) :
    SE X (.Call (.Attribute o name apos) (e :: es) [] cpos) fun ρ => methK i m (methC (isOwn m (slotAt ρ i)) (takesK (evs ρ))) := by
  refine PE_imp (pe_bm pa slot hty hm ho ha hbase hfew hline hs hplain) fun σ H Q h => ?_
  exact meth_core h
theorem se_meth0 (pa : PlainAttrs "list") (slot : PySem.Slot "list" name id) (hty : typeOf (.builtin id) = pure (.type "method_descriptor")) (hm : MtR X id (MM X.K m)) (ho : PE X o (tVar i))
    (hbase : attributeBase o name X.env (eval o X.env) = eval o X.env) (hline : (apos.endLine == cpos.line) = true) :
    SE X (.Call (.Attribute o name apos) [] [] cpos) fun ρ => methK i m (methC (isOwn m (slotAt ρ i)) (takesK (nilE ρ))) := by
  refine PE_imp (pe_bm0 pa slot hty hm ho hbase hline) fun σ H Q h => ?_
  obtain ⟨v, hv, ty, Z, ρ, F, S, os, ρ', e0, q⟩ := meth_core h
  cases e0
  exact ⟨v, hv, ty, q [] H (Done.here S rfl)⟩
end
end Mv
namespace Mv
open PySem PySem.Spec PyProof.Rows L2

/-- the walked operands stand as they did -/
def Here (K : Frag) (σ : L2.St) (os : List Od) (vs : List V) (Fv : Reg) (ρ0 : Loc) (Z H : Hp) (ρ : Loc) (F : Reg) : Prop :=
  St0 K Z H ρ σ F ∧ Side Z H F Fv ∧ ROds K σ os vs Z H Fv ∧ stable ρ0 ρ os = true
/-- an iterator that yields these items -/
structure WalkOk (K : Frag) (os : List Od) (vs : List V) (Fv : Reg) (ρ0 : Loc) (ds : List D) (J : It) : Prop where
  item : ∀ (i : Nat) (d : D), ds[i]? = some d → ∀ σ Z H ρ F, Here K σ os vs Fv ρ0 Z H ρ F → J.go i H ∧ ∀ x H', J.yld i H x H' → New K Z H (.imm d) x H'
  stop : ∀ σ Z H ρ F, Here K σ os vs Fv ρ0 Z H ρ F → J.stop ds.length H
theorem stable_one {ρ0 ρ : Loc} {o : Od} (h : stable ρ0 ρ [o] = true) : lookO ρ o = lookO ρ0 o := by
  cases o with
  | inr r => rfl
  | inl i =>
    rw [stable] at h
    by_cases c : slotAt ρ i = slotAt ρ0 i
    · show (slotAt ρ i).bind vw = (slotAt ρ0 i).bind vw
      rw [c]
    · rw [if_neg c] at h; cases h
theorem stable_refl (ρ : Loc) : ∀ os : List Od, stable ρ ρ os = true
  | [] => by rw [stable]
  | .inl i :: r => by rw [stable, if_pos rfl, stable_refl ρ r]; rfl
  | .inr _ :: r => by rw [stable, stable_refl ρ r]

/-- what a for or a comprehension walks, by the evaluator -/
def rdI (K : Frag) (ev : Loc → Res (List Od × List D)) : L2.St → Hp → (It → Hp → Prop) → Prop := fun σ H R =>
  ∃ Z ρ F, St0 K Z H ρ σ F ∧ ∃ os ds ρ', ev ρ = .ok (os, ds) ρ' ∧ ∀ J H' Z' F' Fv vs, Here K σ os vs Fv ρ' Z' H' ρ' F' → Frm Z H F Z' H' (fun a => F' a ∨ Fv a) → WalkOk K os vs Fv ρ' ds J → R J H'
theorem PI_imp {X : Cx} {tg e : Expr} {t t' : TI} (h : PI X tg e t) (k : ∀ σ H R, t' σ H R → t σ H R) : PI X tg e t' := ⟨fun pins s σ H Q I q => h.run pins s σ H Q I (k _ _ _ q)⟩

section
variable {X : Cx} {tg l : Expr} {tl : TE}
/-- a list, a tuple, a text: by what it is -/
def iAny (K : Frag) (tl : TE) : TI := fun σ H R => tl σ H fun x H1 => (∃ a xs, x = .ref a ∧ SqL K H1 a xs ∧ R (Itl K a) H1) ∨ (∃ a xs, x = .ref a ∧ SqT K H1 a xs ∧ R (Itt K a) H1) ∨ ∃ z, x = .str z ∧ R (Its z) H1
theorem pi_any (hl : PE X l tl) : PI X tg l (iAny X.K tl) := by
  constructor
  intro pins s σ H R I h
  refine thn (hl.run pins s σ H _ I h) fun v s1 ⟨x, H1, I1, r1, q1⟩ => ?_
  rcases q1 with ⟨a, xs, e, hq, q⟩ | ⟨a, xs, e, hq, q⟩ | ⟨z, e, q⟩
  · subst e
    cases r1
    obtain ⟨its, rv, p, hz⟩ := I1.list hq
    exact wpAny_pyIter_list p.isList (pi_one (tk := s1.toks) I1 _ (turn_list a _) ⟨_, Heap.get?_push_size _ rfl, rfl, rfl⟩ q)
  · subst e
    cases r1
    obtain ⟨its, rv, p, hz⟩ := I1.tuple hq
    exact wpAny_pyIter_tuple (show s1.heap.IsTuple a its.toArray from p) (pi_one (tk := s1.toks) I1 _ (turn_tuple a _) ⟨_, Heap.get?_push_size _ rfl, rfl, rfl⟩ q)
  · subst e
    obtain ⟨t, rfl⟩ := r1
    by_cases c : z.cps.all (· < 128) = true
    · exact wpAny_pyIter_ascii c (pi_one (tk := s1.toks) I1 _ (turn_str _ z t "str_ascii_iterator" (.inl rfl)) ⟨_, Heap.get?_push_size _ rfl, rfl, rfl⟩ q)
    · exact wpAny_pyIter_wide (by simpa using c) (pi_one (tk := s1.toks) I1 _ (turn_str _ z t "str_iterator" (.inr rfl)) ⟨_, Heap.get?_push_size _ rfl, rfl, rfl⟩ q)
theorem items1 {k : ItK} {ev : Loc → Res Od} {ρ ρ' : Loc} {os : List Od} {ds : List D} (h : itemsK k (consK nilE (ev ρ)) = .ok (os, ds) ρ') : ∃ o d, ev ρ = .ok o ρ' ∧ os = [o] ∧ lookO ρ' o = some d ∧ itemsOf k [d] = some ds := by
  cases h1 : ev ρ with
  | fail => simp [h1, consK, itemsK] at h
  | ok o ρ1 =>
    simp only [h1, consK, mapR, itemsK] at h
    cases h2 : lookO ρ1 o with
    | none => simp [looks, h2, bindO] at h
    | some d =>
      simp only [looks, h2, bindO] at h
      cases h3 : itemsOf k [d] with
      | none => simp [h3] at h
      | some es =>
        simp only [h3] at h
        cases h
        exact ⟨o, d, rfl, rfl, h2, h3⟩
theorem items2 {k : ItK} {ev ev2 : Loc → Res Od} {ρ ρ' : Loc} {os : List Od} {ds : List D} (h : itemsK k (consK (fun ρ => consK nilE (ev2 ρ)) (ev ρ)) = .ok (os, ds) ρ') :
    ∃ o o2 d d2 ρ1, ev ρ = .ok o ρ1 ∧ ev2 ρ1 = .ok o2 ρ' ∧ os = [o, o2] ∧ lookO ρ' o = some d ∧ lookO ρ' o2 = some d2 ∧ itemsOf k [d, d2] = some ds := by
  cases h1 : ev ρ with
  | fail => simp [h1, consK, itemsK] at h
  | ok o ρ1 =>
    cases h1' : ev2 ρ1 with
    | fail => simp [h1, h1', consK, itemsK, mapR] at h
    | ok o2 ρ2 =>
      simp only [h1, h1', consK, mapR, itemsK] at h
      cases h2 : lookO ρ2 o with
      | none => simp [looks, h2, bindO] at h
      | some d =>
        cases h2' : lookO ρ2 o2 with
        | none => simp [looks, h2, h2', bindO] at h
        | some d2 =>
          simp only [looks, h2, h2', bindO] at h
          cases h3 : itemsOf k [d, d2] with
          | none => simp [h3] at h
          | some es =>
            simp only [h3] at h
            cases h
            exact ⟨o, o2, d, d2, ρ1, rfl, h1', rfl, h2, h2', h3⟩
theorem one_of {K : Frag} {σ : L2.St} {o : Od} {vs : List V} {Z H : Hp} {Fv : Reg} (h : ROds K σ [o] vs Z H Fv) : ∃ v F1, vs = [v] ∧ ROd K σ o v Z H F1 := by
  obtain ⟨v, r, F1, F2, rfl, _, _, _, h1, h2⟩ := h
  have h2' : r = [] := h2
  subst h2'
  exact ⟨v, F1, rfl, h1⟩
theorem ROds.one {K : Frag} {σ : L2.St} {o : Od} {v : V} {Z H : Hp} {Fv : Reg} (h : ROd K σ o v Z H Fv) : ROds K σ [o] [v] Z H Fv := ⟨v, [], Fv, fun _ => False, rfl, fun _ h => h, fun _ h => h.elim, fun _ _ h => h, h, rfl⟩
theorem strDs {s : List Nat} {i : Nat} {d : D} (h : (s.map fun c => D.str [c])[i]? = some d) : ∃ c, s[i]? = some c ∧ d = .str [c] := by
  rw [List.getElem?_map] at h
  cases q : s[i]? with
  | none => rw [q] at h; cases h
  | some c => rw [q] at h; cases h; exact ⟨c, rfl, rfl⟩
theorem si_seq {e : Expr} {ev : Loc → Res Od} (he : SO X e ev) : PI X tg e (rdI X.K fun ρ => itemsK .seq (consK nilE (ev ρ))) := by
  refine PI_imp (pi_any he) fun σ H R ⟨Z, ρ, F, S, os, ds, ρ', e0, q⟩ => ?_
  obtain ⟨o, d, h1, rfl, h2, h3⟩ := items1 e0
  refine ⟨Z, ρ, F, S, o, ρ', h1, fun x H1 ⟨Z1, F1, Fv1, S1, r1, d1, z1, f1⟩ => ?_⟩
  have w := look_ok S1 r1 h2
  have here : Here X.K σ [o] [x] Fv1 ρ' Z1 H1 ρ' F1 := ⟨S1, ⟨d1, z1⟩, ROds.one r1, stable_refl _ _⟩
  -- later: the same look
  have later : ∀ σ Z H ρ F, Here X.K σ [o] [x] Fv1 ρ' Z H ρ F → RepW X.K Z H d x ∧ Sub Z H := fun σ Z H ρ F ⟨S, sd, r, st⟩ => by
    obtain ⟨v, Fq, ev, r'⟩ := one_of r
    cases ev
    exact ⟨look_ok S r' (by rw [stable_one st]; exact h2), S.sub⟩
  cases d <;> simp only [itemsOf, reduceCtorEq] at h3
  · cases h3
    rename_i s
    cases w.str_
    refine .inr (.inr ⟨_, rfl, q _ _ Z1 F1 Fv1 _ here f1 ⟨fun i d hi σ Z H ρ F hh => ?_, fun σ Z H ρ F hh => ?_⟩⟩)
    · obtain ⟨c, hc, rfl⟩ := strDs hi
      refine ⟨?_, fun x H' ⟨e1, c', hc', e2⟩ => ?_⟩
      · show i < (toStr s).cps.size
        have := (List.getElem?_eq_some_iff.mp hc).1
        simpa [toStr] using this
      · subst e1 e2
        have : some c = some c' := by rw [← hc, ← hc']; simp [toStr]
        cases this
        exact New.old hh.1.sub (.str [c])
    · show (toStr s).cps.size ≤ _
      simp [toStr]
  · cases h3
    obtain ⟨a, vs, rfl, g1, g2⟩ := w.tup_
    refine .inr (.inl ⟨a, vs, rfl, S1.sub.sqT g1, q _ _ Z1 F1 Fv1 _ here f1 ⟨fun i d hi σ Z H ρ F hh => ?_, fun σ Z H ρ F hh => ?_⟩⟩)
    · obtain ⟨w2, s2⟩ := later σ Z H ρ F hh
      obtain ⟨a2, vs2, e2, k1, k2⟩ := w2.tup_
      cases e2
      have hlt : i < vs2.length := by rw [← k2.1]; exact (List.getElem?_eq_some_iff.mp hi).1
      exact ⟨⟨vs2, vs2[i], s2.sqT k1, List.getElem?_eq_getElem hlt⟩, fun x H' ⟨e1, y⟩ => by
        subst e1
        exact New.old s2 (k2.2 i d x hi (y _ (s2.sqT k1)))⟩
    · obtain ⟨w2, s2⟩ := later σ Z H ρ F hh
      obtain ⟨a2, vs2, e2, k1, k2⟩ := w2.tup_
      cases e2
      exact ⟨vs2, s2.sqT k1, by rw [k2.1]; exact Nat.le_refl _⟩
  · cases h3
    obtain ⟨a, vs, rfl, g1, g2⟩ := w.lst_ S1.sub
    refine .inl ⟨a, vs, rfl, SqL.of g1, q _ _ Z1 F1 Fv1 _ here f1 ⟨fun i d hi σ Z H ρ F hh => ?_, fun σ Z H ρ F hh => ?_⟩⟩
    · obtain ⟨w2, s2⟩ := later σ Z H ρ F hh
      obtain ⟨a2, vs2, e2, k1, k2⟩ := w2.lst_ s2
      cases e2
      have hlt : i < vs2.length := by rw [← k2.1]; exact (List.getElem?_eq_some_iff.mp hi).1
      exact ⟨⟨vs2, vs2[i], SqL.of k1, List.getElem?_eq_getElem hlt⟩, fun x H' ⟨e1, y⟩ => by
        subst e1
        exact New.old s2 (k2.2 i d x hi (y _ (SqL.of k1)))⟩
    · obtain ⟨w2, s2⟩ := later σ Z H ρ F hh
      obtain ⟨a2, vs2, e2, k1, k2⟩ := w2.lst_ s2
      cases e2
      exact ⟨vs2, SqL.of k1, by rw [k2.1]; exact Nat.le_refl _⟩
theorem rangeL_get {lo : Int} {n i : Nat} {d : D} (h : (rangeL lo n)[i]? = some d) : i < n ∧ d = .int (lo + (i : Nat)) := by
  unfold rangeL at h
  rw [List.getElem?_map] at h
  by_cases c : i < n
  · rw [List.getElem?_range c] at h; cases h; exact ⟨c, rfl⟩
  · rw [List.getElem?_eq_none (by simpa using Nat.le_of_not_lt c)] at h; cases h
theorem lo62 {n : Int} (h : -4611686018427387904 ≤ n) : -(2 ^ 62) ≤ n := Int.le_trans (by decide) h
theorem hi62 {n : Int} (h : n < 4611686018427387904) : n < 2 ^ 62 := Int.lt_of_lt_of_le h (by decide)
theorem walk_range {K : Frag} {os : List Od} {vs : List V} {Fv : Reg} {ρ0 : Loc} (lo : Int) (n : Nat) : WalkOk K os vs Fv ρ0 (rangeL lo n) (Itr lo n) :=
  ⟨fun i d hi σ Z H ρ F hh => by
    obtain ⟨h1, rfl⟩ := rangeL_get hi
    exact ⟨h1, fun x H' ⟨e1, e2⟩ => by subst e1 e2; exact New.old hh.1.sub (.int _)⟩, fun σ Z H ρ F hh => by
    show n ≤ (rangeL lo n).length
    simp [rangeL]⟩
theorem si_range1 {a : Expr} {p pos : Pos} {ev : Loc → Res Od} (ha : SO X a ev) (hg : Gl X "range") (hm : X.mg "range" = none) (hs : starEach [a] X.env = [(false, eval a X.env)]) :
    PI X tg (.Call (.Name "range" p) [a] [] pos) (rdI X.K fun ρ => itemsK .range (consK nilE (ev ρ))) := by
  have hst : starEach (a :: []) X.env = (false, eval a X.env) :: starEach [] X.env := by rw [hs]; rfl
  refine PI_imp (pi_range1 hg hm (sa_cons ha sa_nil hst) hs) fun σ H R ⟨Z, ρ, F, S, os, ds, ρ', e0, q⟩ => ?_
  obtain ⟨o, d, h1, rfl, h2, h3⟩ := items1 e0
  refine ⟨Z, ρ, F, S, [o], ρ', by simp [h1, consK, mapR], fun xs H1 ⟨Z1, F1, Fv1, S1, r1, d1, z1, f1⟩ => ?_⟩
  obtain ⟨v, Fq, rfl, r'⟩ := one_of r1
  have w := look_ok S1 r' h2
  cases d <;> simp only [itemsOf, reduceCtorEq] at h3
  cases w.int_
  split at h3
  · cases h3
    rename_i hb
    have hb := okR_iff.1 hb
    exact ⟨_, rfl, lo62 hb.1, hi62 hb.2, q _ _ Z1 F1 Fv1 _ ⟨S1, ⟨d1, z1⟩, r1, stable_refl _ _⟩ f1 (walk_range _ _)⟩
  · cases h3
theorem si_range2 {a b : Expr} {p pos : Pos} {ev ev2 : Loc → Res Od} (ha : SO X a ev) (hb : SO X b ev2) (hg : Gl X "range") (hm : X.mg "range" = none) (hs : starEach [a, b] X.env = [(false, eval a X.env), (false, eval b X.env)]) (hs2 : starEach [b] X.env = [(false, eval b X.env)]) :
    PI X tg (.Call (.Name "range" p) [a, b] [] pos) (rdI X.K fun ρ => itemsK .range (consK (fun ρ => consK nilE (ev2 ρ)) (ev ρ))) := by
  have hst2 : starEach (b :: []) X.env = (false, eval b X.env) :: starEach [] X.env := by rw [hs2]; rfl
  have hst : starEach (a :: [b]) X.env = (false, eval a X.env) :: starEach [b] X.env := by rw [hs, hs2]
  refine PI_imp (pi_range2 hg hm (sa_cons ha (sa_cons hb sa_nil hst2) hst) hs hs2) fun σ H R ⟨Z, ρ, F, S, os, ds, ρ', e0, q⟩ => ?_
  obtain ⟨o, o2, d, d2, ρ1, h1, h1', rfl, h2, h2', h3⟩ := items2 e0
  refine ⟨Z, ρ, F, S, [o, o2], ρ', by simp [h1, h1', consK, mapR], fun xs H1 ⟨Z1, F1, Fv1, S1, r1, d1, z1, f1⟩ => ?_⟩
  obtain ⟨v, r, Fa, Fb, rfl, a1, a2, a3, k1, k2⟩ := id r1
  obtain ⟨v2, Fq, rfl, k2'⟩ := one_of k2
  have w := look_ok S1 k1 h2
  have w2 := look_ok S1 k2' h2'
  cases d <;> cases d2 <;> simp only [itemsOf, reduceCtorEq] at h3
  cases w.int_; cases w2.int_
  split at h3
  · cases h3
    rename_i hb
    have hb := And.intro (okR_iff.1 hb.1) (okR_iff.1 hb.2)
    exact ⟨_, _, rfl, ⟨lo62 hb.1.1, hi62 hb.1.2, lo62 hb.2.1, hi62 hb.2.2⟩, q _ _ Z1 F1 Fv1 _ ⟨S1, ⟨d1, z1⟩, r1, stable_refl _ _⟩ f1 (walk_range _ _)⟩
  · cases h3
end
end Mv
namespace Mv
open PySem PySem.Spec PyProof.Rows L2

/-- the names outside W are as they were -/
def Same (W : List Nat) (σ σ' : L2.St) : Prop := σ'.length = σ.length ∧ ∀ i, i ∉ W → σ'[i]? = σ[i]?
theorem Same.refl {W : List Nat} {σ : L2.St} : Same W σ σ := ⟨rfl, fun _ _ => rfl⟩
theorem Same.trans {W : List Nat} {σ σ1 σ2 : L2.St} (a : Same W σ σ1) (b : Same W σ1 σ2) : Same W σ σ2 := ⟨b.1.trans a.1, fun i h => (b.2 i h).trans (a.2 i h)⟩
theorem Same.wide {W W1 : List Nat} {σ σ' : L2.St} (k : ∀ i, i ∈ W1 → i ∈ W) (a : Same W1 σ σ') : Same W σ σ' := ⟨a.1, fun i h => a.2 i fun z => h (k i z)⟩
def Ran (K : Frag) (Z H : Hp) (F : Reg) (σ : L2.St) (W : List Nat) (ρ' : Loc) (σ' : L2.St) (H' : Hp) : Prop := Same W σ σ' ∧ ∃ Z' F', St0 K Z' H' ρ' σ' F' ∧ Frm Z H F Z' H' F'
/-- behind a statement -/
def rdR (K : Frag) (Z H : Hp) (F : Reg) (σ : L2.St) (W : List Nat) (D : Ends) : SRes → Prop
  | .nx ρ' => ∀ σ' H', Ran K Z H F σ W ρ' σ' H' → D.nx σ' H'
  | .bk ρ' => ∀ σ' H', Ran K Z H F σ W ρ' σ' H' → D.bk σ' H'
  | .ct ρ' => ∀ σ' H', Ran K Z H F σ W ρ' σ' H' → D.ct σ' H'
  | .ret v ρ' => ∀ σ' x H', Same W σ σ' → Done K Z H F σ' ρ' (fun Z H F => RepV K Z H v x F) H' → D.rt x H'
  | .fail => False
def rdS (K : Frag) (ev : Loc → SRes) (W : List Nat) : TS := fun D σ H => ∃ Z ρ F, St0 K Z H ρ σ F ∧ rdR K Z H F σ W D (ev ρ)
abbrev SS (X : Cx) (s : Stmt) (ev : Loc → SRes) (W : List Nat) : Prop := PS X s (rdS X.K ev W)
abbrev SSs (X : Cx) (s : List Stmt) (ev : Loc → SRes) (W : List Nat) : Prop := PSs X s (rdS X.K ev W)
theorem PS_imp {X : Cx} {e : Stmt} {t t' : TS} (h : PS X e t) (k : ∀ D σ H, t' D σ H → t D σ H) : PS X e t' := ⟨fun pins s σ H D I q => h.run pins s σ H D I (k _ _ _ q)⟩
theorem PSs_imp {X : Cx} {e : List Stmt} {t t' : TS} (h : PSs X e t) (k : ∀ D σ H, t' D σ H → t D σ H) : PSs X e t' := ⟨fun pins s σ H D I q => h.run pins s σ H D I (k _ _ _ q)⟩
theorem PG_imp {X : Cx} {e : Expr} {t t' : TG} (h : PG X e t) (k : ∀ v σ H Q, t' v σ H Q → t v σ H Q) : PG X e t' := ⟨fun pins s σ H v u Q I r q => h.run pins s σ H v u Q I r (k _ _ _ _ q)⟩

section
variable {K : Frag} {Z H Z1 H1 : Hp} {F F1 : Reg} {σ σ1 : L2.St} {W W1 : List Nat} {D : Ends} {ρ : Loc}
theorem Ran.here (S : St0 K Z H ρ σ F) : Ran K Z H F σ W ρ σ H := ⟨Same.refl, Z, F, S, Frm.refl⟩
theorem Ran.later {ρ' : Loc} {σ' : L2.St} {H' : Hp} (sm : Same W σ σ1) (f : Frm Z H F Z1 H1 F1) (sb : ∀ i, i ∈ W1 → i ∈ W) (r : Ran K Z1 H1 F1 σ1 W1 ρ' σ' H') : Ran K Z H F σ W ρ' σ' H' := by
  obtain ⟨sm2, Z2, F2, S2, f2⟩ := r
  exact ⟨sm.trans (sm2.wide sb), Z2, F2, S2, f.trans f2⟩
theorem rdR.later {r : SRes} (h : rdR K Z H F σ W D r) (sm : Same W σ σ1) (f : Frm Z H F Z1 H1 F1) (sb : ∀ i, i ∈ W1 → i ∈ W) : rdR K Z1 H1 F1 σ1 W1 D r := by
  cases r with
  | nx ρ' => exact fun σ' H' q => h σ' H' (q.later sm f sb)
  | bk ρ' => exact fun σ' H' q => h σ' H' (q.later sm f sb)
  | ct ρ' => exact fun σ' H' q => h σ' H' (q.later sm f sb)
  | ret v ρ' => exact fun σ' x H' s q => h σ' x H' (sm.trans (s.wide sb)) (Done.then f q)
  | fail => exact h
end
section
variable {X : Cx} {pos : Pos}
theorem ss_nil : SSs X [] (fun ρ => .nx ρ) [] := PSs_imp pss_nil fun D σ H ⟨Z, ρ, F, S, q⟩ => q σ H (Ran.here S)
theorem ss_cons {st : Stmt} {rest : List Stmt} {ev evs : Loc → SRes} {W1 W2 W : List Nat} (h1 : SS X st ev W1) (h2 : SSs X rest evs W2) (k1 : ∀ i, i ∈ W1 → i ∈ W) (k2 : ∀ i, i ∈ W2 → i ∈ W) : SSs X (st :: rest) (fun ρ => seqK evs (ev ρ)) W := by
  refine PSs_imp (pss_cons h1 h2) fun D σ H ⟨Z, ρ, F, S, q⟩ => ⟨Z, ρ, F, S, ?_⟩
  have q : rdR X.K Z H F σ W D (seqK evs (ev ρ)) := q
  generalize ev ρ = r at q
  cases r with
  | nx ρ1 =>
    intro σ' H' ⟨sm, Z', F', S', f⟩
    exact ⟨Z', ρ1, F', S', rdR.later q (sm.wide k1) f k2⟩
  | bk ρ1 => exact fun σ' H' ⟨sm, r⟩ => q σ' H' ⟨sm.wide k1, r⟩
  | ct ρ1 => exact fun σ' H' ⟨sm, r⟩ => q σ' H' ⟨sm.wide k1, r⟩
  | ret v ρ1 => exact fun σ' x H' sm r => q σ' x H' (sm.wide k1) r
  | fail => exact q
theorem ss_wide {st : Stmt} {ev : Loc → SRes} {W1 W : List Nat} (h1 : SS X st ev W1) (k1 : ∀ i, i ∈ W1 → i ∈ W) : SS X st ev W := by
  refine PS_imp h1 fun D σ H ⟨Z, ρ, F, S, q⟩ => ⟨Z, ρ, F, S, rdR.later q Same.refl Frm.refl k1⟩
theorem sss_wide {st : List Stmt} {ev : Loc → SRes} {W1 W : List Nat} (h1 : SSs X st ev W1) (k1 : ∀ i, i ∈ W1 → i ∈ W) : SSs X st ev W := by
  refine PSs_imp h1 fun D σ H ⟨Z, ρ, F, S, q⟩ => ⟨Z, ρ, F, S, rdR.later q Same.refl Frm.refl k1⟩
theorem ss_pass : SS X (.Pass pos) (fun ρ => .nx ρ) [] := PS_imp ps_pass fun D σ H ⟨Z, ρ, F, S, q⟩ => q σ H (Ran.here S)
theorem ss_break : SS X (.Break pos) (fun ρ => .bk ρ) [] := PS_imp ps_break fun D σ H ⟨Z, ρ, F, S, q⟩ => q σ H (Ran.here S)
theorem ss_continue : SS X (.Continue pos) (fun ρ => .ct ρ) [] := PS_imp ps_continue fun D σ H ⟨Z, ρ, F, S, q⟩ => q σ H (Ran.here S)
theorem ss_doc {x : Str} {j : Nat} {pos' : Pos} : SS X (.Expr (.Constant (.str x) j pos) pos') (fun ρ => .nx ρ) [] := PS_imp ps_doc fun D σ H ⟨Z, ρ, F, S, q⟩ => q σ H (Ran.here S)
theorem ss_retN : SS X (.Return none pos) (fun ρ => .ret (.imm .non) ρ) [] := PS_imp ps_retN fun D σ H ⟨Z, ρ, F, S, q⟩ => q σ .non H Same.refl (Done.here S (.imm .non))
theorem ss_expr {e : Expr} {ev : Loc → Res RV} (h : SE X e ev) (hs : swapsWith e none pos.line X.env = pure false) : SS X (.Expr e pos) (fun ρ => dropK (ev ρ)) [] := by
  refine PS_imp (ps_expr h hs) fun D σ H ⟨Z, ρ, F, S, q⟩ => ?_
  cases h1 : ev ρ with
  | fail => simp only [h1, dropK] at q; exact q.elim
  | ok x ρ1 =>
    simp only [h1, dropK] at q
    exact ⟨Z, ρ, F, S, x, ρ1, h1, fun v H' ⟨Z1, F1, Fv1, S1, r1, d1, z1, f1⟩ => q σ H' ⟨Same.refl, Z1, F1, S1, f1.mono (fun _ h => h) fun c h => .inl (.inl h)⟩⟩
theorem ss_ret {e : Expr} {ev : Loc → Res RV} (h : SE X e ev) : SS X (.Return (some e) pos) (fun ρ => retK (ev ρ)) [] := by
  refine PS_imp (ps_ret h) fun D σ H ⟨Z, ρ, F, S, q⟩ => ?_
  cases h1 : ev ρ with
  | fail => simp only [h1, retK] at q; exact q.elim
  | ok x ρ1 =>
    simp only [h1, retK] at q
    exact ⟨Z, ρ, F, S, x, ρ1, h1, fun v H' d => q σ v H' Same.refl d⟩
theorem ss_retv {e : Expr} {i : Nat} (h : PE X e (tVar i)) : SS X (.Return (some e) pos) (fun ρ => retvK i ρ (slotAt ρ i)) [] := by
  refine PS_imp (ps_ret h) fun D σ H ⟨Z, ρ, F, S, q⟩ => ?_
  cases h1 : slotAt ρ i with
  | none => simp only [h1, retvK] at q; exact q.elim
  | some r =>
    simp only [h1, retvK] at q
    obtain ⟨G, v, hv, rv, gF, S'⟩ := S.drop h1
    refine ⟨v, hv, q σ v H Same.refl ⟨Z, _, G, S', rv, fun a f g => f.2 g, fun a g => ⟨S.dj a (gF a g), S.al a (gF a g)⟩, Frm.refl.mono (fun _ h => h) fun c h => ?_⟩⟩
    rcases h with h | h
    · exact .inl h.1
    · exact .inl (gF c h)
theorem ss_if {c : Expr} {a b : List Stmt} {tc : Loc → Res Bool} {ea eb : Loc → SRes} {W1 W2 W : List Nat} (hc : ST X c tc) (ha : SSs X a ea W1) (hb : SSs X b eb W2) (k1 : ∀ i, i ∈ W1 → i ∈ W) (k2 : ∀ i, i ∈ W2 → i ∈ W) :
    SS X (.If c a b pos) (fun ρ => iteS ea eb (tc ρ)) W := by
  refine PS_imp (ps_if hc ha hb) fun D σ H ⟨Z, ρ, F, S, q⟩ => ?_
  cases h1 : tc ρ with
  | fail => simp only [h1, iteS] at q; exact q.elim
  | ok t ρ1 =>
    refine rd_bool S h1 fun Z1 H1 F1 S1 f1 => ?_
    cases t with
    | true =>
      simp only [h1, iteS] at q
      rw [if_pos rfl]
      exact ⟨Z1, ρ1, F1, S1, rdR.later q Same.refl f1 k1⟩
    | false =>
      simp only [h1, iteS] at q
      rw [if_neg (by decide)]
      exact ⟨Z1, ρ1, F1, S1, rdR.later q Same.refl f1 k2⟩

theorem slotAt_set2 {ρ : Loc} {i j : Nat} {x : Slot} {r : RV} (h : slotAt (ρ.set i x) j = some r) : (j = i ∧ x = some r ∧ i < ρ.length) ∨ (j ≠ i ∧ slotAt ρ j = some r) := by
  unfold slotAt at h ⊢
  rw [List.getElem?_set] at h
  split at h
  · rename_i e
    subst e
    split at h
    · rename_i l
      simp at h; exact .inl ⟨rfl, h, l⟩
    · simp at h
  · rename_i e
    exact .inr ⟨fun z => e z.symm, h⟩
theorem St0.store {K : Frag} {Z H : Hp} {F G : Reg} {σ : L2.St} {ρ : Loc} (S : St0 K Z H ρ σ F) (i : Nat) {r : RV} {v : V} (sd : Side Z H F G) (h : RepV K Z H r v G) : St0 K Z H (ρ.set i (some r)) (σ.set i (some v)) (fun a => F a ∨ G a) := by
  obtain ⟨E, g1, g2, g3⟩ := S.env
  refine ⟨S.sub, by rw [List.length_set, List.length_set]; exact S.len, fun a f => ?_, fun a f => ?_, fun j a => (j ≠ i ∧ E j a) ∨ (j = i ∧ G a), fun j b f => ?_, fun j k b ne f g => ?_, fun j q hj => ?_⟩
  · rcases f with f | f
    · exact S.dj a f
    · exact (sd.open_ a f).1
  · rcases f with f | f
    · exact S.al a f
    · exact (sd.open_ a f).2
  · rcases f with f | f
    · exact .inl (g1 j b f.2)
    · exact .inr f.2
  · rcases f with f | f <;> rcases g with g | g
    · exact g2 j k b ne f.2 g.2
    · exact sd.apart b (g1 j b f.2) g.2
    · exact sd.apart b (g1 k b g.2) f.2
    · exact ne (f.1.trans g.1.symm)
  · rcases slotAt_set2 hj with ⟨e1, e2, e3⟩ | ⟨e1, e2⟩
    · cases e2
      subst e1
      exact ⟨v, by rw [List.getElem?_set_self (by rw [← S.len]; exact e3)], h.wider fun a g => .inr ⟨rfl, g⟩⟩
    · obtain ⟨w, hw, rv⟩ := g3 j q e2
      exact ⟨w, by rw [List.getElem?_set_ne (Ne.symm e1)]; exact hw, rv.wider fun a g => .inl ⟨e1, g⟩⟩
theorem same_set {σ : L2.St} {i : Nat} {W : List Nat} {x : Option V} (h : i ∈ W) : Same W σ (σ.set i x) := ⟨List.length_set, fun j hj => by
  rw [List.getElem?_set_ne (fun e => hj (by rw [← e]; exact h))]⟩
theorem ss_asg {i : Nat} {tg e : Expr} {ev : Loc → Res RV} (h : PS X (.Assign [tg] e pos) (tAsg (rd X.K ev (RAv X.K)) (gName i))) : SS X (.Assign [tg] e pos) (fun ρ => asgK (.name i) (ev ρ)) [i] := by
  refine PS_imp h fun D σ H ⟨Z, ρ, F, S, q⟩ => ?_
  cases h1 : ev ρ with
  | fail => simp only [h1, asgK] at q; exact q.elim
  | ok x ρ1 =>
    simp only [h1, asgK, giveRV, nxO] at q
    refine ⟨Z, ρ, F, S, x, ρ1, h1, fun v H' ⟨Z1, F1, Fv1, S1, r1, d1, z1, f1⟩ => q _ H' ⟨same_set (by simp), Z1, _, S1.store i ⟨d1, z1⟩ r1, f1⟩⟩
/-- several stores -/
def gNames (is : List Nat) : TGs := fun vs σ H Q => ∃ σ', sets σ is vs = some σ' ∧ Q σ' H
where sets (σ : L2.St) : List Nat → List V → Option L2.St
  | [], [] => some σ
  | i :: is, v :: vs => sets (σ.set i (some v)) is vs
  | _, _ => none
theorem same_sets {W : List Nat} : ∀ {is : List Nat} {vs : List V} {σ σ' : L2.St}, (∀ i, i ∈ is → i ∈ W) → gNames.sets σ is vs = some σ' → Same W σ σ'
  | [], [], σ, σ', _, h => by simp [gNames.sets] at h; subst h; exact Same.refl
  | i :: is, v :: vs, σ, σ', k, h => (same_set (k i (by simp))).trans (same_sets (is := is) (fun j hj => k j (List.mem_cons_of_mem _ hj)) (by simpa [gNames.sets] using h))
  | [], _ :: _, _, _, _, h => by simp [gNames.sets] at h
  | _ :: _, [], _, _, _, h => by simp [gNames.sets] at h
theorem setRVs_ok {K : Frag} {Z H : Hp} : ∀ {is : List Nat} {rs : List RV} {vs : List V} {σ : L2.St} {ρ ρ' : Loc} {F : Reg} {G : Nat → Reg}, St0 K Z H ρ σ F → RepVs K Z H rs vs G → (∀ j, Side Z H F (G j)) → setRVs ρ is rs = some ρ' →
    ∃ σ' F', gNames.sets σ is vs = some σ' ∧ St0 K Z H ρ' σ' F' ∧ ∀ a, F' a → F a ∨ ∃ j, G j a
  | [], [], vs, σ, ρ, ρ', F, G, S, r, sd, e => by
    cases vs with
    | nil => simp [setRVs] at e; subst e; exact ⟨σ, F, rfl, S, fun a h => .inl h⟩
    | cons v r' => have := r.1; simp at this
  | i :: is, x :: rs, vs, σ, ρ, ρ', F, G, S, r, sd, e => by
    cases vs with
    | nil => have := r.1; simp at this
    | cons v vs =>
      have e : setRVs (ρ.set i (some x)) is rs = some ρ' := by simpa [setRVs] using e
      have S1 := S.store i (sd 0) (r.2.2 0 x v rfl rfl)
      obtain ⟨σ', F', h1, h2, h3⟩ := setRVs_ok (G := fun j => G (j + 1)) S1 ⟨by have := r.1; simpa using this, fun i j b ne f g => r.2.1 (i + 1) (j + 1) b (by omega) f g, fun j x v a b => r.2.2 (j + 1) x v (by simpa using a) (by simpa using b)⟩
        (fun j => ⟨fun a f g => by
          rcases f with f | f
          · exact (sd (j + 1)).apart a f g
          · exact r.2.1 0 (j + 1) a (by omega) f g, (sd (j + 1)).open_⟩) e
      refine ⟨σ', F', by simpa [gNames.sets] using h1, h2, fun a f => ?_⟩
      rcases h3 a f with (z | z) | ⟨j, z⟩
      · exact .inl z
      · exact .inr ⟨0, z⟩
      · exact .inr ⟨j + 1, z⟩
  | [], _ :: _, _, _, _, _, _, _, _, _, _, e => by simp [setRVs] at e
  | _ :: _, [], _, _, _, _, _, _, _, _, _, e => by simp [setRVs] at e
theorem setAll_eq : ∀ {is : List Nat} {ds : List D} {ρ : Loc}, setAll ρ is ds = setRVs ρ is (ds.map .imm)
  | [], [], ρ => rfl
  | i :: is, d :: ds, ρ => by rw [setAll, setAll_eq]; rfl
  | [], _ :: _, _ => rfl
  | _ :: _, [], _ => rfl
theorem repVs_imm {K : Frag} {Z H : Hp} {ds : List D} {vs : List V} (h : RepDs K Z ds vs) : RepVs K Z H (ds.map .imm) vs fun _ _ => False :=
  ⟨by simpa using h.1, fun _ _ _ _ f => f.elim, fun i x v a b => by
    rw [List.getElem?_map] at a
    cases q : ds[i]? with
    | none => rw [q] at a; cases a
    | some d => rw [q] at a; cases a; exact .imm (h.2 i d v q b)⟩
/-- a target of the text: a name, or some names -/
def gTg (K : Frag) : Tg → TG
  | .name i => gName i
  | .tup is => fun v σ H Q => gTup K is.length (gNames is) v σ H Q ∨ gLst K is.length (gNames is) v σ H Q
def Tg.slots : Tg → List Nat
  | .name i => [i]
  | .tup is => is
theorem setRVs_len : ∀ {is : List Nat} {rs : List RV} {ρ ρ' : Loc}, setRVs ρ is rs = some ρ' → is.length = rs.length
  | [], [], _, _, _ => rfl
  | i :: is, x :: rs, ρ, ρ', h => by simp [setRVs] at h; simp [setRVs_len h]
  | [], _ :: _, _, _, h => by simp [setRVs] at h
  | _ :: _, [], _, _, h => by simp [setRVs] at h
theorem give_ok {K : Frag} {Z H : Hp} {F Fv : Reg} {σ : L2.St} {ρ ρ' : Loc} {tg : Tg} {r : RV} {v : V} (S : St0 K Z H ρ σ F) (sd : Side Z H F Fv) (h : RepV K Z H r v Fv) (e : giveRV ρ tg r = some ρ') {Q : L2.St → Hp → Prop}
    (q : ∀ σ' F', Same tg.slots σ σ' → St0 K Z H ρ' σ' F' → (∀ a, F' a → F a ∨ Fv a) → Q σ' H) : gTg K tg v σ H Q := by
  cases tg with
  | name i =>
    simp only [giveRV] at e
    cases e
    exact q _ _ (same_set (by simp [Tg.slots])) (S.store i sd h) fun a f => f
  | tup is =>
    have key : ∀ {rs : List RV} {vs : List V} {G : Nat → Reg}, RepVs K Z H rs vs G → (∀ j a, G j a → Fv a) → setRVs ρ is rs = some ρ' → gNames is vs σ H Q ∧ vs.length = is.length := fun {rs vs G} hr hG hs => by
      obtain ⟨σ', F', h1, h2, h3⟩ := setRVs_ok S hr (fun j => ⟨fun a f g => sd.apart a f (hG j a g), fun a g => sd.open_ a (hG j a g)⟩) hs
      exact ⟨⟨σ', h1, q σ' F' (same_sets (fun _ h => h) h1) h2 fun a f => (h3 a f).imp id fun ⟨j, z⟩ => hG j a z⟩, by rw [setRVs_len hs, hr.1]⟩
    cases h with
    | imm h =>
      cases h with
      | tup h1 h2 h3 =>
        simp only [giveRV] at e
        rw [setAll_eq] at e
        obtain ⟨k1, k2⟩ := key (repVs_imm ⟨h2, h3⟩) (fun _ _ f => f.elim) e
        exact .inl ⟨_, _, rfl, S.sub.sqT h1.1, k2, k1⟩
      | lst h1 h2 h3 =>
        simp only [giveRV] at e
        rw [setAll_eq] at e
        obtain ⟨k1, k2⟩ := key (repVs_imm ⟨h2, h3⟩) (fun _ _ f => f.elim) e
        exact .inr ⟨_, _, rfl, SqL.of (S.sub _ _ h1), k2, k1⟩
      | _ => simp [giveRV] at e
    | oL G h1 h2 h3 h4 h5 h6 =>
      simp only [giveRV] at e
      obtain ⟨k1, k2⟩ := key ⟨h3, h5, h6⟩ (fun j a f => (h4 j a f).1) e
      exact .inr ⟨_, _, rfl, SqL.of h1, k2, k1⟩
    | oD _ _ _ => simp [giveRV] at e
theorem ss_asgT {tg : Tg} {tge e : Expr} {ev : Loc → Res RV} (he : SE X e ev) (hg : PG X tge (gTg X.K tg)) (hs : swapsWithSole [tge] e pos.line X.env = pure false) (hw : swappedStores [tge] e X.env = pure none) (h1 : (assignEach [tge] X.env).map (·.2) = [assign tge X.env]) :
    SS X (.Assign [tge] e pos) (fun ρ => asgK tg (ev ρ)) tg.slots := by
  refine PS_imp (ps_asg he hg hs hw h1) fun D σ H ⟨Z, ρ, F, S, q⟩ => ?_
  cases h1 : ev ρ with
  | fail => simp only [h1, asgK] at q; exact q.elim
  | ok x ρ1 =>
    cases h2 : giveRV ρ1 tg x with
    | none => simp only [h1, asgK, h2, nxO] at q; exact q.elim
    | some ρ2 =>
      simp only [h1, asgK, h2, nxO] at q
      refine ⟨Z, ρ, F, S, x, ρ1, h1, fun v H' ⟨Z1, F1, Fv1, S1, r1, d1, z1, f1⟩ => give_ok S1 ⟨d1, z1⟩ r1 h2 fun σ' F' sm S' ff => q σ' H' ⟨sm, Z1, F', S', f1.mono (fun _ h => h) fun c h => .inl (ff c h)⟩⟩
theorem ss_par {es : List Expr} {evs : Loc → Res (List Od)} {st : Stmt} {is : List Nat} (h : PS X st (fun D σ H => rd X.K evs (RAos X.K) σ H fun vs H1 => gNames is vs σ H1 D.nx)) :
    SS X st (fun ρ => parK is (holdsK (evs ρ))) is := by
  refine PS_imp h fun D σ H ⟨Z, ρ, F, S, q⟩ => ?_
  cases h1 : evs ρ with
  | fail => simp only [h1, holdsK, parK] at q; exact q.elim
  | ok os ρ1 =>
    cases h2 : holds ρ1 os with
    | none => simp only [h1, holdsK, h2, someP, parK] at q; exact q.elim
    | some p =>
      obtain ⟨rs, ρ2⟩ := p
      simp only [h1, holdsK, h2, someP, parK] at q
      cases h3 : setRVs ρ2 is rs with
      | none => simp only [h3, nxO] at q; exact q.elim
      | some ρ3 =>
        simp only [h3, nxO] at q
        refine ⟨Z, ρ, F, S, os, ρ1, h1, fun vs H1 ⟨Z1, F1, Fv1, S1, r1, d1, z1, f1⟩ => ?_⟩
        obtain ⟨Z2, F2, G, S2, rr, gF, sd2, s2, n2, zn2⟩ := holds_ok S1 ⟨d1, z1⟩ r1 h2
        obtain ⟨σ', F3, k1, k2, k3⟩ := setRVs_ok S2 rr (fun j => ⟨fun a f g => sd2.apart a f (gF j a g), fun a g => sd2.open_ a (gF j a g)⟩) h3
        refine ⟨σ', k1, q σ' H1 ⟨same_sets (fun _ h => h) k1, Z2, F3, k2, f1.trans ⟨fun _ _ h _ => h, fun a f => ?_, s2, fun a o h => ?_⟩⟩⟩
        · rcases k3 a f with z | ⟨j, z⟩
          · exact .inl (.inl (n2 a z))
          · exact .inl (.inr (gF j a z))
        · rcases zn2 a o h with z | z
          · exact .inl z
          · exact .inr (.inl (.inl z))
end
end Mv
namespace Mv
open PySem PySem.Spec PyProof.Rows L2

def rSetLD : TSet := fun o i v H Q => rSetL o i v H Q ∨ rSetD o i v H Q
section
variable {X : Cx} {pos : Pos}
theorem set_ld (hu : X.A.units + 1 < cLine) : PSet X rSetLD := fun pins s σ H o i v ov iv u Q I r1 r2 r3 h => h.elim (set_list pins s σ H o i v ov iv u Q I r1 r2 r3) (set_dict hu pins s σ H o i v ov iv u Q I r1 r2 r3)
theorem repKs_any {K : Frag} {Z : Hp} : ∀ {l : List (KD × D)} {vs : List (Key × V)} (k : KD), RepKs K Z l vs → (vs.any fun kv => decide (kv.1 = kK k)) = l.any fun p => decide (p.1 = k)
  | [], vs, k, h => by rw [repKs_nil h]; rfl
  | p :: l, vs, k, h => by
    obtain ⟨v, r, rfl, h1, h2⟩ := repKs_cons h
    simp only [List.any_cons]
    rw [repKs_any k h2, decide_eq_decide.mpr (kK_inj (a := p.1) (b := k))]
theorem repKs_map {K : Frag} {Z : Hp} {d : D} {v : V} (hd : RepD K Z d v) : ∀ {l : List (KD × D)} {vs : List (Key × V)} (k : KD), RepKs K Z l vs →
    RepKs K Z (l.map fun p => if p.1 = k then (p.1, d) else p) (vs.map fun kv => if kv.1 = kK k then (kv.1, v) else kv)
  | [], vs, k, h => by rw [repKs_nil h]; exact RepKs.nil
  | p :: l, vs, k, h => by
    obtain ⟨w, r, rfl, h1, h2⟩ := repKs_cons h
    simp only [List.map_cons]
    by_cases e : p.1 = k
    · rw [if_pos e, if_pos (kK_inj.mpr e)]
      exact RepKs.cons hd (repKs_map hd k h2)
    · rw [if_neg e, if_neg (fun z => e (kK_inj.mp z))]
      exact RepKs.cons h1 (repKs_map hd k h2)
theorem repKs_app {K : Frag} {Z : Hp} {d : D} {v : V} (hd : RepD K Z d v) : ∀ {l : List (KD × D)} {vs : List (Key × V)} (k : KD), RepKs K Z l vs → RepKs K Z (l ++ [(k, d)]) (vs ++ [(kK k, v)])
  | [], vs, k, h => by rw [repKs_nil h]; exact RepKs.cons hd RepKs.nil
  | p :: l, vs, k, h => by
    obtain ⟨w, r, rfl, h1, h2⟩ := repKs_cons h
    exact RepKs.cons h1 (repKs_app hd k h2)
theorem repKs_put {K : Frag} {Z : Hp} {d : D} {v : V} (hd : RepD K Z d v) {l : List (KD × D)} {vs : List (Key × V)} (k : KD) (h : RepKs K Z l vs) : RepKs K Z (dput l k d) (putK vs (kK k) v) := by
  unfold dput putK
  rw [repKs_any k h]
  by_cases c : (l.any fun p => decide (p.1 = k)) = true
  · rw [if_pos c, if_pos c]; exact repKs_map hd k h
  · rw [if_neg c, if_neg c]; exact repKs_app hd k h
/-- a slot's own thing is rewritten -/
theorem St0.rewrite {K : Frag} {Z H : Hp} {F : Reg} {σ : L2.St} {ρ : Loc} (S : St0 K Z H ρ σ F) {E : Nat → Reg} (g1 : ∀ i b, E i b → F b) (g2 : ∀ i j b, i ≠ j → E i b → ¬ E j b)
    (g3 : ∀ i r, slotAt ρ i = some r → ∃ v, σ[i]? = some (some v) ∧ RepV K Z H r v (E i)) {i : Nat} {a : Addr} {o : HO} {r : RV} (hv : σ[i]? = some (some (.ref a))) (ga : E i a) (h : RepV K Z (upd H a o) r (.ref a) (E i)) :
    St0 K Z (upd H a o) (ρ.set i (some r)) σ F ∧ Frm Z H F Z (upd H a o) F := by
  have alH : ∀ c, H c ≠ none → (upd H a o) c ≠ none := fun c h => by
    by_cases e : c = a
    · subst e; rw [upd_same]; exact fun z => by cases z
    · rw [upd_ne e]; exact h
  have za : Z a = none := S.dj a (g1 i a ga)
  have sub2 : Sub Z (upd H a o) := fun c u hc => by
    rw [upd_ne (fun e => by subst e; rw [za] at hc; cases hc)]; exact S.sub c u hc
  refine ⟨⟨sub2, by rw [List.length_set]; exact S.len, S.dj, fun c h => alH c (S.al c h), E, g1, g2, fun j q hj => ?_⟩, fun c u h n => ?_, fun c h => .inl h, fun _ _ h => h, fun _ _ h => .inl h⟩
  · rcases slotAt_set hj with ⟨e1, e2⟩ | ⟨e1, e2⟩
    · cases e2; subst e1; exact ⟨_, hv, h⟩
    · obtain ⟨w, hw, rw2⟩ := g3 j q e2
      exact ⟨w, hw, rw2.keep (fun _ _ h => h) fun c u hc e => by rw [upd_ne (fun z => by subst z; exact g2 j i c e1 hc ga)]; exact e⟩
  · rw [upd_ne (fun z => by subst z; exact n (g1 i c ga))]; exact h
theorem setAt_ix {l l' : List RV} {k : Int} {d : RV} (h : setAt l k d = some l') : ∃ j, ixN l.length k = some j ∧ l' = l.set j d := by
  unfold setAt at h
  unfold ixN
  by_cases c : 0 ≤ k
  · rw [if_pos c] at h ⊢
    by_cases c2 : k < l.length
    · rw [if_pos c2] at h ⊢; cases h; exact ⟨_, rfl, rfl⟩
    · rw [if_neg c2] at h; cases h
  · rw [if_neg c] at h ⊢
    by_cases c2 : -(l.length : Int) ≤ k
    · rw [if_pos c2] at h ⊢; cases h; exact ⟨_, rfl, rfl⟩
    · rw [if_neg c2] at h; cases h
theorem put_ok {K : Frag} {Z H : Hp} {y r' : RV} {k d : D} {a : V} {iv v : V} {G : Reg} (s : Sub Z H) (hy : RepV K Z H y a G) (hk : RepW K Z H k iv) (hd : RepD K Z d v) (e : putIx y k d = some r') {Q : Hp → Prop}
    (q : ∀ p o, a = .ref p → G p → RepV K Z (upd H p o) r' (.ref p) G → Q (upd H p o)) : rSetLD a iv v H Q := by
  cases hy with
  | imm h => cases k <;> simp [putIx] at e
  | oL E h1 h2 h3 h4 h5 h6 =>
    rename_i l p vs
    cases k with
    | int i =>
      have e : (setAt l i (.imm d)).map RV.oL = some r' := e
      cases hs : setAt l i (.imm d) with
      | none => rw [hs] at e; cases e
      | some l' =>
        rw [hs] at e
        cases e
        obtain ⟨j, hj, rfl⟩ := setAt_ix hs
        refine .inl ⟨p, vs, i, j, rfl, hk.int_, h1, by rw [← h3]; exact hj, q p _ rfl h2 ?_⟩
        refine RepV.relist (fun m b => m ≠ j ∧ E m b) h2 (by simp [h3]) (fun m b f => h4 m b f.2) (fun m1 m2 b ne f g => h5 m1 m2 b ne f.2 g.2) fun m x w e1 e2 => ?_
        rw [List.getElem?_set] at e1 e2
        by_cases c : j = m
        · subst c
          have hlt : j < l.length := (ixN_seq hj).2.1
          rw [if_pos rfl, if_pos hlt] at e1
          rw [if_pos rfl, if_pos (by rw [← h3]; exact hlt)] at e2
          cases e1; cases e2
          exact .imm hd
        · rw [if_neg c] at e1 e2
          exact (h6 m x w e1 e2).wider fun b f => ⟨fun z => c z.symm, f⟩
    | _ => simp [putIx] at e
  | oD h1 h2 h3 =>
    rename_i l p kvs
    have e : ((keyOf k).bind fun k => if l.length < LINE then some (RV.oD (dput l k d)) else none) = some r' := by cases k <;> first | exact e | (simp [putIx] at e)
    cases hkk : keyOf k with
    | none => rw [hkk] at e; cases e
    | some kd =>
      rw [hkk] at e
      have e : (if l.length < LINE then some (RV.oD (dput l kd d)) else none) = some r' := e
      split at e
      · rename_i hl
        cases e
        rw [keyOf_rep hk hkk]
        refine .inr ⟨p, _, rfl, DPut.k h1 (by rw [← h3.1]; exact hl), q p _ rfl h2 (.oD upd_same h2 (repKs_put hd kd h3))⟩
      · cases e
theorem ss_setix {i : Nat} {o ix e : Expr} {ev : Loc → Res RV} {g : Loc → Res Od} {st : Stmt} (h : PS X st (tAsg (rd X.K ev (RAv X.K)) (gSub (tVar i) (rd X.K g (RAo X.K)) rSetLD))) : SS X st (fun ρ => setK i g (ev ρ)) [] := by
  refine PS_imp h fun D σ H ⟨Z, ρ, F, S, q⟩ => ?_
  cases h1 : ev ρ with
  | fail => simp only [h1, setK] at q; exact q.elim
  | ok x ρ1 =>
    cases hs1 : slotAt ρ1 i with
    | none => simp only [h1, setK, hs1, setK1] at q; exact q.elim
    | some y0 =>
      cases h2 : g ρ1 with
      | fail => simp only [h1, setK, hs1, setK1, h2, setK2] at q; exact q.elim
      | ok o ρ2 =>
        cases hs2 : slotAt ρ2 i with
        | none => simp only [h1, setK, hs1, setK1, h2, setK2, hs2, putO, setP] at q; exact q.elim
        | some y =>
          cases hl : lookO ρ2 o with
          | none => simp only [h1, setK, hs1, setK1, h2, setK2, hs2, hl, putO, setP] at q; exact q.elim
          | some k =>
            cases hp : putIx y k (fz x) with
            | none => simp only [h1, setK, hs1, setK1, h2, setK2, hs2, hl, putO, hp, setP] at q; exact q.elim
            | some r' =>
              simp only [h1, setK, hs1, setK1, h2, setK2, hs2, hl, putO, hp, setP] at q
              refine ⟨Z, ρ, F, S, x, ρ1, h1, fun v H1 ⟨Z1, F1, Fv1, S1, r1, d1, z1, f1⟩ => ?_⟩
              obtain ⟨E1, a1, a2, a3⟩ := S1.env
              obtain ⟨w, hw, _⟩ := a3 i y0 hs1
              refine ⟨w, hw, Z1, ρ1, F1, S1, o, ρ2, h2, fun iv H2 ⟨Z2, F2, Fv2, S2, r2, d2, z2, f2⟩ => ?_⟩
              obtain ⟨sd, kp⟩ := Side.go ⟨d1, z1⟩ f2
              have rx : RepV X.K Z2 H2 x v Fv1 := r1.keep f2.zs kp
              obtain ⟨S3, s3, n3⟩ := S2.freezeBeside (G := Fv1) ⟨fun a f g => sd.apart a (.inl f) g, sd.open_⟩
              have rz : RepD X.K (over Z2 H2 Fv1) (fz x) v := RepV.freeze rx s3 fun a o f e => by rw [over_in f]; exact e
              obtain ⟨E, g1, g2, g3⟩ := S3.env
              obtain ⟨w', hw', ry⟩ := g3 i y hs2
              rw [hw] at hw'
              cases hw'
              have lk : RepW X.K (over Z2 H2 Fv1) H2 k iv := look_ok S3 (Fv := Fv2) (by cases o with | inl j => exact r2 | inr r => exact RepV.keep s3 r2 fun _ _ _ h => h) hl
              refine put_ok S3.sub ry lk rz hp fun p ho ep gp ry' => ?_
              subst ep
              obtain ⟨S4, f4⟩ := S3.rewrite g1 g2 g3 hw gp ry'
              refine q σ _ ⟨Same.refl, _, F2, S4, f1.trans (f2.mono (F1 := fun a => F2 a ∨ Fv2 a) (F0 := fun a => F1 a ∨ Fv1 a) (F2 := fun a => F2 a ∨ Fv1 a) (fun c h => .inl h) (fun c h => ?_) |>.trans ?_)⟩
              · rcases h with h | h
                · exact .inl (.inl h)
                · exact .inr (.inl (.inr h))
              · refine ⟨fun c u hc n => f4.keep c u hc fun z => n (.inl z), fun c f => .inl (.inl f), fun c u hc => s3 c u hc, fun c u hc => ?_⟩
                rcases n3 c u hc with z | z
                · exact .inl z
                · exact .inr (.inl (.inr z))

theorem whileS_some {c : Loc → Res Bool} {body : Loc → SRes} {ρ : Loc} (h : whileS c body ρ ≠ .fail) : ∃ n, whileS c body ρ = whileN c body n ρ := by
  unfold whileS at h ⊢
  split
  · rename_i q; exact ⟨_, rfl⟩
  · rename_i q; rw [dif_neg q] at h; exact absurd rfl h
theorem ss_while {c : Expr} {body : List Stmt} {tc : Loc → Res Bool} {eb : Loc → SRes} {W : List Nat} (hp : PassesOwn (model X.prog X.w) X.A X.env X.xe) (hc : ST X c tc) (hb : SSs X body eb W) :
    SS X (.While c body [] pos) (fun ρ => whileS tc eb ρ) W := by
  refine PS_imp (ps_while hp hc hb) fun D σ H ⟨Z, ρ, F, S, q⟩ => ?_
  have q : rdR X.K Z H F σ W D (whileS tc eb ρ) := q
  obtain ⟨n, hn⟩ := whileS_some (c := tc) (body := eb) (ρ := ρ) (fun e => by rw [e] at q; exact q)
  rw [hn] at q
  refine ⟨fun m σ H => ∃ Z ρ F, St0 X.K Z H ρ σ F ∧ rdR X.K Z H F σ W D (whileN tc eb m ρ), ⟨n, Z, ρ, F, S, q⟩, fun m σ H ⟨Z, ρ, F, S, q⟩ => ?_⟩
  cases m with
  | zero => exact q.elim
  | succ m =>
    have q : rdR X.K Z H F σ W D (whileK (whileN tc eb m) eb (tc ρ)) := q
    cases h1 : tc ρ with
    | fail => rw [h1] at q; exact q.elim
    | ok t ρ1 =>
      rw [h1] at q
      refine rd_bool S h1 fun Z1 H1 F1 S1 f1 => ?_
      cases t with
      | false =>
        rw [if_neg (by decide)]
        have q : rdR X.K Z H F σ W D (.nx ρ1) := q
        exact q σ H1 ⟨Same.refl, Z1, F1, S1, f1⟩
      | true =>
        rw [if_pos rfl]
        have q : rdR X.K Z H F σ W D (turnK (whileN tc eb m) (eb ρ1)) := q
        refine ⟨fun σ' H' => ∃ m', m' < m + 1 ∧ ∃ Z ρ F, St0 X.K Z H' ρ σ' F ∧ rdR X.K Z H' F σ' W D (whileN tc eb m' ρ), fun σ' H' h => h, Z1, ρ1, F1, S1, ?_⟩
        cases h2 : eb ρ1 with
        | fail => rw [h2] at q; exact q.elim
        | nx ρ2 =>
          rw [h2] at q
          exact fun σ' H' ⟨sm, Z2, F2, S2, f2⟩ => ⟨m, Nat.lt_succ_self m, Z2, ρ2, F2, S2, rdR.later (show rdR X.K Z H F σ W D (whileN tc eb m ρ2) from q) sm (f1.trans f2) fun _ h => h⟩
        | ct ρ2 =>
          rw [h2] at q
          exact fun σ' H' ⟨sm, Z2, F2, S2, f2⟩ => ⟨m, Nat.lt_succ_self m, Z2, ρ2, F2, S2, rdR.later (show rdR X.K Z H F σ W D (whileN tc eb m ρ2) from q) sm (f1.trans f2) fun _ h => h⟩
        | bk ρ2 =>
          rw [h2] at q
          exact fun σ' H' r => (show rdR X.K Z H F σ W D (.nx ρ2) from q) σ' H' (r.later Same.refl f1 fun _ h => h)
        | ret v ρ2 =>
          rw [h2] at q
          exact rdR.later (show rdR X.K Z H F σ W D (.ret v ρ2) from q) Same.refl f1 fun _ h => h

theorem stable_of {ρ0 ρ : Loc} : ∀ {os : List Od}, True → True := fun _ => trivial
theorem ROds.same {K : Frag} {σ σ' : L2.St} {W : List Nat} (sm : Same W σ σ') {Z H : Hp} : ∀ {os : List Od} {vs : List V} {Fv : Reg}, apartO W os = true → ROds K σ os vs Z H Fv → ROds K σ' os vs Z H Fv
  | [], _, _, _, h => h
  | .inl i :: os, _, _, a, ⟨v, r, F1, F2, e, a1, a2, a3, h1, h2⟩ => by
    rw [apartO, Bool.and_eq_true] at a
    exact ⟨v, r, F1, F2, e, a1, a2, a3, (by show σ'[i]? = some (some v); rw [sm.2 i (by simpa using a.1)]; exact h1), ROds.same sm a.2 h2⟩
  | .inr x :: os, _, _, a, ⟨v, r, F1, F2, e, a1, a2, a3, h1, h2⟩ => by
    rw [apartO] at a
    exact ⟨v, r, F1, F2, e, a1, a2, a3, h1, ROds.same sm a h2⟩
theorem Frm.both {Z H Z1 H1 : Hp} {F F1 G : Reg} (f : Frm Z H F Z1 H1 F1) : Frm Z H (fun a => F a ∨ G a) Z1 H1 (fun a => F1 a ∨ G a) :=
  f.mono (fun c h => .inl h) fun c h => h.elim (fun z => .inl z) fun z => .inr (.inl (.inr z))
theorem give_imm {ρ : Loc} {tg : Tg} {d : D} {ρ' : Loc} (h : give ρ tg d = some ρ') : giveRV ρ tg (.imm d) = some ρ' := by
  cases tg with
  | name i => exact h
  | tup is => cases d <;> first | exact h | (simp [give] at h)
theorem ss_for {tge iter : Expr} {body : List Stmt} {tg : Tg} {ev : Loc → Res (List Od × List D)} {eb : Loc → SRes} {Wb W : List Nat} (hp : PassesOwn (model X.prog X.w) X.A X.env X.xe) (hc : X.calm = true) (hi : PI X tge iter (rdI X.K ev)) (hg : PG X tge (gTg X.K tg)) (hb : SSs X body eb Wb)
    (k1 : ∀ i, i ∈ tg.slots → i ∈ W) (k2 : ∀ i, i ∈ Wb → i ∈ W) (ap : ∀ ρ os ds ρ', ev ρ = .ok (os, ds) ρ' → apartO W os = true) (hs : ∀ x, foldedSetIterable iter X.env x = pure x) :
    SS X (.For tge iter body [] pos) (fun ρ => forK tg eb (ev ρ)) W := by
  refine PS_imp (ps_for hp hc hi hg hb hs) fun D σ H ⟨Z, ρ, F, S, q⟩ => ?_
  have q : rdR X.K Z H F σ W D (forK tg eb (ev ρ)) := q
  cases h0 : ev ρ with
  | fail => rw [h0] at q; exact q.elim
  | ok p ρ0 =>
    obtain ⟨os, ds⟩ := p
    rw [h0] at q
    have q : rdR X.K Z H F σ W D (forLoop ρ0 os tg eb ds ρ0) := q
    have hap := ap _ _ _ _ h0
    refine ⟨Z, ρ, F, S, os, ds, ρ0, h0, fun J H0 Z0 F0 Fv vs ⟨S0, sd0, r0, st0⟩ f0 wk => ?_⟩
    refine ⟨fun i m σ H => m = ds.length - i ∧ i ≤ ds.length ∧ ∃ Z ρ F, St0 X.K Z H ρ σ F ∧ Side Z H F Fv ∧ ROds X.K σ os vs Z H Fv ∧ rdR X.K Z H (fun a => F a ∨ Fv a) σ W D (forLoop ρ0 os tg eb (ds.drop i) ρ),
      ⟨ds.length, by simp, Nat.zero_le _, Z0, ρ0, F0, S0, sd0, r0, rdR.later q Same.refl f0 fun _ h => h⟩, fun i m σ H ⟨hm, hi, Z, ρ, F, S, sd, ro, q⟩ => ?_⟩
    cases hd : ds.drop i with
    | nil =>
      rw [hd] at q
      have hl : i = ds.length := by
        have := congrArg List.length hd
        simp at this
        omega
      subst hl
      have q : rdR X.K Z H (fun a => F a ∨ Fv a) σ W D (if stable ρ0 ρ os = true then .nx ρ else .fail) := q
      by_cases st : stable ρ0 ρ os = true
      · rw [if_pos st] at q
        exact .inl ⟨wk.stop σ Z H ρ F ⟨S, sd, ro, st⟩, q σ H ⟨Same.refl, Z, F, S, Frm.refl.mono (fun _ h => .inl h) fun c h => .inl h⟩⟩
      · rw [if_neg st] at q; exact q.elim
    | cons d r =>
      rw [hd] at q
      have q : rdR X.K Z H (fun a => F a ∨ Fv a) σ W D (if stable ρ0 ρ os = true then turnK (forLoop ρ0 os tg eb r) (giveS eb (give ρ tg d)) else .fail) := q
      by_cases st : stable ρ0 ρ os = true
      · rw [if_pos st] at q
        have hlt : i < ds.length := by
          have := congrArg List.length hd
          simp at this
          omega
        have hget : ds[i]? = some d := by
          have : (ds.drop i)[0]? = some d := by rw [hd]; rfl
          simpa using this
        have hr : ds.drop (i + 1) = r := by
          have := congrArg List.tail hd
          simpa using this
        obtain ⟨go, hy⟩ := wk.item i d hget σ Z H ρ F ⟨S, sd, ro, st⟩
        refine .inr ⟨go, fun σ' H' => ∃ m', m' < m ∧ m' = ds.length - (i + 1) ∧ i + 1 ≤ ds.length ∧ ∃ Z ρ F, St0 X.K Z H' ρ σ' F ∧ Side Z H' F Fv ∧ ROds X.K σ' os vs Z H' Fv ∧ rdR X.K Z H' (fun a => F a ∨ Fv a) σ' W D (forLoop ρ0 os tg eb (ds.drop (i + 1)) ρ),
          fun σ' H' ⟨m', h1, h2⟩ => ⟨m', h1, h2⟩, fun x H' y => ?_⟩
        obtain ⟨Z1, F1, Fx, S1, r1, d1, z1, f1⟩ := Done.new S (hy x H' y)
        cases hgv : give ρ tg d with
        | none => rw [hgv] at q; exact q.elim
        | some ρ2 =>
          rw [hgv] at q
          have q : rdR X.K Z H (fun a => F a ∨ Fv a) σ W D (turnK (forLoop ρ0 os tg eb r) (eb ρ2)) := q
          refine give_ok S1 ⟨d1, z1⟩ r1 (give_imm hgv) fun σ2 F2 sm2 S2 ff => ?_
          have f2 : Frm Z H F Z1 H' F2 := f1.mono (fun _ h => h) fun c h => .inl (ff c h)
          refine ⟨Z1, ρ2, F2, S2, ?_⟩
          have again : ∀ ρ3, rdR X.K Z H (fun a => F a ∨ Fv a) σ W D (forLoop ρ0 os tg eb r ρ3) → ∀ σ' H2, Ran X.K Z1 H' F2 σ2 Wb ρ3 σ' H2 → ∃ m', m' < m ∧ m' = ds.length - (i + 1) ∧ i + 1 ≤ ds.length ∧ ∃ Z ρ F, St0 X.K Z H2 ρ σ' F ∧ Side Z H2 F Fv ∧ ROds X.K σ' os vs Z H2 Fv ∧ rdR X.K Z H2 (fun a => F a ∨ Fv a) σ' W D (forLoop ρ0 os tg eb (ds.drop (i + 1)) ρ) := by
            intro ρ3 q σ' H2 ⟨sm3, Z3, F3, S3, f3⟩
            have f13 := f2.trans f3
            obtain ⟨sd3, kp3⟩ := Side.go sd f13
            have sm : Same W σ σ' := (sm2.wide k1).trans (sm3.wide k2)
            exact ⟨ds.length - (i + 1), by omega, rfl, hlt, Z3, ρ3, F3, S3, sd3, (ro.keep f13.zs kp3).same sm hap, by rw [hr]; exact rdR.later q sm f13.both fun _ h => h⟩
          cases h2 : eb ρ2 with
          | fail => rw [h2] at q; exact q.elim
          | nx ρ3 => rw [h2] at q; exact again ρ3 q
          | ct ρ3 => rw [h2] at q; exact again ρ3 q
          | bk ρ3 =>
            rw [h2] at q
            intro σ' H2 ⟨sm3, Z3, F3, S3, f3⟩
            exact (show rdR X.K Z H (fun a => F a ∨ Fv a) σ W D (.nx ρ3) from q) σ' H2 ⟨(sm2.wide k1).trans (sm3.wide k2), Z3, F3, S3, (f2.trans f3).mono (fun c h => .inl h) fun c h => .inl h⟩
          | ret v ρ3 =>
            rw [h2] at q
            intro σ' y' H2 sm3 dn
            exact (show rdR X.K Z H (fun a => F a ∨ Fv a) σ W D (.ret v ρ3) from q) σ' y' H2 ((sm2.wide k1).trans (sm3.wide k2)) (by
              obtain ⟨Z4, F4, Fy, S4, r4, d4, z4, f4⟩ := dn
              exact ⟨Z4, F4, Fy, S4, r4, d4, z4, (f2.trans f4).mono (fun c h => .inl h) fun c h => .inl h⟩)
      · rw [if_neg st] at q; exact q.elim
end
end Mv
namespace Mv
open PySem PySem.Spec PyProof.Rows L2

theorem slotAt_set3 {ρ : Loc} {i j : Nat} {x : Slot} : slotAt (ρ.set i x) j = if j = i then (if i < ρ.length then x else none) else slotAt ρ j := by
  unfold slotAt
  rw [List.getElem?_set]
  by_cases e : i = j
  · subst e
    rw [if_pos rfl, if_pos rfl]
    by_cases l : i < ρ.length
    · rw [if_pos l, if_pos l]; cases x <;> rfl
    · rw [if_neg l, if_neg l]; rfl
  · rw [if_neg e, if_neg (fun z => e z.symm)]
theorem unwipe_len (ρ0 ρ : Loc) : ∀ own : List Nat, (unwipe ρ0 ρ own).length = ρ.length
  | [] => rfl
  | i :: is => by rw [unwipe, List.length_set, unwipe_len ρ0 ρ is]
theorem wipes_len (ρ : Loc) : ∀ own : List Nat, (wipes ρ own).length = ρ.length
  | [] => rfl
  | i :: is => by rw [wipes, List.length_set, wipes_len ρ is]
theorem slotAt_unwipe {ρ0 ρ : Loc} {j : Nat} {r : RV} : ∀ {own : List Nat}, slotAt (unwipe ρ0 ρ own) j = some r → (j ∈ own ∧ slotAt ρ0 j = some r) ∨ (j ∉ own ∧ slotAt ρ j = some r)
  | [], h => .inr ⟨by simp, h⟩
  | i :: is, h => by
    rw [unwipe, slotAt_set3] at h
    by_cases e : j = i
    · subst e
      rw [if_pos rfl] at h
      split at h
      · refine .inl ⟨by simp, ?_⟩
        unfold slotAt
        cases q : ρ0[j]? with
        | none => rw [q] at h; cases h
        | some x => rw [q] at h; exact h
      · cases h
    · rw [if_neg e] at h
      rcases slotAt_unwipe h with ⟨a, b⟩ | ⟨a, b⟩
      · exact .inl ⟨List.mem_cons_of_mem _ a, b⟩
      · exact .inr ⟨by simp [e, a], b⟩
theorem slotAt_wipes {ρ : Loc} {j : Nat} {r : RV} : ∀ {own : List Nat}, slotAt (wipes ρ own) j = some r → j ∉ own ∧ slotAt ρ j = some r
  | [], h => ⟨by simp, h⟩
  | i :: is, h => by
    rw [wipes, slotAt_set3] at h
    by_cases e : j = i
    · subst e
      rw [if_pos rfl] at h
      split at h <;> cases h
    · rw [if_neg e] at h
      obtain ⟨a, b⟩ := slotAt_wipes h
      exact ⟨by simp [e, a], b⟩
theorem slotAt_wipes_out {ρ : Loc} {j : Nat} : ∀ {own : List Nat}, j ∉ own → slotAt (wipes ρ own) j = slotAt ρ j
  | [], h => rfl
  | i :: is, h => by
    rw [wipes, slotAt_set3, if_neg (fun e => h (by simp [e]))]
    exact slotAt_wipes_out fun m => h (List.mem_cons_of_mem _ m)
theorem wipe_get {σ : L2.St} {j : Nat} : ∀ {own : List Nat}, (wipe σ own)[j]? = if j ∈ own then (if j < σ.length then some none else none) else σ[j]?
  | [] => by simp [wipe]
  | i :: is => by
    rw [wipe, List.getElem?_set, wipe_length, wipe_get (own := is)]
    by_cases e : i = j
    · subst e; simp
    · rw [if_neg e]
      by_cases c : j ∈ is
      · simp [c]
      · simp [c, Ne.symm e, fun z : j = i => e z.symm]
theorem wipe_same {σ σ' : L2.St} {own : List Nat} (s : Same own σ σ') : wipe σ' own = wipe σ own := by
  refine List.ext_getElem? fun j => ?_
  rw [wipe_get, wipe_get, s.1]
  by_cases c : j ∈ own
  · rw [if_pos c, if_pos c]
  · rw [if_neg c, if_neg c, s.2 j c]
theorem wipe_wipe {σ : L2.St} {own : List Nat} : wipe (wipe σ own) own = wipe σ own := wipe_same ⟨wipe_length _ _, fun j h => by rw [wipe_get, if_neg h]⟩
section
variable {K : Frag} {Z H : Hp} {F : Reg} {σ : L2.St} {ρ : Loc} {own : List Nat}
theorem St0.wipes (S : St0 K Z H ρ σ F) : St0 K Z H (Mv.wipes ρ own) (wipe σ own) F := by
  obtain ⟨G, g1, g2, g3⟩ := S.env
  refine ⟨S.sub, by rw [wipes_len, wipe_length]; exact S.len, S.dj, S.al, G, g1, g2, fun i r h => ?_⟩
  obtain ⟨a, b⟩ := slotAt_wipes h
  obtain ⟨v, hv, rv⟩ := g3 i r b
  exact ⟨v, by rw [wipe_get, if_neg a]; exact hv, rv⟩
theorem hideOk_of {ρ1 : Loc} : ∀ {own : List Nat} {j : Nat} {r : RV}, hideOk ρ1 own = true → j ∈ own → slotAt ρ1 j = some r → ∃ d, r = .imm d
  | i :: is, j, r, h, m, e => by
    rw [hideOk, Bool.and_eq_true] at h
    rcases List.mem_cons.mp m with z | z
    · subst z
      rw [e] at h
      cases r with
      | imm d => exact ⟨d, rfl⟩
      | _ => exact absurd h.1 (by simp)
    · exact hideOk_of h.2 z e
theorem St0.unwipe {Z1 H1 : Hp} {F1 : Reg} {ρ1 : Loc} (S : St0 K Z H (Mv.wipes ρ own) (wipe σ own) F) (S1 : St0 K Z1 H1 ρ1 σ F1) (s : Sub Z1 Z) (h : hideOk ρ1 own = true) : St0 K Z H (Mv.unwipe ρ1 ρ own) σ F := by
  obtain ⟨G, g1, g2, g3⟩ := S.env
  obtain ⟨E, e1, e2, e3⟩ := S1.env
  refine ⟨S.sub, by rw [unwipe_len]; have := S.len; rwa [wipes_len, wipe_length] at this, S.dj, S.al, G, g1, g2, fun i r hr => ?_⟩
  rcases slotAt_unwipe hr with ⟨a, b⟩ | ⟨a, b⟩
  · obtain ⟨d, rfl⟩ := hideOk_of h a b
    obtain ⟨v, hv, rv⟩ := e3 i _ b
    cases rv with
    | imm rv => exact ⟨v, hv, .imm (rv.sub s)⟩
  · obtain ⟨v, hv, rv⟩ := g3 i r (by rw [slotAt_wipes_out a]; exact b)
    rw [wipe_get, if_neg a] at hv
    exact ⟨v, hv, rv⟩
theorem stable_wipes {ρ0 : Loc} : ∀ {os : List Od}, apartO own os = true → stable ρ0 ρ os = true → stable ρ0 (Mv.wipes ρ own) os = true
  | [], _, _ => by rw [stable]
  | .inl i :: os, a, h => by
    rw [apartO, Bool.and_eq_true] at a
    rw [stable] at h ⊢
    rw [slotAt_wipes_out (by simpa using a.1)]
    rw [Bool.and_eq_true] at h ⊢
    exact ⟨h.1, stable_wipes a.2 h.2⟩
  | .inr x :: os, a, h => by
    rw [apartO] at a
    rw [stable] at h ⊢
    exact stable_wipes a h
/-- a thing beside the state is rewritten -/
theorem St0.beside {G : Reg} {p : Addr} {o : HO} (S : St0 K Z H ρ σ F) (sd : Side Z H F G) (gp : G p) : St0 K Z (upd H p o) ρ σ F := by
  obtain ⟨E, g1, g2, g3⟩ := S.env
  have zp := (sd.open_ p gp).1
  have nf : ∀ c, F c → c ≠ p := fun c f e => sd.apart c f (by rw [e]; exact gp)
  refine ⟨fun c u h => ?_, S.len, S.dj, fun c f => ?_, E, g1, g2, fun i r h => ?_⟩
  · rw [upd_ne (fun e => by rw [e, zp] at h; cases h)]; exact S.sub c u h
  · rw [upd_ne (nf c f)]; exact S.al c f
  · obtain ⟨v, hv, rv⟩ := g3 i r h
    exact ⟨v, hv, rv.keep (fun _ _ h => h) fun c u hc e => by rw [upd_ne (nf c (g1 i c hc))]; exact e⟩
theorem upd_live {H : Hp} {p c : Addr} {o : HO} (h : H c ≠ none) : upd H p o c ≠ none := by
  by_cases e : c = p
  · subst e; rw [upd_same]; exact fun z => by cases z
  · rw [upd_ne e]; exact h
theorem RepV.push {l : List RV} {a : Addr} {G Gx : Reg} {x : RV} {y : V} (h : RepV K Z H (.oL l) (.ref a) G) (hx : RepV K Z H x y Gx) (d : ∀ c, G c → ¬ Gx c) :
    ∃ vs, H a = some (.lst vs) ∧ G a ∧ vs.length = l.length ∧ RepV K Z (upd H a (.lst (vs ++ [y]))) (.oL (l ++ [x])) (.ref a) (fun c => G c ∨ Gx c) := by
  cases h with
  | oL E h1 h2 h3 h4 h5 h6 =>
    rename_i vs
    refine ⟨vs, h1, h2, h3.symm, RepV.relist (fun j c => (j < l.length ∧ E j c) ∨ (j = l.length ∧ Gx c)) (.inl h2) (by simp [h3]) (fun j c f => ?_) (fun i j c ne f g => ?_) fun j z v e1 e2 => ?_⟩
    · rcases f with f | f
      · exact ⟨.inl (h4 j c f.2).1, (h4 j c f.2).2⟩
      · exact ⟨.inr f.2, fun e => by subst e; exact d c h2 f.2⟩
    · rcases f with f | f <;> rcases g with g | g
      · exact h5 i j c ne f.2 g.2
      · exact d c (h4 i c f.2).1 g.2
      · exact d c (h4 j c g.2).1 f.2
      · exact ne (f.1.trans g.1.symm)
    · by_cases c : j < l.length
      · rw [List.getElem?_append_left c] at e1
        rw [List.getElem?_append_left (by rw [← h3]; exact c)] at e2
        exact (h6 j z v e1 e2).wider fun b f => .inl ⟨c, f⟩
      · have hl : j = l.length := by
          have := (List.getElem?_eq_some_iff.mp e1).1
          simp at this
          omega
        subst hl
        rw [List.getElem?_append_right (Nat.le_refl _)] at e1
        have e2 : (vs ++ [y])[vs.length]? = some v := by rw [← h3]; exact e2
        rw [List.getElem?_append_right (Nat.le_refl _)] at e2
        simp at e1 e2
        subst e1; subst e2
        exact hx.wider fun b f => .inr ⟨rfl, f⟩
end
section
variable {K : Frag} {ev : Loc → Res (List Od × List D)} {tt : Loc → Res Bool} {te : Loc → Res RV} {tg : Tg} {own : List Nat}
theorem setLen : ∀ {is : List Nat} {ds : List D} {ρ ρ2 : Loc}, setAll ρ is ds = some ρ2 → ρ2.length = ρ.length
  | [], [], ρ, ρ2, h => by simp [setAll] at h; rw [h]
  | i :: is, d :: ds, ρ, ρ2, h => by
    rw [setAll] at h
    rw [setLen h, List.length_set]
  | [], _ :: _, ρ, ρ2, h => by simp [setAll] at h
  | _ :: _, [], ρ, ρ2, h => by simp [setAll] at h
theorem give_len {ρ : Loc} {tg : Tg} {d : D} {ρ2 : Loc} (h : give ρ tg d = some ρ2) : ρ2.length = ρ.length := by
  cases tg with
  | name i => simp only [give] at h; cases h; rw [List.length_set]
  | tup is =>
    cases d with
    | tup ds => exact setLen h
    | _ => simp [give] at h
theorem addK_next {k : List RV → Loc → Res RV} {acc : List RV} {r : Res (Option RV)} {ρ1 : Loc} {x : RV} {ρ' : Loc} (h : compEnd ρ1 own (addK k acc r) = .ok x ρ') :
    (∃ y ρ2, r = .ok (some y) ρ2 ∧ acc.length < LINE ∧ compEnd ρ1 own (k (acc ++ [y]) ρ2) = .ok x ρ') ∨ ∃ ρ2, r = .ok none ρ2 ∧ compEnd ρ1 own (k acc ρ2) = .ok x ρ' := by
  cases r with
  | fail => cases h
  | ok o ρ2 =>
    cases o with
    | none => exact .inr ⟨ρ2, rfl, h⟩
    | some y =>
      have h : compEnd ρ1 own (if acc.length < LINE then k (acc ++ [y]) ρ2 else .fail) = .ok x ρ' := h
      by_cases c : acc.length < LINE
      · rw [if_pos c] at h; exact .inl ⟨y, ρ2, rfl, c, h⟩
      · rw [if_neg c] at h; cases h
theorem lc_of (hts : ∀ i, i ∈ tg.slots → i ∈ own) {σ : L2.St} {H : Hp} {Q : VK} (h : rd K (fun ρ => compK tg own tt te (ev ρ)) (RAv K) σ H Q) : tLc (rdI K ev) (gTg K tg) (rd K tt RAb) (rd K te (RAv K)) own σ H Q := by
  obtain ⟨Z, ρ, F, S, x, ρ', e0, q⟩ := h
  have e0 : compK tg own tt te (ev ρ) = .ok x ρ' := e0
  cases h0 : ev ρ with
  | fail => rw [h0] at e0; cases e0
  | ok p ρ1 =>
    obtain ⟨os, ds⟩ := p
    rw [h0] at e0
    have e0 : (if (hideOk ρ1 own && apartO own os) = true then compEnd ρ1 own (compLoop ρ1 os tg own tt te ds [] ρ1) else .fail) = .ok x ρ' := e0
    by_cases hh : (hideOk ρ1 own && apartO own os) = true
    · rw [if_pos hh] at e0
      rw [Bool.and_eq_true] at hh
      obtain ⟨hid, hap⟩ := hh
      refine ⟨Z, ρ, F, S, os, ds, ρ1, h0, fun J H0 Z0 F0 Fv vs ⟨S0, sd0, r0, st0⟩ f0 wk Dd hD => ?_⟩
      have zD := S0.sub.none hD
      have nFD : ¬ F0 Dd := S0.none_ hD
      have nvD : ¬ Fv Dd := fun f => (sd0.open_ Dd f).2 hD
      have sUp : Sub H0 (upd H0 Dd (.lst [])) := sub_upd hD
      refine ⟨fun i m H => m = ds.length - i ∧ i ≤ ds.length ∧ ∃ Z ρ F Ga acc, St0 K Z H (wipes ρ own) (wipe σ own) F ∧ Side Z H F Ga ∧ Side Z H F Fv ∧ (∀ a, Ga a → ¬ Fv a) ∧ ROds K (wipe σ own) os vs Z H Fv ∧ RepV K Z H (.oL acc) (.ref Dd) Ga ∧
          Frm Z0 H0 F0 Z H (fun a => F a ∨ Ga a) ∧ compEnd ρ1 own (compLoop ρ1 os tg own tt te (ds.drop i) acc ρ) = .ok x ρ',
        ⟨ds.length, by simp, Nat.zero_le _, Z0, ρ1, F0, fun a => a = Dd, [], ?_, ?_, ?_, ?_, ?_, ?_, ?_, e0⟩, fun i m H ⟨hm, hi, Z, ρ, F, Ga, acc, S, sdA, sd, dAv, ro, hA, f, e⟩ => ?_⟩
      · have S0' := S0.wipes (own := own)
        exact S0'.new (fun a o h => sUp a o (S0.sub a o h)) sUp (fun _ _ h => h) fun _ _ h => .inl h
      · exact ⟨fun a f e => by subst e; exact nFD f, fun a e => by subst e; exact ⟨zD, by rw [upd_same]; exact fun z => by cases z⟩⟩
      · exact ⟨sd0.apart, fun a f => ⟨(sd0.open_ a f).1, upd_live (sd0.open_ a f).2⟩⟩
      · intro a e f; subst e; exact nvD f
      · refine ROds.keep (fun _ _ h => h) (fun a o f h => sUp a o h) ?_
        refine ROds.same (W := own) (σ := σ) ⟨wipe_length _ _, fun j hj => ?_⟩ hap r0
        rw [wipe_get, if_neg hj]
      · exact .oL (fun _ _ => False) upd_same rfl rfl (fun _ _ z => z.elim) (fun _ _ _ _ z => z.elim) fun i x v a b => by simp at a
      · exact ⟨fun a o h _ => sUp a o h, fun a f => by
          rcases f with f | f
          · exact .inl f
          · subst f; exact .inr hD, fun _ _ h => h, fun _ _ h => .inl h⟩
      -- a turn
      have stw : ∀ {b : Bool}, True → True := fun _ => trivial
      cases hd : ds.drop i with
      | nil =>
        rw [hd] at e
        have hl : i = ds.length := by
          have := congrArg List.length hd
          simp at this
          omega
        subst hl
        have e : compEnd ρ1 own (if stable ρ1 ρ os = true then .ok (.oL acc) ρ else .fail) = .ok x ρ' := e
        by_cases st : stable ρ1 ρ os = true
        · rw [if_pos st] at e
          have e : Res.ok (RV.oL acc) (unwipe ρ1 ρ own) = .ok x ρ' := e
          cases e
          refine .inl ⟨wk.stop _ Z H _ F ⟨S, sd, ro, stable_wipes hap st⟩, q _ H ⟨Z, F, Ga, S.unwipe S0 f.zs hid, hA, sdA.apart, sdA.open_, ?_⟩⟩
          exact f0.trans (f.mono (fun c h => .inl h) fun c h => .inl h)
        · rw [if_neg st] at e; cases e
      | cons d r =>
        rw [hd] at e
        have e : compEnd ρ1 own (if stable ρ1 ρ os = true then addK (compLoop ρ1 os tg own tt te r) acc (testK te (giveT tt (give (wipes ρ own) tg d))) else .fail) = .ok x ρ' := e
        by_cases st : stable ρ1 ρ os = true
        · rw [if_pos st] at e
          have hlt : i < ds.length := by
            have := congrArg List.length hd
            simp at this
            omega
          have hget : ds[i]? = some d := by
            have : (ds.drop i)[0]? = some d := by rw [hd]; rfl
            simpa using this
          have hr : ds.drop (i + 1) = r := by
            have := congrArg List.tail hd
            simpa using this
          obtain ⟨go, hy⟩ := wk.item i d hget _ Z H _ F ⟨S, sd, ro, stable_wipes hap st⟩
          refine .inr ⟨go, _, fun H' h => h, fun y H' yd => ?_⟩
          obtain ⟨Z1, F1, Fx, S1, r1, d1, z1, f1⟩ := Done.new S (hy y H' yd)
          cases hgv : give (wipes ρ own) tg d with
          | none =>
            rw [hgv] at e
            rcases addK_next e with ⟨_, _, h, _⟩ | ⟨_, h, _⟩ <;> cases h
          | some ρ2 =>
            rw [hgv] at e
            refine give_ok S1 ⟨d1, z1⟩ r1 (give_imm hgv) fun σ2 F2 sm2 S2 ff => ?_
            have f2 : Frm Z H F Z1 H' F2 := f1.mono (fun _ h => h) fun c h => .inl (ff c h)
            have hw2 : wipe σ2 own = wipe σ own := by
              rw [wipe_same (sm2.wide hts), wipe_wipe]
            refine ⟨hw2, ?_⟩
            have e : compEnd ρ1 own (addK (compLoop ρ1 os tg own tt te r) acc (testK te (tt ρ2))) = .ok x ρ' := e
            cases ht : tt ρ2 with
            | fail =>
              rw [ht] at e
              rcases addK_next e with ⟨_, _, h, _⟩ | ⟨_, h, _⟩ <;> cases h
            | ok b ρ3 =>
              rw [ht] at e
              refine rd_bool S2 ht fun Z3 H3 F3 S3 f3 => ?_
              have f23 := f2.trans f3
              cases b with
              | false =>
                rw [if_neg (by decide)]
                rcases addK_next e with ⟨_, _, h, _⟩ | ⟨ρ4, h, e⟩
                · cases h
                cases h
                obtain ⟨sdA3, kpA⟩ := Side.go sdA f23
                obtain ⟨sd3, kp⟩ := Side.go sd f23
                refine ⟨ds.length - (i + 1), by omega, rfl, hlt, Z3, ρ3, F3, Ga, acc, hw2 ▸ S3.wipes, sdA3, sd3, dAv, ro.keep f23.zs kp, hA.keep f23.zs kpA, f.trans f23.both, by rw [hr]; exact e⟩
              | true =>
                rw [if_pos rfl]
                cases hx : te ρ3 with
                | fail =>
                  have e : compEnd ρ1 own (addK (compLoop ρ1 os tg own tt te r) acc (mapR some (te ρ3))) = .ok x ρ' := e
                  rw [hx] at e
                  cases e
                | ok xv ρ4 =>
                  have e : compEnd ρ1 own (addK (compLoop ρ1 os tg own tt te r) acc (mapR some (te ρ3))) = .ok x ρ' := e
                  rw [hx] at e
                  rcases addK_next e with ⟨y4, ρ5, h, hacc, e⟩ | ⟨_, h, _⟩
                  · cases h
                    refine ⟨Z3, ρ3, F3, S3, xv, ρ4, hx, fun yv H4 ⟨Z4, F4, Fy, S4, r4, d4, z4, f4⟩ => ?_⟩
                    have f24 : Frm Z H F Z4 H4 (fun a => F4 a ∨ Fy a) := f23.trans f4
                    obtain ⟨sdA4, kpA⟩ := Side.go sdA f24
                    obtain ⟨sd4, kp⟩ := Side.go sd f24
                    obtain ⟨vs0, k1, k2, k3, k4⟩ := RepV.push (hA.keep f24.zs kpA) r4 fun c g y => sdA4.apart c (.inr y) g
                    refine ⟨vs0, k1, by rw [k3]; exact hacc, ds.length - (i + 1), by omega, rfl, hlt, Z4, ρ4, F4, fun a => Ga a ∨ Fy a, acc ++ [xv], ?_, ?_, ?_, ?_, ?_, k4, ?_, by rw [hr]; exact e⟩
                    · refine hw2 ▸ (S4.beside ⟨fun a f g => sdA4.apart a (.inl f) g, sdA4.open_⟩ k2).wipes
                    · refine ⟨fun a f g => ?_, fun a g => ?_⟩
                      · rcases g with g | g
                        · exact sdA4.apart a (.inl f) g
                        · exact d4 a f g
                      · rcases g with g | g
                        · exact ⟨(sdA4.open_ a g).1, upd_live (sdA4.open_ a g).2⟩
                        · exact ⟨(z4 a g).1, upd_live (z4 a g).2⟩
                    · exact ⟨fun a f g => sd4.apart a (.inl f) g, fun a g => ⟨(sd4.open_ a g).1, upd_live (sd4.open_ a g).2⟩⟩
                    · intro a g h
                      rcases g with g | g
                      · exact dAv a g h
                      · exact sd4.apart a (.inr g) h
                    · exact ro.keep f24.zs fun a o g h => by rw [upd_ne (fun e => by subst e; exact dAv a k2 g)]; exact kp a o g h
                    · refine (f.trans (f24.mono (F0 := fun a => F a ∨ Ga a) (F2 := fun a => F4 a ∨ (Ga a ∨ Fy a)) (fun c h => .inl h) fun c h => ?_)).trans ?_
                      · rcases h with h | h | h
                        · exact .inl (.inl h)
                        · exact .inr (.inl (.inr h))
                        · exact .inl (.inr h)
                      · exact ⟨fun a o h n => by rw [upd_ne (fun e => by subst e; exact n (.inr (.inl k2)))]; exact h, fun a h => .inl h, fun _ _ h => h, fun _ _ h => .inl h⟩
                  · cases h
        · rw [if_neg st] at e; cases e
    · rw [if_neg hh] at e0; cases e0
end
section
variable {X : Cx} {elt tge iter : Expr} {ifs : List Expr} {scope : Scope} {own : List (Str × Nat)} {pos spos : Pos} {tg : Tg} {ev : Loc → Res (List Od × List D)} {tt : Loc → Res Bool} {te : Loc → Res RV}
theorem se_comp (hc : X.calm = true) (hN : X.N.Nodup) (hi : PI X tge iter (rdI X.K ev)) (ok : BlkOk X.N X.env.scope scope own) (hts : ∀ i, i ∈ tg.slots → i ∈ own.map (·.2))
    (hg : ∀ (s : Shared) (H : Hp) (C : Addr) (cl : List (Str × Addr)) (fp : List Addr), PG (X.blk s H scope (compEnvC scope cl C X.env) fp) tge (gTg X.K tg)) (ht : ∀ (s : Shared) (H : Hp) (C : Addr) (cl : List (Str × Addr)) (fp : List Addr), PTs (X.blk s H scope (compEnvC scope cl C X.env) fp) ifs (rd X.K tt RAb))
    (he : ∀ (s : Shared) (H : Hp) (C : Addr) (cl : List (Str × Addr)) (fp : List Addr), SE (X.blk s H scope (compEnvC scope cl C X.env) fp) elt te) (hs : ∀ x, foldedSetIterable iter X.env x = pure x) :
    SE X (.ListComp elt [⟨tge, iter, ifs, 0⟩] scope pos) fun ρ => compK tg (own.map (·.2)) tt te (ev ρ) :=
  PE_imp (pe_lc hc hN hi ok hg ht he hs) fun σ H Q h => lc_of hts h
theorem ss_setComp {i : Nat} {y : Str} {py : Pos} (hc : X.calm = true) (hN : X.N.Nodup) (hy : X.N[i]? = some y) (hyl : X.env.scope.names.lookup y = some .local)
    (hsw : swapsWith (.ListComp elt [⟨tge, iter, ifs, 0⟩] scope pos) (some (.Name y py)) spos.line X.env = pure true) (hi : PI X tge iter (rdI X.K ev)) (ok : BlkOk X.N X.env.scope scope own) (hts : ∀ i, i ∈ tg.slots → i ∈ own.map (·.2))
    (hg : ∀ (s : Shared) (H : Hp) (C : Addr) (cl : List (Str × Addr)) (fp : List Addr), PG (X.blk s H scope (compEnvC scope cl C X.env) fp) tge (gTg X.K tg)) (ht : ∀ (s : Shared) (H : Hp) (C : Addr) (cl : List (Str × Addr)) (fp : List Addr), PTs (X.blk s H scope (compEnvC scope cl C X.env) fp) ifs (rd X.K tt RAb))
    (he : ∀ (s : Shared) (H : Hp) (C : Addr) (cl : List (Str × Addr)) (fp : List Addr), SE (X.blk s H scope (compEnvC scope cl C X.env) fp) elt te) (hs : ∀ x, foldedSetIterable iter X.env x = pure x) :
    SS X (.Assign [.Name y py] (.ListComp elt [⟨tge, iter, ifs, 0⟩] scope pos) spos) (fun ρ => asgK (.name i) (compK tg (own.map (·.2)) tt te (ev ρ))) [i] :=
  ss_asg (PS_imp (ps_setLc hc hN hy hyl hsw hi ok hg ht he hs) fun D σ H h => lc_of hts h)
end
end Mv
namespace Mv
open PySem PySem.Spec PyProof.Rows L2
section
variable {X : Cx}
/-- the receiver is of that type, and has no dict of its own -/
def tyX (K : Frag) (T : String) (x : V) (H : Hp) : Prop := tyV K T x H ∨ (T = "tuple" ∧ ∃ p ys, x = .ref p ∧ SqN K H p ys)
theorem tyX_is {pins : List (Addr × Obj)} {σ : L2.St} {H : Hp} {s : Shared} {T : String} {x : V} {v : Value} (I : Inv X pins σ H s) (rv : RelV x v) (ty : tyX X.K T x H) :
    s.TypeIs v T ∧ ∀ a, v = .ref a → ∃ ob, s.heap.get? a = some ob ∧ ob.dict = none := by
  rcases ty with ty | ⟨rfl, p, ys, rfl, hs, hb⟩
  · exact tyV_is I rv ty
  · cases rv
    obtain ⟨_, _, pl, _⟩ := I.tuple hs
    refine ⟨pl.typeIs, fun a e => ?_⟩
    cases e
    rcases hb with ⟨o, u, h, b⟩ | ⟨o, h, b⟩
    · exact ⟨o, (I.hok _ _ h).1, b.2⟩
    · exact ⟨o, I.kIn _ o h, b.2⟩
def tMet (X : Cx) (name : Str) (to te : TE) : TE := fun σ H Q => to σ H fun x H1 => ∃ (T id : String) (r : V → List V → Hp → VK → Prop), PlainAttrs T ∧ PySem.Slot T name id ∧ typeOf (.builtin id) = pure (.type "method_descriptor") ∧ MtR X id r ∧ tyX X.K T x H1 ∧
  te σ H1 fun y H2 => r x [y] H2 Q
theorem pe_met {o e : Expr} {to te : TE} {name : Str} {apos cpos : Pos} (ho : PE X o to) (he : PE X e te) (hbase : attributeBase o name X.env (eval o X.env) = eval o X.env) (hline : (apos.endLine == cpos.line) = true)
    (hs : starEach [e] X.env = [(false, eval e X.env)]) : PE X (.Call (.Attribute o name apos) [e] [] cpos) (tMet X name to te) := by
  have hb : backTo cpos (starEach [e] X.env) = [(false, eval e X.env)] := by rw [hs]; rfl
  constructor
  intro pins s σ H Q I h
  apply wpAny_Call_method_late hbase _ hline rfl
  · refine thn (ho.run pins s σ H _ I h) ?_
    rintro v s1 ⟨x, H1, I1, r1, T, id, r, pa, slot, hty, hm, ty, q1⟩
    obtain ⟨h1, h2⟩ := tyX_is I1 r1 ty
    refine ⟨T, id, pa, slot, hty, h1, h2, ?_⟩
    rw [hb]
    refine Calls.callWith_builtin rfl (Calls.evalArgs_plain (Calls.spliced_cons (thn (he.run pins s1 σ H1 _ I1 q1) ?_)))
    rintro u s2 ⟨y, H2, I2, r2, q2⟩
    exact Calls.spliced_nil (hm pins s2 σ H2 x [y] v [u] Q I2 r1 (.cons r2 .nil) q2)
  · rw [hb]; rfl
/-- the rule of such a method -/
def rM (f : Op) (K : Frag) : V → List V → Hp → VK → Prop := fun x xs H Q => ∃ y, xs = [y] ∧ M2 K (fun a b => f.ap [a, b]) x y H Q
theorem mtR_imp {id : String} {r r' : V → List V → Hp → VK → Prop} (h : MtR X id r) (k : ∀ x xs H Q, r' x xs H Q → r x xs H Q) : MtR X id r' := fun pins s σ H x xs v us Q I rx rs q => h pins s σ H x xs v us Q I rx rs (k _ _ _ _ q)
theorem strs_of {K : Frag} {Z : Hp} : ∀ {l : List D} {ys : List (List Nat)} {vs : List V}, strs? l = some ys → RepDs K Z l vs → vs = (ys.map toStr).map V.str
  | [], ys, vs, e, r => by simp [strs?] at e; subst e; rw [repDs_nil r]; rfl
  | d :: l, ys, vs, e, r => by
    obtain ⟨v, t, rfl, r1, r2⟩ := repDs_cons r
    cases d <;> simp only [strs?, reduceCtorEq] at e
    cases q : strs? l with
    | none => rw [q] at e; cases e
    | some zs => rw [q] at e; cases e; cases r1; rw [strs_of q r2]; rfl
theorem repDs_strs {K : Frag} {Z : Hp} (ys : List Str) : RepDs K Z ((ys.map fun z => z.cps.toList).map D.str) (ys.map V.str) := by
  refine ⟨by simp, fun i d v a b => ?_⟩
  rw [List.getElem?_map, List.getElem?_map] at a
  rw [List.getElem?_map] at b
  cases q : ys[i]? with
  | none => rw [q] at a; cases a
  | some y =>
    rw [q] at a b
    cases a; cases b
    have := RepD.str (K := K) (Z := Z) y.cps.toList
    rwa [show toStr y.cps.toList = y from by unfold toStr; simp] at this
theorem mr_split : MtR X "str.split" (rM .split X.K) := by
  refine mtR_imp mt_split fun x xs H Q hx => ?_
  obtain ⟨y, ex, Z, a, b, r, s, ha, hb, e, q⟩ := hx
  replace e : apSplit a b = some r := e
  cases a <;> try (simp [apSplit] at e; done)
  cases b <;> try (simp [apSplit] at e; done)
  cases ha.str_; cases hb.str_
  rename_i z t
  simp only [apSplit] at e
  by_cases c : t ≠ [] ∧ z.length + 2 ≤ LINE
  · rw [if_pos c] at e
    cases e
    refine ⟨_, _, rfl, ex, ?_, by rw [toStr_len]; exact c.2, fun p n => q _ _ ?_⟩
    · rw [toStr_len]
      exact beq_false_of_ne fun w => c.1 (List.length_eq_zero_iff.mp w)
    · have := New.lst s n (repDs_strs (K := X.K) (Z := Z) (Txt.split (toStr z) (toStr t)))
      rw [List.map_map] at this
      exact this
  · rw [if_neg c] at e; cases e
theorem mr_indexT : MtR X "tuple.index" (rM .indexT X.K) := by
  refine mtR_imp mt_tup_index fun x xs H Q hx => ?_
  obtain ⟨y, ex, Z, a, b, r, s, ha, hb, e, q⟩ := hx
  replace e : apIndexT a b = some r := e
  cases a <;> try (simp [apIndexT] at e; done)
  cases b <;> try (simp [apIndexT] at e; done)
  cases hb.str_
  rename_i l z
  obtain ⟨p, vs, rfl, h1, h2⟩ := ha.tup_
  simp only [apIndexT] at e
  cases hs : strs? l with
  | none => rw [hs] at e; cases e
  | some ys =>
    rw [hs, Option.bind_some] at e
    by_cases c : z ∈ ys
    · rw [if_pos c] at e
      cases e
      have ev := strs_of hs h2
      subst ev
      have lt : ys.idxOf z < ys.length := List.idxOf_lt_length_iff.mpr c
      refine ⟨p, ys.map toStr, toStr z, ys.idxOf z, rfl, ex, s.sqT h1, ?_, fun m hm w => ?_, fin_old s q (.int _)⟩
      · rw [List.getElem?_map, List.getElem?_eq_getElem lt, List.getElem_idxOf lt]; rfl
      · rw [List.getElem?_map] at w
        have lm : m < ys.length := by omega
        rw [List.getElem?_eq_getElem lm] at w
        have w : toStr ys[m] = toStr z := Option.some.inj w
        have w : ys[m] = z := by
          have : (toStr ys[m] == toStr z) = true := by rw [w]; exact beq_self_eq_true _
          rw [toStr_inj] at this
          exact eq_of_beq this
        have := List.not_of_lt_findIdx (show m < ys.findIdx (· == z) from hm)
        rw [w] at this
        simp at this
    · rw [if_neg c] at e; cases e
theorem mr_indexL (hu : X.A.units + 65 < cLine) : MtR X "list.index" (rM .indexL X.K) := by
  refine mtR_imp (mt_indexD hu) fun x xs H Q hx => ?_
  obtain ⟨y, ex, Z, a, b, r, s, ha, hb, e, q⟩ := hx
  replace e : apIndexL a b = some r := e
  cases a <;> try (simp [apIndexL] at e; done)
  rename_i l
  simp only [apIndexL] at e
  by_cases c : okEq b = true ∧ okEq (.lst l) = true
  · rw [if_pos c] at e
    obtain ⟨n1, s1⟩ := okEq_shaped c.1
    obtain ⟨n2, s2⟩ := okEq_shaped c.2
    cases hf : l.findIdx? (fun z => deq z b) with
    | none => rw [hf] at e; cases e
    | some i =>
      rw [hf] at e
      cases e
      obtain ⟨p, vs, rfl, h1, h2⟩ := ha.lst_ s
      obtain ⟨lt, w1, w2⟩ := List.findIdx?_eq_some_iff_getElem.mp hf
      have nl : nds l = true := by rw [D.nd] at n2; exact n2
      have nn : ∀ z, z ∈ l → z.nd = true := by
        clear hf w2 w1 lt h2 s2 c n2 ha
        induction l with
        | nil => intro z h; cases h
        | cons d t ih =>
          rw [nds, Bool.and_eq_true] at nl
          intro z h
          rcases List.mem_cons.mp h with rfl | h
          · exact nl.1
          · exact ih nl.2 z h
      have tps : ∀ m : List D, toPs m = m.map toP := fun m => by
        induction m with
        | nil => rw [toPs]; rfl
        | cons d t ih => rw [toPs, ih]; rfl
      have dl : Dp X.K H (.ref p) (.list (toPs l)) := by
        have := RepW.dp s n2 ha
        rwa [toP] at this
      rw [toP] at s2
      refine ⟨p, y, toP b, toPs l, i, toP l[i], rfl, ex, dl, RepW.dp s n1 hb, s2, s1, by rw [tps, List.getElem?_map, List.getElem?_eq_getElem lt]; rfl, by rw [eqv_of _ _ (nn _ (List.getElem_mem lt)) n1]; exact w1, fun m z' hm hz => ?_, fin_old s q (.int _)⟩
      have lm : m < l.length := by omega
      rw [tps, List.getElem?_map, List.getElem?_eq_getElem lm] at hz
      cases hz
      rw [eqv_of _ _ (nn _ (List.getElem_mem lm)) n1]
      simpa using w2 m hm
  · rw [if_neg c] at e; cases e
theorem se_met {o e : Expr} {q : Mq} {nm : Str} {eva evb : Mv.Loc → Res Od} {apos cpos : Pos} (hu : X.A.units + 65 < cLine) (hq : (q = .split ∧ nm = "split") ∨ (q = .index ∧ nm = "index")) (ho : SO X o eva) (he : SO X e evb)
    (hbase : attributeBase o nm X.env (eval o X.env) = eval o X.env) (hline : (apos.endLine == cpos.line) = true) (hs : starEach [e] X.env = [(false, eval e X.env)]) :
    SE X (.Call (.Attribute o nm apos) [e] [] cpos) fun ρ => metK q (fun ρ1 => consK nilE (evb ρ1)) (eva ρ) := by
  refine PE_imp (pe_met ho he hbase hline hs) fun σ H Q ⟨Z, ρ, F, S, z, ρ', e0, qq⟩ => ?_
  cases h1 : eva ρ with
  | fail => simp only [h1, metK, reduceCtorEq] at e0
  | ok od ρ1 =>
    simp only [h1, metK] at e0
    cases hm : q.op (lookO ρ1 od) with
    | none => simp only [hm, metO, reduceCtorEq] at e0
    | some f =>
      simp only [hm, metO] at e0
      cases h2 : evb ρ1 with
      | fail => simp only [h2, consK, mapR, opK, reduceCtorEq] at e0
      | ok o2 ρ2 =>
        simp only [h2, consK, mapR, opK] at e0
        cases hl : lookO ρ2 od with
        | none => simp only [looks, hl, apO, someR, reduceCtorEq] at e0
        | some d =>
          cases hl2 : lookO ρ2 o2 with
          | none => simp only [looks, hl, hl2, apO, someR, reduceCtorEq] at e0
          | some d2 =>
            simp only [looks, hl, hl2, apO] at e0
            cases hg : f.ap [d, d2] with
            | none => simp only [hg, someR, reduceCtorEq] at e0
            | some w =>
              simp only [hg, someR] at e0
              cases e0
              refine ⟨Z, ρ, F, S, od, ρ1, h1, fun x H1 ⟨Z1, F1, Fv1, S1, r1, d1, z1, f1⟩ => ?_⟩
              have rest : ∀ (T id : String), PlainAttrs T → PySem.Slot T nm id → typeOf (.builtin id) = pure (.type "method_descriptor") → MtR X id (rM f X.K) → tyX X.K T x H1 →
                  ∃ (T id : String) (r : V → List V → Hp → VK → Prop), PlainAttrs T ∧ PySem.Slot T nm id ∧ typeOf (.builtin id) = pure (.type "method_descriptor") ∧ MtR X id r ∧ tyX X.K T x H1 ∧ rd X.K evb (RAo X.K) σ H1 fun y H2 => r x [y] H2 Q := fun T id a1 a2 a3 a4 a5 =>
                ⟨T, id, _, a1, a2, a3, a4, a5, Z1, ρ1, F1, S1, o2, ρ', h2, fun y H2 ⟨Z2, F2, Fv2, S2, r2, d2', z2, f2⟩ => by
                  obtain ⟨_, kp⟩ := Side.go ⟨d1, z1⟩ f2
                  exact ⟨y, rfl, Z2, d, d2, _, S2.sub, look_ok S2 (r1.keep f2.zs kp) hl, look_ok S2 r2 hl2, hg, fun v H' n => qq v H' (Done.after f1 (Done.after f2 (Done.new S2 n)))⟩⟩
              cases hd : lookO ρ1 od with
              | none => rw [hd] at hm; rcases hq with ⟨rfl, _⟩ | ⟨rfl, _⟩ <;> cases hm
              | some dd =>
                have rr := look_ok S1 r1 hd
                rw [hd] at hm
                rcases hq with ⟨rfl, rfl⟩ | ⟨rfl, rfl⟩
                · cases dd <;> try (cases hm; done)
                  cases hm
                  cases rr.str_
                  exact rest "str" _ PySem.F.plainAttrs_str PySem.F.slot_str_split PySem.F.type_str_split mr_split (.inl rfl)
                · cases dd <;> try (cases hm; done)
                  · cases hm
                    obtain ⟨p, vs, rfl, h3, _⟩ := rr.tupN_
                    exact rest "tuple" _ PySem.F.plainAttrs_tuple PySem.F.slot_tuple_index PySem.F.type_tuple_index mr_indexT (.inr ⟨rfl, p, vs, rfl, S1.sub.sqN h3⟩)
                  · cases hm
                    obtain ⟨p, vs, rfl, h3, _⟩ := rr.lst_ S1.sub
                    exact rest "list" _ PySem.F.plainAttrs_list PySem.F.slot_list_index PySem.F.type_list_index (mr_indexL hu) (.inl (.inl ⟨rfl, vs, SqL.of h3⟩))

theorem mcn2 {K : Frag} {f : Op} {g : D → D → Option RV} (hf : ∀ ds r, f.ap ds = some r → ∃ a b, ds = [a, b] ∧ g a b = some r) {xs : List V} {H : Hp} {Q : VK} (h : MCn K f.ap xs H Q) : ∃ x y, xs = [x, y] ∧ M2 K g x y H Q := by
  obtain ⟨Z, ds, r, s, rr, e, q⟩ := h
  obtain ⟨a, b, rfl, e2⟩ := hf ds r e
  obtain ⟨v, t, rfl, r1, r2⟩ := rr
  obtain ⟨u, t', rfl, r3, r4⟩ := r2
  have r4' : t' = [] := r4
  subst r4'
  exact ⟨v, u, rfl, Z, a, b, r, s, r1, r3, e2, q⟩
theorem two_max (ds : List D) (r : RV) (h : Op.ap .max ds = some r) : ∃ a b, ds = [a, b] ∧ apMax a b = some r := by
  match ds, h with
  | [a, b], h => exact ⟨a, b, rfl, h⟩
theorem two_min (ds : List D) (r : RV) (h : Op.ap .min ds = some r) : ∃ a b, ds = [a, b] ∧ apMin a b = some r := by
  match ds, h with
  | [a, b], h => exact ⟨a, b, rfl, h⟩
theorem boot_max : bootBuiltins "max" = some (.builtin "max") := by decide +kernel
theorem boot_min : bootBuiltins "min" = some (.builtin "min") := by decide +kernel
theorem k_max (hc : X.calm = true) : CallR X (.builtin "max") (MCn X.K (Op.ap .max)) := by
  refine callR_imp (call_max2 hc) fun xs H Q h => ?_
  obtain ⟨x, y, rfl, Z, a, b, r, s, ha, hb, e, q⟩ := mcn2 two_max h
  cases a <;> try (simp [apMax] at e; done)
  cases b <;> try (simp [apMax] at e; done)
  cases ha.int_; cases hb.int_
  simp only [apMax] at e
  cases e
  exact ⟨_, _, rfl, fin_old s q (.int _)⟩
theorem k_min (hc : X.calm = true) : CallR X (.builtin "min") (MCn X.K (Op.ap .min)) := by
  refine callR_imp (call_min2 hc) fun xs H Q h => ?_
  obtain ⟨x, y, rfl, Z, a, b, r, s, ha, hb, e, q⟩ := mcn2 two_min h
  cases a <;> try (simp [apMin] at e; done)
  cases b <;> try (simp [apMin] at e; done)
  cases ha.int_; cases hb.int_
  simp only [apMin] at e
  cases e
  exact ⟨_, _, rfl, fin_old s q (.int _)⟩
theorem maxOf_int (x : Int) (l : List Int) : PySem.W.maxOf x l = mxI x l := by
  unfold PySem.W.maxOf mxI
  congr 1
  funext a y
  show (if decide (a < y) = true then y else a) = _
  by_cases c : a < y
  · rw [if_pos c, if_pos (decide_eq_true c)]
  · rw [if_neg c, if_neg (by simpa using c)]
/-- max(xs, default=d) -/
theorem k_maxd (hc : X.calm = true) (hu : X.A.units + 66 < cLine) : CallRK X (.builtin "max") [Str.ofString "default"] fun xs zs H Q => ∃ x y, xs = [x] ∧ zs = [y] ∧ M2 X.K apMaxd x y H Q := by
  intro pins s σ H xs zs us ws Q I rx rz h
  obtain ⟨x, y, rfl, rfl, Z, a, b, r, sb, ha, hb, e, q⟩ := h
  cases a <;> try (simp [apMaxd] at e; done)
  cases b <;> try (simp [apMaxd] at e; done)
  rename_i l d
  cases hb.int_
  simp only [apMaxd] at e
  cases hn : ints? l with
  | none => rw [hn] at e; cases e
  | some ns =>
    rw [hn] at e
    cases e
    obtain ⟨p, vs, rfl, h1, h2⟩ := ha.lst_ sb
    have ev := ints_of hn h2
    subst ev
    obtain ⟨u, rfl, ru⟩ := vals1 rx
    obtain ⟨v, rfl, rv⟩ := vals1 rz
    cases ru
    obtain ⟨its, r2, pl, z⟩ := I.list (SqL.of h1)
    have ia : IntsAre its.toArray.toList ns := intsAre_of r2
    have fin : ∀ (v : Value) (h' : Heap) (tk : Nat), (∀ b o, s.heap.get? b = some o → h'.get? b = some o) → RelV (.int (mxd d ns)) v → EP X pins σ Q v { s with heap := h', toks := tk } := fun v h' tk hk rm =>
      ⟨.int (mxd d ns), H, I.kept (t' := tk) hk, rm, fin_old sb q (.int _)⟩
    refine PySem.W.max_list_datum_default (xs := ns) (I.ok.hd hc) pl.isList (PySem.W.HoldAll.of_ints ia) (by show X.A.units + 1 + 0 < cLine; omega) (fun e h' tk hk => fin _ _ _ hk (by rw [e]; exact rv)) fun y ys i v h' tk e hi hh hk => fin _ _ _ hk ?_
    rw [e]
    show RelV (.int (mxI y ys)) v
    rw [← maxOf_int]
    obtain ⟨as, rr⟩ := hh
    have rr : Reads h' v (.int (PySem.W.maxOf y ys)) as := rr
    cases rr with
    | int _ t => exact ⟨t, rfl⟩
theorem se_maxd {x : Str} {e c : Expr} {eva evc : Mv.Loc → Res Od} {p pos kp : Pos} (hc : X.calm = true) (hu : X.A.units + 66 < cLine) (hx : x = "max") (hg : Gl X x) (hm : X.mg x = none) (ha : SO X e eva) (hcc : SO X c evc)
    (hs : starEach [e] X.env = [(false, eval e X.env)]) : SE X (.Call (.Name x p) [e] [⟨some "default", c, kp⟩] pos) fun ρ => opK .maxd (consK (fun ρ1 => consK nilE (evc ρ1)) (eva ρ)) := by
  subst hx
  have hb : backTo pos (starEach [e] X.env) = [(false, eval e X.env)] := by rw [hs]; rfl
  refine PE_imp (pe_callBK (k_maxd hc hu) hg hm boot_max (pa_cons ha pa_nil hs) (pk_cons hcc pk_nil) (by decide) (by decide) hb (by rw [hb]; rfl) rfl rfl rfl) fun σ H Q h => ?_
  have := op2 (K := X.K) (r := M2 X.K apMaxd) (f := .maxd) (fun _ _ => rfl) (fun _ _ _ _ z => z) h
  obtain ⟨Z, ρ, F, S, o, ρ1, h1, k⟩ := this
  refine ⟨Z, ρ, F, S, o, ρ1, h1, fun x H1 d => ?_⟩
  obtain ⟨Z1, ρ2, F1, S1, o2, ρ3, h2, k2⟩ := k x H1 d
  exact ⟨Z1, ρ2, F1, S1, o2, ρ3, h2, fun y H2 d2 => ⟨x, y, rfl, rfl, k2 y H2 d2⟩⟩
end
end Mv
namespace Mv
open PySem PySem.Spec PyProof.Rows L2
section
variable {X : Cx}
theorem atI_nat {xs : List V} {k : Int} {v : V} (h0 : 0 ≤ k) (h : xs[k.toNat]? = some v) : atI xs k = some v := by
  have lt : k.toNat < xs.length := (List.getElem?_eq_some_iff.mp h).1
  unfold atI ixN
  rw [if_pos h0, if_pos (by omega)]
  exact h
/-- what an item owned becomes plain data -/
theorem St0.freezeAt {K : Frag} {Z H : Hp} {F : Reg} {σ : L2.St} {ρ : Mv.Loc} {l : List RV} {r : RV} {i n : Nat} (S : St0 K Z H ρ σ F) (h : slotAt ρ i = some (.oL l)) (hn : l[n]? = some r) :
    ∃ Z' F' a vs v, σ[i]? = some (some (.ref a)) ∧ H a = some (.lst vs) ∧ vs[n]? = some v ∧ St0 K Z' H (ρ.set i (some (.oL (l.set n (.imm (fz r)))))) σ F' ∧ RepD K Z' (fz r) v ∧ Frm Z H F Z' H F' := by
  obtain ⟨G, g1, g2, g3⟩ := S.env
  obtain ⟨u, hu, ru⟩ := g3 i _ h
  cases ru with
  | oL E k1 k2 k3 k4 k5 k6 =>
    rename_i a vs
    have ln : n < l.length := (List.getElem?_eq_some_iff.mp hn).1
    have lv : n < vs.length := by omega
    have hv : vs[n]? = some vs[n] := List.getElem?_eq_getElem lv
    have rv := k6 n r _ hn hv
    have inF : ∀ b, E n b → F b := fun b f => g1 i b (k4 n b f).1
    have s1 : Sub Z (over Z H (E n)) := over_sub fun b f => S.dj b (inF b f)
    have rz : RepD K (over Z H (E n)) (fz r) vs[n] := rv.freeze s1 fun b o f e => by rw [over_in f]; exact e
    have kp : ∀ {q : RV} {w : V} {A : Reg}, RepV K Z H q w A → RepV K (over Z H (E n)) H q w A := fun z => z.keep s1 fun b o _ e => e
    refine ⟨over Z H (E n), fun b => F b ∧ ¬ E n b, a, vs, vs[n], hu, k1, hv, ⟨over_le S.sub, by rw [List.length_set]; exact S.len, fun b f => ?_, fun b f => S.al b f.1, fun j b => G j b ∧ ¬ E n b, fun j b f => ⟨g1 j b f.1, f.2⟩, fun j k b ne f g => g2 j k b ne f.1 g.1, fun j q hq => ?_⟩, rz, ?_⟩
    · rw [over_out f.2]; exact S.dj b f.1
    · rcases slotAt_set hq with ⟨e1, e2⟩ | ⟨e1, e2⟩
      · cases e2
        subst e1
        refine ⟨.ref a, hu, .oL (fun m b => m ≠ n ∧ E m b) k1 ⟨k2, fun z => (k4 n a z).2 rfl⟩ (by rw [List.length_set]; exact k3) (fun m b f => ⟨⟨(k4 m b f.2).1, fun z => k5 m n b f.1 f.2 z⟩, (k4 m b f.2).2⟩) (fun m m' b ne f g => k5 m m' b ne f.2 g.2) fun m x v e3 e4 => ?_⟩
        rw [List.getElem?_set] at e3
        by_cases c : n = m
        · subst c
          rw [if_pos rfl, if_pos ln] at e3
          cases e3
          rw [hv] at e4
          cases e4
          exact .imm rz
        · rw [if_neg c] at e3
          exact (kp (k6 m x v e3 e4)).wider fun b f => ⟨fun z => c z.symm, f⟩
      · obtain ⟨w, hw, rw'⟩ := g3 j q e2
        exact ⟨w, hw, (kp rw').wider fun b f => ⟨f, fun z => g2 j i b e1 f (k4 n b z).1⟩⟩
    · refine ⟨fun b o e _ => e, fun b f => .inl f.1, s1, fun b o e => ?_⟩
      by_cases f : E n b
      · exact .inr (.inl (inF b f))
      · rw [over_out f] at e; exact .inl e
theorem se_idx {o b : Expr} {evb : Mv.Loc → Res Od} {i : Nat} {pos : Pos} (ho : PE X o (tVar i)) (hb : SO X b evb) (hs : PlainIx b) : SE X (.Subscript o b pos) fun ρ => idxC (idxK i (evb ρ)) (slotAt ρ i) := by
  refine PE_imp (pe_ix ix_list ho hb hs) fun σ H Q ⟨Z, ρ, F, S, x0, ρ', e0, q⟩ => ?_
  cases hs0 : slotAt ρ i with
  | none => simp only [hs0, idxC, reduceCtorEq] at e0
  | some r00 =>
    obtain ⟨_, _, _, g3⟩ := S.env
    obtain ⟨w0, hw0, _⟩ := g3 i _ hs0
    simp only [hs0, idxC] at e0
    cases h1 : evb ρ with
    | fail => simp only [h1, idxK, reduceCtorEq] at e0
    | ok od ρ1 =>
      simp only [h1, idxK] at e0
      cases hs1 : slotAt ρ1 i with
      | none => simp [hs1, idxP] at e0
      | some r0 =>
        cases r0 with
        | imm d =>
          cases d with
          | lst l =>
            cases hk : lookO ρ1 od with
            | none => simp [hs1, hk, idxP] at e0
            | some dk =>
              cases dk <;> try (simp [hs1, hk, idxP] at e0; done)
              rename_i k
              simp only [hs1, hk, idxP] at e0
              by_cases c : 0 ≤ k
              · rw [if_pos c] at e0
                cases hr : l[k.toNat]? with
                | none => simp [hr, someR] at e0
                | some d =>
                  simp only [hr, Option.map_some, someR] at e0
                  cases e0
                  refine ⟨w0, hw0, Z, ρ, F, S, od, ρ', h1, fun y H1 ⟨Z1, F1, Fv1, S1, r1, d1, z1, f1⟩ => ?_⟩
                  have ey := (look_ok S1 r1 hk).int_
                  obtain ⟨_, _, _, g4⟩ := S1.env
                  obtain ⟨w1, hw1, rw1⟩ := g4 i _ hs1
                  rw [hw0] at hw1
                  cases hw1
                  cases rw1 with
                  | imm rd =>
                    cases rd with
                    | @lst _ a vs j1 j2 j3 =>
                      have lt : k.toNat < vs.length := by rw [← j2]; exact (List.getElem?_eq_some_iff.mp hr).1
                      have hv : vs[k.toNat]? = some vs[k.toNat] := List.getElem?_eq_getElem lt
                      exact ⟨a, vs, k, vs[k.toNat], rfl, ey, SqL.of (S1.sub _ _ j1), atI_nat c hv, q _ H1 ⟨Z1, F1, fun _ => False, S1, .imm (j3 _ _ _ hr hv), fun _ _ z => z, fun _ z => z.elim, f1.mono (fun _ h => h) fun c h => h.elim (fun z => .inl (.inl z)) fun z => z.elim⟩⟩
              · rw [if_neg c] at e0; cases e0
          | _ => cases hk : lookO ρ1 od <;> simp [hs1, hk, idxP] at e0
        | oD d => simp [hs1, idxP] at e0
        | oL l =>
          cases hk : lookO ρ1 od with
          | none => simp [hs1, hk, idxP] at e0
          | some dk =>
            cases dk <;> try (simp [hs1, hk, idxP] at e0; done)
            rename_i k
            simp only [hs1, hk, idxP] at e0
            by_cases c : 0 ≤ k
            · rw [if_pos c] at e0
              cases hr : l[k.toNat]? with
              | none => simp [hr, idxQ] at e0
              | some r =>
                simp only [hr, idxQ] at e0
                cases e0
                refine ⟨w0, hw0, Z, ρ, F, S, od, ρ1, h1, fun y H1 ⟨Z1, F1, Fv1, S1, r1, d1, z1, f1⟩ => ?_⟩
                have ey := (look_ok S1 r1 hk).int_
                obtain ⟨Z2, F2, a, vs, v, e1, e2, e3, S2, rz, f2⟩ := S1.freezeAt hs1 hr
                rw [hw0] at e1
                cases e1
                have f1' : Frm Z H F Z1 H1 F1 → Frm Z H F Z2 H1 F2 := fun f => f.trans f2
                refine ⟨a, vs, k, v, rfl, ey, SqL.of e2, atI_nat c e3, q v H1 ⟨Z2, F2, fun _ => False, S2, .imm rz, fun _ _ z => z, fun _ z => z.elim, ?_⟩⟩
                exact f1.trans (f2.mono (fun b h => .inl h) fun b h => h.elim .inl fun z => z.elim)
            · rw [if_neg c] at e0; cases e0
/-- a list's item ahead of a method's name -/
theorem pe_at {o b : Expr} {i n : Nat} {pos : Pos} (ho : PE X o (tVar i)) (hb : PE X b (tC (.int (n : Nat)))) (hs : PlainIx b) :
    PE X (.Subscript o b pos) fun σ H Q => ∃ a vs y, σ[i]? = some (some (.ref a)) ∧ SqL X.K H a vs ∧ vs[n]? = some y ∧ Q y H :=
  PE_imp (pe_ix ix_list ho hb hs) fun σ H Q ⟨a, vs, y, h1, h2, h3, q⟩ => ⟨.ref a, h1, a, vs, (n : Nat), y, rfl, rfl, h2, atI_nat (by omega) (by simpa using h3), q⟩
theorem meth2_core {K : Frag} {σ : L2.St} {H : Hp} {Q : VK} {evs : Mv.Loc → Res (List Od)} {i n : Nat} {m : Mt} (h : rd K (fun ρ => meth2S i n m evs ρ (slotAt ρ i)) (RAv K) σ H Q) :
    ∃ a vs y, σ[i]? = some (some (.ref a)) ∧ SqL K H a vs ∧ vs[n]? = some y ∧ tyV K "list" y H ∧ rd K evs (RAos K) σ H fun xs H2 => MM K m y xs H2 Q := by
  obtain ⟨Z, ρ, F, S, x0, ρ', e0, q⟩ := h
  cases hs : slotAt ρ i with
  | none => simp [hs, meth2S] at e0
  | some r0 =>
    cases r0 with
    | imm d => simp [hs, meth2S] at e0
    | oD d => simp [hs, meth2S] at e0
    | oL l =>
      simp only [hs, meth2S] at e0
      cases hn : l[n]? with
      | none => simp [hn, meth2T] at e0
      | some r =>
        cases r with
        | imm d => simp [hn, meth2T] at e0
        | oD d => simp [hn, meth2T] at e0
        | oL x =>
          cases h1 : evs (ρ.set i none) with
          | fail => simp [hn, h1, takesK, meth2T] at e0
          | ok os ρ1 =>
            cases h2 : takes ρ1 os with
            | none => simp [hn, h1, h2, takesK, someP, meth2T] at e0
            | some p =>
              obtain ⟨ds, ρ2⟩ := p
              simp only [hn, h1, h2, takesK, someP, meth2T] at e0
              cases hc : chg m (.oL x) ds with
              | none => simp [hc, meth2U] at e0
              | some dy =>
                obtain ⟨d, y⟩ := dy
                simp only [hc, meth2U] at e0
                cases e0
                obtain ⟨G, v, hv, rv, inF, S0⟩ := S.drop hs
                cases rv with
                | oL E k1 k2 k3 k4 k5 k6 =>
                  rename_i a vs
                  have ln : n < l.length := (List.getElem?_eq_some_iff.mp hn).1
                  have lv : n < vs.length := by omega
                  have hvn : vs[n]? = some vs[n] := List.getElem?_eq_getElem lv
                  have rn := k6 n _ _ hn hvn
                  have ry : ∃ b ws, vs[n] = .ref b ∧ H b = some (.lst ws) := by
                    generalize vs[n] = u at rn
                    cases rn with
                    | oL _ j1 _ _ _ _ _ => exact ⟨_, _, rfl, j1⟩
                  obtain ⟨b, ws, eb, hb⟩ := ry
                  refine ⟨a, vs, vs[n], hv, SqL.of k1, hvn, by rw [eb]; exact .inl ⟨rfl, ws, SqL.of hb⟩, Z, _, _, S0, os, ρ1, h1, fun us H1 ⟨Z1, F1, Fv1, S1, r1, d1, z1, f1⟩ => ?_⟩
                  obtain ⟨Z2, F2, S2, rr, s2, n2, zn2⟩ := takes_ok S1 ⟨d1, z1⟩ r1 h2
                  have f2 : Frm Z1 H1 (fun a => F1 a ∨ Fv1 a) Z2 H1 F2 := ⟨fun _ _ h _ => h, fun a h => .inl (.inl (n2 a h)), s2, fun a o h => by
                    rcases zn2 a o h with z | z | z
                    · exact .inl z
                    · exact .inr (.inl (.inl z))
                    · exact .inr (.inl (.inr z))⟩
                  have f12 := f1.trans f2
                  have sd : Side Z H (fun a => F a ∧ ¬ G a) G := ⟨fun c f g => f.2 g, fun c g => ⟨S.dj c (inF c g), S.al c (inF c g)⟩⟩
                  obtain ⟨sd2, kp⟩ := Side.go sd f12
                  have rn2 : RepV K Z2 H1 (.oL x) vs[n] (E n) := rn.keep f12.zs fun b o e h => kp b o (k4 n b e).1 h
                  refine ⟨Z2, .oL x, ds, E n, d, y, S2.sub, rn2, fun c e => sd2.open_ c (k4 n c e).1, rr, hc, fun w c o ec gc rdv ryv => q _ _ ?_⟩
                  have cG : G c := (k4 n c gc).1
                  have cF : ¬ F2 c := fun f => sd2.apart c f cG
                  have alH : ∀ b, H1 b ≠ none → (upd H1 c o) b ≠ none := fun b h => by
                    by_cases e : b = c
                    · subst e; rw [upd_same]; exact fun z => by cases z
                    · rw [upd_ne e]; exact h
                  have zc : Z2 c = none := (sd2.open_ c cG).1
                  have sub2 : Sub Z2 (upd H1 c o) := fun b u h => by
                    rw [upd_ne (fun e => by subst e; rw [zc] at h; cases h)]; exact S2.sub b u h
                  obtain ⟨E2, c1, c2, c3⟩ := S2.env
                  have S3 : St0 K Z2 (upd H1 c o) ρ2 σ F2 := ⟨sub2, S2.len, S2.dj, fun b f => alH b (S2.al b f), E2, c1, c2, fun j r hj => by
                    obtain ⟨u, hu, ru⟩ := c3 j r hj
                    exact ⟨u, hu, ru.keep (fun _ _ h => h) fun b z hb e => by rw [upd_ne (fun e => by subst e; exact cF (c1 j b hb))]; exact e⟩⟩
                  have sd3 : Side Z2 (upd H1 c o) F2 G := ⟨sd2.apart, fun b g => ⟨(sd2.open_ b g).1, alH b (sd2.open_ b g).2⟩⟩
                  have outer : RepV K Z2 (upd H1 c o) (.oL (l.set n y)) (.ref a) G := by
                    refine .oL E (by rw [upd_ne (fun e => (k4 n c gc).2 e.symm)]; exact kp a _ k2 k1) k2 (by rw [List.length_set]; exact k3) k4 k5 fun j r u e3 e4 => ?_
                    rw [List.getElem?_set] at e3
                    by_cases cj : n = j
                    · subst cj
                      rw [if_pos rfl, if_pos ln] at e3
                      cases e3
                      rw [hvn] at e4
                      cases e4
                      exact ryv
                    · rw [if_neg cj] at e3
                      exact (k6 j r u e3 e4).keep f12.zs fun b z hb e => by rw [upd_ne (fun e => by subst e; exact k5 j n b (fun z => cj z.symm) hb gc)]; exact kp b z (k4 j b hb).1 e
                  have S4 := S3.put i (some (.oL (l.set n y))) sd3 fun r er => by cases er; exact ⟨_, hv, outer⟩
                  refine ⟨Z2, _, fun _ => False, S4, .imm rdv, fun _ _ h => h, fun _ h => h.elim, ?_⟩
                  refine ⟨fun b u e nb => ?_, fun b h => ?_, f12.zs, fun b u e => ?_⟩
                  · rw [upd_ne (fun e => by subst e; exact nb (inF b cG))]
                    exact f12.keep b u e fun z => nb z.1
                  · rcases h with (h | h) | h
                    · rcases f12.own b h with z | z
                      · exact .inl z.1
                      · exact .inr z
                    · exact .inl (inF b h)
                    · exact h.elim
                  · rcases f12.zn b u e with z | z | z
                    · exact .inl z
                    · exact .inr (.inl z.1)
                    · exact .inr (.inr z)
theorem se_meth2 {o b e : Expr} {es : List Expr} {evs : Mv.Loc → Res (List Od)} {i n : Nat} {m : Mt} {name : Str} {id : String} {p2 apos cpos : Pos} (slot : PySem.Slot "list" name id) (hty : typeOf (.builtin id) = pure (.type "method_descriptor")) (hm : MtR X id (MM X.K m)) (ho : PE X o (tVar i)) (hb : PE X b (tC (.int (n : Nat)))) (hp : PlainIx b) (ha : SA X (e :: es) evs)
    (hfew : ((backTo cpos (starEach (e :: es) X.env)).all (fun x => !x.1) && (backToKw cpos (keywordEach [] X.env)).all (fun x => x.1.isSome) && decide ((e :: es).length + ([] : List Keyword).length + (if ([] : List Keyword).isEmpty then 0 else 1) < 30)) = true)
    (hline : (apos.endLine == cpos.line) = true) (hs : starEach (e :: es) X.env = (false, eval e X.env) :: starEach es X.env) (hplain : (backTo cpos (starEach es X.env)).any (·.1) = false) :
    SE X (.Call (.Attribute (.Subscript o b p2) name apos) (e :: es) [] cpos) fun ρ => meth2S i n m evs ρ (slotAt ρ i) := by
  refine PE_imp (pe_bm PySem.F.plainAttrs_list slot hty hm (pe_at ho hb hp) ha rfl hfew hline hs hplain) fun σ H Q h => ?_
  exact meth2_core h
end
end Mv
namespace Mv
open PySem PySem.Spec PyProof.Rows L2

/-- what is known of a def and its module -/
structure Tab where
  N : List Str
  np : Nat
  consts : List (Str × D)
  fns : List (Str × Nat × Nat)
  blts : List Str
  dfl : List (Str × List D)
  nest : List Str

def ixOf : List Str → Str → Option Nat
  | [], _ => none
  | y :: r, x => if (y == x) = true then some 0 else (ixOf r x).map (· + 1)
theorem ixOf_ok : ∀ {N : List Str} {x : Str} {i : Nat}, ixOf N x = some i → N[i]? = some x
  | [], _, _, h => by simp [ixOf] at h
  | y :: r, x, i, h => by
    rw [ixOf] at h
    by_cases c : (y == x) = true
    · rw [if_pos c] at h; cases h; rw [eq_of_beq c]; rfl
    · rw [if_neg c] at h
      cases q : ixOf r x with
      | none => rw [q] at h; cases h
      | some j => rw [q] at h; cases h; simpa using ixOf_ok q
def isVis : Option NameKind → Bool
  | some .local => true | some .cell => true | some .free => true
  | _ => false
def isGl : Option NameKind → Bool
  | some .globalImplicit => true
  | _ => false
def isLoc : Option NameKind → Bool
  | some .local => true | some .cell => true
  | _ => false
def isLocal : Option NameKind → Bool
  | some .local => true
  | _ => false
theorem isVis_ok {sc : Scope} {x : Str} (h : isVis (sc.names.lookup x) = true) : Vis sc x := by
  unfold Vis
  cases q : sc.names.lookup x with
  | none => rw [q] at h; cases h
  | some k => rw [q] at h; cases k <;> first | exact .inl rfl | exact .inr (.inl rfl) | exact .inr (.inr rfl) | cases h
theorem isGl_ok {o : Option NameKind} (h : isGl o = true) : o = some .globalImplicit := by
  cases o with
  | none => cases h
  | some k => cases k <;> first | rfl | cases h
theorem isLocal_ok {o : Option NameKind} (h : isLocal o = true) : o = some .local := by
  cases o with
  | none => cases h
  | some k => cases k <;> first | rfl | cases h
theorem isLoc_ok {sc : Scope} {x : Str} (h : isLoc (sc.names.lookup x) = true) : L2.Loc sc x := by
  unfold L2.Loc
  cases q : sc.names.lookup x with
  | none => rw [q] at h; cases h
  | some k => rw [q] at h; cases k <;> first | exact .inl rfl | exact .inr rfl | cases h
def own2 (x : Str) : Bool := (x == ("__debug__" : Str)) || (x == ("__classdict__" : Str)) || (x == ("__name__" : Str))

/-- a def's defaults: what fills up behind the first ones -/
def DflOk (K : Frag) (fd : FuncData) (ps : List Str) : Option (List D) → Prop
  | none => True
  | some ds => ∀ j, j ≤ ds.length → ∃ us vs, Binds K fd ps us ∧ Vals vs us ∧ ∀ Z, RepDs K Z (ds.drop j) vs
/-- the context is as the table says -/
structure Fit (cf : Nat → List RV → CRes) (T : Tab) (fn : Str → Bool) (sc : Scope) (k : Nat) (X : Cx) : Prop where
  scE : X.env.scope = sc
  kind : sc.kind = .function
  N : X.N = T.N
  nd : T.N.Nodup
  fn : X.fn = fn
  calm : X.calm = true
  room : Room k X.A
  grd : X.A.guards = some []
  cst : ∀ x d, T.consts.lookup x = some d → ∃ u v, X.mg x = some u ∧ RelV v u ∧ ∀ Z, RepD X.K Z d v
  blt : ∀ x, T.blts.contains x = true → X.mg x = none
  fns : ∀ x i n, T.fns.lookup x = some (i, n) → ∃ f fd ps, X.mg x = some (.ref f) ∧ PySem.W.keepIn X.K (.ref f) = true ∧ Binds X.K fd ps [] ∧ ps.length = n ∧ FnG X.prog X.w X.K X.mg X.base k f fd ps (spF X.K (cf i)) ∧ DflOk X.K fd ps (T.dfl.lookup x)
theorem Fit.blk {cf : Nat → List RV → CRes} {T : Tab} {fn : Str → Bool} {sc : Scope} {k : Nat} {X : Cx} (h : Fit cf T fn sc k X) (scope : Scope) (hk : scope.kind = .function) (s : Shared) (H : Hp) (C : Addr) (cl : List (Str × Addr)) (fp : List Addr) :
    Fit cf T (fun x => scope.names.lookup x == some .cell) (relS scope sc) k (X.blk s H scope (compEnvC scope cl C X.env) fp) :=
  ⟨by rw [← h.scE]; rfl, hk, h.N, h.nd, rfl, h.calm, h.room, h.grd, h.cst, h.blt, h.fns⟩

def trConst : Const → Option D
  | .none => some .non
  | .bool b => some (.bl b)
  | .int i => some (.int i)
  | .str x => some (.str x.cps.toList)
  | _ => none
def trName (T : Tab) (sc : Scope) (x : Str) : Option ME :=
  if own2 x = true then none else
  if isVis (sc.names.lookup x) = true then (ixOf T.N x).map .var
  else if isGl (sc.names.lookup x) = true then (T.consts.lookup x).map .const else none
def noStar : Expr → Bool
  | .Starred _ _ => false
  | _ => true
def trL (r : Expr → Option ME) : List Expr → Option (List ME)
  | [] => some []
  | e :: es => if noStar e = true then (r e).bind fun m => (trL r es).map (m :: ·) else none
def trOp : Operator → Option Op
  | .Add => some .add | .Sub => some .sub | .Mult => some .mul | .FloorDiv => some .fdiv | .Mod => some .mod | .Pow => some .pow
  | _ => none
def trCmpOp : CmpOp → Option Op
  | .Eq => some .eq | .NotEq => some .ne | .Lt => some .lt | .LtE => some .le | .Gt => some .gt | .GtE => some .ge | .In => some .inn | .NotIn => some .notIn
  | _ => none
def trBool (r : Expr → Option ME) (op : PySem.BoolOp) : List Expr → Option ME
  | [] => none
  | [a] => r a
  | a :: es => (r a).bind fun x => (trBool r op es).map fun y => match op with | .And => .and x y | .Or => .or x y
def isNone : Expr → Bool
  | .Constant .none _ _ => true
  | _ => false
def trCmp (r : Expr → Option ME) (a : Expr) (op : CmpOp) (b : Expr) : Option ME :=
  if isNone b = true ∧ (op = .Is ∨ op = .IsNot) then (r a).map fun x => if op = .Is then .op .isN [x] else .op .notN [x]
  else if behindInMarks op b = true then none else
  (trCmpOp op).bind fun f => (r a).bind fun x => (r b).map fun y => .op f [x, y]
def trSub (r : Expr → Option ME) (a : Expr) : Expr → Option ME
  | .Slice none none none _ => (r a).map fun x => .op (.slice false false) [x]
  | .Slice (some b) none none _ => (r a).bind fun x => (r b).map fun y => .op (.slice true false) [x, y]
  | .Slice none (some b) none _ => (r a).bind fun x => (r b).map fun y => .op (.slice false true) [x, y]
  | .Slice (some b) (some c) none _ => (r a).bind fun x => (r b).bind fun y => (r c).map fun z => .slc x y z
  | .Slice _ _ (some _) _ => none
  | b => (r a).bind fun x => (r b).map fun y => .op .item [x, y]
def trBlt (x : Str) : Option Op :=
  if (x == "len") = true then some .len else if (x == "abs") = true then some .abs else if (x == "int") = true then some .int1 else if (x == "str") = true then some .str1 else
  if (x == "sum") = true then some .sum else if (x == "tuple") = true then some .tuple else if (x == "list") = true then some .list else if (x == "repr") = true then some .repr else
  if (x == "all") = true then some .all else if (x == "any") = true then some .any else none
def trMt (name : Str) (n : Nat) : Option Mt :=
  if (name == "append") = true then some .append else if (name == "extend") = true then some .extend else if (name == "pop") = true then (if n = 0 then some .pop else some .popAt) else if (name == "reverse") = true then some .reverse else none
def trCall (r : Expr → Option ME) (T : Tab) (sc : Scope) (pos : Pos) : Expr → List Expr → Option ME
  | .Name x _, es => if own2 x = true then none else if isGl (sc.names.lookup x) = true then
      (match T.fns.lookup x with
      | some (i, n) => if es.length = n then (trL r es).map (.call i) else
          (T.dfl.lookup x).bind fun ds => if es.length < n ∧ n ≤ es.length + ds.length then (trL r es).map fun ms => .call i (ms ++ (ds.drop (es.length + ds.length - n)).map .const) else none
      | none => if T.blts.contains x = true then (trBlt x).bind fun f => (trL r es).bind fun ms => match ms with
        | [m] => some (.op f [m])
        | _ => none else none) else none
  | .Attribute (.Name o op) name apos, es => if own2 o = true then none else if isVis (sc.names.lookup o) = true ∧ (apos.endLine == pos.line) = true ∧ es.length < 30 then
      (ixOf T.N o).bind fun i => (trMt name es.length).bind fun m => (trL r es).map fun ms => .meth i m ms else none
  | _, _ => none
/-- may o stand ahead of a method's name -/
def plainB : Expr → Bool
  | .Name x _ => !own2 x
  | .Subscript _ _ _ => true
  | .Constant _ _ _ => true
  | _ => false
def notSlice : Expr → Bool
  | .Slice _ _ _ _ => false
  | _ => true
/-- an item of a list that may own lists -/
def trNest (r : Expr → Option ME) (T : Tab) (sc : Scope) : Expr → Expr → Option ME
  | .Name x _, b => if own2 x = true then none else if T.nest.contains x = true ∧ notSlice b = true ∧ isVis (sc.names.lookup x) = true then
      (ixOf T.N x).bind fun i => (r b).map (.idx i) else none
  | _, _ => none
def trNM (r : Expr → Option ME) (T : Tab) (sc : Scope) (pos : Pos) : Expr → Str → Pos → Expr → Option ME
  | .Subscript (.Name x _) (.Constant (.int k) _ _) _, name, apos, e => if own2 x = true then none else
      if T.nest.contains x = true ∧ isVis (sc.names.lookup x) = true ∧ (apos.endLine == pos.line) = true ∧ 0 ≤ k then
        (ixOf T.N x).bind fun i => (trMt name 1).bind fun m => (trL r [e]).map fun ms => .meth2 i k.toNat m ms else none
  | _, _, _, _ => none
def trMore (r : Expr → Option ME) (T : Tab) (sc : Scope) (pos : Pos) : Expr → List Expr → Option ME
  | .Attribute o name apos, [e] => if plainB o = true ∧ noStar e = true ∧ (apos.endLine == pos.line) = true then
      (if (name == "split") = true then (r o).bind fun x => (r e).map fun y => .met .split x y
      else if (name == "index") = true then (r o).bind fun x => (r e).map fun y => .met .index x y else trNM r T sc pos o name apos e) else none
  | .Name x _, [a, b] => if own2 x = true then none else if isGl (sc.names.lookup x) = true ∧ T.blts.contains x = true then
      (if (x == "max") = true then (trL r [a, b]).map (.op .max) else if (x == "min") = true then (trL r [a, b]).map (.op .min) else none) else none
  | _, _ => none
def trKw (r : Expr → Option ME) (T : Tab) (sc : Scope) : Expr → List Expr → List Keyword → Option ME
  | .Name x _, [e], [⟨some nm, c, _⟩] => if own2 x = true then none else if isGl (sc.names.lookup x) = true ∧ T.blts.contains x = true ∧ noStar e = true ∧ (x == "max") = true ∧ (nm == "default") = true then
      (r e).bind fun a => (r c).map fun b => .op .maxd [a, b] else none
  | _, _, _ => none
def trTg (T : Tab) (fn : Str → Bool) (sc : Scope) : Expr → Option Tg
  | .Name x _ => if isLoc (sc.names.lookup x) = true ∧ (fn x = true ∨ isLocal (sc.names.lookup x) = true) then (ixOf T.N x).map .name else none
  | .Tuple es _ _ => (names es).map .tup
  | _ => none
where names : List Expr → Option (List Nat)
  | [] => some []
  | .Name x _ :: es => if isLoc (sc.names.lookup x) = true ∧ (fn x = true ∨ isLocal (sc.names.lookup x) = true) then (ixOf T.N x).bind fun i => (names es).map (i :: ·) else none
  | _ => none
def trIt (r : Expr → Option ME) (T : Tab) (sc : Scope) : Expr → Option (ItK × List ME)
  | .Call (.Name x p) es [] pos => if (x == "range") = true then (if isGl (sc.names.lookup x) = true ∧ T.blts.contains x = true then (trL r es).bind fun ms => match ms with
      | [a] => some (.range, [a])
      | [a, b] => some (.range, [a, b])
      | _ => none else none) else (r (.Call (.Name x p) es [] pos)).map fun m => (.seq, [m])
  | .Set _ _ _ => none
  | e => (r e).map fun m => (.seq, [m])
def ownOf (N : List Str) : List (Str × NameKind) → List (Str × Nat)
  | [] => []
  | (x, k) :: r => if isLoc (some k) = true then (match ixOf N x with | some i => (x, i) :: ownOf N r | none => ownOf N r) else ownOf N r
def trConds (r : Expr → Option ME) : List Expr → Option (List ME)
  | [] => some []
  | [c] => (r c).map fun m => [m]
  | _ => none
/-- a new list, written here -/
def isFresh : Expr → Bool
  | .List _ _ => true
  | .ListComp _ _ _ _ => true
  | _ => false
def trStep (tr : Bool → Tab → (Str → Bool) → Scope → Expr → Option ME) (t : Bool) (T : Tab) (fn : Str → Bool) (sc : Scope) (e : Expr) : Option ME :=
  match e with
  | .Constant c _ _ => (trConst c).map .const
  | .Name x _ => trName T sc x
  | .Tuple es _ _ => (trL (tr false T fn sc) es).map .tup
  | .List es _ => (trL (tr false T fn sc) es).map (if (T.nest.isEmpty && es.any isFresh) = true then .listF else .list)
  | .Dict [] [] _ => some .dnew
  | .BinOp a o b _ => (trOp o).bind fun f => (tr false T fn sc a).bind fun x => (tr false T fn sc b).map fun y => .op f [x, y]
  | .UnaryOp .USub a _ => (tr false T fn sc a).map fun x => .op .neg [x]
  | .UnaryOp .Not a _ => (tr t T fn sc a).map .not
  | .BoolOp op (a :: b :: es) _ => trBool (tr t T fn sc) op (a :: b :: es)
  | .Compare a [op] [b] _ => trCmp (tr false T fn sc) a op b
  | .IfExp c a b _ => if t = true then none else (tr true T fn sc c).bind fun x => (tr false T fn sc a).bind fun y => (tr false T fn sc b).map fun z => .ite x y z
  | .Subscript a s _ => (match trNest (tr false T fn sc) T sc a s with
      | some m => some m
      | none => trSub (tr false T fn sc) a s)
  | .Call f es [] pos => (match trMore (tr false T fn sc) T sc pos f es with
      | some m => some m
      | none => trCall (tr false T fn sc) T sc pos f es)
  | .Call f es kws _ => trKw (tr false T fn sc) T sc f es kws
  | .ListComp elt [⟨tg, iter, ifs, 0⟩] scope _ =>
      if blkC T.N sc scope (ownOf T.N scope.names) = true then
      (trIt (tr false T fn sc) T sc iter).bind fun ks => (trTg T (fun x => scope.names.lookup x == some .cell) (relS scope sc) tg).bind fun g =>
        (trConds (tr true T (fun x => scope.names.lookup x == some .cell) (relS scope sc)) ifs).bind fun cs => (tr false T (fun x => scope.names.lookup x == some .cell) (relS scope sc) elt).bind fun m =>
          if (g.slots.all fun i => ((ownOf T.N scope.names).map (·.2)).contains i) = true then some (.comp ((ownOf T.N scope.names).map (·.2)) ks.1 ks.2 g cs m) else none
    else none
  | _ => none
def tr : Nat → Bool → Tab → (Str → Bool) → Scope → Expr → Option ME
  | 0, _, _, _, _, _ => none
  | n + 1, t, T, fn, sc, e => trStep (tr n) t T fn sc e
end Mv
namespace Mv
open PySem PySem.Spec PyProof.Rows L2

section
variable {cf : Nat → List RV → CRes}
theorem evE_fun (m : ME) {g : Loc → Res RV} (h : ∀ ρ, evE cf m ρ = g ρ) : evE cf m = g := funext h
theorem evOs0 : evOs cf [] = nilE := funext fun ρ => evOs_nil cf ρ
theorem evOs1 (e : ME) (es : List ME) : evOs cf (e :: es) = fun ρ => consK (evOs cf es) (evO cf e ρ) := funext fun ρ => evOs_cons cf e es ρ
structure Snd (cf : Nat → List RV → CRes) (X : Cx) (t : Bool) (e : Expr) (m : ME) : Prop where
  se : t = false → SE X e (evE cf m) ∧ SO X e (evO cf m)
  st : t = true → ST X e (evT cf m)
theorem Snd.val {X : Cx} {t : Bool} {e : Expr} {m : ME} (se : SE X e (evE cf m)) (ho : ∀ ρ, evO cf m ρ = mapR Sum.inr (evE cf m ρ)) (ht : ∀ ρ, evT cf m ρ = truthK (evO cf m ρ))
    (hi : ∀ whole, isTrue e X.env whole = (do let v ← whole; standAt e.pos; holding [v] (truthy v))) : Snd cf X t e m := by
  have so : SO X e (evO cf m) := by rw [show evO cf m = fun ρ => mapR Sum.inr (evE cf m ρ) from funext ho]; exact so_of se
  exact ⟨fun _ => ⟨se, so⟩, fun _ => by rw [show evT cf m = fun ρ => truthK (evO cf m ρ) from funext ht]; exact st_truth so hi⟩
theorem Snd.var {X : Cx} {t : Bool} {e : Expr} {i : Nat} (h : PE X e (tVar i)) (hi : ∀ whole, isTrue e X.env whole = (do let v ← whole; standAt e.pos; holding [v] (truthy v))) : Snd cf X t e (.var i) := by
  have so : SO X e (evO cf (.var i)) := by rw [show evO cf (.var i) = fun ρ => varK i ρ (slotAt ρ i) from funext fun ρ => evO_var cf i ρ]; exact so_var h
  refine ⟨fun _ => ⟨?_, so⟩, fun _ => ?_⟩
  · rw [show evE cf (.var i) = fun ρ => frozenK i ρ (slotAt ρ i) from funext fun ρ => evE_var cf i ρ]; exact se_var h
  · rw [show evT cf (.var i) = fun ρ => truthK (evO cf (.var i) ρ) from funext fun ρ => evT_var cf i ρ]; exact st_truth so hi
theorem own2_ok {x : Str} (h : ¬ own2 x = true) : (x == ("__debug__" : Str)) = false ∧ (x == ("__classdict__" : Str)) = false ∧ x ≠ "__name__" := by
  unfold own2 at h
  simp only [Bool.or_eq_true, not_or, Bool.not_eq_true] at h
  exact ⟨h.1.1, h.1.2, by simpa using h.2⟩
variable {T : Tab} {fn : Str → Bool} {sc : Scope} {k : Nat} {X : Cx} {t : Bool}
theorem Fit.gl (F : Fit cf T fn sc k X) {x : Str} (h : isGl (sc.names.lookup x) = true) : Gl X x := by
  show X.env.scope.names.lookup x = _
  rw [F.scE]; exact isGl_ok h
theorem Fit.vis (F : Fit cf T fn sc k X) {x : Str} (h : isVis (sc.names.lookup x) = true) : Vis X.env.scope x := by
  rw [F.scE]; exact isVis_ok h
theorem Fit.un (F : Fit cf T fn sc k X) : X.A.units + 66 < cLine := by have := F.room.un; omega
theorem snd_name {x : Str} {pos : Pos} {m : ME} (F : Fit cf T fn sc k X) (h : trName T sc x = some m) : Snd cf X t (.Name x pos) m := by
  unfold trName at h
  by_cases c0 : own2 x = true
  · rw [if_pos c0] at h; cases h
  · rw [if_neg c0] at h
    obtain ⟨h1, h2, h3⟩ := own2_ok c0
    by_cases c : isVis (sc.names.lookup x) = true
    · rw [if_pos c] at h
      obtain ⟨i, hi, rfl⟩ := Option.map_eq_some_iff.mp h
      exact Snd.var (pe_var (by rw [F.N]; exact ixOf_ok hi) (F.vis c) h1 h2) fun _ => rfl
    · rw [if_neg c] at h
      by_cases c2 : isGl (sc.names.lookup x) = true
      · rw [if_pos c2] at h
        obtain ⟨d, hd, rfl⟩ := Option.map_eq_some_iff.mp h
        obtain ⟨u, v, q1, q2, q3⟩ := F.cst x d hd
        refine Snd.val ?_ (evO_const cf d) (evT_const cf d) fun _ => rfl
        rw [show evE cf (.const d) = fun ρ => .ok (.imm d) ρ from funext fun ρ => evE_const cf d ρ]
        exact se_glob (pe_glob (F.gl c2) q1 q2 h1) q3
      · rw [if_neg c2] at h; cases h
theorem snd_const {c : Const} {j : Nat} {pos : Pos} {d : D} (h : trConst c = some d) : Snd cf X t (.Constant c j pos) (.const d) := by
  refine Snd.val ?_ (evO_const cf d) (evT_const cf d) fun _ => rfl
  rw [show evE cf (.const d) = fun ρ => .ok (.imm d) ρ from funext fun ρ => evE_const cf d ρ]
  cases c <;> simp only [trConst, reduceCtorEq, Option.some.injEq] at h <;> subst h
  · exact se_const pe_non fun _ _ => .non
  · exact se_const pe_bl fun _ _ => .bl _
  · exact se_const pe_int fun _ _ => .int _
  · rename_i s
    refine se_const pe_str fun _ _ => ?_
    have := RepD.str (K := ‹_›) (Z := ‹_›) s.cps.toList
    rwa [show toStr s.cps.toList = s from by unfold toStr; simp] at this
theorem starEach_ok {e : Expr} {es : List Expr} {env : Env} (h : noStar e = true) : starEach (e :: es) env = (false, eval e env) :: starEach es env := by
  cases e <;> first | rfl | cases h
def noStars (es : List Expr) : Bool := es.all noStar
theorem star_any {env : Env} {pos : Pos} : ∀ {es : List Expr}, noStars es = true → (backTo pos (starEach es env)).any (·.1) = false
  | [], _ => rfl
  | e :: es, h => by
    unfold noStars at h
    rw [List.all_cons, Bool.and_eq_true] at h
    rw [starEach_ok h.1]
    have := star_any (env := env) (pos := pos) (es := es) h.2
    unfold backTo at this ⊢
    simp only [List.map_cons, List.any_cons]
    rw [this]; rfl
theorem star_len {env : Env} : ∀ {es : List Expr}, noStars es = true → (backTo pos (starEach es env)).all (fun x => !x.1) = true
  | [], _ => rfl
  | e :: es, h => by
    unfold noStars at h
    rw [List.all_cons, Bool.and_eq_true] at h
    rw [starEach_ok h.1]
    have := star_len (env := env) (pos := pos) (es := es) h.2
    unfold backTo at this ⊢
    simp only [List.map_cons, List.all_cons]
    rw [this]; rfl
theorem trL_ok {r : Expr → Option ME} (hr : ∀ e m, r e = some m → Snd cf X false e m) : ∀ {es : List Expr} {ms : List ME}, trL r es = some ms → SA X es (evOs cf ms) ∧ noStars es = true
  | [], ms, h => by
    cases h
    rw [evOs0]
    exact ⟨sa_nil, rfl⟩
  | e :: es, ms, h => by
    rw [trL] at h
    by_cases c : noStar e = true
    · rw [if_pos c] at h
      obtain ⟨m, h1, h2⟩ := Option.bind_eq_some_iff.mp h
      obtain ⟨ms', h3, rfl⟩ := Option.map_eq_some_iff.mp h2
      obtain ⟨g1, g2⟩ := trL_ok hr h3
      rw [evOs1]
      exact ⟨sa_cons ((hr e m h1).se rfl).2 g1 (starEach_ok c), by unfold noStars at g2 ⊢; rw [List.all_cons, c, g2]; rfl⟩
    · rw [if_neg c] at h; cases h
theorem ev2 (f : Op) (x y : ME) : evE cf (.op f [x, y]) = fun ρ => opK f (consK (fun ρ => consK nilE (evO cf y ρ)) (evO cf x ρ)) :=
  funext fun ρ => by rw [evE_op, evOs1, evOs1, evOs0]
theorem ev1 (f : Op) (x : ME) : evE cf (.op f [x]) = fun ρ => opK f (consK nilE (evO cf x ρ)) :=
  funext fun ρ => by rw [evE_op, evOs1, evOs0]
theorem snd_bin {o : Operator} {f : Op} {a b : Expr} {x y : ME} {pos : Pos} (F : Fit cf T fn sc k X) (h : trOp o = some f) (ha : Snd cf X false a x) (hb : Snd cf X false b y) : Snd cf X t (.BinOp a o b pos) (.op f [x, y]) := by
  refine Snd.val ?_ (evO_op cf f _) (evT_op cf f _) fun _ => rfl
  have sa := (ha.se rfl).2
  have sb := (hb.se rfl).2
  rw [ev2]
  cases o <;> simp only [trOp, reduceCtorEq, Option.some.injEq] at h <;> subst h
  · exact se_bin k_add (fun _ _ => rfl) sa sb
  · exact se_bin k_sub (fun _ _ => rfl) sa sb
  · exact se_bin k_mul (fun _ _ => rfl) sa sb
  · exact se_bin k_mod (fun _ _ => rfl) sa sb
  · exact se_bin k_pow (fun _ _ => rfl) sa sb
  · exact se_bin k_fdiv (fun _ _ => rfl) sa sb
theorem out_bool {g : D → D → Option Bool} : ∀ a b r, (g a b).map bool = some r → ∃ c, r = bool c := fun a b r h => by
  obtain ⟨c, _, rfl⟩ := Option.map_eq_some_iff.mp h
  exact ⟨c, rfl⟩
theorem cmp_core {op : CmpOp} {f : Op} {g : D → D → Option RV} {a b : Expr} {x y : ME} {pos : Pos} (ho : OpR X (compareOp op) (M2 X.K g)) (hf : ∀ a b, f.ap [a, b] = g a b) (hg : ∀ a b r, g a b = some r → ∃ c, r = bool c) (ha : SO X a (evO cf x)) (hb : SO X b (evO cf y)) (hm : behindInMarks op b = false) :
    Snd cf X t (.Compare a [op] [b] pos) (.op f [x, y]) := by
  have se : SE X (.Compare a [op] [b] pos) (evE cf (.op f [x, y])) := by rw [ev2]; exact se_cmp ho hf ha hb hm
  refine ⟨fun _ => ⟨se, ?_⟩, fun _ => ?_⟩
  · rw [show evO cf (.op f [x, y]) = fun ρ => mapR Sum.inr (evE cf (.op f [x, y]) ρ) from funext fun ρ => evO_op cf f _ ρ]; exact so_of se
  · rw [show evT cf (.op f [x, y]) = fun ρ => truthK (mapR Sum.inr (opK f (consK (fun ρ => consK nilE (evO cf y ρ)) (evO cf x ρ)))) from funext fun ρ => by rw [evT_op, evO_op, ev2]]
    exact st_cmp ho hf hg ha hb hm
theorem snd_cmp {r : Expr → Option ME} (hr : ∀ e m, r e = some m → Snd cf X false e m) {a b : Expr} {op : CmpOp} {m : ME} {pos : Pos} (F : Fit cf T fn sc k X) (h : trCmp r a op b = some m) : Snd cf X t (.Compare a [op] [b] pos) m := by
  unfold trCmp at h
  by_cases c : isNone b = true ∧ (op = .Is ∨ op = .IsNot)
  · rw [if_pos c] at h
    obtain ⟨x, hx, hm⟩ := Option.map_eq_some_iff.mp h
    have sa := ((hr a x hx).se rfl).2
    obtain ⟨j, p, rfl⟩ : ∃ j p, b = .Constant .none j p := by
      have := c.1
      unfold isNone at this
      split at this
      · exact ⟨_, _, rfl⟩
      · cases this
    by_cases c2 : op = .Is
    · subst c2
      rw [if_pos rfl] at hm
      subst hm
      have se : SE X (.Compare a [.Is] [.Constant .none j p] pos) (evE cf (.op .isN [x])) := by rw [ev1]; exact se_isN sa
      refine ⟨fun _ => ⟨se, ?_⟩, fun _ => ?_⟩
      · rw [show evO cf (.op .isN [x]) = fun ρ => mapR Sum.inr (evE cf (.op .isN [x]) ρ) from funext fun ρ => evO_op cf _ _ ρ]; exact so_of se
      · rw [show evT cf (.op .isN [x]) = fun ρ => truthK (mapR Sum.inr (opK .isN (consK nilE (evO cf x ρ)))) from funext fun ρ => by rw [evT_op, evO_op, ev1]]
        exact st_isN sa
    · rw [if_neg c2] at hm
      subst hm
      rcases c.2 with e | e
      · exact absurd e c2
      subst e
      have se : SE X (.Compare a [.IsNot] [.Constant .none j p] pos) (evE cf (.op .notN [x])) := by rw [ev1]; exact se_notN sa
      refine ⟨fun _ => ⟨se, ?_⟩, fun _ => ?_⟩
      · rw [show evO cf (.op .notN [x]) = fun ρ => mapR Sum.inr (evE cf (.op .notN [x]) ρ) from funext fun ρ => evO_op cf _ _ ρ]; exact so_of se
      · rw [show evT cf (.op .notN [x]) = fun ρ => truthK (mapR Sum.inr (opK .notN (consK nilE (evO cf x ρ)))) from funext fun ρ => by rw [evT_op, evO_op, ev1]]
        exact st_notN sa
  · rw [if_neg c] at h
    by_cases c2 : behindInMarks op b = true
    · rw [if_pos c2] at h; cases h
    · rw [if_neg c2] at h
      obtain ⟨f, hf, h⟩ := Option.bind_eq_some_iff.mp h
      obtain ⟨x, hx, h⟩ := Option.bind_eq_some_iff.mp h
      obtain ⟨y, hy, rfl⟩ := Option.map_eq_some_iff.mp h
      have sa := ((hr a x hx).se rfl).2
      have sb := ((hr b y hy).se rfl).2
      have hm : behindInMarks op b = false := by simpa using c2
      have un := F.un
      cases op <;> simp only [trCmpOp, reduceCtorEq, Option.some.injEq] at hf <;> subst hf
      · exact cmp_core (k_eq (by omega)) (fun _ _ => rfl) (fun a b r h => apEq_bool h) sa sb hm
      · exact cmp_core (k_ne (by omega)) (fun _ _ => rfl) (fun a b r h => by unfold apNe at h; split at h <;> cases h; exact ⟨_, rfl⟩) sa sb hm
      · exact cmp_core k_lt (fun _ _ => rfl) (fun a b r h => by unfold apLt at h; split at h <;> cases h <;> exact ⟨_, rfl⟩) sa sb hm
      · exact cmp_core k_le (fun _ _ => rfl) (fun a b r h => by unfold apLe at h; split at h <;> cases h <;> exact ⟨_, rfl⟩) sa sb hm
      · exact cmp_core k_gt (fun _ _ => rfl) (fun a b r h => by unfold apGt at h; split at h <;> cases h <;> exact ⟨_, rfl⟩) sa sb hm
      · exact cmp_core k_ge (fun _ _ => rfl) (fun a b r h => by unfold apGe at h; split at h <;> cases h <;> exact ⟨_, rfl⟩) sa sb hm
      · exact cmp_core (k_in (by omega)) (fun _ _ => rfl) out_bool sa sb hm
      · exact cmp_core (k_notIn (by omega)) (fun _ _ => rfl) (fun a b r h => by obtain ⟨c, _, rfl⟩ := Option.map_eq_some_iff.mp h; exact ⟨_, rfl⟩) sa sb hm
theorem plainIx_ok {b : Expr} (h : ∀ lo hi st p, b ≠ .Slice lo hi st p) : PlainIx b := by
  intro o i
  cases b <;> first | rfl | exact absurd rfl (h _ _ _ _)
theorem snd_sub {r : Expr → Option ME} (hr : ∀ e m, r e = some m → Snd cf X false e m) {a s : Expr} {m : ME} {pos : Pos} (F : Fit cf T fn sc k X) (h : trSub r a s = some m) : Snd cf X t (.Subscript a s pos) m := by
  have un := F.un
  have key : ∀ b, (∀ lo hi st p, b ≠ .Slice lo hi st p) → ((r a).bind fun x => (r b).map fun y => ME.op .item [x, y]) = some m → Snd cf X t (.Subscript a b pos) m := fun b hb h => by
    obtain ⟨x, hx, h⟩ := Option.bind_eq_some_iff.mp h
    obtain ⟨y, hy, rfl⟩ := Option.map_eq_some_iff.mp h
    refine Snd.val ?_ (evO_op cf _ _) (evT_op cf _ _) fun _ => rfl
    rw [ev2]
    exact se_item (by omega) ((hr a x hx).se rfl).2 ((hr b y hy).se rfl).2 (plainIx_ok hb)
  unfold trSub at h
  split at h
  · obtain ⟨x, hx, rfl⟩ := Option.map_eq_some_iff.mp h
    refine Snd.val ?_ (evO_op cf _ _) (evT_op cf _ _) fun _ => rfl
    rw [ev1]
    exact se_slice00 ((hr _ x hx).se rfl).2
  · obtain ⟨x, hx, h⟩ := Option.bind_eq_some_iff.mp h
    obtain ⟨y, hy, rfl⟩ := Option.map_eq_some_iff.mp h
    refine Snd.val ?_ (evO_op cf _ _) (evT_op cf _ _) fun _ => rfl
    rw [ev2]
    exact se_slice10 ((hr _ x hx).se rfl).2 ((hr _ y hy).se rfl).2
  · obtain ⟨x, hx, h⟩ := Option.bind_eq_some_iff.mp h
    obtain ⟨y, hy, rfl⟩ := Option.map_eq_some_iff.mp h
    refine Snd.val ?_ (evO_op cf _ _) (evT_op cf _ _) fun _ => rfl
    rw [ev2]
    exact se_slice01 ((hr _ x hx).se rfl).2 ((hr _ y hy).se rfl).2
  · obtain ⟨x, hx, h⟩ := Option.bind_eq_some_iff.mp h
    obtain ⟨y, hy, h⟩ := Option.bind_eq_some_iff.mp h
    obtain ⟨z, hz, rfl⟩ := Option.map_eq_some_iff.mp h
    refine Snd.val ?_ (evO_slc cf _ _ _) (evT_slc cf _ _ _) fun _ => rfl
    rw [show evE cf (.slc x y z) = _ from funext fun ρ => evE_slc cf x y z ρ]
    exact se_slice11 ((hr _ x hx).se rfl).2 ((hr _ y hy).se rfl).2 ((hr _ z hz).se rfl).2
  · cases h
  · rename_i n1 n2 n3 n4 n5
    refine key _ (fun lo hi st p e => ?_) h
    subst e
    cases st with
    | some st => exact n5 _ _ _ _ rfl
    | none => cases lo <;> cases hi <;> first | exact n1 _ rfl | exact n2 _ _ rfl | exact n3 _ _ rfl | exact n4 _ _ _ rfl
end
end Mv
namespace Mv
open PySem PySem.Spec PyProof.Rows L2

section
variable {cf : Nat → List RV → CRes} {T : Tab} {fn : Str → Bool} {sc : Scope} {k : Nat} {X : Cx} {t : Bool}
theorem callR_mono {X : Cx} {f : Value} {r r' : List V → Hp → VK → Prop} (h : CallR X f r) (q : ∀ xs H Q, r' xs H Q → r xs H Q) : CallR X f r' := fun pins s σ H xs us Q I rv hr => h pins s σ H xs us Q I rv (q _ _ _ hr)
theorem boot_len : bootBuiltins "len" = some (.builtin "len") := by decide +kernel
theorem one_len (ds : List D) (r : RV) (h : Op.ap .len ds = some r) : ∃ a, ds = [a] ∧ apLen a = some r := by
  match ds, h with
  | [a], h => exact ⟨a, rfl, h⟩
theorem boot_abs : bootBuiltins "abs" = some (.builtin "abs") := by decide +kernel
theorem one_abs (ds : List D) (r : RV) (h : Op.ap .abs ds = some r) : ∃ a, ds = [a] ∧ apAbs a = some r := by
  match ds, h with
  | [a], h => exact ⟨a, rfl, h⟩
theorem boot_int1 : bootBuiltins "int" = some (.type "int") := by decide +kernel
theorem one_int1 (ds : List D) (r : RV) (h : Op.ap .int1 ds = some r) : ∃ a, ds = [a] ∧ apInt1 a = some r := by
  match ds, h with
  | [a], h => exact ⟨a, rfl, h⟩
theorem boot_str1 : bootBuiltins "str" = some (.type "str") := by decide +kernel
theorem one_str1 (ds : List D) (r : RV) (h : Op.ap .str1 ds = some r) : ∃ a, ds = [a] ∧ apStr1 a = some r := by
  match ds, h with
  | [a], h => exact ⟨a, rfl, h⟩
theorem boot_sum : bootBuiltins "sum" = some (.builtin "sum") := by decide +kernel
theorem one_sum (ds : List D) (r : RV) (h : Op.ap .sum ds = some r) : ∃ a, ds = [a] ∧ apSum a = some r := by
  match ds, h with
  | [a], h => exact ⟨a, rfl, h⟩
theorem boot_tuple : bootBuiltins "tuple" = some (.type "tuple") := by decide +kernel
theorem one_tuple (ds : List D) (r : RV) (h : Op.ap .tuple ds = some r) : ∃ a, ds = [a] ∧ apTuple a = some r := by
  match ds, h with
  | [a], h => exact ⟨a, rfl, h⟩
theorem boot_list : bootBuiltins "list" = some (.type "list") := by decide +kernel
theorem one_list (ds : List D) (r : RV) (h : Op.ap .list ds = some r) : ∃ a, ds = [a] ∧ apList a = some r := by
  match ds, h with
  | [a], h => exact ⟨a, rfl, h⟩
theorem boot_repr : bootBuiltins "repr" = some (.builtin "repr") := by decide +kernel
theorem one_repr (ds : List D) (r : RV) (h : Op.ap .repr ds = some r) : ∃ a, ds = [a] ∧ apRepr a = some r := by
  match ds, h with
  | [a], h => exact ⟨a, rfl, h⟩
theorem boot_all : bootBuiltins "all" = some (.builtin "all") := by decide +kernel
theorem one_all (ds : List D) (r : RV) (h : Op.ap .all ds = some r) : ∃ a, ds = [a] ∧ apAll a = some r := by
  match ds, h with
  | [a], h => exact ⟨a, rfl, h⟩
theorem boot_any : bootBuiltins "any" = some (.builtin "any") := by decide +kernel
theorem one_any (ds : List D) (r : RV) (h : Op.ap .any ds = some r) : ∃ a, ds = [a] ∧ apAny a = some r := by
  match ds, h with
  | [a], h => exact ⟨a, rfl, h⟩
theorem trBlt_ok {x : Str} {f : Op} {e : Expr} {m : ME} {p pos : Pos} (F : Fit cf T fn sc k X) (h : trBlt x = some f) (hg : Gl X x) (hm : X.mg x = none) (sa : SA X [e] (evOs cf [m])) (hn : x ≠ "__name__") (hd : (x == ("__debug__" : Str)) = false)
    (he : starEach (e :: []) X.env = (false, eval e X.env) :: starEach [] X.env) : SE X (.Call (.Name x p) [e] [] pos) (evE cf (.op f [m])) := by
  rw [show evE cf (.op f [m]) = fun ρ => opK f (evOs cf [m] ρ) from funext fun ρ => evE_op cf f _ ρ]
  unfold trBlt at h
  by_cases c : (x == "len") = true
  · rw [if_pos c] at h; cases h; have c := eq_of_beq c; subst c
    exact se_callB (f := .len) (callR_mono k_len fun xs H Q q => mcn1 one_len q) hg hm boot_len sa hn hd he rfl
  rw [if_neg c] at h; clear c
  by_cases c : (x == "abs") = true
  · rw [if_pos c] at h; cases h; have c := eq_of_beq c; subst c
    exact se_callB (f := .abs) (callR_mono k_abs fun xs H Q q => mcn1 one_abs q) hg hm boot_abs sa hn hd he rfl
  rw [if_neg c] at h; clear c
  by_cases c : (x == "int") = true
  · rw [if_pos c] at h; cases h; have c := eq_of_beq c; subst c
    exact se_callTy (f := .int1) (callR_mono k_int1 fun xs H Q q => mcn1 one_int1 q) hg hm boot_int1 sa hn hd he rfl
  rw [if_neg c] at h; clear c
  by_cases c : (x == "str") = true
  · rw [if_pos c] at h; cases h; have c := eq_of_beq c; subst c
    exact se_callTy (f := .str1) (callR_mono k_str1 fun xs H Q q => mcn1 one_str1 q) hg hm boot_str1 sa hn hd he rfl
  rw [if_neg c] at h; clear c
  by_cases c : (x == "sum") = true
  · rw [if_pos c] at h; cases h; have c := eq_of_beq c; subst c
    exact se_callB (f := .sum) (callR_mono (k_sum F.calm) fun xs H Q q => mcn1 one_sum q) hg hm boot_sum sa hn hd he rfl
  rw [if_neg c] at h; clear c
  by_cases c : (x == "tuple") = true
  · rw [if_pos c] at h; cases h; have c := eq_of_beq c; subst c
    exact se_callTy (f := .tuple) (callR_mono k_tuple fun xs H Q q => mcn1 one_tuple q) hg hm boot_tuple sa hn hd he rfl
  rw [if_neg c] at h; clear c
  by_cases c : (x == "list") = true
  · rw [if_pos c] at h; cases h; have c := eq_of_beq c; subst c
    exact se_callTy (f := .list) (callR_mono k_list fun xs H Q q => mcn1 one_list q) hg hm boot_list sa hn hd he rfl
  rw [if_neg c] at h; clear c
  by_cases c : (x == "repr") = true
  · rw [if_pos c] at h; cases h; have c := eq_of_beq c; subst c
    exact se_callB (f := .repr) (callR_mono (k_repr F.un F.grd) fun xs H Q q => mcn1 one_repr q) hg hm boot_repr sa hn hd he rfl
  rw [if_neg c] at h; clear c
  by_cases c : (x == "all") = true
  · rw [if_pos c] at h; cases h; have c := eq_of_beq c; subst c
    exact se_callB (f := .all) (callR_mono (k_all F.calm) fun xs H Q q => mcn1 one_all q) hg hm boot_all sa hn hd he rfl
  rw [if_neg c] at h; clear c
  by_cases c : (x == "any") = true
  · rw [if_pos c] at h; cases h; have c := eq_of_beq c; subst c
    exact se_callB (f := .any) (callR_mono (k_any F.calm) fun xs H Q q => mcn1 one_any q) hg hm boot_any sa hn hd he rfl
  rw [if_neg c] at h; clear c
  cases h
theorem trL_nil {r : Expr → Option ME} {es : List Expr} (h : trL r es = some []) : es = [] := by
  cases es with
  | nil => rfl
  | cons e es =>
    rw [trL] at h
    split at h
    · obtain ⟨m, _, h⟩ := Option.bind_eq_some_iff.mp h
      obtain ⟨ms, _, h⟩ := Option.map_eq_some_iff.mp h
      cases h
    · cases h
theorem trL_len {r : Expr → Option ME} : ∀ {es : List Expr} {ms : List ME}, trL r es = some ms → ms.length = es.length
  | [], ms, h => by cases h; rfl
  | e :: es, ms, h => by
    rw [trL] at h
    split at h
    · obtain ⟨m, _, h⟩ := Option.bind_eq_some_iff.mp h
      obtain ⟨ms', h3, rfl⟩ := Option.map_eq_some_iff.mp h
      simp [trL_len h3]
    · cases h
theorem sp_call {K : Frag} {evs : Loc → Res (List Od)} {c : List RV → CRes} {σ : L2.St} {H : Hp} {Q : VK} (h : rd K (fun ρ => callA c (evs ρ)) (RAv K) σ H Q) : rd K evs (RAos K) σ H fun vs H1 => spF K c vs H1 Q E0 := call_ok h
theorem evOs_app (cs : List D) : ∀ (ms : List ME) (ρ : Mv.Loc), evOs cf (ms ++ cs.map .const) ρ = mapR (· ++ cs.map fun d => Sum.inr (RV.imm d)) (evOs cf ms ρ)
  | [], ρ => by
    rw [List.nil_append, evOs_nil]
    show _ = Res.ok ([] ++ cs.map fun d => Sum.inr (RV.imm d)) ρ
    rw [List.nil_append]
    induction cs with
    | nil => rw [List.map_nil, List.map_nil, evOs_nil]
    | cons d t ih =>
      rw [List.map_cons, evOs_cons, evO_const, evE_const]
      show mapR (List.cons (Sum.inr (RV.imm d))) (evOs cf (t.map .const) ρ) = _
      rw [ih]; rfl
  | m :: ms, ρ => by
    rw [List.cons_append, evOs_cons, evOs_cons]
    cases evO cf m ρ with
    | fail => rfl
    | ok o ρ1 =>
      show mapR (List.cons o) (evOs cf (ms ++ cs.map .const) ρ1) = mapR _ (mapR (List.cons o) (evOs cf ms ρ1))
      rw [evOs_app cs ms ρ1]
      cases evOs cf ms ρ1 <;> rfl
theorem rods_imms {K : Frag} {σ : L2.St} {Z H : Hp} {F : Reg} : ∀ {ds : List D} {ws : List V}, RepDs K Z ds ws → ROds K σ (ds.map fun d => Sum.inr (RV.imm d)) ws Z H F
  | [], ws, r => repDs_nil r
  | d :: ds, ws, r => by
    obtain ⟨v, t, rfl, r1, r2⟩ := repDs_cons r
    exact ⟨v, t, fun _ => False, fun _ => False, rfl, fun _ z => z.elim, fun _ z => z.elim, fun _ z => z.elim, .imm r1, rods_imms r2⟩
theorem rods_app {K : Frag} {σ : L2.St} {Z H : Hp} {ds : List D} {ws : List V} (r : RepDs K Z ds ws) : ∀ {os : List Od} {vs : List V} {F : Reg}, ROds K σ os vs Z H F → ROds K σ (os ++ ds.map fun d => Sum.inr (RV.imm d)) (vs ++ ws) Z H F
  | [], vs, F, h => by
    have h : vs = [] := h
    subst h
    exact rods_imms r
  | o :: os, vs, F, h => by
    obtain ⟨v, t, F1, F2, rfl, h1, h2, h3, h4, h5⟩ := h
    exact ⟨v, t ++ ws, F1, F2, rfl, h1, h2, h3, h4, rods_app r h5⟩
theorem rd_app {K : Frag} {ds : List D} {ws : List V} {ms : List ME} {σ : L2.St} {H : Hp} {Q : List V → Hp → Prop} (h : rd K (evOs cf (ms ++ ds.map .const)) (RAos K) σ H Q) (r : ∀ Z, RepDs K Z ds ws) :
    rd K (evOs cf ms) (RAos K) σ H fun us H1 => Q (us ++ ws) H1 := by
  obtain ⟨Z, ρ, F, S, os, ρ', e, q⟩ := h
  rw [evOs_app] at e
  cases e0 : evOs cf ms ρ with
  | fail => rw [e0] at e; cases e
  | ok os0 ρ0 =>
    rw [e0] at e
    cases e
    exact ⟨Z, ρ, F, S, os0, ρ', e0, fun us H1 ⟨Z1, F1, Fv1, S1, r1, d1, z1, f1⟩ => q _ _ ⟨Z1, F1, Fv1, S1, rods_app (r Z1) r1, d1, z1, f1⟩⟩
theorem snd_call {r : Expr → Option ME} (hr : ∀ e m, r e = some m → Snd cf X false e m) {f : Expr} {es : List Expr} {m : ME} {pos : Pos} (F : Fit cf T fn sc k X) (h : trCall r T sc pos f es = some m) : Snd cf X t (.Call f es [] pos) m := by
  unfold trCall at h
  split at h
  · rename_i x p
    by_cases c0 : own2 x = true
    · rw [if_pos c0] at h; cases h
    rw [if_neg c0] at h
    obtain ⟨o1, o2, o3⟩ := own2_ok c0
    by_cases c : isGl (sc.names.lookup x) = true
    · rw [if_pos c] at h
      split at h
      · rename_i i n hf
        by_cases c2 : es.length = n
        · rw [if_pos c2] at h
          obtain ⟨ms, hms, rfl⟩ := Option.map_eq_some_iff.mp h
          obtain ⟨sa, st⟩ := trL_ok hr hms
          obtain ⟨a, fd, ps, h1, h2, h3, h4, h5, _⟩ := F.fns x i n hf
          refine Snd.val ?_ (evO_call cf _ _) (evT_call cf _ _) fun _ => rfl
          rw [show evE cf (.call i ms) = fun ρ => callA (cf i) (evOs cf ms ρ) from funext fun ρ => evE_call cf i ms ρ]
          cases es with
          | nil =>
            have : ms = [] := by cases hms; rfl
            subst this
            refine PE_imp (pe_callG0 h5 F.room F.grd (F.gl c) h1 h2 h3 o1) fun σ H Q q => ?_
            obtain ⟨Z, ρ, F', S, os, ρ', e0, q⟩ := sp_call q
            rw [evOs0] at e0
            cases e0
            exact q [] H (Done.here S rfl)
          | cons e es =>
            unfold noStars at st
            have st' := st
            rw [List.all_cons, Bool.and_eq_true] at st
            exact PE_imp (pe_callG h5 F.room F.grd (F.gl c) h1 h2 h3 sa o1 (starEach_ok st.1) (star_any st.2)) fun σ H Q q => sp_call q
        · rw [if_neg c2] at h
          obtain ⟨ds, hds, h⟩ := Option.bind_eq_some_iff.mp h
          split at h
          · rename_i c3
            obtain ⟨ms, hms, rfl⟩ := Option.map_eq_some_iff.mp h
            obtain ⟨sa, st⟩ := trL_ok hr hms
            obtain ⟨a, fd, ps, h1, h2, h3, h4, h5, h6⟩ := F.fns x i n hf
            rw [hds] at h6
            obtain ⟨us, vs, b, rv, rr⟩ := h6 (es.length + ds.length - n) (by omega)
            refine Snd.val ?_ (evO_call cf _ _) (evT_call cf _ _) fun _ => rfl
            rw [show evE cf (.call i (ms ++ (ds.drop (es.length + ds.length - n)).map .const)) = fun ρ => callA (cf i) (evOs cf (ms ++ (ds.drop (es.length + ds.length - n)).map .const) ρ) from funext fun ρ => evE_call cf i _ ρ]
            cases es with
            | nil =>
              have : ms = [] := by cases hms; rfl
              subst this
              refine PE_imp (pe_callGD0 h5 F.room F.grd (F.gl c) h1 h2 b rv o1) fun σ H Q q => ?_
              obtain ⟨Z, ρ, F', S, os, ρ', e0, q⟩ := rd_app (sp_call q) rr
              rw [evOs0] at e0
              cases e0
              exact q [] H (Done.here S rfl)
            | cons e es =>
              unfold noStars at st
              have st' := st
              rw [List.all_cons, Bool.and_eq_true] at st
              exact PE_imp (pe_callGD h5 F.room F.grd (F.gl c) h1 h2 b rv sa o1 (starEach_ok st.1) (star_any st.2)) fun σ H Q q => rd_app (sp_call q) rr
          · cases h
      · by_cases c2 : T.blts.contains x = true
        · rw [if_pos c2] at h
          obtain ⟨f, hf, h⟩ := Option.bind_eq_some_iff.mp h
          obtain ⟨ms, hms, h⟩ := Option.bind_eq_some_iff.mp h
          split at h
          · cases h
            rename_i m
            obtain ⟨sa, st⟩ := trL_ok hr hms
            have hl := trL_len hms
            refine Snd.val ?_ (evO_op cf _ _) (evT_op cf _ _) fun _ => rfl
            match es, hl with
            | [e], _ =>
              unfold noStars at st
              rw [List.all_cons, Bool.and_eq_true] at st
              exact trBlt_ok F hf (F.gl c) (F.blt x c2) sa o3 o1 (starEach_ok st.1)
          · cases h
        · rw [if_neg c2] at h; cases h
    · rw [if_neg c] at h; cases h
  · rename_i o op name apos
    by_cases c0 : own2 o = true
    · rw [if_pos c0] at h; cases h
    rw [if_neg c0] at h
    obtain ⟨o1, o2, o3⟩ := own2_ok c0
    by_cases c : isVis (sc.names.lookup o) = true ∧ (apos.endLine == pos.line) = true ∧ es.length < 30
    · rw [if_pos c] at h
      obtain ⟨i, hi, h⟩ := Option.bind_eq_some_iff.mp h
      obtain ⟨mt, hmt, h⟩ := Option.bind_eq_some_iff.mp h
      obtain ⟨ms, hms, rfl⟩ := Option.map_eq_some_iff.mp h
      obtain ⟨sa, st⟩ := trL_ok hr hms
      refine Snd.val ?_ (evO_meth cf _ _ _) (evT_meth cf _ _ _) fun _ => rfl
      rw [show evE cf (.meth i mt ms) = fun ρ => methK i mt (methC (isOwn mt (slotAt ρ i)) (takesK (evOs cf ms ρ))) from funext fun ρ => evE_meth cf i mt ms ρ]
      have hv : PE X (.Name o op) (tVar i) := pe_var (by rw [F.N]; exact ixOf_ok hi) (F.vis c.1) o1 o2
      have go : ∀ {id : String}, PySem.Slot "list" name id → typeOf (.builtin id) = pure (.type "method_descriptor") → MtR X id (MM X.K mt) → SE X (.Call (.Attribute (.Name o op) name apos) es [] pos) fun ρ => methK i mt (methC (isOwn mt (slotAt ρ i)) (takesK (evOs cf ms ρ))) := fun {id} sl ty mm => by
        cases es with
        | nil =>
          have : ms = [] := by cases hms; rfl
          subst this
          rw [evOs0]
          exact se_meth0 PySem.F.plainAttrs_list sl ty mm hv rfl c.2.1
        | cons e es =>
          unfold noStars at st
          have st' := st
          rw [List.all_cons, Bool.and_eq_true] at st
          refine se_meth PySem.F.plainAttrs_list sl ty mm hv sa rfl ?_ c.2.1 (starEach_ok st.1) (star_any st.2)
          rw [Bool.and_eq_true, Bool.and_eq_true]
          refine ⟨⟨star_len (pos := pos) (show noStars (e :: es) = true from st'), rfl⟩, decide_eq_true ?_⟩
          have := c.2.2
          simpa using this
      unfold trMt at hmt
      split at hmt
      · rename_i c; cases hmt; rw [eq_of_beq c] at *; exact go PySem.F.slot_list_append PySem.F.type_list_append mm_append
      split at hmt
      · rename_i c; cases hmt; rw [eq_of_beq c] at *; exact go PySem.F.slot_list_extend PySem.F.type_list_extend mm_extend
      split at hmt
      · rename_i c
        have c := eq_of_beq c
        subst c
        split at hmt
        · cases hmt; exact go PySem.F.slot_list_pop PySem.F.type_list_pop mm_pop
        · cases hmt; exact go PySem.F.slot_list_pop PySem.F.type_list_pop mm_popAt
      split at hmt
      · rename_i c; cases hmt; rw [eq_of_beq c] at *; exact go PySem.F.slot_list_reverse PySem.F.type_list_reverse mm_reverse
      · cases hmt
    · rw [if_neg c] at h; cases h
  · cases h

theorem snd_nest {r : Expr → Option ME} (hr : ∀ e m, r e = some m → Snd cf X false e m) {a b : Expr} {m : ME} {pos : Pos} (F : Fit cf T fn sc k X) (h : trNest r T sc a b = some m) : Snd cf X t (.Subscript a b pos) m := by
  unfold trNest at h
  split at h
  · rename_i x p
    by_cases c0 : own2 x = true
    · rw [if_pos c0] at h; cases h
    rw [if_neg c0] at h
    obtain ⟨o1, o2, o3⟩ := own2_ok c0
    split at h
    · rename_i c
      obtain ⟨i, hi, h⟩ := Option.bind_eq_some_iff.mp h
      obtain ⟨y, hy, rfl⟩ := Option.map_eq_some_iff.mp h
      have hv : PE X (.Name x p) (tVar i) := pe_var (by rw [F.N]; exact ixOf_ok hi) (F.vis c.2.2) o1 o2
      refine Snd.val ?_ (evO_idx cf _ _) (evT_idx cf _ _) fun _ => rfl
      rw [show evE cf (.idx i y) = fun ρ => idxC (idxK i (evO cf y ρ)) (slotAt ρ i) from funext fun ρ => evE_idx cf i y ρ]
      exact se_idx hv ((hr _ _ hy).se rfl).2 (plainIx_ok fun lo hi st q e => by have c := c.2.1; subst e; cases c)
    · cases h
  · cases h
theorem snd_nm {r : Expr → Option ME} (hr : ∀ e m, r e = some m → Snd cf X false e m) {o e : Expr} {name : Str} {m : ME} {apos pos : Pos} (F : Fit cf T fn sc k X) (h : trNM r T sc pos o name apos e = some m) : Snd cf X t (.Call (.Attribute o name apos) [e] [] pos) m := by
  unfold trNM at h
  split at h
  · rename_i x op kk j p1 p2
    by_cases c0 : own2 x = true
    · rw [if_pos c0] at h; cases h
    rw [if_neg c0] at h
    obtain ⟨o1, o2, o3⟩ := own2_ok c0
    split at h
    · rename_i c
      obtain ⟨i, hi, h⟩ := Option.bind_eq_some_iff.mp h
      obtain ⟨mt, hmt, h⟩ := Option.bind_eq_some_iff.mp h
      obtain ⟨ms, hms, rfl⟩ := Option.map_eq_some_iff.mp h
      obtain ⟨sa, st⟩ := trL_ok hr hms
      have hv : PE X (.Name x op) (tVar i) := pe_var (by rw [F.N]; exact ixOf_ok hi) (F.vis c.2.1) o1 o2
      have st' := st
      unfold noStars at st
      rw [List.all_cons, Bool.and_eq_true] at st
      refine Snd.val ?_ (evO_meth2 cf _ _ _ _) (evT_meth2 cf _ _ _ _) fun _ => rfl
      rw [show evE cf (.meth2 i kk.toNat mt ms) = fun ρ => meth2S i kk.toNat mt (evOs cf ms) ρ (slotAt ρ i) from funext fun ρ => evE_meth2 cf i _ mt ms ρ]
      have hk : PE X (.Constant (.int kk) j p1) (tC (.int (kk.toNat : Nat))) := by
        rw [Int.toNat_of_nonneg c.2.2.2]
        exact pe_int
      have go : ∀ {id : String}, PySem.Slot "list" name id → typeOf (.builtin id) = pure (.type "method_descriptor") → MtR X id (MM X.K mt) → SE X (.Call (.Attribute (.Subscript (.Name x op) (.Constant (.int kk) j p1) p2) name apos) [e] [] pos) fun ρ => meth2S i kk.toNat mt (evOs cf ms) ρ (slotAt ρ i) := fun {id} sl ty mm => by
        refine se_meth2 sl ty mm hv hk (plainIx_ok fun lo hi st q e => by cases e) sa ?_ c.2.2.1 (starEach_ok st.1) (star_any st.2)
        rw [Bool.and_eq_true, Bool.and_eq_true]
        exact ⟨⟨star_len (pos := pos) st', rfl⟩, rfl⟩
      unfold trMt at hmt
      split at hmt
      · rename_i c; cases hmt; rw [eq_of_beq c] at *; exact go PySem.F.slot_list_append PySem.F.type_list_append mm_append
      split at hmt
      · rename_i c; cases hmt; rw [eq_of_beq c] at *; exact go PySem.F.slot_list_extend PySem.F.type_list_extend mm_extend
      split at hmt
      · rename_i c
        have c := eq_of_beq c
        subst c
        split at hmt
        · rename_i z; cases z
        · cases hmt; exact go PySem.F.slot_list_pop PySem.F.type_list_pop mm_popAt
      split at hmt
      · rename_i c; cases hmt; rw [eq_of_beq c] at *; exact go PySem.F.slot_list_reverse PySem.F.type_list_reverse mm_reverse
      · cases hmt
    · cases h
  · cases h
theorem snd_more {r : Expr → Option ME} (hr : ∀ e m, r e = some m → Snd cf X false e m) {f : Expr} {es : List Expr} {m : ME} {pos : Pos} (F : Fit cf T fn sc k X) (h : trMore r T sc pos f es = some m) : Snd cf X t (.Call f es [] pos) m := by
  unfold trMore at h
  split at h
  · rename_i o name apos e
    split at h
    · rename_i c
      have un := F.un
      have hb : ∀ nm, attributeBase o nm X.env (eval o X.env) = eval o X.env := fun nm => by
        have c := c.1
        cases o <;> first | rfl | (simp [plainB] at c; done)
      have go : ∀ (q : Mq) (nm : Str), ((q = .split ∧ nm = "split") ∨ (q = .index ∧ nm = "index")) → (name == nm) = true → ((r o).bind fun x => (r e).map fun y => ME.met q x y) = some m → Snd cf X t (.Call (.Attribute o name apos) [e] [] pos) m := fun q nm hq hn h => by
        obtain ⟨x, hx, h⟩ := Option.bind_eq_some_iff.mp h
        obtain ⟨y, hy, rfl⟩ := Option.map_eq_some_iff.mp h
        have hn := eq_of_beq hn
        subst hn
        refine Snd.val ?_ (evO_met cf _ _ _) (evT_met cf _ _ _) fun _ => rfl
        rw [show evE cf (.met q x y) = fun ρ => metK q (fun ρ1 => consK nilE (evO cf y ρ1)) (evO cf x ρ) from funext fun ρ => evE_met cf q x y ρ]
        exact se_met (by omega) hq ((hr _ _ hx).se rfl).2 ((hr _ _ hy).se rfl).2 (hb _) c.2.2 (starEach_ok (es := []) c.2.1)
      split at h
      · rename_i hn; exact go .split "split" (.inl ⟨rfl, rfl⟩) hn h
      · split at h
        · rename_i hn; exact go .index "index" (.inr ⟨rfl, rfl⟩) hn h
        · exact snd_nm hr F h
    · cases h
  · rename_i x p a b
    by_cases c0 : own2 x = true
    · rw [if_pos c0] at h; cases h
    rw [if_neg c0] at h
    obtain ⟨o1, o2, o3⟩ := own2_ok c0
    split at h
    · rename_i c
      split at h
      · rename_i hx
        obtain ⟨ms, hms, rfl⟩ := Option.map_eq_some_iff.mp h
        obtain ⟨sa, st⟩ := trL_ok hr hms
        unfold noStars at st
        rw [List.all_cons, Bool.and_eq_true] at st
        have hx := eq_of_beq hx
        subst hx
        refine Snd.val ?_ (evO_op cf _ _) (evT_op cf _ _) fun _ => rfl
        rw [show evE cf (.op .max ms) = fun ρ => opK .max (evOs cf ms ρ) from funext fun ρ => evE_op cf .max _ ρ]
        exact se_callB (f := .max) (k_max F.calm) (F.gl c.1) (F.blt _ c.2) boot_max sa o3 o1 (starEach_ok st.1) (star_any st.2)
      · split at h
        · rename_i hx
          obtain ⟨ms, hms, rfl⟩ := Option.map_eq_some_iff.mp h
          obtain ⟨sa, st⟩ := trL_ok hr hms
          unfold noStars at st
          rw [List.all_cons, Bool.and_eq_true] at st
          have hx := eq_of_beq hx
          subst hx
          refine Snd.val ?_ (evO_op cf _ _) (evT_op cf _ _) fun _ => rfl
          rw [show evE cf (.op .min ms) = fun ρ => opK .min (evOs cf ms ρ) from funext fun ρ => evE_op cf .min _ ρ]
          exact se_callB (f := .min) (k_min F.calm) (F.gl c.1) (F.blt _ c.2) boot_min sa o3 o1 (starEach_ok st.1) (star_any st.2)
        · cases h
    · cases h
  · cases h
theorem snd_kw {r : Expr → Option ME} (hr : ∀ e m, r e = some m → Snd cf X false e m) {f : Expr} {es : List Expr} {kws : List Keyword} {m : ME} {pos : Pos} (F : Fit cf T fn sc k X) (h : trKw r T sc f es kws = some m) : Snd cf X t (.Call f es kws pos) m := by
  unfold trKw at h
  split at h
  · rename_i x p e nm c kp
    by_cases c0 : own2 x = true
    · rw [if_pos c0] at h; cases h
    rw [if_neg c0] at h
    split at h
    · rename_i cc
      obtain ⟨g1, g2, g3, g4, g5⟩ := cc
      obtain ⟨a, ha, h⟩ := Option.bind_eq_some_iff.mp h
      obtain ⟨b, hb, rfl⟩ := Option.map_eq_some_iff.mp h
      have g5 := eq_of_beq g5
      subst g5
      refine Snd.val ?_ (evO_op cf _ _) (evT_op cf _ _) fun _ => rfl
      rw [ev2]
      exact se_maxd F.calm F.un (eq_of_beq g4) (F.gl g1) (F.blt _ g2) ((hr _ _ ha).se rfl).2 ((hr _ _ hb).se rfl).2 (starEach_ok (es := []) g3)
    · cases h
  · cases h

theorem names_inv {e : Expr} {es : List Expr} {is : List Nat} (h : trTg.names T fn sc (e :: es) = some is) :
    ∃ x p i is', e = .Name x p ∧ (isLoc (sc.names.lookup x) = true ∧ (fn x = true ∨ isLocal (sc.names.lookup x) = true)) ∧ ixOf T.N x = some i ∧ trTg.names T fn sc es = some is' ∧ is = i :: is' := by
  cases e with
  | Name x p =>
    rw [trTg.names] at h
    split at h
    · rename_i c
      obtain ⟨i, hi, h⟩ := Option.bind_eq_some_iff.mp h
      obtain ⟨is', h3, rfl⟩ := Option.map_eq_some_iff.mp h
      exact ⟨x, p, i, is', rfl, c, hi, h3, rfl⟩
    · cases h
  | _ => simp [trTg.names] at h
theorem names_len : ∀ {es : List Expr} {is : List Nat}, trTg.names T fn sc es = some is → (assignEach es X.env).length = is.length ∧ (assignEach es X.env).findIdx? (·.1) = none
  | [], is, h => by rw [trTg.names] at h; cases h; exact ⟨rfl, rfl⟩
  | e :: es, is, h => by
    obtain ⟨x, p, i, is', rfl, c, hi, h3, rfl⟩ := names_inv h
    obtain ⟨g1, g2⟩ := names_len h3
    refine ⟨by simp only [assignEach, List.length_cons, g1], ?_⟩
    rw [assignEach, List.findIdx?_cons, g2]
    · rfl
    · nofun
theorem names_pg (F : Fit cf T fn sc k X) : ∀ {es : List Expr} {is : List Nat}, trTg.names T fn sc es = some is → PGs X es (gNames is)
  | [], is, h => by
    rw [trTg.names] at h
    cases h
    refine ⟨fun pins s σ H vs us Q I r h => ?_⟩
    obtain ⟨σ', e, q⟩ := h
    cases vs with
    | nil => cases e; exact pgs_nil.run pins s σ H [] us Q I r ⟨rfl, q⟩
    | cons v vs => cases e
  | e :: es, is, h => by
    obtain ⟨x, p, i, is', rfl, c, hi, h3, rfl⟩ := names_inv h
    have p1 : PG X (.Name x p) (gName i) := pg_name (by rw [F.N]; exact F.nd) (by rw [F.N]; exact ixOf_ok hi) (by rw [F.scE]; exact isLoc_ok c.1) (by rw [F.fn, F.scE]; exact c.2.imp id isLocal_ok)
    refine ⟨fun pins s σ H vs us Q I r h => ?_⟩
    obtain ⟨σ', e, q⟩ := h
    cases vs with
    | nil => cases e
    | cons v vs => exact (pgs_cons p1 (names_pg F h3)).run pins s σ H (v :: vs) us Q I r ⟨v, vs, rfl, σ', e, q⟩
theorem trTg_ok (F : Fit cf T fn sc k X) {e : Expr} {tg : Tg} (h : trTg T fn sc e = some tg) : PG X e (gTg X.K tg) := by
  unfold trTg at h
  split at h
  · split at h
    · rename_i c
      obtain ⟨i, hi, rfl⟩ := Option.map_eq_some_iff.mp h
      exact pg_name (by rw [F.N]; exact F.nd) (by rw [F.N]; exact ixOf_ok hi) (by rw [F.scE]; exact isLoc_ok c.1) (by rw [F.fn, F.scE]; exact c.2.imp id isLocal_ok)
    · cases h
  · obtain ⟨is, hi, rfl⟩ := Option.map_eq_some_iff.mp h
    obtain ⟨g1, g2⟩ := names_len (X := X) hi
    rename_i es kk ps
    have pt := pg_tup (k := kk) (pos := ps) F.calm (names_pg F hi) g1 g2
    have pl := pg_lst (k := kk) (pos := ps) F.calm (names_pg F hi) g1 g2
    exact ⟨fun pins s σ H v u Q I r q => q.elim (pt.run pins s σ H v u Q I r) (pl.run pins s σ H v u Q I r)⟩
  · cases h
theorem trIt_ok {r : Expr → Option ME} (hr : ∀ e m, r e = some m → Snd cf X false e m) (F : Fit cf T fn sc k X) {tg e : Expr} {ks : ItK × List ME} (h : trIt r T sc e = some ks) :
    PI X tg e (rdI X.K fun ρ => itemsK ks.1 (evOs cf ks.2 ρ)) ∧ ∀ x, foldedSetIterable e X.env x = pure x := by
  have seq : ∀ {e : Expr} {m : ME}, r e = some m → PI X tg e (rdI X.K fun ρ => itemsK .seq (evOs cf [m] ρ)) := fun {e m} h => by
    rw [show (fun ρ => itemsK .seq (evOs cf [m] ρ)) = fun ρ => itemsK .seq (consK nilE (evO cf m ρ)) from funext fun ρ => by rw [evOs1, evOs0]]
    exact si_seq ((hr _ _ h).se rfl).2
  unfold trIt at h
  split at h
  · rename_i x p es pos
    refine ⟨?_, fun _ => rfl⟩
    split at h
    · rename_i c
      split at h
      · rename_i c2
        obtain ⟨ms, hms, h⟩ := Option.bind_eq_some_iff.mp h
        have hl := trL_len hms
        rw [eq_of_beq c] at *
        split at h
        · cases h
          rename_i a
          match es, hl, hms with
          | [e1], _, hms =>
            rw [trL] at hms
            split at hms
            · rename_i c3
              obtain ⟨m, hm, hms⟩ := Option.bind_eq_some_iff.mp hms
              obtain ⟨ms', h3, hms⟩ := Option.map_eq_some_iff.mp hms
              cases hms
              show PI X tg _ (rdI X.K fun ρ => itemsK .range (evOs cf [a] ρ))
              rw [show (fun ρ => itemsK .range (evOs cf [a] ρ)) = fun ρ => itemsK .range (consK nilE (evO cf a ρ)) from funext fun ρ => by rw [evOs1, evOs0]]
              exact si_range1 ((hr _ _ hm).se rfl).2 (F.gl c2.1) (F.blt _ c2.2) (starEach_ok c3)
            · cases hms
        · cases h
          rename_i a b
          match es, hl, hms with
          | [e1, e2], _, hms =>
            rw [trL] at hms
            split at hms
            · rename_i c3
              obtain ⟨m, hm, hms⟩ := Option.bind_eq_some_iff.mp hms
              obtain ⟨ms', h3, hms⟩ := Option.map_eq_some_iff.mp hms
              cases hms
              rw [trL] at h3
              split at h3
              · rename_i c4
                obtain ⟨m2, hm2, h3⟩ := Option.bind_eq_some_iff.mp h3
                obtain ⟨ms2, h4, h3⟩ := Option.map_eq_some_iff.mp h3
                cases h3
                show PI X tg _ (rdI X.K fun ρ => itemsK .range (evOs cf [a, b] ρ))
                rw [show (fun ρ => itemsK .range (evOs cf [a, b] ρ)) = fun ρ => itemsK .range (consK (fun ρ => consK nilE (evO cf b ρ)) (evO cf a ρ)) from funext fun ρ => by rw [evOs1, evOs1, evOs0]]
                exact si_range2 ((hr _ _ hm).se rfl).2 ((hr _ _ hm2).se rfl).2 (F.gl c2.1) (F.blt _ c2.2) (by rw [starEach_ok c3, starEach_ok c4]; rfl) (starEach_ok c4)
              · cases h3
            · cases hms
        · cases h
      · cases h
    · obtain ⟨m, hm, rfl⟩ := Option.map_eq_some_iff.mp h
      exact seq hm
  · cases h
  · rename_i n1 n2
    obtain ⟨m, hm, rfl⟩ := Option.map_eq_some_iff.mp h
    refine ⟨seq hm, fun x => ?_⟩
    cases e <;> first | rfl | exact absurd rfl (n2 _ _ _)
theorem ownOf_ix {N : List Str} : ∀ {names : List (Str × NameKind)} {p : Str × Nat}, True → True := fun _ => trivial
theorem trBool_or {r : Expr → Option ME} (hr : ∀ e m, r e = some m → Snd cf X t e m) {pos : Pos} : ∀ {es : List Expr} {m : ME}, trBool r .Or es = some m →
    (t = false → SE X (.BoolOp .Or es pos) (evE cf m)) ∧ (t = true → PW X (.BoolOp .Or es pos) (rd X.K (evT cf m) RAb))
  | [], m, h => by cases h
  | [a], m, h => by
    have h : r a = some m := h
    exact ⟨fun e => se_one ((hr a m h).se e).1, fun e => sw_or1 ((hr a m h).st e)⟩
  | a :: b :: es, m, h => by
    rw [trBool] at h
    · obtain ⟨x, hx, h⟩ := Option.bind_eq_some_iff.mp h
      obtain ⟨y, hy, rfl⟩ := Option.map_eq_some_iff.mp h
      obtain ⟨g1, g2⟩ := trBool_or hr (pos := pos) hy
      refine ⟨fun e => ?_, fun e => ?_⟩
      · show SE X _ (evE cf (.or x y))
        rw [show evE cf (.or x y) = fun ρ => orK (evE cf y) (evE cf x ρ) from funext fun ρ => evE_or cf x y ρ]
        exact se_or ((hr a x hx).se e).1 (g1 e)
      · show PW X _ (rd X.K (evT cf (.or x y)) RAb)
        rw [show evT cf (.or x y) = fun ρ => orT (evT cf y) (evT cf x ρ) from funext fun ρ => evT_or cf x y ρ]
        exact sw_or ((hr a x hx).st e) (g2 e)
    · nofun
theorem trBool_and {r : Expr → Option ME} (hr : ∀ e m, r e = some m → Snd cf X t e m) {pos : Pos} : ∀ {es : List Expr} {m : ME}, trBool r .And es = some m →
    (t = false → SE X (.BoolOp .And es pos) (evE cf m)) ∧ (t = true → PW X (.BoolOp .And es pos) (rd X.K (evT cf m) RAb))
  | [], m, h => by cases h
  | [a], m, h => by
    have h : r a = some m := h
    exact ⟨fun e => se_one ((hr a m h).se e).1, fun e => sw_and1 ((hr a m h).st e)⟩
  | a :: b :: es, m, h => by
    rw [trBool] at h
    · obtain ⟨x, hx, h⟩ := Option.bind_eq_some_iff.mp h
      obtain ⟨y, hy, rfl⟩ := Option.map_eq_some_iff.mp h
      obtain ⟨g1, g2⟩ := trBool_and hr (pos := pos) hy
      refine ⟨fun e => ?_, fun e => ?_⟩
      · show SE X _ (evE cf (.and x y))
        rw [show evE cf (.and x y) = fun ρ => andK (evE cf y) (evE cf x ρ) from funext fun ρ => evE_and cf x y ρ]
        exact se_and ((hr a x hx).se e).1 (g1 e)
      · show PW X _ (rd X.K (evT cf (.and x y)) RAb)
        rw [show evT cf (.and x y) = fun ρ => andT (evT cf y) (evT cf x ρ) from funext fun ρ => evT_and cf x y ρ]
        exact sw_and ((hr a x hx).st e) (g2 e)
    · nofun

theorem snd_comp {r r' rt : Expr → Option ME} (F : Fit cf T fn sc k X) {elt tg iter : Expr} {ifs : List Expr} {scope : Scope} {pos : Pos} {ks : ItK × List ME} {g : Tg} {cs : List ME} {m : ME} (hr : ∀ e m, r e = some m → Snd cf X false e m)
    (hr' : ∀ X', Fit cf T (fun x => scope.names.lookup x == some .cell) (relS scope sc) k X' → ∀ e m, r' e = some m → Snd cf X' false e m) (hrt : ∀ X', Fit cf T (fun x => scope.names.lookup x == some .cell) (relS scope sc) k X' → ∀ e m, rt e = some m → Snd cf X' true e m)
    (hb : blkC T.N sc scope (ownOf T.N scope.names) = true) (hi : trIt r T sc iter = some ks) (hg : trTg T (fun x => scope.names.lookup x == some .cell) (relS scope sc) tg = some g) (hc : trConds rt ifs = some cs) (he : r' elt = some m)
    (hs : (g.slots.all fun i => ((ownOf T.N scope.names).map (·.2)).contains i) = true) :
    (∀ {i : Nat} {y : Str} {py spos : Pos}, X.N[i]? = some y → X.env.scope.names.lookup y = some .local → swapsWith (.ListComp elt [⟨tg, iter, ifs, 0⟩] scope pos) (some (.Name y py)) spos.line X.env = pure true →
      SS X (.Assign [.Name y py] (.ListComp elt [⟨tg, iter, ifs, 0⟩] scope pos) spos) (fun ρ => asgK (.name i) (evE cf (.comp ((ownOf T.N scope.names).map (·.2)) ks.1 ks.2 g cs m) ρ)) [i]) ∧
    Snd cf X t (.ListComp elt [⟨tg, iter, ifs, 0⟩] scope pos) (.comp ((ownOf T.N scope.names).map (·.2)) ks.1 ks.2 g cs m) := by
  have ok := blkOk_by hb
  have hk : scope.kind = .function := ok.kind
  have ok' : BlkOk X.N X.env.scope scope (ownOf T.N scope.names) := by rw [F.N, F.scE]; exact ok
  have fb := fun s H C cl fp => F.blk scope hk s H C cl fp
  have hts : ∀ i, i ∈ g.slots → i ∈ (ownOf T.N scope.names).map (·.2) := fun i h => by
    have := List.all_eq_true.mp hs i h
    simpa using this
  obtain ⟨pi, fs⟩ := trIt_ok (tg := tg) hr F hi
  have pgs : ∀ (s : Shared) (H : Hp) (C : Addr) (cl : List (Str × Addr)) (fp : List Addr), PG (X.blk s H scope (compEnvC scope cl C X.env) fp) tg (gTg X.K g) := fun s H C cl fp => trTg_ok (fb s H C cl fp) hg
  have pe : ∀ (s : Shared) (H : Hp) (C : Addr) (cl : List (Str × Addr)) (fp : List Addr), SE (X.blk s H scope (compEnvC scope cl C X.env) fp) elt (evE cf m) := fun s H C cl fp => ((hr' _ (fb s H C cl fp) elt m he).se rfl).1
  have pt : ∀ (s : Shared) (H : Hp) (C : Addr) (cl : List (Str × Addr)) (fp : List Addr), PTs (X.blk s H scope (compEnvC scope cl C X.env) fp) ifs (rd X.K (evC cf cs) RAb) := fun s H C cl fp => by
    match ifs, hc with
    | [], hc =>
      cases hc
      rw [show evC cf [] = fun ρ => .ok true ρ from funext fun ρ => evC_nil cf ρ]
      refine ⟨fun pins s σ H Q I q => pts_nil.run pins s σ H Q I ?_⟩
      obtain ⟨Z, ρ, F', S, b, ρ', e0, q⟩ := q
      cases e0
      exact q _ _ (Done.here S rfl)
    | [c], hc =>
      obtain ⟨mc, h1, h2⟩ := Option.map_eq_some_iff.mp hc
      subst h2
      rw [show evC cf [mc] = evT cf mc from funext fun ρ => evC_one cf mc ρ]
      exact pts_one ((hrt _ (fb s H C cl fp) c mc h1).st rfl)
  have hN : X.N.Nodup := by rw [F.N]; exact F.nd
  have eq : evE cf (.comp ((ownOf T.N scope.names).map (·.2)) ks.1 ks.2 g cs m) = fun ρ => compK g ((ownOf T.N scope.names).map (·.2)) (evC cf cs) (evE cf m) (itemsK ks.1 (evOs cf ks.2 ρ)) := funext fun ρ => evE_comp cf _ _ _ _ _ _ ρ
  refine ⟨fun hy hl hsw => ?_, Snd.val ?_ (evO_comp cf _ _ _ _ _ _) (evT_comp cf _ _ _ _ _ _) fun _ => rfl⟩
  · rw [eq]
    exact ss_setComp F.calm hN hy hl hsw pi ok' hts pgs pt pe fs
  · rw [eq]
    exact se_comp F.calm hN pi ok' hts pgs pt pe fs
/-- every expression -/
theorem tr_ok : ∀ (n : Nat) {t : Bool} {T : Tab} {fn : Str → Bool} {sc : Scope} {X : Cx} {e : Expr} {m : ME}, Fit cf T fn sc k X → tr n t T fn sc e = some m → Snd cf X t e m
  | 0, _, _, _, _, _, _, _, _, h => by cases h
  | n + 1, t, T, fn, sc, X, e, m, F, h => by
    have ih : ∀ t e m, tr n t T fn sc e = some m → Snd cf X t e m := fun t e m h => tr_ok n F h
    replace h : trStep (tr n) t T fn sc e = some m := h
    unfold trStep at h
    split at h
    · obtain ⟨d, hd, rfl⟩ := Option.map_eq_some_iff.mp h
      exact snd_const hd
    · exact snd_name F h
    · obtain ⟨ms, hms, rfl⟩ := Option.map_eq_some_iff.mp h
      obtain ⟨sa, st⟩ := trL_ok (ih false) hms
      refine Snd.val ?_ (evO_tup cf _) (evT_tup cf _) fun _ => rfl
      rw [show evE cf (.tup ms) = _ from funext fun ρ => evE_tup cf ms ρ]
      exact se_tup sa
    · obtain ⟨ms, hms, rfl⟩ := Option.map_eq_some_iff.mp h
      obtain ⟨sa, st⟩ := trL_ok (ih false) hms
      split
      · refine Snd.val ?_ (evO_listF cf _) (evT_listF cf _) fun _ => rfl
        rw [show evE cf (.listF ms) = _ from funext fun ρ => evE_listF cf ms ρ]
        exact se_listF sa
      · refine Snd.val ?_ (evO_list cf _) (evT_list cf _) fun _ => rfl
        rw [show evE cf (.list ms) = _ from funext fun ρ => evE_list cf ms ρ]
        exact se_list sa
    · cases h
      refine Snd.val ?_ (evO_dnew cf) (evT_dnew cf) fun _ => rfl
      rw [show evE cf .dnew = _ from funext fun ρ => evE_dnew cf ρ]
      exact se_dnew
    · obtain ⟨f, hf, h⟩ := Option.bind_eq_some_iff.mp h
      obtain ⟨x, hx, h⟩ := Option.bind_eq_some_iff.mp h
      obtain ⟨y, hy, rfl⟩ := Option.map_eq_some_iff.mp h
      exact snd_bin F hf (ih _ _ _ hx) (ih _ _ _ hy)
    · obtain ⟨x, hx, rfl⟩ := Option.map_eq_some_iff.mp h
      refine Snd.val ?_ (evO_op cf _ _) (evT_op cf _ _) fun _ => rfl
      rw [ev1]
      exact se_neg ((ih _ _ _ hx).se rfl).2
    · rename_i a0 p0
      obtain ⟨x, hx, rfl⟩ := Option.map_eq_some_iff.mp h
      have s := ih _ _ _ hx
      refine ⟨fun e => ?_, fun e => ?_⟩
      · have se : SE X (.UnaryOp .Not a0 p0) (evE cf (.not x)) := by
          rw [show evE cf (.not x) = _ from funext fun ρ => evE_not cf x ρ]
          exact se_not (s.se e).1
        refine ⟨se, ?_⟩
        rw [show evO cf (.not x) = fun ρ => mapR Sum.inr (evE cf (.not x) ρ) from funext fun ρ => evO_not cf _ ρ]; exact so_of se
      · rw [show evT cf (.not x) = _ from funext fun ρ => evT_not cf x ρ]
        exact st_not (s.st e)
    · rename_i op a b es pos
      have hno : ∀ ρ, evO cf m ρ = mapR Sum.inr (evE cf m ρ) := by
        rw [trBool] at h
        · obtain ⟨x, hx, h⟩ := Option.bind_eq_some_iff.mp h
          obtain ⟨y, hy, rfl⟩ := Option.map_eq_some_iff.mp h
          cases op
          · exact evO_and cf x y
          · exact evO_or cf x y
        · nofun
      have key : (t = false → SE X (.BoolOp op (a :: b :: es) pos) (evE cf m)) ∧ (t = true → PW X (.BoolOp op (a :: b :: es) pos) (rd X.K (evT cf m) RAb)) := by
        cases op
        · exact trBool_and (ih t) h
        · exact trBool_or (ih t) h
      refine ⟨fun e => ⟨key.1 e, ?_⟩, fun e => (key.2 e).pt⟩
      rw [show evO cf m = fun ρ => mapR Sum.inr (evE cf m ρ) from funext hno]; exact so_of (key.1 e)
    · exact snd_cmp (ih false) F h
    · rename_i e1 e2 e3 p0
      by_cases c : t = true
      · rw [if_pos c] at h; cases h
      rw [if_neg c] at h
      obtain ⟨x, hx, h⟩ := Option.bind_eq_some_iff.mp h
      obtain ⟨y, hy, h⟩ := Option.bind_eq_some_iff.mp h
      obtain ⟨z, hz, rfl⟩ := Option.map_eq_some_iff.mp h
      refine ⟨fun e => ?_, fun e => absurd e c⟩
      have se : SE X (.IfExp e1 e2 e3 p0) (evE cf (.ite x y z)) := by
        rw [show evE cf (.ite x y z) = _ from funext fun ρ => evE_ite cf x y z ρ]
        exact se_ite ((ih _ _ _ hx).st rfl) ((ih _ _ _ hy).se rfl).1 ((ih _ _ _ hz).se rfl).1
      refine ⟨se, ?_⟩
      rw [show evO cf (.ite x y z) = fun ρ => mapR Sum.inr (evE cf (.ite x y z) ρ) from funext fun ρ => evO_ite cf _ _ _ ρ]; exact so_of se
    · split at h
      · rename_i hm
        cases h
        exact snd_nest (ih false) F hm
      · exact snd_sub (ih false) F h
    · split at h
      · rename_i hm
        cases h
        exact snd_more (ih false) F hm
      · exact snd_call (ih false) F h
    · exact snd_kw (ih false) F h
    · split at h
      · rename_i hb
        obtain ⟨ks, h1, h⟩ := Option.bind_eq_some_iff.mp h
        obtain ⟨g, h2, h⟩ := Option.bind_eq_some_iff.mp h
        obtain ⟨cs, h3, h⟩ := Option.bind_eq_some_iff.mp h
        obtain ⟨me, h4, h⟩ := Option.bind_eq_some_iff.mp h
        split at h
        · rename_i hs
          cases h
          exact (snd_comp F (ih false) (fun X' F' e m h => tr_ok n F' h) (fun X' F' e m h => tr_ok n F' h) hb h1 h2 h3 h4 hs).2
        · cases h
      · cases h
    · cases h
end
end Mv
namespace Mv
open PySem PySem.Spec PyProof.Rows L2

def isComp : Expr → Bool
  | .ListComp _ _ _ _ => true
  | .SetComp _ _ _ _ => true
  | .DictComp _ _ _ _ _ => true
  | _ => false
def isSlice : Expr → Bool
  | .Slice _ _ _ _ => true
  | _ => false
def isTuple : Expr → Bool
  | .Tuple _ _ _ => true
  | _ => false
def swNames (sc : Scope) (line : Nat) (ts : List Expr) : List Str := ts.filterMap fun
  | .Name id pos => if sc.names.lookup id == some .local && pos.line == line then some id else none
  | _ => none
def swS (sc : Scope) (ts vs : List Expr) : Option (Option (List Str)) :=
  if (!(ts.length == 2 || ts.length == 3) || vs.length != ts.length) = true then some none else
  if (vs.any fun | .Starred .. => true | _ => false) = true then some none else
  if ((swNames sc ((ts.head?.map (·.pos.line)).getD 0) ts).length != ts.length || (swNames sc ((ts.head?.map (·.pos.line)).getD 0) ts).eraseDups.length != (swNames sc ((ts.head?.map (·.pos.line)).getD 0) ts).length) = true then some none else
  if vs.all (foldedForSure 8) = true then some none else
  if vs.all (constantsAlone 8) = true then none else some (some (swNames sc ((ts.head?.map (·.pos.line)).getD 0) ts))
theorem swS_ok {sc : Scope} {env : Env} {ts vs : List Expr} {k k2 : Nat} {p p2 : Pos} {r : Option (List Str)} (he : env.scope = sc) (hk : sc.kind = .function) (h : swS sc ts vs = some r) : swappedStores [.Tuple ts k p] (.Tuple vs k2 p2) env = pure r := by
  subst he
  have hb : (env.blockKind != ScopeKind.function) = false := by unfold Env.blockKind; rw [hk]; rfl
  unfold swS at h
  unfold swappedStores
  simp only [hb, Bool.or_false]
  split at h
  · rename_i c
    cases h
    exact if_pos c
  rename_i c
  refine (if_neg c).trans ?_
  split at h
  · rename_i c
    cases h
    exact if_pos c
  rename_i c
  refine (if_neg c).trans ?_
  split at h
  · rename_i c
    cases h
    exact if_pos c
  rename_i c
  refine (if_neg c).trans ?_
  split at h
  · rename_i c
    cases h
    exact if_pos c
  rename_i c
  refine (if_neg c).trans ?_
  split at h
  · cases h
  rename_i c
  cases h
  exact if_neg c

def apartM (W : List Nat) : List ME → Bool
  | [] => true
  | .var i :: r => !W.contains i && apartM W r
  | _ :: r => apartM W r
def trAsgT (E : Bool → Expr → Option ME) (T : Tab) (sc : Scope) (ts vs : List Expr) (is : List Nat) (ms : List ME) : Option (MS × List Nat) :=
  match swS sc ts vs with
  | none => none
  | some none => if is.length = vs.length ∧ is.length ≤ 30 then some (.par is ms, is) else none
  | some (some names) =>
    match ts, vs, is with
    | [.Name x _, .Name y _], [_, _], [i, j] => if names = [x, y] ∧ i ≠ j ∧ isLocal (sc.names.lookup x) = true ∧ isLocal (sc.names.lookup y) = true then some (.par is ms, is) else none
    | [.Name x _, .Name y _, .Name z _], [_, _, _], [i, j, l] => if names = [x, y, z] ∧ i ≠ j ∧ i ≠ l ∧ j ≠ l ∧ isLocal (sc.names.lookup x) = true ∧ isLocal (sc.names.lookup y) = true ∧ isLocal (sc.names.lookup z) = true then some (.par is ms, is) else none
    | _, _, _ => none
def trStmt (E : Bool → Expr → Option ME) (B : List Stmt → Option (List MS × List Nat)) (T : Tab) (sc : Scope) : Stmt → Option (MS × List Nat)
  | .Pass _ => some (.pass, [])
  | .Break _ => some (.brk, [])
  | .Continue _ => some (.cnt, [])
  | .Return none _ => some (.retN, [])
  | .Return (some (.Name x p)) _ => if own2 x = false ∧ isVis (sc.names.lookup x) = true then
      (match ixOf T.N x with
      | some i => if T.np ≤ i then some (.retv i, []) else some (.ret (.var i), [])
      | none => none) else (E false (.Name x p)).map fun m => (.ret m, [])
  | .Return (some e) _ => (E false e).map fun m => (.ret m, [])
  | .Expr e _ => match e with
    | .Constant (.str _) _ _ => some (.pass, [])
    | e => if isComp e = true then none else (E false e).map fun m => (.expr m, [])
  | .If c a b _ => (E true c).bind fun m => (B a).bind fun p => (B b).map fun q => (.ite m p.1 q.1, p.2 ++ q.2)
  | .While c body [] _ => (E true c).bind fun m => (B body).map fun p => (.while m p.1, p.2)
  | .For tg it body [] _ => (trIt (E false) T sc it).bind fun ks => (trTg T (fun _ => true) sc tg).bind fun g => (B body).bind fun p => if apartM (g.slots ++ p.2) ks.2 = true then some (.for ks.1 ks.2 g p.1, g.slots ++ p.2) else none
  | .Assign [.Name x _] e _ => if isLoc (sc.names.lookup x) = true ∧ (isComp e = true → isLocal (sc.names.lookup x) = true) then (ixOf T.N x).bind fun i => (E false e).map fun m => (.asg (.name i) m, [i]) else none
  | .Assign [.Tuple ts _ _] e _ => (trTg.names T (fun _ => true) sc ts).bind fun is =>
      match e with
      | .Tuple vs _ _ => (trL (E false) vs).bind fun ms => trAsgT E T sc ts vs is ms
      | e => (E false e).map fun m => (.asg (.tup is) m, is)
  | .Assign [.Subscript (.Name x _) ix _] e _ => if own2 x = false ∧ isVis (sc.names.lookup x) = true ∧ isSlice ix = false then
      (ixOf T.N x).bind fun i => (E false ix).bind fun mx => (E false e).map fun m => (.setix i mx m, []) else none
  | _ => none
def trList (f : Stmt → Option (MS × List Nat)) : List Stmt → Option (List MS × List Nat)
  | [] => some ([], [])
  | s :: r => (f s).bind fun p => (trList f r).map fun q => (p.1 :: q.1, p.2 ++ q.2)
def trBlk (E : Bool → Expr → Option ME) (T : Tab) (sc : Scope) : Nat → List Stmt → Option (List MS × List Nat)
  | 0, _ => none
  | n + 1, b => trList (trStmt E (trBlk E T sc n) T sc) b
def trBody (n : Nat) (T : Tab) (sc : Scope) (b : List Stmt) : Option (List MS × List Nat) := trBlk (fun t e => tr n t T (fun _ => true) sc e) T sc n b

section
variable {cf : Nat → List RV → CRes} {T : Tab} {sc : Scope} {k : Nat} {X : Cx}
theorem evO_inl {m : ME} {ρ : Mv.Loc} {j : Nat} {ρ' : Mv.Loc} (h : evO cf m ρ = .ok (.inl j) ρ') : m = .var j := by
  cases m with
  | var i =>
    rw [evO_var] at h
    cases q : slotAt ρ i with
    | none => rw [q] at h; cases h
    | some r => rw [q] at h; cases h; rfl
  | const d => rw [evO_const] at h; cases q : evE cf (.const d) ρ <;> rw [q] at h <;> cases h
  | op f es => rw [evO_op] at h; cases q : evE cf (.op f es) ρ <;> rw [q] at h <;> cases h
  | tup es => rw [evO_tup] at h; cases q : evE cf (.tup es) ρ <;> rw [q] at h <;> cases h
  | list es => rw [evO_list] at h; cases q : evE cf (.list es) ρ <;> rw [q] at h <;> cases h
  | listF es => rw [evO_listF] at h; cases q : evE cf (.listF es) ρ <;> rw [q] at h <;> cases h
  | dnew => rw [evO_dnew] at h; cases q : evE cf .dnew ρ <;> rw [q] at h <;> cases h
  | and a b => rw [evO_and] at h; cases q : evE cf (.and a b) ρ <;> rw [q] at h <;> cases h
  | or a b => rw [evO_or] at h; cases q : evE cf (.or a b) ρ <;> rw [q] at h <;> cases h
  | not a => rw [evO_not] at h; cases q : evE cf (.not a) ρ <;> rw [q] at h <;> cases h
  | ite a b c => rw [evO_ite] at h; cases q : evE cf (.ite a b c) ρ <;> rw [q] at h <;> cases h
  | slc a b c => rw [evO_slc] at h; cases q : evE cf (.slc a b c) ρ <;> rw [q] at h <;> cases h
  | met a b c => rw [evO_met] at h; cases q : evE cf (.met a b c) ρ <;> rw [q] at h <;> cases h
  | idx a b => rw [evO_idx] at h; cases q : evE cf (.idx a b) ρ <;> rw [q] at h <;> cases h
  | meth2 a b c d => rw [evO_meth2] at h; cases q : evE cf (.meth2 a b c d) ρ <;> rw [q] at h <;> cases h
  | call a b => rw [evO_call] at h; cases q : evE cf (.call a b) ρ <;> rw [q] at h <;> cases h
  | meth a b c => rw [evO_meth] at h; cases q : evE cf (.meth a b c) ρ <;> rw [q] at h <;> cases h
  | comp a b c d e f => rw [evO_comp] at h; cases q : evE cf (.comp a b c d e f) ρ <;> rw [q] at h <;> cases h
theorem apartM_cons {W : List Nat} {m : ME} {ms : List ME} (h : apartM W (m :: ms) = true) : apartM W ms = true ∧ ∀ i, m = .var i → W.contains i = false := by
  cases m with
  | var i =>
    rw [apartM, Bool.and_eq_true] at h
    exact ⟨h.2, fun j e => by cases e; simpa using h.1⟩
  | _ => exact ⟨by simpa [apartM] using h, fun i e => by cases e⟩
theorem evOs_apart {W : List Nat} : ∀ {ms : List ME} {ρ ρ' : Mv.Loc} {os : List Od}, apartM W ms = true → evOs cf ms ρ = .ok os ρ' → apartO W os = true
  | [], ρ, ρ', os, _, h => by rw [evOs_nil] at h; cases h; rfl
  | m :: ms, ρ, ρ', os, a, h => by
    rw [evOs_cons] at h
    obtain ⟨a1, a2⟩ := apartM_cons a
    cases h1 : evO cf m ρ with
    | fail => rw [h1] at h; cases h
    | ok o ρ1 =>
      rw [h1] at h
      cases h2 : evOs cf ms ρ1 with
      | fail => simp only [consK, h2, mapR] at h; cases h
      | ok os' ρ2 =>
        simp only [consK, h2, mapR] at h
        cases h
        have r := evOs_apart a1 h2
        cases o with
        | inr x => rw [apartO]; exact r
        | inl j =>
          rw [apartO, Bool.and_eq_true]
          exact ⟨by rw [a2 j (evO_inl h1)]; rfl, r⟩
theorem sw_none {e : Expr} {l : Nat} {env : Env} (h : isComp e = false) (t : Option Expr) : swapsWith e t l env = pure false := by
  cases e <;> first | rfl | cases h
/-- the parallel store, whatever its order -/
theorem ss_par2 {evs : Mv.Loc → Res (List Od)} {st : Stmt} {is : List Nat} (h : PS X st (fun D σ H => rd X.K evs (RAos X.K) σ H fun vs H1 => vs.length = is.length ∧ ∀ p, H1 p = none → gNames is vs σ (upd H1 p (.tup vs)) D.nx)) :
    SS X st (fun ρ => parK is (holdsK (evs ρ))) is := by
  refine PS_imp h fun D σ H ⟨Z, ρ, F, S, q⟩ => ?_
  cases h1 : evs ρ with
  | fail => simp only [h1, holdsK, parK] at q; exact q.elim
  | ok os ρ1 =>
    cases h2 : holds ρ1 os with
    | none => simp only [h1, holdsK, h2, someP, parK] at q; exact q.elim
    | some p =>
      obtain ⟨rs, ρ2⟩ := p
      simp only [h1, holdsK, h2, someP, parK] at q
      cases h3 : setRVs ρ2 is rs with
      | none => simp only [h3, nxO] at q; exact q.elim
      | some ρ3 =>
        simp only [h3, nxO] at q
        refine ⟨Z, ρ, F, S, os, ρ1, h1, fun vs H1 ⟨Z1, F1, Fv1, S1, r1, d1, z1, f1⟩ => ?_⟩
        obtain ⟨Z2, F2, G, S2, rr, gF, sd2, s2, n2, zn2⟩ := holds_ok S1 ⟨d1, z1⟩ r1 h2
        obtain ⟨σ', F3, k1, k2, k3⟩ := setRVs_ok S2 rr (fun j => ⟨fun a f g => sd2.apart a f (gF j a g), fun a g => sd2.open_ a (gF j a g)⟩) h3
        refine ⟨by rw [← rr.1, setRVs_len h3], fun p hp => ⟨σ', k1, q σ' _ ⟨same_sets (fun _ h => h) k1, Z2, F3, ?_, f1.trans ⟨fun a o h _ => sub_upd hp a o h, fun a f => ?_, s2, fun a o h => ?_⟩⟩⟩⟩
        · exact k2.new (fun a o h => sub_upd hp a o (k2.sub a o h)) (sub_upd hp) (fun _ _ h => h) fun _ _ h => .inl h
        · rcases k3 a f with z | ⟨j, z⟩
          · exact .inl (.inl (n2 a z))
          · exact .inl (.inr (gF j a z))
        · rcases zn2 a o h with z | z
          · exact .inl z
          · exact .inr (.inl (.inl z))
end
end Mv
namespace Mv
open PySem PySem.Spec PyProof.Rows L2

section
variable {cf : Nat → List RV → CRes} {T : Tab} {sc : Scope} {k : Nat} {X : Cx}
/-- one name takes a value -/
theorem asg1_ok {n : Nat} (F : Fit cf T (fun _ => true) sc k X) {x : Str} {p pos : Pos} {e : Expr} {i : Nat} {m : ME} (hl : isLoc (sc.names.lookup x) = true) (hc : isComp e = true → isLocal (sc.names.lookup x) = true) (hi : ixOf T.N x = some i)
    (hm : tr n false T (fun _ => true) sc e = some m) : SS X (.Assign [.Name x p] e pos) (evS cf (.asg (.name i) m)) [i] := by
  have hN : X.N.Nodup := by rw [F.N]; exact F.nd
  have hx : X.N[i]? = some x := by rw [F.N]; exact ixOf_ok hi
  have se := ((tr_ok n F hm).se rfl).1
  rw [show evS cf (.asg (.name i) m) = fun ρ => asgK (.name i) (evE cf m ρ) from funext fun ρ => evS_asg cf _ _ ρ]
  have plain : swapsWith e (some (.Name x p)) pos.line X.env = pure false → SS X (.Assign [.Name x p] e pos) (fun ρ => asgK (.name i) (evE cf m ρ)) [i] := fun hs =>
    ss_asg (ps_set hN hx (by rw [F.scE]; exact isLoc_ok hl) se hs (.inl (by rw [F.fn])))
  by_cases c : isComp e = true
  · have hloc := isLocal_ok (hc c)
    cases e with
    | ListComp elt gs scope cp =>
      by_cases b : ((p.line == cp.line) && !(scope.names.any fun (n, k) => n == x && (k == .local || k == .cell))) = true
      · rw [Bool.and_eq_true] at b
        cases n with
        | zero => cases hm
        | succ n =>
          have h : trStep (tr n) false T (fun _ => true) sc (.ListComp elt gs scope cp) = some m := hm
          unfold trStep at h
          split at h <;> first | contradiction | skip
          rename_i elt tg iter ifs scope' cp' heq
          cases heq
          split at h
          · rename_i hb
            obtain ⟨ks, h1, h⟩ := Option.bind_eq_some_iff.mp h
            obtain ⟨g, h2, h⟩ := Option.bind_eq_some_iff.mp h
            obtain ⟨cs, h3, h⟩ := Option.bind_eq_some_iff.mp h
            obtain ⟨me, h4, h⟩ := Option.bind_eq_some_iff.mp h
            split at h
            · rename_i hs
              cases h
              refine (snd_comp (t := false) F (fun e m h => tr_ok n F h) (fun X' F' e m h => tr_ok n F' h) (fun X' F' e m h => tr_ok n F' h) hb h1 h2 h3 h4 hs).1 hx (by rw [F.scE]; exact hloc) ?_
              exact sw_true (by rw [F.scE]; exact F.kind) (by rw [F.scE]; exact hloc) b.1 (by simpa using b.2)
            · cases h
          · cases h
      · refine plain ?_
        have ky : X.env.kindOf x = some .local := by show X.env.scope.names.lookup x = _; rw [F.scE]; exact hloc
        have hb : X.env.blockKind = .function := by unfold Env.blockKind; rw [F.scE, F.kind]; rfl
        unfold swapsWith
        simp only [hb, ky]
        have b' : ((p.line == cp.line) && !(scope.names.any fun (n, k) => n == x && (k == .local || k == .cell))) = false := Bool.eq_false_iff.mpr b
        exact congrArg (pure : Bool → Sem Bool) b'
    | SetComp _ _ _ _ => cases n <;> simp [tr, trStep] at hm
    | DictComp _ _ _ _ _ => cases n <;> simp [tr, trStep] at hm
    | _ => cases c
  · exact plain (sw_none (by simpa using c) _)
theorem names_two {ts : List Expr} {i j : Nat} {fn : Str → Bool} {x y : Str} {p q : Pos} (h : trTg.names T fn sc [.Name x p, .Name y q] = some [i, j]) : ixOf T.N x = some i ∧ ixOf T.N y = some j := by
  obtain ⟨x', p', i', is', e, c, hi, h3, e2⟩ := names_inv h
  cases e; cases e2
  obtain ⟨x', p', i', is', e, c, hi2, h3, e2⟩ := names_inv h3
  cases e; cases e2
  exact ⟨hi, hi2⟩
theorem par_ok {n : Nat} {E : Bool → Expr → Option ME} (F : Fit cf T (fun _ => true) sc k X) {ts vs : List Expr} {kk k2 : Nat} {tp p2 pos : Pos} {is : List Nat} {ms : List ME} {r : MS × List Nat} (hn : trTg.names T (fun _ => true) sc ts = some is)
    (sa : SA X vs (evOs cf ms)) (h : trAsgT E T sc ts vs is ms = some r) : SS X (.Assign [.Tuple ts kk tp] (.Tuple vs k2 p2) pos) (evS cf r.1) r.2 := by
  have hN : X.N.Nodup := by rw [F.N]; exact F.nd
  unfold trAsgT at h
  split at h
  · cases h
  · rename_i hsw
    split at h
    · rename_i hl
      cases h
      show SS X _ (evS cf (.par is ms)) is
      rw [show evS cf (.par is ms) = fun ρ => parK is (holdsK (evOs cf ms ρ)) from funext fun ρ => evS_par cf _ _ ρ]
      obtain ⟨g1, g2⟩ := names_len (X := X) hn
      have pt := pg_tup (k := kk) (pos := tp) F.calm (names_pg F hn) g1 g2
      refine ss_par2 (PS_imp (ps_asg (pe_tup sa) pt rfl (swS_ok F.scE F.kind hsw) rfl) fun D σ H q => ?_)
      show rd X.K (evOs cf ms) (RAos X.K) σ H fun xs H1 => xs.length ≤ sizeLine ∧ ∀ p, H1 p = none → gTup X.K is.length (gNames is) (.ref p) σ (upd H1 p (.tup xs)) D.nx
      obtain ⟨Z, ρ, F0, S, os, ρ', e0, q⟩ := q
      refine ⟨Z, ρ, F0, S, os, ρ', e0, fun xs H1 d => ?_⟩
      obtain ⟨l, q⟩ := q xs H1 d
      refine ⟨by rw [l]; have := hl.2; exact Nat.le_trans this (by decide), fun p hp => ⟨p, xs, rfl, SqT.of upd_same, l, q p hp⟩⟩
    · cases h
  · rename_i names hsw
    have hw := fun kk tp k2 p2 => swS_ok (k := kk) (k2 := k2) (p := tp) (p2 := p2) F.scE F.kind hsw
    split at h
    · rename_i x px y py a b i j
      split at h
      · rename_i c
        cases h
        obtain ⟨rfl, hij, c1, c2⟩ := c
        obtain ⟨hi, hj⟩ := names_two (ts := []) hn
        rw [show evS cf (.par [i, j] ms) = fun ρ => parK [i, j] (holdsK (evOs cf ms ρ)) from funext fun ρ => evS_par cf _ _ ρ]
        refine ss_par (es := []) (PS_imp (ps_par F.calm hN (by rw [F.N]; exact ixOf_ok hi) (by rw [F.N]; exact ixOf_ok hj) hij (by rw [F.scE]; exact isLocal_ok c1) (by rw [F.scE]; exact isLocal_ok c2) sa (hw _ _ _ _)) fun D σ H q => ?_)
        obtain ⟨Z, ρ, F0, S, os, ρ', e0, q⟩ := q
        refine ⟨Z, ρ, F0, S, os, ρ', e0, fun xs H1 d => ?_⟩
        obtain ⟨σ', e, q⟩ := q xs H1 d
        match xs, e with
        | [v, w], e =>
          cases e
          exact ⟨v, w, rfl, q⟩
      · cases h
    · rename_i x px y py z pz a b c i j l
      split at h
      · rename_i cc
        cases h
        obtain ⟨rfl, hij, hil, hjl, c1, c2, c3⟩ := cc
        obtain ⟨x', p', i', is', e, c, hi, h3, e2⟩ := names_inv hn
        cases e; cases e2
        obtain ⟨x', p', i', is', e, c, hj, h3, e2⟩ := names_inv h3
        cases e; cases e2
        obtain ⟨x', p', i', is', e, c, hk, h3, e2⟩ := names_inv h3
        cases e; cases e2
        rw [show evS cf (.par [i, j, l] ms) = fun ρ => parK [i, j, l] (holdsK (evOs cf ms ρ)) from funext fun ρ => evS_par cf _ _ ρ]
        refine ss_par (es := []) (PS_imp (ps_par3 F.calm hN (by rw [F.N]; exact ixOf_ok hi) (by rw [F.N]; exact ixOf_ok hj) (by rw [F.N]; exact ixOf_ok hk) hij hil hjl (by rw [F.scE]; exact isLocal_ok c1) (by rw [F.scE]; exact isLocal_ok c2) (by rw [F.scE]; exact isLocal_ok c3) sa (hw _ _ _ _)) fun D σ H q => ?_)
        obtain ⟨Z, ρ, F0, S, os, ρ', e0, q⟩ := q
        refine ⟨Z, ρ, F0, S, os, ρ', e0, fun xs H1 d => ?_⟩
        obtain ⟨σ', e, q⟩ := q xs H1 d
        match xs, e with
        | [u, v, w], e =>
          cases e
          exact ⟨u, v, w, rfl, q⟩
      · cases h
    · cases h
theorem sub_assign {o i : Expr} {pos : Pos} {env : Env} (h : isSlice i = false) : ∀ v, assign (.Subscript o i pos) env v = (do
      let ov ← holding [v] (eval o env)
      let iv ← holding [v, ov] (eval i env)
      standAt pos
      holding [v, ov, iv] (setItem ov iv v)
      release [v, ov, iv] []) := by
  intro v
  cases i <;> first | rfl | cases h
theorem setix_ok {n : Nat} (F : Fit cf T (fun _ => true) sc k X) {x : Str} {p sp pos : Pos} {ix e : Expr} {i : Nat} {mx m : ME} (ho : own2 x = false) (hv : isVis (sc.names.lookup x) = true) (hs : isSlice ix = false) (hi : ixOf T.N x = some i)
    (hx : tr n false T (fun _ => true) sc ix = some mx) (hm : tr n false T (fun _ => true) sc e = some m) : SS X (.Assign [.Subscript (.Name x p) ix sp] e pos) (evS cf (.setix i mx m)) [] := by
  obtain ⟨o1, o2, o3⟩ := own2_ok (x := x) (by rw [ho]; decide)
  have un := F.un
  rw [show evS cf (.setix i mx m) = fun ρ => setK i (evO cf mx) (evE cf m ρ) from funext fun ρ => evS_setix cf _ _ _ ρ]
  have pv : PE X (.Name x p) (tVar i) := pe_var (by rw [F.N]; exact ixOf_ok hi) (F.vis hv) o1 o2
  refine ss_setix (o := .Name x p) (ix := ix) (e := e) (ps_asg ((tr_ok n F hm).se rfl).1 (pg_sub pv ((tr_ok n F hx).se rfl).2 (set_ld (by omega)) (sub_assign hs)) ?_ ?_ rfl)
  · cases e <;> rfl
  · cases e <;> rfl
theorem trStmt_ok {n : Nat} (F : Fit cf T (fun _ => true) sc k X) (hp : PassesOwn (model X.prog X.w) X.A X.env X.xe) {B : List Stmt → Option (List MS × List Nat)} (hB : ∀ b r, B b = some r → SSs X b (evSs cf r.1) r.2) {s : Stmt} {r : MS × List Nat}
    (h : trStmt (fun t e => tr n t T (fun _ => true) sc e) B T sc s = some r) : SS X s (evS cf r.1) r.2 := by
  have E : ∀ t e m, tr n t T (fun _ => true) sc e = some m → Snd cf X t e m := fun t e m h => tr_ok n F h
  unfold trStmt at h
  split at h
  · cases h; rw [show evS cf .pass = fun ρ => .nx ρ from funext fun ρ => evS_pass cf ρ]; exact ss_pass
  · cases h; rw [show evS cf .brk = fun ρ => .bk ρ from funext fun ρ => evS_brk cf ρ]; exact ss_break
  · cases h; rw [show evS cf .cnt = fun ρ => .ct ρ from funext fun ρ => evS_cnt cf ρ]; exact ss_continue
  · cases h; rw [show evS cf .retN = fun ρ => .ret (.imm .non) ρ from funext fun ρ => evS_retN cf ρ]; exact ss_retN
  · rename_i x p pos
    split at h
    · rename_i c
      obtain ⟨o1, o2, o3⟩ := own2_ok (x := x) (by rw [c.1]; decide)
      split at h
      · rename_i i hi
        have pv : PE X (.Name x p) (tVar i) := pe_var (by rw [F.N]; exact ixOf_ok hi) (F.vis c.2) o1 o2
        split at h
        · cases h
          rw [show evS cf (.retv i) = fun ρ => retvK i ρ (slotAt ρ i) from funext fun ρ => evS_retv cf i ρ]
          exact ss_retv pv
        · cases h
          rw [show evS cf (.ret (.var i)) = fun ρ => retK (evE cf (.var i) ρ) from funext fun ρ => evS_ret cf _ ρ]
          exact ss_ret ((Snd.var (t := false) pv fun _ => rfl).se rfl).1
      · cases h
    · obtain ⟨m, hm, rfl⟩ := Option.map_eq_some_iff.mp h
      show SS X _ (evS cf (.ret m)) []
      rw [show evS cf (.ret m) = fun ρ => retK (evE cf m ρ) from funext fun ρ => evS_ret cf _ ρ]
      exact ss_ret ((E _ _ _ hm).se rfl).1
  · obtain ⟨m, hm, rfl⟩ := Option.map_eq_some_iff.mp h
    show SS X _ (evS cf (.ret m)) []
    rw [show evS cf (.ret m) = fun ρ => retK (evE cf m ρ) from funext fun ρ => evS_ret cf _ ρ]
    exact ss_ret ((E _ _ _ hm).se rfl).1
  · split at h
    · cases h; rw [show evS cf .pass = fun ρ => .nx ρ from funext fun ρ => evS_pass cf ρ]; exact ss_doc
    · split at h
      · cases h
      · rename_i c
        obtain ⟨m, hm, rfl⟩ := Option.map_eq_some_iff.mp h
        show SS X _ (evS cf (.expr m)) []
        rw [show evS cf (.expr m) = fun ρ => dropK (evE cf m ρ) from funext fun ρ => evS_expr cf _ ρ]
        exact ss_expr ((E _ _ _ hm).se rfl).1 (sw_none (by simpa using c) _)
  · obtain ⟨m, hm, h⟩ := Option.bind_eq_some_iff.mp h
    obtain ⟨p, hp1, h⟩ := Option.bind_eq_some_iff.mp h
    obtain ⟨q, hq, rfl⟩ := Option.map_eq_some_iff.mp h
    show SS X _ (evS cf (.ite m p.1 q.1)) (p.2 ++ q.2)
    rw [show evS cf (.ite m p.1 q.1) = fun ρ => iteS (evSs cf p.1) (evSs cf q.1) (evT cf m ρ) from funext fun ρ => evS_ite cf _ _ _ ρ]
    exact ss_if ((E _ _ _ hm).st rfl) (hB _ _ hp1) (hB _ _ hq) (fun i h => List.mem_append_left _ h) fun i h => List.mem_append_right _ h
  · obtain ⟨m, hm, h⟩ := Option.bind_eq_some_iff.mp h
    obtain ⟨p, hp1, rfl⟩ := Option.map_eq_some_iff.mp h
    show SS X _ (evS cf (.while m p.1)) p.2
    rw [show evS cf (.while m p.1) = fun ρ => whileS (evT cf m) (evSs cf p.1) ρ from funext fun ρ => evS_while cf _ _ ρ]
    exact ss_while hp ((E _ _ _ hm).st rfl) (hB _ _ hp1)
  · rename_i tg it body pos
    obtain ⟨ks, hk, h⟩ := Option.bind_eq_some_iff.mp h
    obtain ⟨g, hg, h⟩ := Option.bind_eq_some_iff.mp h
    obtain ⟨p, hp1, h⟩ := Option.bind_eq_some_iff.mp h
    split at h
    · rename_i c
      cases h
      obtain ⟨pi, fs⟩ := trIt_ok (tg := tg) (E false) F hk
      show SS X _ (evS cf (.for ks.1 ks.2 g p.1)) (g.slots ++ p.2)
      rw [show evS cf (.for ks.1 ks.2 g p.1) = fun ρ => forK g (evSs cf p.1) (itemsK ks.1 (evOs cf ks.2 ρ)) from funext fun ρ => evS_for cf _ _ _ _ ρ]
      refine ss_for hp F.calm pi (trTg_ok F hg) (hB _ _ hp1) (fun i h => List.mem_append_left _ h) (fun i h => List.mem_append_right _ h) (fun ρ os ds ρ' h => ?_) fs
      cases h1 : evOs cf ks.2 ρ with
      | fail => rw [h1] at h; cases h
      | ok os1 ρ1 =>
        rw [h1] at h
        have : os1 = os := by
          simp only [itemsK] at h
          split at h
          · cases h; rfl
          · cases h
        subst this
        exact evOs_apart c h1
    · cases h
  · rename_i x p e pos
    split at h
    · rename_i c
      obtain ⟨i, hi, h⟩ := Option.bind_eq_some_iff.mp h
      obtain ⟨m, hm, rfl⟩ := Option.map_eq_some_iff.mp h
      exact asg1_ok F c.1 c.2 hi hm
    · cases h
  · rename_i ts kk tp e pos
    obtain ⟨is, hn, h⟩ := Option.bind_eq_some_iff.mp h
    split at h
    · obtain ⟨ms, hms, h⟩ := Option.bind_eq_some_iff.mp h
      exact par_ok (n := n) F hn (trL_ok (E false) hms).1 h
    · rename_i hne
      obtain ⟨m, hm, rfl⟩ := Option.map_eq_some_iff.mp h
      show SS X _ (evS cf (.asg (.tup is) m)) is
      rw [show evS cf (.asg (.tup is) m) = fun ρ => asgK (.tup is) (evE cf m ρ) from funext fun ρ => evS_asg cf _ _ ρ]
      have pg : PG X (.Tuple ts kk tp) (gTg X.K (.tup is)) := trTg_ok F (e := .Tuple ts kk tp) (tg := .tup is) (by show (trTg.names T (fun _ => true) sc ts).map Tg.tup = _; rw [hn]; rfl)
      refine ss_asgT (tg := .tup is) ((E _ _ _ hm).se rfl).1 pg ?_ ?_ rfl
      · cases e <;> rfl
      · cases e <;> first | rfl | exact absurd rfl (hne _ _ _)
  · split at h
    · rename_i c
      obtain ⟨i, hi, h⟩ := Option.bind_eq_some_iff.mp h
      obtain ⟨mx, hx, h⟩ := Option.bind_eq_some_iff.mp h
      obtain ⟨m, hm, rfl⟩ := Option.map_eq_some_iff.mp h
      exact setix_ok F c.1 c.2.1 c.2.2 hi hx hm
    · cases h
  · cases h
theorem trBlk_ok {n : Nat} (F : Fit cf T (fun _ => true) sc k X) (hp : PassesOwn (model X.prog X.w) X.A X.env X.xe) : ∀ (j : Nat) {b : List Stmt} {r : List MS × List Nat}, trBlk (fun t e => tr n t T (fun _ => true) sc e) T sc j b = some r → SSs X b (evSs cf r.1) r.2
  | 0, _, _, h => by cases h
  | j + 1, b, r, h => by
    replace h : trList (trStmt (fun t e => tr n t T (fun _ => true) sc e) (trBlk (fun t e => tr n t T (fun _ => true) sc e) T sc j) T sc) b = some r := h
    have hs := fun s r h => trStmt_ok (n := n) F hp (B := trBlk (fun t e => tr n t T (fun _ => true) sc e) T sc j) (fun b r h => trBlk_ok F hp j h) (s := s) (r := r) h
    clear hp
    induction b generalizing r with
    | nil =>
      cases h
      rw [show evSs cf [] = fun ρ => .nx ρ from funext fun ρ => evSs_nil cf ρ]
      exact ss_nil
    | cons s b ih =>
      rw [trList] at h
      obtain ⟨p, h1, h⟩ := Option.bind_eq_some_iff.mp h
      obtain ⟨q, h2, rfl⟩ := Option.map_eq_some_iff.mp h
      show SSs X _ (evSs cf (p.1 :: q.1)) (p.2 ++ q.2)
      rw [show evSs cf (p.1 :: q.1) = fun ρ => seqK (evSs cf q.1) (evS cf p.1 ρ) from funext fun ρ => evSs_cons cf _ _ ρ]
      exact ss_cons (hs s p h1) (ih q h2) (fun i h => List.mem_append_left _ h) fun i h => List.mem_append_right _ h
end
end Mv
namespace Mv
open PySem PySem.Spec PyProof.Rows L2

theorem St0.pad {K : Frag} {Z H : Hp} {F : Reg} {σ : L2.St} {ρ : Mv.Loc} (S : St0 K Z H ρ σ F) (m : Nat) : St0 K Z H (ρ ++ List.replicate m none) (σ ++ List.replicate m none) F := by
  obtain ⟨E, g1, g2, g3⟩ := S.env
  refine ⟨S.sub, by simp [S.len], S.dj, S.al, E, g1, g2, fun i r h => ?_⟩
  unfold slotAt at h
  by_cases c : i < ρ.length
  · rw [List.getElem?_append_left c] at h
    obtain ⟨v, hv, rv⟩ := g3 i r h
    exact ⟨v, by rw [List.getElem?_append_left (by rw [← S.len]; exact c)]; exact hv, rv⟩
  · rw [List.getElem?_append_right (by omega), List.getElem?_replicate] at h
    split at h <;> simp at h
def wOk (W : List Nat) (np : Nat) (w : List Nat) : Bool := W.all fun i => decide (np ≤ i) || w.contains i
theorem St0.narrow2 {K : Frag} {Z H : Hp} {F : Reg} {σ' : L2.St} {ρ : Mv.Loc} {W w : List Nat} {vs : List V} {m : Nat} (S : St0 K Z H ρ σ' F) (sm : Same W (vs.map some ++ List.replicate m none) σ') (hw : wOk W vs.length w = true) :
    St0 K Z H (Mv.wipes (ρ.take vs.length) w) (vs.map some) F := by
  obtain ⟨E, g1, g2, g3⟩ := S.env
  have hl := S.len
  have hl2 := sm.1
  simp at hl2
  refine ⟨S.sub, by rw [wipes_len, List.length_take, List.length_map]; omega, S.dj, S.al, E, g1, g2, fun i r h => ?_⟩
  obtain ⟨h1, h2⟩ := slotAt_wipes h
  unfold slotAt at h2
  rw [List.getElem?_take] at h2
  split at h2
  · rename_i c
    obtain ⟨v, hv, rv⟩ := g3 i r h2
    refine ⟨v, ?_, rv⟩
    have hi : i ∉ W := fun z => by
      have := List.all_eq_true.mp hw i z
      simp at this
      rcases this with z | z
      · omega
      · exact h1 z
    have := sm.2 i hi
    rw [hv, List.getElem?_append_left (by simpa using c)] at this
    exact this.symm
  · simp at h2
section
variable {P : Program} {w : World} {K : Frag} {mg : Str → Option Value} {base : Heap}
/-- what all defs of the module share -/
structure Shr (K : Frag) (mg : Str → Option Value) (T : Tab) : Prop where
  cst : ∀ x d, T.consts.lookup x = some d → ∃ u v, mg x = some u ∧ RelV v u ∧ ∀ Z, RepD K Z d v
  blt : ∀ x, T.blts.contains x = true → mg x = none
theorem fnG_tr {cf : Nat → List RV → CRes} {T : Tab} {k n : Nat} {f : Addr} {x qual : Str} {st : Stmt} {fd : FuncData} {ps : List Str} {F : Fn} {W : List Nat} (Fu : FunA K x qual st f fd) (S : FnScope T.N ps (defScope st)) (sh : Shr K mg T)
    (fns : ∀ x i n, T.fns.lookup x = some (i, n) → ∃ f fd ps, mg x = some (.ref f) ∧ PySem.W.keepIn K (.ref f) = true ∧ Binds K fd ps [] ∧ ps.length = n ∧ FnG P w K mg base k f fd ps (spF K (cf i)) ∧ DflOk K fd ps (T.dfl.lookup x))
    (hnp : F.np = ps.length) (hns : F.ns = T.N.length) (hb : trBody n T (defScope st) (defBody st) = some (F.body, W)) (hw : wOk W F.np F.w = true) : FnG P w K mg base (k + 1) f fd ps (spF K (callF cf F)) := by
  have len : ∀ vs H Q E, spF K (callF cf F) vs H Q E → vs.length = ps.length := fun vs H Q E ⟨Z, rs, F0, S0, v, qs, hc, _⟩ => by
    unfold callF at hc
    split at hc
    · rename_i c
      have := S0.len
      simp at this
      omega
    · cases hc
  refine fnG_of Fu S len fun cdv A outer s H vs Q E hr hg hsp => ?_
  have hl := len vs H Q E hsp
  have Ft : Fit cf T (fun _ => true) (defScope st) k (cxOf CX0 P w K mg base T.N qual (defScope st) f cdv A outer s H E).nox :=
    ⟨rfl, S.kind, rfl, S.nd, rfl, rfl, hr, hg, sh.cst, sh.blt, fns⟩
  refine ⟨_, trBlk_ok Ft PassesOwn.never n hb, ?_⟩
  obtain ⟨Z, rs, F0, S0, v, qs, hc, q⟩ := hsp
  unfold callF at hc
  split at hc
  · rename_i c
    have hlr : rs.length = vs.length := by have := S0.len; simpa using this
    have es : L2.start T.N vs = vs.map some ++ List.replicate (F.ns - F.np) none := by unfold L2.start; rw [hns, hnp, hl]
    rw [es]
    refine ⟨Z, _, F0, S0.pad (F.ns - F.np), ?_⟩
    have hnp' : F.np = vs.length := by omega
    generalize evSs cf F.body (rs.map some ++ List.replicate (F.ns - F.np) none) = r at hc ⊢
    cases r with
    | ret v' ρ' =>
      have hc : CRes.ret v' (wipes (ρ'.take F.np) F.w) = .ret v qs := hc
      cases hc
      intro σ' x H' sm ⟨Z1, F1, Fv, S1, r1, d1, z1, f1⟩
      refine q x H' ⟨Z1, F1, Fv, ?_, r1, d1, z1, f1⟩
      rw [hnp'] at hw ⊢
      exact S1.narrow2 sm hw
    | nx ρ' =>
      have hc : CRes.ret (.imm .non) (wipes (ρ'.take F.np) F.w) = .ret v qs := hc
      cases hc
      intro σ' H' ⟨sm, Z1, F1, S1, f1⟩
      refine q .non H' ⟨Z1, F1, fun _ => False, ?_, .imm .non, fun _ _ h => h, fun _ h => h.elim, f1.mono (fun _ h => h) fun c h => h.elim .inl fun z => z.elim⟩
      rw [hnp'] at hw ⊢
      exact S1.narrow2 sm hw
    | bk _ => cases hc
    | ct _ => cases hc
    | fail => cases hc
  · cases hc
/-- a def of the module, all that the walk asks of it -/
structure DefOk (K : Frag) (mg : Str → Option Value) (prog : Nat → Option Fn) (T0 : Tab) (x : Str) (i np : Nat) : Prop where
  ex : ∃ (f : Addr) (fd : FuncData) (ps N : List Str) (st : Stmt) (qual : Str) (F : Fn) (n : Nat) (W : List Nat) (nest : List Str), mg x = some (.ref f) ∧ PySem.W.keepIn K (.ref f) = true ∧ Binds K fd ps [] ∧ ps.length = np ∧ (T0.dfl.lookup x = none → ∀ (s : Shared) (us : List Value), us.length = ps.length → BindsTo s fd ⟨us, []⟩ (ps.zip us)) ∧ FunA K x qual st f fd ∧ FnScope N ps (defScope st) ∧
    prog i = some F ∧ F.np = np ∧ F.ns = N.length ∧ trBody n { T0 with N := N, np := np, nest := nest } (defScope st) (defBody st) = some (F.body, W) ∧ wOk W np F.w = true ∧ DflOk K fd ps (T0.dfl.lookup x)
theorem all_fns {prog : Nat → Option Fn} {T0 : Tab} (sh : Shr K mg T0) (hd : ∀ x i n, T0.fns.lookup x = some (i, n) → DefOk K mg prog T0 x i n) :
    ∀ k x i n, T0.fns.lookup x = some (i, n) → ∃ f fd ps, mg x = some (.ref f) ∧ PySem.W.keepIn K (.ref f) = true ∧ Binds K fd ps [] ∧ ps.length = n ∧ FnG P w K mg base k f fd ps (spF K (callK prog k i)) ∧ DflOk K fd ps (T0.dfl.lookup x)
  | 0, x, i, n, h => by
    obtain ⟨f, fd, ps, N, st, qual, F, m, W, nest, h1, h2, h3, h4, hba, h5, h6, h7, h8, h9, h10, h11⟩ := (hd x i n h).ex
    refine ⟨f, fd, ps, h1, h2, h3, h4, ⟨fun vs H Q E hs => ?_, fun A outer s H args us vs Q E _ _ _ _ _ hs => ?_⟩, h11.2⟩
    all_goals
      obtain ⟨Z, rs, F0, S0, v, qs, hc, _⟩ := hs
      cases hc
  | k + 1, x, i, n, h => by
    obtain ⟨f, fd, ps, N, st, qual, F, m, W, nest, h1, h2, h3, h4, hba, h5, h6, h7, h8, h9, h10, h11⟩ := (hd x i n h).ex
    refine ⟨f, fd, ps, h1, h2, h3, h4, ?_, h11.2⟩
    have ih := all_fns sh hd k
    have := fnG_tr (P := P) (w := w) (base := base) (cf := callK prog k) (T := { T0 with N := N, np := n, nest := nest }) (F := F) h5 h6 ⟨sh.cst, sh.blt⟩ ih (by omega) h9 h10 (by rw [h8]; exact h11.1)
    have e : callK prog (k + 1) i = callF (callK prog k) F := by funext args; simp only [callK, h7]
    rw [e]
    exact this

mutual
def relD (K : Frag) : D → Value → Bool
  | .non, .none => true
  | .bl b, .bool c => b == c
  | .int i, .int j _ => decide (i = j)
  | .str s, .str y _ => decide (y.cps.toList = s)
  | .tup l, .ref a => (match K.lookup a with
    | some ⟨.type c, .none, .seq its _, _⟩ => decide (c = "tuple") && (decide (its.size ≤ sizeLine) && relDs K l its.toList)
    | _ => false)
  | _, _ => false
def relDs (K : Frag) : List D → List Value → Bool
  | [], [] => true
  | d :: ds, u :: us => relD K d u && relDs K ds us
  | _, _ => false
end
mutual
theorem relD_ok : ∀ (d : D) (u : Value), relD K d u = true → ∃ v, RelV v u ∧ ∀ Z, RepD K Z d v
  | .non, u, h => by cases u <;> first | exact ⟨.non, rfl, fun _ => .non⟩ | (simp [relD] at h)
  | .bl b, u, h => by
    cases u <;> first | (rename_i c; have e : (b == c) = true := (by simpa only [relD] using h); have := eq_of_beq e; subst this; exact ⟨.bl b, rfl, fun _ => .bl b⟩) | (simp [relD] at h)
  | .int i, u, h => by
    cases u <;> first | (rename_i j t; have e : decide (i = j) = true := (by simpa only [relD] using h); have := of_decide_eq_true e; subst this; exact ⟨.int i, ⟨t, rfl⟩, fun _ => .int i⟩) | (simp [relD] at h)
  | .str s, u, h => by
    cases u <;> first | (rename_i y t; have e : decide (y.cps.toList = s) = true := (by simpa only [relD] using h); have := of_decide_eq_true e; subst this; exact ⟨.str y, ⟨t, rfl⟩, fun Z => by have := RepD.str (K := K) (Z := Z) y.cps.toList; rwa [show toStr y.cps.toList = y from by unfold toStr; simp] at this⟩) | (simp [relD] at h)
  | .tup l, u, h => by
    cases u with
    | ref a =>
      rw [relD] at h
      split at h
      · rename_i c its m osl lk
        rw [Bool.and_eq_true, Bool.and_eq_true] at h
        obtain ⟨h1, h2, h3⟩ := h
        obtain ⟨vs, r, g1, g2⟩ := relDs_ok l its.toList h3
        exact ⟨.ref a, rfl, fun Z => .tup ⟨.inr ⟨_, its, m, lk, congrArg Value.type (of_decide_eq_true h1), rfl, of_decide_eq_true h2, r⟩, .inr ⟨_, lk, congrArg Value.type (of_decide_eq_true h1), rfl⟩⟩ g1 (g2 Z)⟩
      · cases h
    | _ => simp [relD] at h
  | .lst _, u, h => by cases u <;> simp [relD] at h
  | .dic _, u, h => by cases u <;> simp [relD] at h
  | .scr _, u, h => by cases u <;> simp [relD] at h
theorem relDs_ok : ∀ (l : List D) (us : List Value), relDs K l us = true → ∃ vs, Vals vs us ∧ l.length = vs.length ∧ ∀ Z (i : Nat) (d : D) (v : V), l[i]? = some d → vs[i]? = some v → RepD K Z d v
  | [], [], _ => ⟨[], .nil, rfl, fun Z i d v a b => by simp at a⟩
  | [], _ :: _, h => by simp [relDs] at h
  | _ :: _, [], h => by simp [relDs] at h
  | d :: l, u :: us, h => by
    rw [relDs, Bool.and_eq_true] at h
    obtain ⟨v, r1, r2⟩ := relD_ok d u h.1
    obtain ⟨vs, r3, r4, r5⟩ := relDs_ok l us h.2
    refine ⟨v :: vs, .cons r1 r3, by simp [r4], fun Z i d' v' a b => ?_⟩
    cases i with
    | zero => simp at a b; subst a; subst b; exact r2 Z
    | succ i => exact r5 Z i d' v' (by simpa using a) (by simpa using b)
end
def cstB (K : Frag) (p : Str × D) : Bool := match PySem.W.nsIn K mainGlobals p.1 with
  | some (some u) => relD K p.2 u
  | _ => false
theorem cstB_ok {h : Heap} {p : Str × D} (X : PySem.W.Frag.In K h) (G : h.Ns mainGlobals mg) (c : cstB K p = true) : ∃ u v, mg p.1 = some u ∧ RelV v u ∧ ∀ Z, RepD K Z p.2 v := by
  unfold cstB at c
  split at c
  · rename_i u e
    obtain ⟨v, r, q⟩ := relD_ok p.2 u c
    exact ⟨u, v, PySem.W.mg_of X G e, r, q⟩
  · cases c

abbrev AlM : Type := Bool × He.AlD
def obsM (cs : List (Str × D)) (fa : List He.Fa) (fn : List He.DefD) (K : Frag) : AlM := (cs.all (cstB K), He.obsD fa fn K)
def SaysM (cs : List (Str × D)) (fa : List He.Fa) (fn : List He.DefD) (K : Frag) : Prop := obsM cs fa fn K = (true, He.valD fn)
def obsMG (n : Nat) (cs : List (Str × D)) (fa : List He.Fa) (fn : List He.DefD) (g : Addr → Option Obj) : AlM := obsM cs fa fn (He.frG g (He.asD g n))
def hookM (n : Nat) (cs : List (Str × D)) (fa : List He.Fa) (fn : List He.DefD) : PySem.W.Hook where
  α := AlM
  obs := fun s => obsMG n cs fa fn s.heap.get?
  val := fun _ => (true, He.valD fn)
  says := fun _ h => ∃ K : Frag, PySem.W.Frag.In K h ∧ SaysM cs fa fn K
  of := fun _ _ e => ⟨_, He.frG_in, e⟩
  keeps := fun _ _ _ ⟨K, hK, c⟩ k => ⟨K, PySem.W.Frag.In.keeps hK k, c⟩
theorem obsMG_eq {n : Nat} {cs : List (Str × D)} {fa : List He.Fa} {fn : List He.DefD} {g : Addr → Option Obj} {s : Shared} (h : ∀ a, g a = s.heap.get? a) : obsMG n cs fa fn g = (hookM n cs fa fn).obs s := by
  have e : g = s.heap.get? := funext h
  rw [e]; rfl
theorem SaysM.d {cs : List (Str × D)} {fa : List He.Fa} {fn : List He.DefD} (c : SaysM cs fa fn K) : He.SaysD fa fn K := congrArg Prod.snd c
theorem SaysM.c {cs : List (Str × D)} {fa : List He.Fa} {fn : List He.DefD} (c : SaysM cs fa fn K) : cs.all (cstB K) = true := congrArg Prod.fst c
theorem says_cst {cs : List (Str × D)} {fa : List He.Fa} {fn : List He.DefD} {h : Heap} (c : SaysM cs fa fn K) (X : PySem.W.Frag.In K h) (G : h.Ns mainGlobals mg) (x : Str) (d : D) (hx : cs.lookup x = some d) : ∃ u v, mg x = some u ∧ RelV v u ∧ ∀ Z, RepD K Z d v :=
  cstB_ok (p := (x, d)) X G (List.all_eq_true.mp c.c (x, d) (PySem.mem_of_lookup hx))
theorem says_fact {cs : List (Str × D)} {fa : List He.Fa} {fn : List He.DefD} (c : SaysM cs fa fn K) {f : He.Fa} (hf : f ∈ fa) : f.ok K = true := by
  have c1 : ((fa.all fun f => f.ok K) && fn.all fun d => d.ok K) = true := congrArg (fun z : He.AlD => z.1) c.d
  rw [Bool.and_eq_true] at c1
  exact List.all_eq_true.mp c1.1 f hf
def faOf (fns : List (Str × Nat × Nat)) (blts : List Str) : List He.Fa := fns.map (fun p => He.Fa.glo p.1) ++ blts.map He.Fa.free
theorem says_blt {cs : List (Str × D)} {fns : List (Str × Nat × Nat)} {blts : List Str} {fn : List He.DefD} {h : Heap} (c : SaysM cs (faOf fns blts) fn K) (X : PySem.W.Frag.In K h) (G : h.Ns mainGlobals mg) (x : Str) (hx : blts.contains x = true) : mg x = none :=
  He.free_ok X G (says_fact c (List.mem_append_right _ (List.mem_map_of_mem (by simpa using hx))))
theorem says_shr {T0 : Tab} {fn : List He.DefD} {h : Heap} (c : SaysM T0.consts (faOf T0.fns T0.blts) fn K) (X : PySem.W.Frag.In K h) (G : h.Ns mainGlobals mg) : Shr K mg T0 := ⟨says_cst c X G, says_blt c X G⟩
theorem defOk_of {prog : Nat → Option Fn} {T0 : Tab} {fn : List He.DefD} {h : Heap} {x : Str} {i j np : Nat} {st : Stmt} (c : SaysM T0.consts (faOf T0.fns T0.blts) fn K) (X : PySem.W.Frag.In K h) (G : h.Ns mainGlobals mg)
    (hm : (x, i, np) ∈ T0.fns) (hd : fn[j]? = some ⟨(x, none), x, x, defArgs st, defBody st, defScope st, [], []⟩) (N ps : List Str) (F : Fn) (n : Nat) (W : List Nat) (nest : List Str) (S : FnScope N ps (defScope st)) (hp : ps.length = np)
    (hb : ∀ (kV doc pm : Value) (an : Option Addr) (cdv ct : Value) (us : List Value), us.length = ps.length → bindArgs (PySem.W.fnOf x x (defArgs st) (defBody st) (defScope st) .none kV doc pm an cdv ct) ⟨us, []⟩ = pure (ps.zip us))
    (h1 : prog i = some F) (h2 : F.np = np) (h3 : F.ns = N.length) (h4 : trBody n { T0 with N := N, np := np, nest := nest } (defScope st) (defBody st) = some (F.body, W)) (h5 : wOk W np F.w = true) (h6 : T0.dfl.lookup x = none) : DefOk K mg prog T0 x i np := by
  obtain ⟨fd, FD⟩ := c.d.def_ j hd
  have hg : mg x = some (.ref (He.ga K x)) := He.glo_ok X G (says_fact c (List.mem_append_left _ (List.mem_map_of_mem (f := fun p : Str × Nat × Nat => He.Fa.glo p.1) hm)))
  have bd : Binds K fd ps [] := FD.bindsN hb
  obtain ⟨oc, od, dV, kV, doc, pm, an, cdv, ct, osl, e1, e2, e3, e4, _⟩ := FD.ex
  rcases e4 with ⟨_, rfl⟩ | ⟨e, _⟩
  · exact ⟨_, fd, ps, N, st, x, F, n, W, nest, hg, FD.kp, bd, hp, fun _ => FD.bindsA hb, ⟨⟨oc, od, _, kV, doc, pm, an, cdv, ct, osl, e1, e2, e3⟩⟩, S, h1, h2, h3, h4, h5, by rw [h6]; trivial⟩
  · exact absurd rfl e

/-- a def with defaults -/
theorem defOk_ofD {prog : Nat → Option Fn} {T0 : Tab} {fn : List He.DefD} {h : Heap} {x : Str} {i j np : Nat} {st : Stmt} {dl : List He.Dv} {ds : List D} (c : SaysM T0.consts (faOf T0.fns T0.blts) fn K) (X : PySem.W.Frag.In K h) (G : h.Ns mainGlobals mg)
    (hm : (x, i, np) ∈ T0.fns) (hd : fn[j]? = some ⟨(x, none), x, x, defArgs st, defBody st, defScope st, dl, []⟩) (N ps : List Str) (F : Fn) (n : Nat) (W : List Nat) (nest : List Str) (S : FnScope N ps (defScope st)) (hp : ps.length = np)
    (h1 : prog i = some F) (h2 : F.np = np) (h3 : F.ns = N.length) (h4 : trBody n { T0 with N := N, np := np, nest := nest } (defScope st) (defBody st) = some (F.body, W)) (h5 : wOk W np F.w = true) (h6 : T0.dfl.lookup x = some ds) (hne : dl ≠ []) (hle : dl.length ≤ np)
    (hr : ∀ Z, RepDs K Z ds (dl.map (He.Dv.v K)))
    (hb : ∀ j, j ≤ dl.length → ∀ (T : Addr) (kV doc pm : Value) (an : Option Addr) (cdv ct : Value) (us its : List Value), us.length = np - (dl.length - j) → its.length = dl.length →
      ∃ k, bindArgs (PySem.W.fnOf x x (defArgs st) (defBody st) (defScope st) (.ref T) kV doc pm an cdv ct) ⟨us, []⟩ = seqItems? (.ref T) >>= k ∧ k (some its.toArray) = pure (ps.zip (us ++ its.drop j))) : DefOk K mg prog T0 x i np := by
  obtain ⟨fd, FD⟩ := c.d.def_ j hd
  have hg : mg x = some (.ref (He.ga K x)) := He.glo_ok X G (says_fact c (List.mem_append_left _ (List.mem_map_of_mem (f := fun p : Str × Nat × Nat => He.Fa.glo p.1) hm)))
  have hl : (dl.map (He.Dv.v K)).length = dl.length := List.length_map ..
  have bd : ∀ j, j ≤ dl.length → ∃ us, Vals ((dl.map (He.Dv.v K)).drop j) us ∧ Binds K fd ps us := fun j hj =>
    FD.binds1 (np - (dl.length - j)) j (fun z => hne (List.map_eq_nil_iff.mp z)) (by show np - (dl.length - j) + ((dl.map (He.Dv.v K)).length - j) = ps.length; rw [hl]; omega) fun T kV doc pm an cdv ct us its h7 h8 => hb j hj T kV doc pm an cdv ct us its h7 (h8.trans hl)
  have b0 : Binds K fd ps [] := by
    obtain ⟨us, v, b⟩ := bd dl.length (Nat.le_refl _)
    rw [List.drop_eq_nil_of_le (by rw [hl]; exact Nat.le_refl _)] at v
    cases v
    exact b
  obtain ⟨oc, od, dV, kV, doc, pm, an, cdv, ct, osl, e1, e2, e3, _, _⟩ := FD.ex
  refine ⟨_, fd, ps, N, st, x, F, n, W, nest, hg, FD.kp, b0, hp, fun z => ?_, ⟨⟨oc, od, dV, kV, doc, pm, an, cdv, ct, osl, e1, e2, e3⟩⟩, S, h1, h2, h3, h4, h5, ?_⟩
  · rw [h6] at z; cases z
  · rw [h6]
    intro j hj
    have l2 : ds.length = dl.length := by have := (hr fun _ => none).1; rw [hl] at this; exact this
    obtain ⟨us, v, b⟩ := bd j (by omega)
    exact ⟨us, _, b, v, fun Z => repDs_drop (hr Z) j⟩

theorem sp_law {c : List RV → CRes} {ns : List Int} {ps : List Slot} (hc : c [.imm (.scr ns)] = .ret (.imm (.bl true)) ps) {H : Hp} {a : Addr} (hS : SqL K H a (ns.map V.int)) : spF K c [.ref a] H (fun v _ => v = .bl true) fun _ _ _ => False := by
  refine ⟨H, [.imm (.scr ns)], fun _ => False, ⟨fun _ _ h => h, rfl, fun _ h => h.elim, fun _ h => h.elim, fun _ _ => False, fun _ _ h => h, fun _ _ _ _ h => h.elim, fun i r h => ?_⟩, _, ps, hc, fun x H' ⟨Z1, F1, Fv, S1, r1, _⟩ => ?_⟩
  · cases i with
    | zero => rw [List.map_cons, slotAt_cons_zero] at h; cases h; exact ⟨.ref a, rfl, .imm (.scr hS)⟩
    | succ i => rw [List.map_cons, slotAt_cons_succ] at h; simp [slotAt] at h
  · cases r1 with
    | imm r1 => cases r1; rfl
/-- from a heap in which at most the script is tracked -/
theorem law_from {P : Program} {w : World} {mb : Str → Option Value} {k : Nat} {fa a : Addr} {fd : FuncData} {x : Str} {sp : Sp} {s1 : Shared} {H : Hp}
    (hKb : PySem.W.Frag.In K (hidT s1.heap H)) (gN : (hidT s1.heap H).Ns mainGlobals mg) (gB : (hidT s1.heap H).Ns builtinsNs mb) (gL : (hidT s1.heap H).NoLimit) (hbb : ∀ x : Str, x ≠ "__name__" → mb x = bootBuiltins x) (hok : HOk P w H s1.heap) (hgen : s1.gens = #[])
    (hO : Only H) (hr : Room k callerA) (F : FnG P w K mg (hidT s1.heap H) k fa fd [x] sp) (hbind : BindsTo s1 fd ⟨[.ref a], []⟩ [(x, .ref a)]) (hsp : sp [.ref a] H (fun v _ => v = .bl true) fun _ _ _ => False) :
    codeAny (model P w) callerA (.call (.ref fa) ⟨[.ref a], []⟩) (fun r s' => r = .ok (.ret (.bool true)) ∧ OldK s1.heap s'.heap ∧ s'.os = s1.os ∧ AllBare s'.gens) s1 := by
  have e0 : Env0 P w K mg (hidT s1.heap H) callerA [] s1 H :=
    { frames := rfl, mod := ⟨hKb, gN, ⟨mb, gB, hbb⟩, gL⟩, bs := fun _ _ e => of_hidT e, bsz := Nat.le_of_eq (hidT_size _ _), funs := trivial, frf := fun _ hb => (nomatch hb), hok := hok, bare := .of_eq hgen }
  have run := F.run callerA [] s1 H ⟨[.ref a], []⟩ [.ref a] [.ref a] _ _ hr rfl e0 hbind (.cons rfl .nil) hsp
  refine codeAny_mono run fun r s2 q => ?_
  match r, q with
  | .error _, q => exact (q : False).elim
  | .ok .next, q => exact (q : False).elim
  | .ok .brk, q => exact (q : False).elim
  | .ok .cont, q => exact (q : False).elim
  | .ok (.ret u), ⟨v, H2, os, bare, un, hok2, rv, ev⟩ =>
    have ev : v = .bl true := ev
    subst ev
    have eu : u = Value.bool true := rv
    subst eu
    refine ⟨rfl, OldK.of_keep fun b o e => ?_, os, bare⟩
    rcases hO b with z | ⟨ob, xs, z⟩
    · exact un.keep b o e z (fun m => nomatch m) (fun m => nomatch m)
    · have p1 := (hok b _ z).1
      have p2 := (hok2 b _ (un.frzs b ob _ z)).1
      rw [e] at p1
      cases p1
      exact p2
/-- what the head leaves: the law's own call -/
theorem mv_walk {l : PySem.W.OpenLaw} {n k : Nat} {q : Program} {loose : List Str} {XP : (Str → Option Value) → Heap → Prop} {YP : World → Heap → Prop} {d : DefRec} (hn : l.most = some n) (hn2 : n ≤ sizeLine) (hdf : d.params.defaults = []) (hr : Room k callerA)
    (go : ∀ (w : World) (mg : Str → Option Value) (fa : Addr) (h : Heap), YP w h → h.Ns mainGlobals mg → mg d.name = some (.ref fa) → ∃ (K : Frag) (fd : FuncData) (c : List RV → CRes) (x : Str), PySem.W.Frag.In K h ∧ (∀ (s : Shared) (u : Value), BindsTo s fd ⟨[u], []⟩ [(x, u)]) ∧
      (∀ ns : List Int, ns.length ≤ n → ∃ ps, c [.imm (.scr ns)] = .ret (.imm (.bl true)) ps) ∧ ∀ base : Heap, PySem.W.Frag.In K base → base.Ns mainGlobals mg → FnG l.prog w K mg base k fa fd [x] (spF K c)) :
    PySem.W.WalkO q loose XP YP l.row.toRowW d [] (fun f vs => PySem.call f vs) := by
  refine Att.attach_call hn hdf fun w s0 s1 mg mb fa o pm cd doc a vs ns G Y ho hd hcd hmg ha hints hlen hgen => ?_
  obtain ⟨K, fd, c, x, KX, bd, hc, F⟩ := go w mg fa _ Y G.T.g hmg
  obtain ⟨ps, hc⟩ := hc ns hlen
  have rv := vals_ints hints
  have main : ∀ H : Hp, (∀ b, b ≠ a → H b = none) → (H a = none ∨ K.lookup a = none) → HOk l.prog w H s1.heap → Only H → SqL K H a (ns.map V.int) →
      codeAny (model l.prog w) callerA (.call (.ref fa) ⟨[.ref a], []⟩) (fun r s' => r = .ok (.ret (.bool true)) ∧ OldK s1.heap s'.heap ∧ s'.os = s1.os ∧ AllBare s'.gens) s1 := fun H far own hok hO hS => by
    have dct : ∀ {b : Addr} {u : Obj} {es : Array DictEntry} {ep : Nat}, s1.heap.get? b = some u → u.data = .dict es ep → (hidT s1.heap H).get? b = some u := fun {b u es ep} e1 e2 => hidT_get e1 (far b fun e => by
      subst e
      rw [ha] at e1
      cases e1
      cases e2)
    have inK : PySem.W.Frag.In K (hidT s1.heap H) := fun b u e => hidT_get (KX b u e) (by
      by_cases eb : b = a
      · subst eb
        rcases own with z | z
        · exact z
        · rw [z] at e; cases e
      · exact far b eb)
    have nsp : ∀ {b : Addr} {m : Str → Option Value}, s1.heap.Ns b m → (hidT s1.heap H).Ns b m := fun {b m} z => by
      obtain ⟨u, es, ep, e1, e2, e3⟩ := z
      exact ⟨u, es, ep, dct e1 e2, e2, e3⟩
    obtain ⟨mc, lim1, lim2⟩ := G.T.nolimit
    exact law_from inK (nsp G.T.g) (nsp G.T.b) ⟨mc, nsp lim1, lim2⟩ G.T.builtins hok hgen hO hr (F _ inK (nsp G.T.g)) (bd s1 (.ref a)) (sp_law hc hS)
  have small : ns.length ≤ sizeLine := Nat.le_trans hlen hn2
  cases hk : K.lookup a with
  | some u =>
    have e := KX a u hk
    rw [ha] at e
    cases e
    refine main (fun _ => none) (fun _ _ => rfl) (.inl rfl) (fun b u z => nomatch z) (fun _ => .inl rfl) (.inr ⟨_, vs.toArray, _, hk, rfl, rfl, rfl, ?_, by simpa using rv⟩)
    rw [List.size_toArray, hints.length]
    exact small
  | none =>
    have at_a : (fun b => if b = a then some (HO.frz { cls := .type "list", data := .seq vs.toArray } (.lst (ns.map V.int))) else none : Hp) a = some (.frz { cls := .type "list", data := .seq vs.toArray } (.lst (ns.map V.int))) := if_pos rfl
    refine main (fun b => if b = a then some (.frz { cls := .type "list", data := .seq vs.toArray } (.lst (ns.map V.int))) else none) (fun b hb => if_neg hb) (.inr hk) (fun b u z => ?_) (fun b => ?_) (.inl (.inr ⟨_, at_a⟩))
    · by_cases hb : b = a
      · subst hb
        have z2 := at_a.symm.trans z
        cases z2
        exact ⟨ha, by rw [List.length_map]; exact small, vs, _, rv, ha⟩
      · have z2 := (if_neg hb).symm.trans z
        cases z2
    · by_cases hb : b = a
      · subst hb; exact .inr ⟨_, _, at_a⟩
      · exact .inl (if_neg hb)
theorem law_go {P : Program} {w : World} {mg : Str → Option Value} {K : Frag} {h : Heap} {fa : Addr} {k i : Nat} {prog : Nat → Option Fn} {T0 : Tab} {n : Nat} (X : PySem.W.Frag.In K h) (sh : Shr K mg T0) (hd : ∀ p ∈ T0.fns, DefOk K mg prog T0 p.1 p.2.1 p.2.2)
    (hl : T0.fns.lookup ("law" : Str) = some (i, 1)) (hdl : T0.dfl.lookup ("law" : Str) = none) (hm : mg ("law" : Str) = some (.ref fa)) (hp : ∀ ns : List Int, ns.length ≤ n → ∃ ps, callK prog (k + 1) i [.imm (.scr ns)] = .ret (.imm (.bl true)) ps) :
    ∃ (K : Frag) (fd : FuncData) (c : List RV → CRes) (x : Str), PySem.W.Frag.In K h ∧ (∀ (s : Shared) (u : Value), BindsTo s fd ⟨[u], []⟩ [(x, u)]) ∧
      (∀ ns : List Int, ns.length ≤ n → ∃ ps, c [.imm (.scr ns)] = .ret (.imm (.bl true)) ps) ∧ ∀ base : Heap, PySem.W.Frag.In K base → base.Ns mainGlobals mg → FnG P w K mg base (k + 1) fa fd [x] (spF K c) := by
  have hd2 : ∀ x i n, T0.fns.lookup x = some (i, n) → DefOk K mg prog T0 x i n := fun x i n e => hd (x, i, n) (PySem.mem_of_lookup e)
  obtain ⟨f, fd, ps, N, st, qual, F, m, W, nest, h1, h2, h3, h4, hba, h5, h6, h7, h8, h9, h10, h11⟩ := (hd2 _ _ _ hl).ex
  rw [hm] at h1
  cases h1
  obtain ⟨x, rfl⟩ : ∃ x, ps = [x] := by
    match ps, h4 with
    | [x], _ => exact ⟨x, rfl⟩
  refine ⟨K, fd, callK prog (k + 1) i, x, X, fun s u => hba hdl s [u] rfl, hp, fun base hK hN => ?_⟩
  · have ih := all_fns (P := P) (w := w) (base := base) sh hd2 k
    have := fnG_tr (P := P) (w := w) (base := base) (cf := callK prog k) (T := { T0 with N := N, np := 1, nest := nest }) (F := F) h5 h6 ⟨sh.cst, sh.blt⟩ ih (by rw [h8, h4]) h9 h10 (by rw [h8]; exact h11.1)
    have e : callK prog (k + 1) i = callF (callK prog k) F := by funext args; simp only [callK, h7]
    rw [e]
    exact this
end
end Mv
namespace Mv
theorem whileN_up {c : Loc → Res Bool} {b : Loc → SRes} : ∀ {n : Nat} {ρ : Loc}, whileN c b n ρ ≠ .fail → whileN c b (n + 1) ρ = whileN c b n ρ
  | 0, ρ, h => absurd rfl h
  | n + 1, ρ, h => by
    have e1 : whileN c b (n + 1 + 1) ρ = whileK (whileN c b (n + 1)) b (c ρ) := rfl
    have e2 : whileN c b (n + 1) ρ = whileK (whileN c b n) b (c ρ) := rfl
    rw [e1, e2]
    rw [e2] at h
    cases hc : c ρ with
    | fail => rfl
    | ok t ρ1 =>
      rw [hc] at h
      cases t with
      | false => rfl
      | true =>
        show turnK (whileN c b (n + 1)) (b ρ1) = turnK (whileN c b n) (b ρ1)
        have h : turnK (whileN c b n) (b ρ1) ≠ .fail := h
        cases hb : b ρ1 with
        | nx ρ2 => rw [hb] at h; exact whileN_up h
        | ct ρ2 => rw [hb] at h; exact whileN_up h
        | bk _ => rfl
        | ret _ _ => rfl
        | fail => rfl
theorem whileN_le {c : Loc → Res Bool} {b : Loc → SRes} {n : Nat} {ρ : Loc} (h : whileN c b n ρ ≠ .fail) : ∀ m, n ≤ m → whileN c b m ρ = whileN c b n ρ
  | 0, l => by have : n = 0 := by omega
               subst this; rfl
  | m + 1, l => by
    by_cases e : n = m + 1
    · subst e; rfl
    · have ih := whileN_le h m (by omega)
      rw [whileN_up (by rw [ih]; exact h), ih]
theorem whileS_of {c : Loc → Res Bool} {b : Loc → SRes} {n : Nat} {ρ : Loc} (h : whileN c b n ρ ≠ .fail) : whileS c b ρ = whileN c b n ρ := by
  unfold whileS
  have ex : ∃ n, whileN c b n ρ ≠ .fail := ⟨n, h⟩
  rw [dif_pos ex]
  have h2 := ex.choose_spec
  rcases Nat.le_total n ex.choose with l | l
  · exact whileN_le h _ l
  · exact (whileN_le h2 _ l).symm
theorem whileS_eq (c : Loc → Res Bool) (b : Loc → SRes) (ρ : Loc) : whileS c b ρ = whileK (whileS c b) b (c ρ) := by
  by_cases ex : ∃ n, whileN c b n ρ ≠ .fail
  · obtain ⟨n, h⟩ := ex
    rw [whileS_of h]
    cases n with
    | zero => exact absurd rfl h
    | succ n =>
      have e2 : whileN c b (n + 1) ρ = whileK (whileN c b n) b (c ρ) := rfl
      rw [e2] at h ⊢
      cases hc : c ρ with
      | fail => rfl
      | ok t ρ1 =>
        rw [hc] at h
        cases t with
        | false => rfl
        | true =>
          have h : turnK (whileN c b n) (b ρ1) ≠ .fail := h
          show turnK (whileN c b n) (b ρ1) = turnK (whileS c b) (b ρ1)
          cases hb : b ρ1 with
          | nx ρ2 => rw [hb] at h; exact (whileS_of h).symm
          | ct ρ2 => rw [hb] at h; exact (whileS_of h).symm
          | bk _ => rfl
          | ret _ _ => rfl
          | fail => rfl
  · have e : whileS c b ρ = .fail := by unfold whileS; rw [dif_neg ex]
    rw [e]
    have no : ∀ n, whileK (whileN c b n) b (c ρ) = .fail := fun n => Classical.byContradiction fun h => ex ⟨n + 1, h⟩
    cases hc : c ρ with
    | fail => rfl
    | ok t ρ1 =>
      cases t with
      | false => have := no 0; rw [hc] at this; cases this
      | true =>
        have no : ∀ n, turnK (whileN c b n) (b ρ1) = .fail := fun n => by have := no n; rw [hc] at this; exact this
        show SRes.fail = turnK (whileS c b) (b ρ1)
        have key : ∀ ρ2, (∀ n, whileN c b n ρ2 = .fail) → SRes.fail = whileS c b ρ2 := fun ρ2 h => by
          unfold whileS
          rw [dif_neg (fun ⟨n, z⟩ => z (h n))]
        cases hb : b ρ1 with
        | nx ρ2 => exact key ρ2 fun n => by have := no n; rw [hb] at this; exact this
        | ct ρ2 => exact key ρ2 fun n => by have := no n; rw [hb] at this; exact this
        | bk _ => have := no 0; rw [hb] at this; cases this
        | ret _ _ => have := no 0; rw [hb] at this; cases this
        | fail => rfl
/-- behind a turn, what is wanted: Pn of the next turn, Q of the end -/
def TurnP (Pn : Loc → Prop) (Q : SRes → Prop) : SRes → Prop
  | .nx ρ => Pn ρ
  | .ct ρ => Pn ρ
  | .bk ρ => Q (.nx ρ)
  | .ret v ρ => Q (.ret v ρ)
  | .fail => False
theorem turn_inv {Pn : Loc → Prop} {Q : SRes → Prop} {k : Loc → SRes} {r : SRes} (h : TurnP Pn Q r) (hk : ∀ ρ, Pn ρ → Q (k ρ)) : Q (turnK k r) := by
  cases r with
  | nx ρ => exact hk ρ h
  | ct ρ => exact hk ρ h
  | bk ρ => exact h
  | ret v ρ => exact h
  | fail => exact h.elim
theorem for_inv {ρ0 : Loc} {os : List Od} {tg : Tg} {body : Loc → SRes} (P : List D → Loc → Prop) (Q : SRes → Prop) (h0 : ∀ ρ, P [] ρ → stable ρ0 ρ os = true ∧ Q (.nx ρ)) (h1 : ∀ d r ρ, P (d :: r) ρ → stable ρ0 ρ os = true ∧ TurnP (P r) Q (giveS body (give ρ tg d))) :
    ∀ (ds : List D) (ρ : Loc), P ds ρ → Q (forLoop ρ0 os tg body ds ρ)
  | [], ρ, p => by rw [forLoop, if_pos (h0 ρ p).1]; exact (h0 ρ p).2
  | d :: r, ρ, p => by
    rw [forLoop, if_pos (h1 d r ρ p).1]
    exact turn_inv (h1 d r ρ p).2 fun ρ2 p2 => for_inv P Q h0 h1 r ρ2 p2
theorem while_inv {c : Loc → Res Bool} {body : Loc → SRes} (P : Nat → Loc → Prop) (Q : SRes → Prop) (h : ∀ n ρ, P n ρ → (∃ ρ1, c ρ = .ok false ρ1 ∧ Q (.nx ρ1)) ∨ ∃ ρ1, c ρ = .ok true ρ1 ∧ TurnP (fun ρ => ∃ m, m < n ∧ P m ρ) Q (body ρ1)) :
    ∀ (n : Nat) (ρ : Loc), P n ρ → Q (whileS c body ρ) := by
  intro n
  induction n using Nat.strongRecOn with
  | _ n ih =>
    intro ρ p
    rw [whileS_eq]
    rcases h n ρ p with ⟨ρ1, e, q⟩ | ⟨ρ1, e, q⟩
    · rw [e]; exact q
    · rw [e]
      exact turn_inv q fun ρ2 ⟨m, l, p2⟩ => ih m l ρ2 p2
theorem stable_own {ρ1 ρ : Loc} {own : List Nat} (h : wipes ρ own = wipes ρ1 own) : ∀ {os : List Od}, apartO own os = true → stable ρ1 ρ os = true
  | [], _ => by rw [stable]
  | .inl i :: os, a => by
    rw [apartO, Bool.and_eq_true] at a
    have hi : i ∉ own := by simpa using a.1
    rw [stable, stable_own h a.2]
    have : slotAt ρ i = slotAt ρ1 i := by rw [← slotAt_wipes_out hi, h, slotAt_wipes_out hi]
    rw [if_pos this]; rfl
  | .inr x :: os, a => by
    rw [apartO] at a
    rw [stable]; exact stable_own h a
theorem wipes_get {ρ : Loc} {j : Nat} : ∀ {own : List Nat}, (wipes ρ own)[j]? = if j ∈ own then (if j < ρ.length then some none else none) else ρ[j]?
  | [] => by simp [wipes]
  | i :: is => by
    rw [wipes, List.getElem?_set, wipes_len, wipes_get (own := is)]
    by_cases e : i = j
    · subst e; simp
    · rw [if_neg e]
      by_cases c : j ∈ is
      · simp [c]
      · have e' : ¬ j = i := fun z => e z.symm
        simp [c, e']
theorem unwipe_get {ρ0 ρ : Loc} {j : Nat} : ∀ {own : List Nat}, (unwipe ρ0 ρ own)[j]? = if j ∈ own then (if j < ρ.length then some ((ρ0[j]?).getD none) else none) else ρ[j]?
  | [] => by simp [unwipe]
  | i :: is => by
    rw [unwipe, List.getElem?_set, unwipe_len, unwipe_get (own := is)]
    by_cases e : i = j
    · subst e; simp
    · rw [if_neg e]
      by_cases c : j ∈ is
      · simp [c]
      · have e' : ¬ j = i := fun z => e z.symm
        simp [c, e']
theorem unwipe_own {ρ1 ρ : Loc} {own : List Nat} (h : wipes ρ own = wipes ρ1 own) : unwipe ρ1 ρ own = ρ1 := by
  have hl : ρ.length = ρ1.length := by rw [← wipes_len ρ own, h, wipes_len]
  refine List.ext_getElem? fun j => ?_
  rw [unwipe_get]
  by_cases c : j ∈ own
  · rw [if_pos c, hl]
    by_cases l : j < ρ1.length
    · rw [if_pos l, List.getElem?_eq_getElem l]; rfl
    · rw [if_neg l, List.getElem?_eq_none (by omega)]
  · rw [if_neg c]
    have e1 : (wipes ρ own)[j]? = ρ[j]? := by rw [wipes_get, if_neg c]
    have e2 : (wipes ρ1 own)[j]? = ρ1[j]? := by rw [wipes_get, if_neg c]
    rw [← e1, h, e2]
theorem comp_go {ρ1 : Loc} {os : List Od} {tg : Tg} {own : List Nat} {test : Loc → Res Bool} {elt : Loc → Res RV} {f : D → Option RV} (ap : apartO own os = true) :
    ∀ (ds : List D) (acc : List RV) (ρ : Loc), wipes ρ own = wipes ρ1 own → ds.length + acc.length ≤ LINE → (∀ d, d ∈ ds → ∃ ρ', testK elt (giveT test (give (wipes ρ1 own) tg d)) = .ok (f d) ρ' ∧ wipes ρ' own = wipes ρ1 own) →
      compEnd ρ1 own (compLoop ρ1 os tg own test elt ds acc ρ) = .ok (.oL (acc ++ ds.filterMap f)) ρ1
  | [], acc, ρ, h, _, _ => by
    rw [compLoop, if_pos (stable_own h ap)]
    show Res.ok (RV.oL acc) (unwipe ρ1 ρ own) = _
    rw [unwipe_own h]; simp
  | d :: r, acc, ρ, h, l, st => by
    rw [compLoop, if_pos (stable_own h ap), h]
    obtain ⟨ρ', e, w⟩ := st d (by simp)
    rw [e]
    have ih := fun acc l => comp_go (tg := tg) (test := test) (elt := elt) (f := f) ap r acc ρ' w l fun d hd => st d (by simp [hd])
    simp only [List.length_cons] at l
    cases hf : f d with
    | none =>
      show compEnd ρ1 own (compLoop ρ1 os tg own test elt r acc ρ') = _
      rw [ih acc (by omega), List.filterMap_cons, hf]
    | some x =>
      show compEnd ρ1 own (if acc.length < LINE then compLoop ρ1 os tg own test elt r (acc ++ [x]) ρ' else .fail) = _
      rw [if_pos (by omega), ih (acc ++ [x]) (by simp; omega), List.filterMap_cons, hf]
      simp
theorem compE_go {ρ1 : Loc} {os : List Od} {tg : Tg} {own : List Nat} {test : Loc → Res Bool} {elt : Loc → Res RV} {ds : List D} (f : D → Option RV) (ap : apartO own os = true) (hl : ds.length ≤ LINE)
    (st : ∀ d, d ∈ ds → ∃ ρ', testK elt (giveT test (give (wipes ρ1 own) tg d)) = .ok (f d) ρ' ∧ wipes ρ' own = wipes ρ1 own) : compEnd ρ1 own (compLoop ρ1 os tg own test elt ds [] ρ1) = .ok (.oL (ds.filterMap f)) ρ1 := by
  rw [comp_go ap ds [] ρ1 rfl (by simpa using hl) st]
  simp
theorem compK_go {ρ1 : Loc} {os : List Od} {tg : Tg} {own : List Nat} {test : Loc → Res Bool} {elt : Loc → Res RV} {ds : List D} (f : D → Option RV) (hi : hideOk ρ1 own = true) (ap : apartO own os = true) (hl : ds.length ≤ LINE)
    (st : ∀ d, d ∈ ds → ∃ ρ', testK elt (giveT test (give (wipes ρ1 own) tg d)) = .ok (f d) ρ' ∧ wipes ρ' own = wipes ρ1 own) : compK tg own test elt (.ok (os, ds) ρ1) = .ok (.oL (ds.filterMap f)) ρ1 := by
  show (if (hideOk ρ1 own && apartO own os) = true then compEnd ρ1 own (compLoop ρ1 os tg own test elt ds [] ρ1) else .fail) = _
  rw [if_pos (by rw [hi, ap]; rfl), comp_go ap ds [] ρ1 rfl (by simpa using hl) st]
  simp
theorem items_range (m : Nat) (h : m ≤ 1000000) : itemsOf .range [.int (m : Int)] = some (rangeL 0 m) := by
  rw [items_range1, if_pos (okR_iff.2 ⟨by omega, by omega⟩)]
  rfl
end Mv
namespace Mv
def poolB : List MS := [(.asg (.name 1) (.comp [2] .seq [(.op (.slice false true) [(.var 0), (.const (.int 63))])] (.name 2) [] (.op .int1 [(.var 2)]))), (.ret (.list [(.var 1), (.const (.int 0)), (.const (.int 0)), (.const (.int 1)), (.op .mod [(.op .int1 [(.op .sum [(.comp [2] .seq [(.var 1)] (.name 2) [] (.op .mod [(.op .abs [(.var 2)]), (.const (.int 1000003))]))])]), (.const (.int 1000003))])]))]
def takeB : List MS := [(.setix 0 (.const (.int 3)) (.op .add [(.op .item [(.var 0), (.const (.int 3))]), (.const (.int 1))])), (.ite (.op .ge [(.op .item [(.var 0), (.const (.int 2))]), (.var 1)]) [(.asg (.name 2) (.op .item [(.var 0), (.const (.int 2))])), (.setix 0 (.const (.int 2)) (.op .fdiv [(.var 2), (.var 1)])), (.ret (.op .mod [(.op .int1 [(.var 2)]), (.var 1)]))] []), (.setix 0 (.const (.int 2)) (.const (.int 0))), (.asg (.name 3) (.op .item [(.var 0), (.const (.int 3))])), (.ite (.op .lt [(.op .item [(.var 0), (.const (.int 1))]), (.op .len [(.op .item [(.var 0), (.const (.int 0))])])]) [(.asg (.name 4) (.op .item [(.op .item [(.var 0), (.const (.int 0))]), (.op .item [(.var 0), (.const (.int 1))])])), (.setix 0 (.const (.int 1)) (.op .add [(.op .item [(.var 0), (.const (.int 1))]), (.const (.int 1))])), (.ite (.op .ge [(.op .abs [(.var 4)]), (.op .pow [(.const (.int 10)), (.const (.int 18))])]) [(.setix 0 (.const (.int 2)) (.op .fdiv [(.op .abs [(.var 4)]), (.var 1)])), (.ret (.op .mod [(.op .int1 [(.op .abs [(.var 4)])]), (.var 1)]))] []), (.asg (.name 2) (.op .mod [(.op .int1 [(.op .add [(.op .add [(.op .mul [(.var 4), (.const (.int 48271))]), (.op .mul [(.var 3), (.const (.int 69621))])]), (.const (.int 11))])]), (.const (.int 2147483647))]))] [(.asg (.name 2) (.op .mod [(.op .int1 [(.op .add [(.op .add [(.op .add [(.op .mul [(.op .item [(.var 0), (.const (.int 4))]), (.const (.int 16807))]), (.op .mul [(.op .mul [(.var 3), (.var 3)]), (.const (.int 69621))])]), (.op .mul [(.var 3), (.const (.int 48271))])]), (.const (.int 13))])]), (.const (.int 2147483629))]))]), (.asg (.name 2) (.op .mod [(.op .int1 [(.op .add [(.op .mul [(.var 2), (.var 2)]), (.op .mul [(.var 3), (.const (.int 40692))])])]), (.const (.int 2147483399))])), (.ret (.op .mod [(.op .int1 [(.op .fdiv [(.var 2), (.const (.int 7))])]), (.var 1)]))]
def poolF : Fn := ⟨1, 3, [], poolB⟩
def takeF : Fn := ⟨2, 5, [], takeB⟩
structure Pool where
  cells : List Int
  at_ : Int
  rest : Int
  turn : Int
  seed : Int
def Pool.rv (p : Pool) : RV := .oL [.imm (.lst (p.cells.map .int)), .imm (.int p.at_), .imm (.int p.rest), .imm (.int p.turn), .imm (.int p.seed)]
/-- in order; at most n numbers were taken -/
structure Pool.Ok (p : Pool) (n : Nat) : Prop where
  at0 : 0 ≤ p.at_
  turn0 : 0 ≤ p.turn
  turn1 : p.turn ≤ n
def TakeP (m : Int) (n : Nat) (r : CRes) : Prop := ∃ (v : Int) (p' : Pool), r = .ret (.imm (.int v)) [some p'.rv, some (.imm (.int m))] ∧ 0 ≤ v ∧ v < m ∧ p'.Ok n
theorem md1 (x : Int) : -18446744073709551616 < x % 2147483647 := by omega
theorem md2 (x : Int) : x % 2147483647 < 18446744073709551616 := by omega
theorem md3 (x : Int) : -18446744073709551616 < x % 2147483629 := by omega
theorem md4 (x : Int) : x % 2147483629 < 18446744073709551616 := by omega
theorem take_core (cf : Nat → List RV → CRes) (p : Pool) (m : Int) (n : Nat) (hm : 0 < m) (h2 : m < 1073741824) (hp : p.Ok n) (hn : n < 4611686018427387904) : TakeP m (n + 1) (callF cf takeF [p.rv, .imm (.int m)]) := by
  obtain ⟨h1, t0, t1⟩ := hp
  have s1 : -18446744073709551616 < p.turn + 1 := by omega
  have s2 : p.turn + 1 < 18446744073709551616 := by omega
  by_cases c1 : m ≤ p.rest
  · unfold callF
    simp [takeF, takeB, Pool.rv, atD, setAt, small64, c1, hm, h2]
    exact ⟨_, ⟨p.cells, p.at_, p.rest / m, p.turn + 1, p.seed⟩, rfl, Int.emod_nonneg _ (by omega), Int.emod_lt_of_pos _ hm, h1, by show 0 ≤ p.turn + 1; omega, by show p.turn + 1 ≤ _; omega⟩
  · by_cases c2 : p.at_ < p.cells.length
    · have hl : p.at_.toNat < p.cells.length := by omega
      have hg : (p.cells.map D.int)[p.at_.toNat]? = some (.int (p.cells[p.at_.toNat])) := by rw [List.getElem?_map, List.getElem?_eq_getElem hl]; rfl
      by_cases c3 : 1000000000000000000 ≤ (if p.cells[p.at_.toNat] < 0 then -p.cells[p.at_.toNat] else p.cells[p.at_.toNat])
      · unfold callF
        simp [takeF, takeB, Pool.rv, atD, setAt, small64, c1, c2, c3, h1, hg, hm, h2, s1, s2]
        exact ⟨_, ⟨p.cells, p.at_ + 1, _, p.turn + 1, p.seed⟩, rfl, Int.emod_nonneg _ (by omega), Int.emod_lt_of_pos _ hm, by show 0 ≤ p.at_ + 1; omega, by show 0 ≤ p.turn + 1; omega, by show p.turn + 1 ≤ _; omega⟩
      · unfold callF
        simp [takeF, takeB, Pool.rv, atD, setAt, small64, c1, c2, c3, h1, hg, hm, h2, s1, s2, md1, md2]
        exact ⟨_, ⟨p.cells, p.at_ + 1, _, p.turn + 1, p.seed⟩, rfl, Int.emod_nonneg _ (by omega), Int.emod_lt_of_pos _ hm, by show 0 ≤ p.at_ + 1; omega, by show 0 ≤ p.turn + 1; omega, by show p.turn + 1 ≤ _; omega⟩
    · unfold callF
      simp [takeF, takeB, Pool.rv, atD, setAt, small64, c1, c2, h1, hm, h2, s1, s2, md3, md4]
      exact ⟨_, ⟨p.cells, p.at_, _, p.turn + 1, p.seed⟩, rfl, Int.emod_nonneg _ (by omega), Int.emod_lt_of_pos _ hm, h1, by show 0 ≤ p.turn + 1; omega, by show p.turn + 1 ≤ _; omega⟩
/-- the call, as the evaluator meets it -/
theorem take_call {prog : Nat → Option Fn} {i : Nat} (hi : prog i = some takeF) (k : Nat) (p : Pool) (m : Int) (n : Nat) (hp : p.Ok n) (hm : 0 < m) (h2 : m < 1073741824) (hn : n < 4611686018427387904) :
    ∃ (v : Int) (p' : Pool), callK prog (k + 1) i [p.rv, .imm (.int m)] = .ret (.imm (.int v)) [some p'.rv, some (.imm (.int m))] ∧ 0 ≤ v ∧ v < m ∧ p'.Ok (n + 1) := by
  have := take_core (callK prog k) p m n hm h2 hp hn
  simp only [callK, hi]; exact this
@[simp] theorem imms_ints (l : List Int) : imms (l.map fun i => RV.imm (D.int i)) = some (l.map D.int) := by
  rw [show (l.map fun i => RV.imm (D.int i)) = (l.map D.int).map RV.imm from by rw [List.map_map]; rfl, imms_map]
@[simp] theorem fzs_ints (l : List Int) : fzs (l.map fun i => RV.imm (D.int i)) = l.map D.int := by
  rw [fzs_map, List.map_map]; rfl
@[simp] theorem ints_ints : ∀ l : List Int, ints? (l.map D.int) = some l
  | [] => rfl
  | i :: r => by show (ints? (r.map D.int)).map (i :: ·) = _; rw [ints_ints r]; rfl
theorem cut_len {α : Type} (xs : List α) (lo hi : Option Int) : (cut xs lo hi).length ≤ xs.length := by
  unfold cut
  rw [List.length_take, List.length_drop]; omega
theorem comp_ints {cf : Nat → List RV → CRes} {e : ME} {g : Int → Int} {ρ1 : Loc} {os : List Od} {own : Nat} (l : List Int) (hl : l.length ≤ LINE) (ap : apartO [own] os = true)
    (st : ∀ x : Int, evE cf e ((wipes ρ1 [own]).set own (some (.imm (.int x)))) = .ok (.imm (.int (g x))) ((wipes ρ1 [own]).set own (some (.imm (.int x))))) :
    compEnd ρ1 [own] (compLoop ρ1 os (.name own) [own] (evC cf []) (evE cf e) (l.map D.int) [] ρ1) = .ok (.oL ((l.map g).map fun i => .imm (.int i))) ρ1 := by
  rw [compE_go (f := fun d => match d with | .int x => some (.imm (.int (g x))) | _ => none) ap (by simpa using hl) (fun d hd => ?_)]
  · congr 2
    clear st hl
    induction l with
    | nil => rfl
    | cons a r ih => simp [ih]
  · obtain ⟨x, _, rfl⟩ := List.mem_map.mp hd
    refine ⟨(wipes ρ1 [own]).set own (some (.imm (.int x))), ?_, ?_⟩
    · simp only [give, giveT, evC_nil, testK, st, mapR]
    · refine List.ext_getElem? fun j => ?_
      rw [wipes_get, List.length_set, wipes_len, wipes_get]
      by_cases c : j ∈ [own]
      · rw [if_pos c, if_pos c]
      · rw [if_neg c, if_neg c, List.getElem?_set_ne (fun z => c (by simp [z])), wipes_get, if_neg c]
theorem pool_call {prog : Nat → Option Fn} {i : Nat} (hi : prog i = some poolF) (k : Nat) (ns : List Int) (hn : ns.length ≤ 63) : ∃ p : Pool, callK prog (k + 1) i [.imm (.scr ns)] = .ret p.rv [some (.imm (.scr ns))] ∧ p.Ok 1 := by
  have hc : (cut ns none (some 63)).length ≤ LINE := Nat.le_trans (cut_len _ _ _) (Nat.le_trans hn (by decide))
  simp only [callK, hi]
  unfold callF
  simp [poolF, poolB]
  rw [comp_ints (g := fun x => x) _ hc (by simp) (fun x => by simp)]
  simp
  rw [comp_ints (g := fun x => (if x < 0 then -x else x) % 1000003) _ hc (by simp) (fun x => by simp)]
  simp [-List.map_map]
  exact ⟨⟨cut ns none (some 63), 0, 0, 1, _⟩, rfl, Int.le_refl 0, Int.le_of_lt Int.zero_lt_one, Int.le_refl 1⟩
@[simp] theorem lendI_rv (ρ : Loc) (i : Nat) (r : List Od) (p : Pool) : lendI ρ i r (some p.rv) = (lends (ρ.set i none) r).map fun q => (p.rv :: q.1, q.2) := rfl
@[simp] theorem backI_rv (ρ0 ρ : Loc) (i : Nat) (r : List Od) (q : Slot) (ps : List Slot) (p : Pool) : backI ρ0 ρ i r q ps (some p.rv) = backs ρ0 (ρ.set i q) r ps := rfl
theorem atD_nat {α : Type} {xs : List α} {v : Int} (h : 0 ≤ v) : atD xs v = xs[v.toNat]? := by unfold atD; rw [if_pos h]
def pickB (tk : Nat) : List MS := [(.ret (.op .item [(.var 1), (.call tk [(.var 0), (.op .len [(.var 1)])])]))]
def pickF (tk : Nat) : Fn := ⟨2, 2, [], pickB tk⟩
theorem pick_call {prog : Nat → Option Fn} {i tk : Nat} (hi : prog i = some (pickF tk)) (ht : prog tk = some takeF) (k : Nat) (p : Pool) (T : RV) (ds : List D) (n : Nat) (hT : vw T = some (.lst ds)) (h0 : 0 < ds.length) (h1 : ds.length < 1073741824) (hp : p.Ok n) (hn : n < 4611686018427387904) :
    ∃ (j : Nat) (d : D) (p' : Pool), callK prog (k + 2) i [p.rv, T] = .ret (.imm d) [some p'.rv, some T] ∧ ds[j]? = some d ∧ p'.Ok (n + 1) := by
  obtain ⟨v, p', e, v0, v1, hp'⟩ := take_call ht k p (ds.length : Int) n hp (by omega) (by omega) hn
  have hj : v.toNat < ds.length := by omega
  refine ⟨v.toNat, ds[v.toNat], p', ?_, List.getElem?_eq_getElem hj, hp'⟩
  rw [show k + 2 = (k + 1) + 1 from rfl]
  rw [callK, hi]
  show callF (callK prog (k + 1)) (pickF tk) [p.rv, T] = _
  unfold callF
  simp [pickF, pickB, hT, e, atD_nat v0, hj]
end Mv
namespace Mv
open PySem
mutual
def D.fine : D → Bool
  | .non => true
  | .bl _ => true
  | .int i => decide (i.natAbs < 10 ^ 12)
  | .str s => s.all fun c => decide (c < 1114112)
  | .tup l => fines l
  | .lst l => fines l
  | .dic _ => false
  | .scr _ => false
def fines : List D → Bool
  | [] => true
  | d :: r => d.fine && fines r
end
mutual
def D.wt : D → Nat
  | .str s => s.length
  | .int i => if i == 0 then 0 else i.natAbs.log2 + 1
  | .tup l => wts l
  | .lst l => wts l
  | _ => 0
def wts : List D → Nat
  | [] => 0
  | d :: r => d.wt + 1 + wts r
end
mutual
theorem fine_nd : ∀ d : D, d.fine = true → d.nd = true
  | .non, _ => by rw [D.nd] <;> nofun
  | .bl _, _ => by rw [D.nd] <;> nofun
  | .int _, _ => by rw [D.nd] <;> nofun
  | .str s, h => by rw [D.fine] at h; rw [D.nd]; exact h
  | .tup l, h => by rw [D.fine] at h; rw [D.nd]; exact fines_nd l h
  | .lst l, h => by rw [D.fine] at h; rw [D.nd]; exact fines_nd l h
  | .dic _, h => by rw [D.fine] at h; cases h
  | .scr _, h => by rw [D.fine] at h; cases h
theorem fines_nd : ∀ l : List D, fines l = true → nds l = true
  | [], _ => by rw [nds]
  | d :: r, h => by
    rw [fines, Bool.and_eq_true] at h
    rw [nds, fine_nd d h.1, fines_nd r h.2]; rfl
end
theorem log_small {i : Int} (h : i.natAbs < 10 ^ 12) : i.natAbs.log2 < 1920 := by
  by_cases z : i.natAbs = 0
  · rw [z]; decide
  · rw [Nat.log2_lt z]
    refine Nat.lt_trans h ?_
    exact Nat.lt_of_lt_of_le (show 10 ^ 12 < 2 ^ 40 by decide) (Nat.pow_le_pow_right (by decide) (by decide))
mutual
theorem fine_sh : ∀ d : D, d.fine = true → d.sh = true
  | .non, _ => by rw [D.sh] <;> nofun
  | .bl _, _ => by rw [D.sh] <;> nofun
  | .int i, h => by rw [D.fine] at h; rw [D.sh]; exact decide_eq_true (log_small (of_decide_eq_true h))
  | .str s, h => by rw [D.sh] <;> nofun
  | .tup l, h => by rw [D.fine] at h; rw [D.sh]; exact fines_sh l h
  | .lst l, h => by rw [D.fine] at h; rw [D.sh]; exact fines_sh l h
  | .dic _, h => by rw [D.fine] at h; cases h
  | .scr _, h => by rw [D.fine] at h; cases h
theorem fines_sh : ∀ l : List D, fines l = true → shs l = true
  | [], _ => by rw [shs]
  | d :: r, h => by
    rw [fines, Bool.and_eq_true] at h
    rw [shs, fine_sh d h.1, fines_sh r h.2]; rfl
end
mutual
theorem fine_ints : ∀ d : D, d.fine = true → (toP d).intsShort 13 = true
  | .non, _ => by rw [toP, PyData.intsShort]
  | .bl _, _ => by rw [toP, PyData.intsShort]
  | .int i, h => by rw [D.fine] at h; rw [toP, PyData.intsShort]; exact decide_eq_true (PyData.shown_int_le (of_decide_eq_true h))
  | .str s, h => by rw [toP, PyData.intsShort]
  | .tup l, h => by rw [D.fine] at h; rw [toP, PyData.intsShort]; exact fines_ints l h
  | .lst l, h => by rw [D.fine] at h; rw [toP, PyData.intsShort]; exact fines_ints l h
  | .dic _, h => by rw [D.fine] at h; cases h
  | .scr _, h => by rw [D.fine] at h; cases h
theorem fines_ints : ∀ l : List D, fines l = true → PyData.intsShortAll 13 (toPs l) = true
  | [], _ => by rw [toPs, PyData.intsShortAll]
  | d :: r, h => by
    rw [fines, Bool.and_eq_true] at h
    rw [toPs, PyData.intsShortAll, fine_ints d h.1, fines_ints r h.2]; rfl
end
mutual
theorem wt_of : ∀ d : D, d.fine = true → (toP d).weight = d.wt
  | .non, _ => by rw [toP, PyData.weight, D.wt] <;> nofun
  | .bl _, _ => by rw [toP, PyData.weight, D.wt] <;> nofun
  | .int i, h => by rw [toP, PyData.weight, D.wt]
  | .str s, h => by rw [toP, PyData.weight, D.wt]; simp [toStr]
  | .tup l, h => by rw [D.fine] at h; rw [toP, PyData.weight, D.wt]; exact wts_of l h
  | .lst l, h => by rw [D.fine] at h; rw [toP, PyData.weight, D.wt]; exact wts_of l h
  | .dic _, h => by rw [D.fine] at h; cases h
  | .scr _, h => by rw [D.fine] at h; cases h
theorem wts_of : ∀ l : List D, fines l = true → PyData.weightAll (toPs l) = wts l
  | [], _ => by rw [toPs, PyData.weightAll, wts]
  | d :: r, h => by
    rw [fines, Bool.and_eq_true] at h
    rw [toPs, PyData.weightAll, wts, wt_of d h.1, wts_of r h.2]
end
theorem fine_show {d : D} (h : d.fine = true) (hw : d.wt ≤ 2 ^ 20) : (shown d).length ≤ LINE := by
  have := PyData.shown_fits (B := 13) (by decide) (by decide) (d := toP d) (PyData.leavesShort_of_canLay0 13 _ (canLay_of d (fine_nd d h)) (fine_ints d h)) (by rw [wt_of d h]; exact hw)
  unfold shown
  simpa [Str.length] using this
theorem fine_repr {d : D} (h : d.fine = true) (hw : d.wt ≤ 2 ^ 20) (hd : d.dep ≤ 60) : apRepr d = some (.imm (.str (shown d))) := by
  unfold apRepr
  rw [if_pos]
  rw [fine_sh d h, decide_eq_true hd, decide_eq_true (fine_show h hw)]; rfl
mutual
theorem deq_self : ∀ d : D, d.fine = true → deq d d = true
  | .non, _ => by rw [deq]
  | .bl _, _ => by rw [deq]; simp
  | .int i, h => by rw [deq]; simp
  | .str s, h => by rw [deq]; simp
  | .tup l, h => by rw [D.fine] at h; rw [deq]; exact deqs_self l h
  | .lst l, h => by rw [D.fine] at h; rw [deq]; exact deqs_self l h
  | .dic _, h => by rw [D.fine] at h; cases h
  | .scr _, h => by rw [D.fine] at h; cases h
theorem deqs_self : ∀ l : List D, fines l = true → deqs l l = true
  | [], _ => by rw [deqs]
  | d :: r, h => by
    rw [fines, Bool.and_eq_true] at h
    rw [deqs, deq_self d h.1, deqs_self r h.2]; rfl
end
def sameB : List MS := [(.ret (.and (.op .eq [(.op .repr [(.var 0)]), (.op .repr [(.var 1)])]) (.op .eq [(.var 0), (.var 1)])))]
def sameF : Fn := ⟨2, 2, [], sameB⟩
theorem same_call {prog : Nat → Option Fn} {i : Nat} (hi : prog i = some sameF) (k : Nat) {d : D} {T1 T2 : RV} (h1 : vw T1 = some d) (h2 : vw T2 = some d) (h : d.fine = true) (hw : d.wt ≤ 2 ^ 20) (hd : d.dep ≤ 60) :
    callK prog (k + 1) i [T1, T2] = .ret (.imm (.bl true)) [some T1, some T2] := by
  have e : eqOk d d = true := by unfold eqOk okEq; rw [fine_nd d h, decide_eq_true hd]; simp
  have r := fine_repr h hw hd
  rw [callK, hi]
  show callF (callK prog k) sameF [T1, T2] = _
  unfold callF
  simp [sameF, sameB, h1, h2, r, apEq, e, deq_self d h, bool]
end Mv
namespace K01
open PySem PySem.Spec PyProof.Rows L2 Mv
def top (i : Nat) : Stmt := PySem.Challenge.pw_haltstoreys_k01_expr_values.main.body.getD i (.Pass ⟨0, 0, 0, 0⟩)
def s0 : List Nat := [100, 105, 115, 107, 32, 103, 114, 111, 117, 112, 32, 114, 111, 119, 32, 108, 111, 116, 32, 116, 111, 114, 110, 32, 99, 101, 108, 108, 32, 112, 97, 115, 115, 105, 110, 103, 32, 100, 101, 101, 100, 32, 110, 101, 101, 100, 115, 32, 116, 101, 108, 108, 115, 32, 107, 101, 101, 112, 115, 32, 102, 101, 110, 99, 101, 32, 109, 97, 107, 101, 114, 32, 109, 97, 107, 101, 115, 32, 102, 114, 111, 109, 32, 110, 111, 116, 101, 32, 100, 111, 32, 105, 102, 32, 101, 108, 115, 101, 32, 119, 104, 105, 108, 101]
def s1 : List Nat := [32, 116, 101, 108, 108, 32, 114, 101, 99, 111, 118, 101, 114, 32, 115, 104, 111, 119, 32, 97, 110, 100, 32, 111, 114, 32, 110, 111, 116, 32, 97, 114, 103]
def s2 : List Nat := [97, 98, 99, 100, 101, 102, 103, 104, 105, 106, 107, 108, 109, 110, 111, 112, 113, 114, 115, 116, 117, 118, 119, 120, 121, 122]
def s3 : List Nat := [48, 49, 50, 51, 52, 53, 54, 55, 56, 57, 95]
def b0 : List MS := [(.ite (.op .eq [(.var 0), (.const (.str [43]))]) [(.ret (.op .add [(.var 1), (.var 2)]))] []), (.ite (.op .eq [(.var 0), (.const (.str [45]))]) [(.ret (.op .sub [(.var 1), (.var 2)]))] []), (.ite (.op .eq [(.var 0), (.const (.str [42]))]) [(.ret (.op .mul [(.var 1), (.var 2)]))] []), (.ite (.op .eq [(.var 0), (.const (.str [61, 61]))]) [(.ret (.ite (.op .eq [(.var 1), (.var 2)]) (.const (.int 1)) (.const (.int 0))))] []), (.ite (.op .eq [(.var 0), (.const (.str [33, 61]))]) [(.ret (.ite (.op .ne [(.var 1), (.var 2)]) (.const (.int 1)) (.const (.int 0))))] []), (.ite (.op .eq [(.var 0), (.const (.str [60]))]) [(.ret (.ite (.op .lt [(.var 1), (.var 2)]) (.const (.int 1)) (.const (.int 0))))] []), (.ite (.op .eq [(.var 0), (.const (.str [60, 61]))]) [(.ret (.ite (.op .le [(.var 1), (.var 2)]) (.const (.int 1)) (.const (.int 0))))] []), (.ite (.op .eq [(.var 0), (.const (.str [97, 110, 100]))]) [(.ret (.ite (.and (.op .ne [(.var 1), (.const (.int 0))]) (.op .ne [(.var 2), (.const (.int 0))])) (.const (.int 1)) (.const (.int 0))))] []), (.ret (.ite (.or (.op .ne [(.var 1), (.const (.int 0))]) (.op .ne [(.var 2), (.const (.int 0))])) (.const (.int 1)) (.const (.int 0))))]
def b1 : List MS := [(.asg (.name 3) (.op .item [(.var 0), (.const (.int 0))])), (.ite (.op .eq [(.var 3), (.const (.str [110, 117, 109]))]) [(.ret (.op .item [(.var 0), (.const (.int 1))]))] []), (.ite (.op .eq [(.var 3), (.const (.str [110, 97, 109, 101]))]) [(.ret (.op .item [(.var 1), (.op .item [(.var 0), (.const (.int 1))])]))] []), (.ite (.op .eq [(.var 3), (.const (.str [97, 114, 103]))]) [(.ret (.var 2))] []), (.ite (.op .eq [(.var 3), (.const (.str [110, 111, 116]))]) [(.ret (.ite (.op .eq [(.call 1 [(.op .item [(.var 0), (.const (.int 1))]), (.var 1), (.var 2)]), (.const (.int 0))]) (.const (.int 1)) (.const (.int 0))))] []), (.ite (.op .eq [(.var 3), (.const (.str [109, 105, 110, 117, 115]))]) [(.ret (.op .neg [(.call 1 [(.op .item [(.var 0), (.const (.int 1))]), (.var 1), (.var 2)])]))] []), (.ret (.call 0 [(.var 3), (.call 1 [(.op .item [(.var 0), (.const (.int 1))]), (.var 1), (.var 2)]), (.call 1 [(.op .item [(.var 0), (.const (.int 2))]), (.var 1), (.var 2)])]))]
def b2 : List MS := [(.ite (.op .inn [(.op .item [(.var 0), (.const (.int 0))]), (.tup [(.const (.str [110, 117, 109])), (.const (.str [110, 97, 109, 101])), (.const (.str [97, 114, 103]))])]) [(.ret (.tup []))] []), (.ret (.op (.slice true false) [(.var 0), (.const (.int 1))]))]
def b3 : List MS := [(.ret (.op .add [(.const (.int 1)), (.op .sum [(.comp [1] .seq [(.call 2 [(.var 0)])] (.name 1) [] (.call 3 [(.var 1)]))])]))]
def b4 : List MS := [(.ret (.op .add [(.const (.int 1)), (.op .maxd [(.comp [1] .seq [(.call 2 [(.var 0)])] (.name 1) [] (.call 4 [(.var 1)])), (.const (.int 0))])]))]
def b5 : List MS := [(.ite (.op .eq [(.op .item [(.var 0), (.const (.int 0))]), (.const (.str [110, 97, 109, 101]))]) [(.ret (.list [(.op .item [(.var 0), (.const (.int 1))])]))] []), (.asg (.name 1) (.list [])), (.for .seq [(.call 2 [(.var 0)])] (.name 2) [(.expr (.meth 1 .extend [(.call 5 [(.var 2)])]))]), (.retv 1)]
def b6 : List MS := [(.asg (.name 1) (.list [])), (.for .seq [(.call 5 [(.var 0)])] (.name 2) [(.ite (.op .notIn [(.var 2), (.var 1)]) [(.expr (.meth 1 .append [(.var 2)]))] [])]), (.ret (.op .tuple [(.var 1)]))]
def b7 : List MS := [(.ite (.op .eq [(.op .item [(.var 0), (.const (.int 0))]), (.const (.str [97, 114, 103]))]) [(.ret (.const (.bl true)))] []), (.ret (.op .any [(.comp [1] .seq [(.call 2 [(.var 0)])] (.name 1) [] (.call 7 [(.var 1)]))]))]
def b8 : List MS := [(.ite (.op .eq [(.op .item [(.var 0), (.const (.int 0))]), (.const (.str [110, 97, 109, 101]))]) [(.ret (.tup [(.const (.str [110, 97, 109, 101])), (.op .item [(.var 1), (.op .item [(.var 0), (.const (.int 1))])])]))] []), (.ite (.op .eq [(.op .item [(.var 0), (.const (.int 0))]), (.const (.str [97, 114, 103]))]) [(.ret (.var 2))] []), (.ite (.op .eq [(.op .item [(.var 0), (.const (.int 0))]), (.const (.str [110, 117, 109]))]) [(.ret (.var 0))] []), (.ret (.op .add [(.tup [(.op .item [(.var 0), (.const (.int 0))])]), (.op .tuple [(.comp [3] .seq [(.op (.slice true false) [(.var 0), (.const (.int 1))])] (.name 3) [] (.call 8 [(.var 3), (.var 1), (.var 2)]))])]))]
def b9 : List MS := [(.asg (.name 1) (.comp [2] .seq [(.op (.slice false true) [(.var 0), (.const (.int 63))])] (.name 2) [] (.op .int1 [(.var 2)]))), (.ret (.list [(.var 1), (.const (.int 0)), (.const (.int 0)), (.const (.int 1)), (.op .mod [(.op .int1 [(.op .sum [(.comp [2] .seq [(.var 1)] (.name 2) [] (.op .mod [(.op .abs [(.var 2)]), (.const (.int 1000003))]))])]), (.const (.int 1000003))])]))]
def b10 : List MS := [(.setix 0 (.const (.int 3)) (.op .add [(.op .item [(.var 0), (.const (.int 3))]), (.const (.int 1))])), (.ite (.op .ge [(.op .item [(.var 0), (.const (.int 2))]), (.var 1)]) [(.asg (.name 2) (.op .item [(.var 0), (.const (.int 2))])), (.setix 0 (.const (.int 2)) (.op .fdiv [(.var 2), (.var 1)])), (.ret (.op .mod [(.op .int1 [(.var 2)]), (.var 1)]))] []), (.setix 0 (.const (.int 2)) (.const (.int 0))), (.asg (.name 3) (.op .item [(.var 0), (.const (.int 3))])), (.ite (.op .lt [(.op .item [(.var 0), (.const (.int 1))]), (.op .len [(.op .item [(.var 0), (.const (.int 0))])])]) [(.asg (.name 4) (.op .item [(.op .item [(.var 0), (.const (.int 0))]), (.op .item [(.var 0), (.const (.int 1))])])), (.setix 0 (.const (.int 1)) (.op .add [(.op .item [(.var 0), (.const (.int 1))]), (.const (.int 1))])), (.ite (.op .ge [(.op .abs [(.var 4)]), (.op .pow [(.const (.int 10)), (.const (.int 18))])]) [(.setix 0 (.const (.int 2)) (.op .fdiv [(.op .abs [(.var 4)]), (.var 1)])), (.ret (.op .mod [(.op .int1 [(.op .abs [(.var 4)])]), (.var 1)]))] []), (.asg (.name 2) (.op .mod [(.op .int1 [(.op .add [(.op .add [(.op .mul [(.var 4), (.const (.int 48271))]), (.op .mul [(.var 3), (.const (.int 69621))])]), (.const (.int 11))])]), (.const (.int 2147483647))]))] [(.asg (.name 2) (.op .mod [(.op .int1 [(.op .add [(.op .add [(.op .add [(.op .mul [(.op .item [(.var 0), (.const (.int 4))]), (.const (.int 16807))]), (.op .mul [(.op .mul [(.var 3), (.var 3)]), (.const (.int 69621))])]), (.op .mul [(.var 3), (.const (.int 48271))])]), (.const (.int 13))])]), (.const (.int 2147483629))]))]), (.asg (.name 2) (.op .mod [(.op .int1 [(.op .add [(.op .mul [(.var 2), (.var 2)]), (.op .mul [(.var 3), (.const (.int 40692))])])]), (.const (.int 2147483399))])), (.ret (.op .mod [(.op .int1 [(.op .fdiv [(.var 2), (.const (.int 7))])]), (.var 1)]))]
def b11 : List MS := [(.ret (.op .item [(.var 1), (.call 10 [(.var 0), (.op .len [(.var 1)])])]))]
def b12 : List MS := [(.ret (.and (.op .eq [(.op .repr [(.var 0)]), (.op .repr [(.var 1)])]) (.op .eq [(.var 0), (.var 1)])))]
def b13 : List MS := [(.asg (.name 0) (.const (.str s0))), (.asg (.name 0) (.op .add [(.var 0), (.const (.str s1))])), (.ret (.met .split (.var 0) (.const (.str [32]))))]
def b14 : List MS := [(.par [2, 3, 4] [(.const (.str s2)), (.call 13 []), (.call 10 [(.var 0), (.const (.int 8))])]), (.asg (.name 5) (.op .add [(.var 2), (.const (.str s3))])), (.asg (.name 6) (.op .item [(.var 2), (.call 10 [(.var 0), (.const (.int 26))])])), (.ite (.op .eq [(.var 4), (.const (.int 0))]) [(.asg (.name 6) (.op .add [(.call 11 [(.var 0), (.var 3)]), (.op .item [(.var 5), (.call 10 [(.var 0), (.const (.int 37))])])]))] [(.ite (.op .eq [(.var 4), (.const (.int 1))]) [(.asg (.name 6) (.call 11 [(.var 0), (.list [(.const (.str [109, 105, 110, 117, 115])), (.const (.str [110, 117, 109])), (.const (.str [110, 97, 109, 101])), (.const (.str [115, 101, 116])), (.const (.str [101, 110, 100])), (.const (.str [115, 107, 105, 112])), (.const (.str [103, 111])), (.const (.str [110, 48]))])]))] [])]), (.for .range [(.op .item [(.list [(.const (.int 0)), (.const (.int 0)), (.const (.int 0)), (.const (.int 1)), (.const (.int 2)), (.const (.int 4)), (.const (.int 22)), (.const (.int 23))]), (.var 4)])] (.name 7) [(.asg (.name 6) (.op .add [(.var 6), (.op .item [(.var 5), (.call 10 [(.var 0), (.const (.int 37))])])]))]), (.asg (.name 8) (.op .add [(.list [(.var 6)]), (.comp [9] .range [(.op .add [(.op .len [(.var 1)]), (.const (.int 1))])] (.name 9) [] (.op .add [(.const (.str [110])), (.op .str1 [(.var 9)])]))])), (.ret (.op .item [(.comp [10] .seq [(.var 8)] (.name 10) [(.and (.op .notIn [(.var 10), (.var 1)]) (.op .notIn [(.var 10), (.var 3)]))] (.var 10)), (.const (.int 0))]))]
def b15 : List MS := [(.ite (.var 1) [(.ret (.op .mul [(.op .sub [(.call 10 [(.var 0), (.const (.int 1000000))]), (.const (.int 500000))]), (.call 10 [(.var 0), (.const (.int 1000000))])]))] []), (.ret (.op .sub [(.call 10 [(.var 0), (.const (.int 7))]), (.const (.int 3))]))]
def b16 : List MS := [(.par [2, 3] [(.op .item [(.var 1), (.const (.int 0))]), (.op .item [(.var 1), (.op .neg [(.const (.int 1))])])]), (.ite (.op .eq [(.var 0), (.const (.str [110, 111, 116]))]) [(.ret (.ite (.op .eq [(.var 2), (.const (.int 0))]) (.const (.int 1)) (.const (.int 0))))] []), (.ite (.op .eq [(.var 0), (.const (.str [109, 105, 110, 117, 115]))]) [(.ret (.op .sub [(.const (.int 0)), (.var 2)]))] []), (.ite (.op .eq [(.var 0), (.const (.str [43]))]) [(.ret (.op .add [(.var 2), (.var 3)]))] []), (.ite (.op .eq [(.var 0), (.const (.str [45]))]) [(.ret (.op .sub [(.var 2), (.var 3)]))] []), (.ite (.op .eq [(.var 0), (.const (.str [42]))]) [(.ret (.op .mul [(.var 2), (.var 3)]))] []), (.ite (.op .eq [(.var 0), (.const (.str [97, 110, 100]))]) [(.ret (.ite (.or (.op .eq [(.var 2), (.const (.int 0))]) (.op .eq [(.var 3), (.const (.int 0))])) (.const (.int 0)) (.const (.int 1))))] []), (.ite (.op .eq [(.var 0), (.const (.str [111, 114]))]) [(.ret (.ite (.and (.op .eq [(.var 2), (.const (.int 0))]) (.op .eq [(.var 3), (.const (.int 0))])) (.const (.int 0)) (.const (.int 1))))] []), (.ite (.op .eq [(.var 0), (.const (.str [61, 61]))]) [(.ret (.ite (.op .eq [(.op .sub [(.var 2), (.var 3)]), (.const (.int 0))]) (.const (.int 1)) (.const (.int 0))))] []), (.ite (.op .eq [(.var 0), (.const (.str [33, 61]))]) [(.ret (.ite (.op .eq [(.op .sub [(.var 2), (.var 3)]), (.const (.int 0))]) (.const (.int 0)) (.const (.int 1))))] []), (.ite (.op .eq [(.var 0), (.const (.str [60]))]) [(.ret (.ite (.op .gt [(.op .sub [(.var 3), (.var 2)]), (.const (.int 0))]) (.const (.int 1)) (.const (.int 0))))] []), (.ret (.ite (.op .ge [(.op .sub [(.var 3), (.var 2)]), (.const (.int 0))]) (.const (.int 1)) (.const (.int 0))))]
def b17 : List MS := [(.asg (.name 2) (.list [(.tup [(.var 0)]), (.list []), (.const (.int 1)), (.const (.int 0)), (.list []), (.const (.bl false))])), (.for .seq [(.var 1)] (.name 3) [(.setix 2 (.const (.int 0)) (.op .add [(.idx 2 (.const (.int 0))), (.tup [(.op .item [(.var 3), (.const (.int 0))])])])), (.setix 2 (.const (.int 2)) (.op .add [(.idx 2 (.const (.int 2))), (.op .item [(.var 3), (.const (.int 2))])])), (.setix 2 (.const (.int 3)) (.op .max [(.idx 2 (.const (.int 3))), (.op .item [(.var 3), (.const (.int 3))])])), (.setix 2 (.const (.int 4)) (.op .add [(.idx 2 (.const (.int 4))), (.comp [4] .seq [(.op .item [(.var 3), (.const (.int 4))])] (.name 4) [(.op .notIn [(.var 4), (.idx 2 (.const (.int 4)))])] (.var 4))])), (.setix 2 (.const (.int 5)) (.or (.idx 2 (.const (.int 5))) (.op .item [(.var 3), (.const (.int 5))])))]), (.for .range [(.op .len [(.op .item [(.op .item [(.var 1), (.const (.int 0))]), (.const (.int 1))])])] (.name 5) [(.expr (.meth2 2 1 .append [(.call 16 [(.var 0), (.comp [6] .seq [(.var 1)] (.name 6) [] (.op .item [(.op .item [(.var 6), (.const (.int 1))]), (.var 5)]))])]))]), (.setix 2 (.const (.int 3)) (.op .add [(.idx 2 (.const (.int 3))), (.const (.int 1))])), (.retv 2)]
def b18 : List MS := [(.asg (.name 2) (.call 17 [(.var 0), (.comp [3] .seq [(.var 1)] (.name 3) [] (.op .item [(.var 3), (.const (.int 0))]))])), (.asg (.name 4) (.call 17 [(.var 0), (.comp [3] .seq [(.var 1)] (.name 3) [] (.op .item [(.var 3), (.const (.int 1))]))])), (.ret (.ite (.or (.op .gt [(.idx 2 (.const (.int 2))), (.const (.int 60))]) (.op .gt [(.idx 4 (.const (.int 2))), (.const (.int 60))])) (.op .item [(.var 1), (.const (.int 0))]) (.list [(.var 2), (.var 4)])))]
def b19 : List MS := [(.par [3, 4] [(.call 11 [(.var 0), (.var 1)]), (.call 10 [(.var 0), (.const (.int 5))])]), (.asg (.name 5) (.listF [(.tup [(.const (.str [97, 114, 103]))]), (.comp [6] .seq [(.var 2)] (.name 6) [] (.op .item [(.var 6), (.const (.int 1))])), (.const (.int 1)), (.const (.int 1)), (.list []), (.const (.bl true))])), (.asg (.name 7) (.listF [(.tup [(.const (.str [110, 97, 109, 101])), (.var 3)]), (.comp [6] .seq [(.var 2)] (.name 6) [] (.op .item [(.op .item [(.var 6), (.const (.int 0))]), (.var 3)])), (.const (.int 1)), (.const (.int 1)), (.list [(.var 3)]), (.const (.bl false))])), (.ite (.op .eq [(.var 4), (.const (.int 0))]) [(.retv 5)] []), (.ite (.op .eq [(.var 4), (.const (.int 1))]) [(.retv 7)] []), (.ite (.op .eq [(.var 4), (.const (.int 2))]) [(.ret (.call 17 [(.const (.str [45])), (.list [(.var 5), (.var 7)])]))] []), (.ite (.op .eq [(.var 4), (.const (.int 3))]) [(.ret (.call 17 [(.const (.str [109, 105, 110, 117, 115])), (.list [(.var 7)])]))] []), (.ret (.listF [(.tup [(.const (.str [110, 117, 109])), (.const (.int 4))]), (.comp [6] .seq [(.var 2)] (.name 6) [] (.const (.int 4))), (.const (.int 1)), (.const (.int 1)), (.list []), (.const (.bl false))]))]
def b20 : List MS := [(.asg (.name 5) (.call 10 [(.var 0), (.const (.int 5))])), (.ite (.op .eq [(.var 5), (.const (.int 0))]) [(.ret (.listF [(.listF [(.tup [(.const (.str [97, 114, 103]))]), (.op .item [(.var 4), (.const (.int 1))]), (.const (.int 1)), (.const (.int 1)), (.list []), (.const (.bl true))]), (.var 4)]))] []), (.ite (.op .eq [(.var 5), (.const (.int 1))]) [(.asg (.name 6) (.call 11 [(.var 0), (.list [(.const (.int 0)), (.const (.int 1)), (.const (.int 2)), (.call 10 [(.var 0), (.const (.int 100))])])])), (.asg (.name 7) (.listF [(.tup [(.const (.str [110, 117, 109])), (.var 6)]), (.comp [8] .seq [(.var 3)] (.name 8) [] (.var 6)), (.const (.int 1)), (.const (.int 1)), (.list []), (.const (.bl false))])), (.ret (.list [(.var 7), (.var 7)]))] []), (.asg (.name 9) (.call 11 [(.var 0), (.var 1)])), (.asg (.name 10) (.comp [8] .seq [(.var 3)] (.name 8) [] (.op .item [(.op .item [(.var 8), (.const (.int 0))]), (.op .item [(.var 2), (.var 9)])]))), (.ret (.listF [(.listF [(.tup [(.const (.str [110, 97, 109, 101])), (.var 9)]), (.var 10), (.const (.int 1)), (.const (.int 1)), (.list [(.var 9)]), (.const (.bl false))]), (.listF [(.tup [(.const (.str [110, 97, 109, 101])), (.op .item [(.var 2), (.var 9)])]), (.var 10), (.const (.int 1)), (.const (.int 1)), (.list [(.op .item [(.var 2), (.var 9)])]), (.const (.bl false))])]))]
def b21 : List MS := [(.par [5, 6] [(.list [(.const (.str [43])), (.const (.str [45])), (.const (.str [42])), (.const (.str [61, 61])), (.const (.str [33, 61])), (.const (.str [60])), (.const (.str [60, 61])), (.const (.str [97, 110, 100])), (.const (.str [111, 114]))]), (.list [])]), (.for .range [(.op .add [(.const (.int 1)), (.call 11 [(.var 0), (.list [(.const (.int 0)), (.const (.int 1)), (.const (.int 2)), (.const (.int 3)), (.const (.int 5)), (.const (.int 8)), (.const (.int 14)), (.const (.int 29))])])])] (.name 7) [(.expr (.meth 6 .append [(.call 20 [(.var 0), (.var 1), (.var 2), (.var 3), (.var 4)])])), (.for .range [(.call 10 [(.var 0), (.const (.int 4))])] (.name 8) [(.ite (.op .eq [(.call 10 [(.var 0), (.const (.int 3))]), (.const (.int 0))]) [(.expr (.meth 6 .append [(.call 18 [(.call 11 [(.var 0), (.list [(.const (.str [110, 111, 116])), (.const (.str [109, 105, 110, 117, 115]))])]), (.list [(.meth 6 .pop [])])])]))] [(.ite (.op .gt [(.op .len [(.var 6)]), (.const (.int 1))]) [(.asg (.name 9) (.meth 6 .pop [])), (.expr (.meth 6 .append [(.call 18 [(.call 11 [(.var 0), (.var 5)]), (.list [(.meth 6 .pop []), (.var 9)])])]))] [])])])]), (.for .range [(.op .sub [(.op .len [(.var 6)]), (.const (.int 1))])] (.name 7) [(.asg (.name 9) (.meth 6 .pop [])), (.expr (.meth 6 .append [(.call 18 [(.call 11 [(.var 0), (.var 5)]), (.list [(.meth 6 .pop []), (.var 9)])])]))]), (.for .range [(.call 11 [(.var 0), (.list [(.const (.int 0)), (.const (.int 0)), (.const (.int 0)), (.const (.int 0)), (.const (.int 1)), (.const (.int 2)), (.const (.int 3)), (.const (.int 59))])])] (.name 7) [(.expr (.meth 6 .append [(.call 18 [(.call 11 [(.var 0), (.list [(.const (.str [110, 111, 116])), (.const (.str [109, 105, 110, 117, 115]))])]), (.list [(.meth 6 .pop [])])])]))]), (.ret (.op .item [(.var 6), (.const (.int 0))]))]
def b22 : List MS := [(.asg (.name 2) .dnew), (.for .seq [(.var 1)] (.name 3) [(.setix 2 (.var 3) (.op .item [(.var 0), (.var 3)]))]), (.retv 2)]
def b23 : List MS := [(.par [2, 3] [(.op .item [(.var 0), (.const (.int 0))]), (.tup [(.op .item [(.var 0), (.const (.int 2))]), (.op .item [(.var 0), (.const (.int 3))]), (.op .tuple [(.op .item [(.var 0), (.const (.int 4))])]), (.op .item [(.var 0), (.const (.int 5))])])]), (.ite (.not (.call 12 [(.tup [(.call 3 [(.var 2)]), (.call 4 [(.var 2)]), (.call 6 [(.var 2)]), (.call 7 [(.var 2)])]), (.var 3)])) [(.ret (.const (.bl false)))] []), (.for .range [(.op .len [(.var 1)])] (.name 4) [(.asg (.name 5) (.call 22 [(.op .item [(.op .item [(.var 1), (.var 4)]), (.const (.int 0))]), (.op .item [(.var 0), (.const (.int 4))])])), (.ite (.not (.call 12 [(.call 1 [(.var 2), (.var 5), (.op .item [(.op .item [(.var 1), (.var 4)]), (.const (.int 1))])]), (.op .item [(.op .item [(.var 0), (.const (.int 1))]), (.var 4)])])) [(.ret (.const (.bl false)))] []), (.ite (.and (.op .eq [(.op .item [(.op .item [(.var 1), (.var 4)]), (.const (.int 1))]), (.const (.int 0))]) (.not (.call 12 [(.call 1 [(.var 2), (.var 5), (.const (.int 0))]), (.op .item [(.op .item [(.var 0), (.const (.int 1))]), (.var 4)])]))) [(.ret (.const (.bl false)))] []), (.ite (.not (.call 12 [(.var 5), (.call 22 [(.op .item [(.op .item [(.var 1), (.var 4)]), (.const (.int 0))]), (.op .item [(.var 0), (.const (.int 4))])])])) [(.ret (.const (.bl false)))] [])]), (.ret (.const (.bl true)))]
def b24 : List MS := [(.asg (.name 1) (.call 9 [(.var 0)])), (.par [2, 3, 4, 5, 6] [(.list []), .dnew, (.list []), (.list []), (.list [])]), (.for .range [(.op .add [(.const (.int 1)), (.call 10 [(.var 1), (.const (.int 4))])])] (.name 7) [(.expr (.meth 2 .append [(.call 14 [(.var 1), (.var 2)])]))]), (.for .seq [(.var 2)] (.name 8) [(.setix 3 (.var 8) (.call 11 [(.var 1), (.var 2)]))]), (.asg (.name 9) (.op .eq [(.call 10 [(.var 1), (.const (.int 4))]), (.const (.int 0))])), (.for .range [(.const (.int 2))] (.name 7) [(.asg (.name 10) .dnew), (.for .seq [(.var 2)] (.name 8) [(.setix 10 (.var 8) (.call 15 [(.var 1), (.var 9)]))]), (.expr (.meth 4 .append [(.list [(.var 10), (.ite (.op .eq [(.var 7), (.const (.int 0))]) (.const (.int 0)) (.call 15 [(.var 1), (.var 9)]))])]))]), (.asg (.name 11) (.call 19 [(.var 1), (.var 2), (.var 4)])), (.for .range [(.const (.int 2))] (.name 12) [(.asg (.name 10) .dnew), (.for .seq [(.var 2)] (.name 8) [(.setix 10 (.var 8) (.op .item [(.op .item [(.op .item [(.var 4), (.var 12)]), (.const (.int 0))]), (.op .item [(.var 3), (.var 8)])]))]), (.expr (.meth 5 .append [(.list [(.var 10), (.op .item [(.idx 11 (.const (.int 1))), (.var 12)])])]))]), (.for .range [(.const (.int 2))] (.name 7) [(.expr (.meth 6 .append [(.call 21 [(.var 1), (.var 2), (.var 3), (.var 4), (.var 11)])]))]), (.for .seq [(.list [(.const (.int 0)), (.const (.int 1)), (.const (.int 0))])] (.name 13) [(.asg (.tup [14, 15]) (.op .item [(.var 6), (.var 13)])), (.ite (.or (.not (.call 23 [(.var 14), (.var 5)])) (.not (.call 23 [(.var 15), (.var 4)]))) [(.ret (.const (.bl false)))] []), (.asg (.name 16) (.call 22 [(.var 3), (.op .item [(.var 14), (.const (.int 4))])])), (.ite (.not (.call 12 [(.call 8 [(.op .item [(.var 14), (.const (.int 0))]), (.var 16), (.idx 11 (.const (.int 0)))]), (.op .item [(.var 15), (.const (.int 0))])])) [(.ret (.const (.bl false)))] []), (.ite (.not (.call 12 [(.var 16), (.call 22 [(.var 3), (.op .item [(.var 14), (.const (.int 4))])])])) [(.ret (.const (.bl false)))] [])]), (.ret (.const (.bl true)))]
def f0 : Fn := ⟨3, 3, [], b0⟩
def f1 : Fn := ⟨3, 4, [], b1⟩
def f2 : Fn := ⟨1, 1, [], b2⟩
def f3 : Fn := ⟨1, 2, [], b3⟩
def f4 : Fn := ⟨1, 2, [], b4⟩
def f5 : Fn := ⟨1, 3, [], b5⟩
def f6 : Fn := ⟨1, 3, [], b6⟩
def f7 : Fn := ⟨1, 2, [], b7⟩
def f8 : Fn := ⟨3, 4, [], b8⟩
def f9 : Fn := ⟨1, 3, [], b9⟩
def f10 : Fn := ⟨2, 5, [], b10⟩
def f11 : Fn := ⟨2, 2, [], b11⟩
def f12 : Fn := ⟨2, 2, [], b12⟩
def f13 : Fn := ⟨0, 1, [], b13⟩
def f14 : Fn := ⟨2, 11, [], b14⟩
def f15 : Fn := ⟨2, 2, [], b15⟩
def f16 : Fn := ⟨2, 4, [], b16⟩
def f17 : Fn := ⟨2, 7, [], b17⟩
def f18 : Fn := ⟨2, 5, [], b18⟩
def f19 : Fn := ⟨3, 8, [], b19⟩
def f20 : Fn := ⟨5, 11, [], b20⟩
def f21 : Fn := ⟨5, 10, [], b21⟩
def f22 : Fn := ⟨2, 4, [], b22⟩
def f23 : Fn := ⟨2, 6, [], b23⟩
def f24 : Fn := ⟨1, 17, [], b24⟩
def prog : Nat → Option Fn
  | 0 => some f0
  | 1 => some f1
  | 2 => some f2
  | 3 => some f3
  | 4 => some f4
  | 5 => some f5
  | 6 => some f6
  | 7 => some f7
  | 8 => some f8
  | 9 => some f9
  | 10 => some f10
  | 11 => some f11
  | 12 => some f12
  | 13 => some f13
  | 14 => some f14
  | 15 => some f15
  | 16 => some f16
  | 17 => some f17
  | 18 => some f18
  | 19 => some f19
  | 20 => some f20
  | 21 => some f21
  | 22 => some f22
  | 23 => some f23
  | 24 => some f24
  | _ => none
def T0 : Tab := ⟨[], 0, [],
  [("joined", 0, 3), ("value_of", 1, 3), ("parts_of", 2, 1), ("nodes_of", 3, 1), ("depth_of", 4, 1), ("words_in", 5, 1), ("names_in", 6, 1), ("names_arg", 7, 1), ("renamed", 8, 3), ("_law_pool", 9, 1), ("_law_take", 10, 2), ("_law_pick", 11, 2), ("_law_same", 12, 2), ("_law_reserved", 13, 0), ("_law_word", 14, 2), ("_law_number", 15, 2), ("_law_joined", 16, 2), ("_law_over", 17, 2), ("_law_both", 18, 2), ("_law_filling", 19, 3), ("_law_leaf", 20, 5), ("_law_built", 21, 5), ("_law_part", 22, 2), ("_law_right", 23, 2), ("law", 24, 1)],
  ["abs", "any", "int", "len", "max", "range", "repr", "str", "sum", "tuple"], [("value_of", [(.int 0)])], []⟩
def dfs : List He.DefD := [⟨("joined", none), "joined", "joined", defArgs (top 1), defBody (top 1), defScope (top 1), [], []⟩,
  ⟨("value_of", none), "value_of", "value_of", defArgs (top 2), defBody (top 2), defScope (top 2), [.int 0], []⟩,
  ⟨("parts_of", none), "parts_of", "parts_of", defArgs (top 3), defBody (top 3), defScope (top 3), [], []⟩,
  ⟨("nodes_of", none), "nodes_of", "nodes_of", defArgs (top 4), defBody (top 4), defScope (top 4), [], []⟩,
  ⟨("depth_of", none), "depth_of", "depth_of", defArgs (top 5), defBody (top 5), defScope (top 5), [], []⟩,
  ⟨("words_in", none), "words_in", "words_in", defArgs (top 6), defBody (top 6), defScope (top 6), [], []⟩,
  ⟨("names_in", none), "names_in", "names_in", defArgs (top 7), defBody (top 7), defScope (top 7), [], []⟩,
  ⟨("names_arg", none), "names_arg", "names_arg", defArgs (top 8), defBody (top 8), defScope (top 8), [], []⟩,
  ⟨("renamed", none), "renamed", "renamed", defArgs (top 9), defBody (top 9), defScope (top 9), [], []⟩,
  ⟨("_law_pool", none), "_law_pool", "_law_pool", defArgs (top 11), defBody (top 11), defScope (top 11), [], []⟩,
  ⟨("_law_take", none), "_law_take", "_law_take", defArgs (top 12), defBody (top 12), defScope (top 12), [], []⟩,
  ⟨("_law_pick", none), "_law_pick", "_law_pick", defArgs (top 13), defBody (top 13), defScope (top 13), [], []⟩,
  ⟨("_law_same", none), "_law_same", "_law_same", defArgs (top 14), defBody (top 14), defScope (top 14), [], []⟩,
  ⟨("_law_reserved", none), "_law_reserved", "_law_reserved", defArgs (top 15), defBody (top 15), defScope (top 15), [], []⟩,
  ⟨("_law_word", none), "_law_word", "_law_word", defArgs (top 16), defBody (top 16), defScope (top 16), [], []⟩,
  ⟨("_law_number", none), "_law_number", "_law_number", defArgs (top 17), defBody (top 17), defScope (top 17), [], []⟩,
  ⟨("_law_joined", none), "_law_joined", "_law_joined", defArgs (top 18), defBody (top 18), defScope (top 18), [], []⟩,
  ⟨("_law_over", none), "_law_over", "_law_over", defArgs (top 19), defBody (top 19), defScope (top 19), [], []⟩,
  ⟨("_law_both", none), "_law_both", "_law_both", defArgs (top 20), defBody (top 20), defScope (top 20), [], []⟩,
  ⟨("_law_filling", none), "_law_filling", "_law_filling", defArgs (top 21), defBody (top 21), defScope (top 21), [], []⟩,
  ⟨("_law_leaf", none), "_law_leaf", "_law_leaf", defArgs (top 22), defBody (top 22), defScope (top 22), [], []⟩,
  ⟨("_law_built", none), "_law_built", "_law_built", defArgs (top 23), defBody (top 23), defScope (top 23), [], []⟩,
  ⟨("_law_part", none), "_law_part", "_law_part", defArgs (top 24), defBody (top 24), defScope (top 24), [], []⟩,
  ⟨("_law_right", none), "_law_right", "_law_right", defArgs (top 25), defBody (top 25), defScope (top 25), [], []⟩,
  ⟨("law", none), "law", "law", defArgs (top 26), defBody (top 26), defScope (top 26), [], []⟩]
theorem tr0 : trBody 60 { T0 with N := ["op", "left", "right"], np := 3, nest := [] } (defScope (top 1)) (defBody (top 1)) = some (b0, []) := by kernel_rfl
theorem sc0 : FnScope ["op", "left", "right"] ["op", "left", "right"] (defScope (top 1)) := ⟨rfl, rfl, rfl, by decide +kernel, rfl, by decide +kernel, by decide +kernel⟩
theorem tr1 : trBody 60 { T0 with N := ["expr", "names", "arg", "word"], np := 3, nest := [] } (defScope (top 2)) (defBody (top 2)) = some (b1, [3]) := by kernel_rfl
theorem sc1 : FnScope ["expr", "names", "arg", "word"] ["expr", "names", "arg"] (defScope (top 2)) := ⟨rfl, rfl, rfl, by decide +kernel, rfl, by decide +kernel, by decide +kernel⟩
theorem tr2 : trBody 60 { T0 with N := ["expr"], np := 1, nest := [] } (defScope (top 3)) (defBody (top 3)) = some (b2, []) := by kernel_rfl
theorem sc2 : FnScope ["expr"] ["expr"] (defScope (top 3)) := ⟨rfl, rfl, rfl, by decide +kernel, rfl, by decide +kernel, by decide +kernel⟩
theorem tr3 : trBody 60 { T0 with N := ["expr", "part"], np := 1, nest := [] } (defScope (top 4)) (defBody (top 4)) = some (b3, []) := by kernel_rfl
theorem sc3 : FnScope ["expr", "part"] ["expr"] (defScope (top 4)) := ⟨rfl, rfl, rfl, by decide +kernel, rfl, by decide +kernel, by decide +kernel⟩
theorem tr4 : trBody 60 { T0 with N := ["expr", "part"], np := 1, nest := [] } (defScope (top 5)) (defBody (top 5)) = some (b4, []) := by kernel_rfl
theorem sc4 : FnScope ["expr", "part"] ["expr"] (defScope (top 5)) := ⟨rfl, rfl, rfl, by decide +kernel, rfl, by decide +kernel, by decide +kernel⟩
theorem tr5 : trBody 60 { T0 with N := ["expr", "words", "part"], np := 1, nest := [] } (defScope (top 6)) (defBody (top 6)) = some (b5, [1, 2]) := by kernel_rfl
theorem sc5 : FnScope ["expr", "words", "part"] ["expr"] (defScope (top 6)) := ⟨rfl, rfl, rfl, by decide +kernel, rfl, by decide +kernel, by decide +kernel⟩
theorem tr6 : trBody 60 { T0 with N := ["expr", "names", "word"], np := 1, nest := [] } (defScope (top 7)) (defBody (top 7)) = some (b6, [1, 2]) := by kernel_rfl
theorem sc6 : FnScope ["expr", "names", "word"] ["expr"] (defScope (top 7)) := ⟨rfl, rfl, rfl, by decide +kernel, rfl, by decide +kernel, by decide +kernel⟩
theorem tr7 : trBody 60 { T0 with N := ["expr", "part"], np := 1, nest := [] } (defScope (top 8)) (defBody (top 8)) = some (b7, []) := by kernel_rfl
theorem sc7 : FnScope ["expr", "part"] ["expr"] (defScope (top 8)) := ⟨rfl, rfl, rfl, by decide +kernel, rfl, by decide +kernel, by decide +kernel⟩
theorem tr8 : trBody 60 { T0 with N := ["expr", "table", "arg", "part"], np := 3, nest := [] } (defScope (top 9)) (defBody (top 9)) = some (b8, []) := by kernel_rfl
theorem sc8 : FnScope ["expr", "table", "arg", "part"] ["expr", "table", "arg"] (defScope (top 9)) := ⟨rfl, rfl, rfl, by decide +kernel, rfl, by decide +kernel, by decide +kernel⟩
theorem tr9 : trBody 60 { T0 with N := ["script", "cells", "cell"], np := 1, nest := [] } (defScope (top 11)) (defBody (top 11)) = some (b9, [1]) := by kernel_rfl
theorem sc9 : FnScope ["script", "cells", "cell"] ["script"] (defScope (top 11)) := ⟨rfl, rfl, rfl, by decide +kernel, rfl, by decide +kernel, by decide +kernel⟩
theorem tr10 : trBody 60 { T0 with N := ["pool", "many", "number", "turn", "cell"], np := 2, nest := [] } (defScope (top 12)) (defBody (top 12)) = some (b10, [2, 3, 4, 2, 2, 2]) := by kernel_rfl
theorem sc10 : FnScope ["pool", "many", "number", "turn", "cell"] ["pool", "many"] (defScope (top 12)) := ⟨rfl, rfl, rfl, by decide +kernel, rfl, by decide +kernel, by decide +kernel⟩
theorem tr11 : trBody 60 { T0 with N := ["pool", "things"], np := 2, nest := [] } (defScope (top 13)) (defBody (top 13)) = some (b11, []) := by kernel_rfl
theorem sc11 : FnScope ["pool", "things"] ["pool", "things"] (defScope (top 13)) := ⟨rfl, rfl, rfl, by decide +kernel, rfl, by decide +kernel, by decide +kernel⟩
theorem tr12 : trBody 60 { T0 with N := ["got", "due"], np := 2, nest := [] } (defScope (top 14)) (defBody (top 14)) = some (b12, []) := by kernel_rfl
theorem sc12 : FnScope ["got", "due"] ["got", "due"] (defScope (top 14)) := ⟨rfl, rfl, rfl, by decide +kernel, rfl, by decide +kernel, by decide +kernel⟩
theorem tr13 : trBody 60 { T0 with N := ["words"], np := 0, nest := [] } (defScope (top 15)) (defBody (top 15)) = some (b13, [0, 0]) := by kernel_rfl
theorem sc13 : FnScope ["words"] [] (defScope (top 15)) := ⟨rfl, rfl, rfl, by decide +kernel, rfl, by decide +kernel, by decide +kernel⟩
theorem tr14 : trBody 60 { T0 with N := ["pool", "taken", "letters", "known", "way", "signs", "word", "turn", "spares", "k", "spare"], np := 2, nest := [] } (defScope (top 16)) (defBody (top 16)) = some (b14, [2, 3, 4, 5, 6, 6, 6, 7, 6, 8]) := by kernel_rfl
theorem sc14 : FnScope ["pool", "taken", "letters", "known", "way", "signs", "word", "turn", "spares", "k", "spare"] ["pool", "taken"] (defScope (top 16)) := ⟨rfl, rfl, rfl, by decide +kernel, rfl, by decide +kernel, by decide +kernel⟩
theorem tr15 : trBody 60 { T0 with N := ["pool", "wide"], np := 2, nest := [] } (defScope (top 17)) (defBody (top 17)) = some (b15, []) := by kernel_rfl
theorem sc15 : FnScope ["pool", "wide"] ["pool", "wide"] (defScope (top 17)) := ⟨rfl, rfl, rfl, by decide +kernel, rfl, by decide +kernel, by decide +kernel⟩
theorem tr16 : trBody 60 { T0 with N := ["op", "row", "one", "two"], np := 2, nest := [] } (defScope (top 18)) (defBody (top 18)) = some (b16, [2, 3]) := by kernel_rfl
theorem sc16 : FnScope ["op", "row", "one", "two"] ["op", "row"] (defScope (top 18)) := ⟨rfl, rfl, rfl, by decide +kernel, rfl, by decide +kernel, by decide +kernel⟩
theorem tr17 : trBody 60 { T0 with N := ["op", "parts", "item", "part", "word", "k", "piece"], np := 2, nest := ["item"] } (defScope (top 19)) (defBody (top 19)) = some (b17, [2, 3, 5]) := by kernel_rfl
theorem sc17 : FnScope ["op", "parts", "item", "part", "word", "k", "piece"] ["op", "parts"] (defScope (top 19)) := ⟨rfl, rfl, rfl, by decide +kernel, rfl, by decide +kernel, by decide +kernel⟩
theorem tr18 : trBody 60 { T0 with N := ["op", "parts", "one", "part", "two"], np := 2, nest := ["one", "two"] } (defScope (top 20)) (defBody (top 20)) = some (b18, [2, 4]) := by kernel_rfl
theorem sc18 : FnScope ["op", "parts", "one", "part", "two"] ["op", "parts"] (defScope (top 20)) := ⟨rfl, rfl, rfl, by decide +kernel, rfl, by decide +kernel, by decide +kernel⟩
theorem tr19 : trBody 60 { T0 with N := ["pool", "words", "rows", "word", "way", "given", "row", "named"], np := 3, nest := [] } (defScope (top 21)) (defBody (top 21)) = some (b19, [3, 4, 5, 7]) := by kernel_rfl
theorem sc19 : FnScope ["pool", "words", "rows", "word", "way", "given", "row", "named"] ["pool", "words", "rows"] (defScope (top 21)) := ⟨rfl, rfl, rfl, by decide +kernel, rfl, by decide +kernel, by decide +kernel⟩
theorem tr20 : trBody 60 { T0 with N := ["pool", "words", "table", "rows", "filling", "way", "number", "leaf", "row", "word", "values"], np := 5, nest := [] } (defScope (top 22)) (defBody (top 22)) = some (b20, [5, 6, 7, 9, 10]) := by kernel_rfl
theorem sc20 : FnScope ["pool", "words", "table", "rows", "filling", "way", "number", "leaf", "row", "word", "values"] ["pool", "words", "table", "rows", "filling"] (defScope (top 22)) := ⟨rfl, rfl, rfl, by decide +kernel, rfl, by decide +kernel, by decide +kernel⟩
theorem tr21 : trBody 60 { T0 with N := ["pool", "words", "table", "rows", "filling", "ops", "parts", "turn", "step", "right"], np := 5, nest := [] } (defScope (top 23)) (defBody (top 23)) = some (b21, [5, 6, 7, 8, 9, 7, 9, 7]) := by kernel_rfl
theorem sc21 : FnScope ["pool", "words", "table", "rows", "filling", "ops", "parts", "turn", "step", "right"] ["pool", "words", "table", "rows", "filling"] (defScope (top 23)) := ⟨rfl, rfl, rfl, by decide +kernel, rfl, by decide +kernel, by decide +kernel⟩
theorem tr22 : trBody 60 { T0 with N := ["values", "words", "part", "word"], np := 2, nest := [] } (defScope (top 24)) (defBody (top 24)) = some (b22, [2, 3]) := by kernel_rfl
theorem sc22 : FnScope ["values", "words", "part", "word"] ["values", "words"] (defScope (top 24)) := ⟨rfl, rfl, rfl, by decide +kernel, rfl, by decide +kernel, by decide +kernel⟩
theorem tr23 : trBody 60 { T0 with N := ["item", "rows", "tree", "due", "k", "table"], np := 2, nest := [] } (defScope (top 25)) (defBody (top 25)) = some (b23, [2, 3, 4, 5]) := by kernel_rfl
theorem sc23 : FnScope ["item", "rows", "tree", "due", "k", "table"] ["item", "rows"] (defScope (top 25)) := ⟨rfl, rfl, rfl, by decide +kernel, rfl, by decide +kernel, by decide +kernel⟩
theorem tr24 : trBody 60 { T0 with N := ["script", "pool", "words", "table", "rows", "olds", "pairs", "turn", "word", "wide", "values", "filling", "k", "place", "one", "two", "part"], np := 1, nest := ["filling"] } (defScope (top 26)) (defBody (top 26)) = some (b24, [1, 2, 3, 4, 5, 6, 7, 8, 9, 7, 10, 8, 11, 12, 10, 8, 7, 13, 14, 15, 16]) := by kernel_rfl
theorem sc24 : FnScope ["script", "pool", "words", "table", "rows", "olds", "pairs", "turn", "word", "wide", "values", "filling", "k", "place", "one", "two", "part"] ["script"] (defScope (top 26)) := ⟨rfl, rfl, rfl, by decide +kernel, rfl, by decide +kernel, by decide +kernel⟩
section
variable {K : Frag} {mg : Str → Option Value} {h : Heap}
theorem d0 (c : SaysM T0.consts (faOf T0.fns T0.blts) dfs K) (X : PySem.W.Frag.In K h) (G : h.Ns mainGlobals mg) : DefOk K mg prog T0 "joined" 0 3 :=
  defOk_of (st := top 1) (j := 0) c X G (List.mem_of_getElem? (i := 0) rfl) rfl ["op", "left", "right"] ["op", "left", "right"] f0 60 _ [] sc0 rfl
    (fun _ _ _ _ _ _ us hl => match us, hl with | [_, _, _], _ => rfl) rfl rfl rfl tr0 (by decide) rfl
theorem d1 (c : SaysM T0.consts (faOf T0.fns T0.blts) dfs K) (X : PySem.W.Frag.In K h) (G : h.Ns mainGlobals mg) : DefOk K mg prog T0 "value_of" 1 3 :=
  defOk_ofD (st := top 2) (j := 1) (dl := [.int 0]) (ds := [(.int 0)]) c X G (List.mem_of_getElem? (i := 1) rfl) rfl ["expr", "names", "arg", "word"] ["expr", "names", "arg"] f1 60 _ [] sc1 rfl
    rfl rfl rfl tr1 (by decide) rfl (by simp) (by decide) (fun Z => .cons (.int _) (.nil))
    (fun j hj => match j, hj with
    | 0, _ => fun _ _ _ _ _ _ _ us its hu hi => match us, hu, its, hi with | [_, _], _, [_], _ => ⟨_, rfl, rfl⟩
    | 1, _ => fun _ _ _ _ _ _ _ us its hu hi => match us, hu, its, hi with | [_, _, _], _, [_], _ => ⟨_, rfl, rfl⟩
    | n + 2, h => fun _ _ _ _ _ _ _ _ _ _ _ => absurd h (by show ¬ n + 2 ≤ 1; omega))
theorem d2 (c : SaysM T0.consts (faOf T0.fns T0.blts) dfs K) (X : PySem.W.Frag.In K h) (G : h.Ns mainGlobals mg) : DefOk K mg prog T0 "parts_of" 2 1 :=
  defOk_of (st := top 3) (j := 2) c X G (List.mem_of_getElem? (i := 2) rfl) rfl ["expr"] ["expr"] f2 60 _ [] sc2 rfl
    (fun _ _ _ _ _ _ us hl => match us, hl with | [_], _ => rfl) rfl rfl rfl tr2 (by decide) rfl
theorem d3 (c : SaysM T0.consts (faOf T0.fns T0.blts) dfs K) (X : PySem.W.Frag.In K h) (G : h.Ns mainGlobals mg) : DefOk K mg prog T0 "nodes_of" 3 1 :=
  defOk_of (st := top 4) (j := 3) c X G (List.mem_of_getElem? (i := 3) rfl) rfl ["expr", "part"] ["expr"] f3 60 _ [] sc3 rfl
    (fun _ _ _ _ _ _ us hl => match us, hl with | [_], _ => rfl) rfl rfl rfl tr3 (by decide) rfl
theorem d4 (c : SaysM T0.consts (faOf T0.fns T0.blts) dfs K) (X : PySem.W.Frag.In K h) (G : h.Ns mainGlobals mg) : DefOk K mg prog T0 "depth_of" 4 1 :=
  defOk_of (st := top 5) (j := 4) c X G (List.mem_of_getElem? (i := 4) rfl) rfl ["expr", "part"] ["expr"] f4 60 _ [] sc4 rfl
    (fun _ _ _ _ _ _ us hl => match us, hl with | [_], _ => rfl) rfl rfl rfl tr4 (by decide) rfl
theorem d5 (c : SaysM T0.consts (faOf T0.fns T0.blts) dfs K) (X : PySem.W.Frag.In K h) (G : h.Ns mainGlobals mg) : DefOk K mg prog T0 "words_in" 5 1 :=
  defOk_of (st := top 6) (j := 5) c X G (List.mem_of_getElem? (i := 5) rfl) rfl ["expr", "words", "part"] ["expr"] f5 60 _ [] sc5 rfl
    (fun _ _ _ _ _ _ us hl => match us, hl with | [_], _ => rfl) rfl rfl rfl tr5 (by decide) rfl
theorem d6 (c : SaysM T0.consts (faOf T0.fns T0.blts) dfs K) (X : PySem.W.Frag.In K h) (G : h.Ns mainGlobals mg) : DefOk K mg prog T0 "names_in" 6 1 :=
  defOk_of (st := top 7) (j := 6) c X G (List.mem_of_getElem? (i := 6) rfl) rfl ["expr", "names", "word"] ["expr"] f6 60 _ [] sc6 rfl
    (fun _ _ _ _ _ _ us hl => match us, hl with | [_], _ => rfl) rfl rfl rfl tr6 (by decide) rfl
theorem d7 (c : SaysM T0.consts (faOf T0.fns T0.blts) dfs K) (X : PySem.W.Frag.In K h) (G : h.Ns mainGlobals mg) : DefOk K mg prog T0 "names_arg" 7 1 :=
  defOk_of (st := top 8) (j := 7) c X G (List.mem_of_getElem? (i := 7) rfl) rfl ["expr", "part"] ["expr"] f7 60 _ [] sc7 rfl
    (fun _ _ _ _ _ _ us hl => match us, hl with | [_], _ => rfl) rfl rfl rfl tr7 (by decide) rfl
theorem d8 (c : SaysM T0.consts (faOf T0.fns T0.blts) dfs K) (X : PySem.W.Frag.In K h) (G : h.Ns mainGlobals mg) : DefOk K mg prog T0 "renamed" 8 3 :=
  defOk_of (st := top 9) (j := 8) c X G (List.mem_of_getElem? (i := 8) rfl) rfl ["expr", "table", "arg", "part"] ["expr", "table", "arg"] f8 60 _ [] sc8 rfl
    (fun _ _ _ _ _ _ us hl => match us, hl with | [_, _, _], _ => rfl) rfl rfl rfl tr8 (by decide) rfl
theorem d9 (c : SaysM T0.consts (faOf T0.fns T0.blts) dfs K) (X : PySem.W.Frag.In K h) (G : h.Ns mainGlobals mg) : DefOk K mg prog T0 "_law_pool" 9 1 :=
  defOk_of (st := top 11) (j := 9) c X G (List.mem_of_getElem? (i := 9) rfl) rfl ["script", "cells", "cell"] ["script"] f9 60 _ [] sc9 rfl
    (fun _ _ _ _ _ _ us hl => match us, hl with | [_], _ => rfl) rfl rfl rfl tr9 (by decide) rfl
theorem d10 (c : SaysM T0.consts (faOf T0.fns T0.blts) dfs K) (X : PySem.W.Frag.In K h) (G : h.Ns mainGlobals mg) : DefOk K mg prog T0 "_law_take" 10 2 :=
  defOk_of (st := top 12) (j := 10) c X G (List.mem_of_getElem? (i := 10) rfl) rfl ["pool", "many", "number", "turn", "cell"] ["pool", "many"] f10 60 _ [] sc10 rfl
    (fun _ _ _ _ _ _ us hl => match us, hl with | [_, _], _ => rfl) rfl rfl rfl tr10 (by decide) rfl
theorem d11 (c : SaysM T0.consts (faOf T0.fns T0.blts) dfs K) (X : PySem.W.Frag.In K h) (G : h.Ns mainGlobals mg) : DefOk K mg prog T0 "_law_pick" 11 2 :=
  defOk_of (st := top 13) (j := 11) c X G (List.mem_of_getElem? (i := 11) rfl) rfl ["pool", "things"] ["pool", "things"] f11 60 _ [] sc11 rfl
    (fun _ _ _ _ _ _ us hl => match us, hl with | [_, _], _ => rfl) rfl rfl rfl tr11 (by decide) rfl
theorem d12 (c : SaysM T0.consts (faOf T0.fns T0.blts) dfs K) (X : PySem.W.Frag.In K h) (G : h.Ns mainGlobals mg) : DefOk K mg prog T0 "_law_same" 12 2 :=
  defOk_of (st := top 14) (j := 12) c X G (List.mem_of_getElem? (i := 12) rfl) rfl ["got", "due"] ["got", "due"] f12 60 _ [] sc12 rfl
    (fun _ _ _ _ _ _ us hl => match us, hl with | [_, _], _ => rfl) rfl rfl rfl tr12 (by decide) rfl
theorem d13 (c : SaysM T0.consts (faOf T0.fns T0.blts) dfs K) (X : PySem.W.Frag.In K h) (G : h.Ns mainGlobals mg) : DefOk K mg prog T0 "_law_reserved" 13 0 :=
  defOk_of (st := top 15) (j := 13) c X G (List.mem_of_getElem? (i := 13) rfl) rfl ["words"] [] f13 60 _ [] sc13 rfl
    (fun _ _ _ _ _ _ us hl => match us, hl with | [], _ => rfl) rfl rfl rfl tr13 (by decide) rfl
theorem d14 (c : SaysM T0.consts (faOf T0.fns T0.blts) dfs K) (X : PySem.W.Frag.In K h) (G : h.Ns mainGlobals mg) : DefOk K mg prog T0 "_law_word" 14 2 :=
  defOk_of (st := top 16) (j := 14) c X G (List.mem_of_getElem? (i := 14) rfl) rfl ["pool", "taken", "letters", "known", "way", "signs", "word", "turn", "spares", "k", "spare"] ["pool", "taken"] f14 60 _ [] sc14 rfl
    (fun _ _ _ _ _ _ us hl => match us, hl with | [_, _], _ => rfl) rfl rfl rfl tr14 (by decide) rfl
theorem d15 (c : SaysM T0.consts (faOf T0.fns T0.blts) dfs K) (X : PySem.W.Frag.In K h) (G : h.Ns mainGlobals mg) : DefOk K mg prog T0 "_law_number" 15 2 :=
  defOk_of (st := top 17) (j := 15) c X G (List.mem_of_getElem? (i := 15) rfl) rfl ["pool", "wide"] ["pool", "wide"] f15 60 _ [] sc15 rfl
    (fun _ _ _ _ _ _ us hl => match us, hl with | [_, _], _ => rfl) rfl rfl rfl tr15 (by decide) rfl
theorem d16 (c : SaysM T0.consts (faOf T0.fns T0.blts) dfs K) (X : PySem.W.Frag.In K h) (G : h.Ns mainGlobals mg) : DefOk K mg prog T0 "_law_joined" 16 2 :=
  defOk_of (st := top 18) (j := 16) c X G (List.mem_of_getElem? (i := 16) rfl) rfl ["op", "row", "one", "two"] ["op", "row"] f16 60 _ [] sc16 rfl
    (fun _ _ _ _ _ _ us hl => match us, hl with | [_, _], _ => rfl) rfl rfl rfl tr16 (by decide) rfl
theorem d17 (c : SaysM T0.consts (faOf T0.fns T0.blts) dfs K) (X : PySem.W.Frag.In K h) (G : h.Ns mainGlobals mg) : DefOk K mg prog T0 "_law_over" 17 2 :=
  defOk_of (st := top 19) (j := 17) c X G (List.mem_of_getElem? (i := 17) rfl) rfl ["op", "parts", "item", "part", "word", "k", "piece"] ["op", "parts"] f17 60 _ ["item"] sc17 rfl
    (fun _ _ _ _ _ _ us hl => match us, hl with | [_, _], _ => rfl) rfl rfl rfl tr17 (by decide) rfl
theorem d18 (c : SaysM T0.consts (faOf T0.fns T0.blts) dfs K) (X : PySem.W.Frag.In K h) (G : h.Ns mainGlobals mg) : DefOk K mg prog T0 "_law_both" 18 2 :=
  defOk_of (st := top 20) (j := 18) c X G (List.mem_of_getElem? (i := 18) rfl) rfl ["op", "parts", "one", "part", "two"] ["op", "parts"] f18 60 _ ["one", "two"] sc18 rfl
    (fun _ _ _ _ _ _ us hl => match us, hl with | [_, _], _ => rfl) rfl rfl rfl tr18 (by decide) rfl
theorem d19 (c : SaysM T0.consts (faOf T0.fns T0.blts) dfs K) (X : PySem.W.Frag.In K h) (G : h.Ns mainGlobals mg) : DefOk K mg prog T0 "_law_filling" 19 3 :=
  defOk_of (st := top 21) (j := 19) c X G (List.mem_of_getElem? (i := 19) rfl) rfl ["pool", "words", "rows", "word", "way", "given", "row", "named"] ["pool", "words", "rows"] f19 60 _ [] sc19 rfl
    (fun _ _ _ _ _ _ us hl => match us, hl with | [_, _, _], _ => rfl) rfl rfl rfl tr19 (by decide) rfl
theorem d20 (c : SaysM T0.consts (faOf T0.fns T0.blts) dfs K) (X : PySem.W.Frag.In K h) (G : h.Ns mainGlobals mg) : DefOk K mg prog T0 "_law_leaf" 20 5 :=
  defOk_of (st := top 22) (j := 20) c X G (List.mem_of_getElem? (i := 20) rfl) rfl ["pool", "words", "table", "rows", "filling", "way", "number", "leaf", "row", "word", "values"] ["pool", "words", "table", "rows", "filling"] f20 60 _ [] sc20 rfl
    (fun _ _ _ _ _ _ us hl => match us, hl with | [_, _, _, _, _], _ => rfl) rfl rfl rfl tr20 (by decide) rfl
theorem d21 (c : SaysM T0.consts (faOf T0.fns T0.blts) dfs K) (X : PySem.W.Frag.In K h) (G : h.Ns mainGlobals mg) : DefOk K mg prog T0 "_law_built" 21 5 :=
  defOk_of (st := top 23) (j := 21) c X G (List.mem_of_getElem? (i := 21) rfl) rfl ["pool", "words", "table", "rows", "filling", "ops", "parts", "turn", "step", "right"] ["pool", "words", "table", "rows", "filling"] f21 60 _ [] sc21 rfl
    (fun _ _ _ _ _ _ us hl => match us, hl with | [_, _, _, _, _], _ => rfl) rfl rfl rfl tr21 (by decide) rfl
theorem d22 (c : SaysM T0.consts (faOf T0.fns T0.blts) dfs K) (X : PySem.W.Frag.In K h) (G : h.Ns mainGlobals mg) : DefOk K mg prog T0 "_law_part" 22 2 :=
  defOk_of (st := top 24) (j := 22) c X G (List.mem_of_getElem? (i := 22) rfl) rfl ["values", "words", "part", "word"] ["values", "words"] f22 60 _ [] sc22 rfl
    (fun _ _ _ _ _ _ us hl => match us, hl with | [_, _], _ => rfl) rfl rfl rfl tr22 (by decide) rfl
theorem d23 (c : SaysM T0.consts (faOf T0.fns T0.blts) dfs K) (X : PySem.W.Frag.In K h) (G : h.Ns mainGlobals mg) : DefOk K mg prog T0 "_law_right" 23 2 :=
  defOk_of (st := top 25) (j := 23) c X G (List.mem_of_getElem? (i := 23) rfl) rfl ["item", "rows", "tree", "due", "k", "table"] ["item", "rows"] f23 60 _ [] sc23 rfl
    (fun _ _ _ _ _ _ us hl => match us, hl with | [_, _], _ => rfl) rfl rfl rfl tr23 (by decide) rfl
theorem d24 (c : SaysM T0.consts (faOf T0.fns T0.blts) dfs K) (X : PySem.W.Frag.In K h) (G : h.Ns mainGlobals mg) : DefOk K mg prog T0 "law" 24 1 :=
  defOk_of (st := top 26) (j := 24) c X G (List.mem_of_getElem? (i := 24) rfl) rfl ["script", "pool", "words", "table", "rows", "olds", "pairs", "turn", "word", "wide", "values", "filling", "k", "place", "one", "two", "part"] ["script"] f24 60 _ ["filling"] sc24 rfl
    (fun _ _ _ _ _ _ us hl => match us, hl with | [_], _ => rfl) rfl rfl rfl tr24 (by decide) rfl
theorem ds (c : SaysM T0.consts (faOf T0.fns T0.blts) dfs K) (X : PySem.W.Frag.In K h) (G : h.Ns mainGlobals mg) : ∀ p ∈ T0.fns, DefOk K mg prog T0 p.1 p.2.1 p.2.2 :=
  List.forall_mem_cons.mpr ⟨d0 c X G, List.forall_mem_cons.mpr ⟨d1 c X G, List.forall_mem_cons.mpr ⟨d2 c X G, List.forall_mem_cons.mpr ⟨d3 c X G, List.forall_mem_cons.mpr ⟨d4 c X G, List.forall_mem_cons.mpr ⟨d5 c X G, List.forall_mem_cons.mpr ⟨d6 c X G, List.forall_mem_cons.mpr ⟨d7 c X G, List.forall_mem_cons.mpr ⟨d8 c X G, List.forall_mem_cons.mpr ⟨d9 c X G, List.forall_mem_cons.mpr ⟨d10 c X G, List.forall_mem_cons.mpr ⟨d11 c X G, List.forall_mem_cons.mpr ⟨d12 c X G, List.forall_mem_cons.mpr ⟨d13 c X G, List.forall_mem_cons.mpr ⟨d14 c X G, List.forall_mem_cons.mpr ⟨d15 c X G, List.forall_mem_cons.mpr ⟨d16 c X G, List.forall_mem_cons.mpr ⟨d17 c X G, List.forall_mem_cons.mpr ⟨d18 c X G, List.forall_mem_cons.mpr ⟨d19 c X G, List.forall_mem_cons.mpr ⟨d20 c X G, List.forall_mem_cons.mpr ⟨d21 c X G, List.forall_mem_cons.mpr ⟨d22 c X G, List.forall_mem_cons.mpr ⟨d23 c X G, List.forall_mem_cons.mpr ⟨d24 c X G, (fun _ h => nomatch h)⟩⟩⟩⟩⟩⟩⟩⟩⟩⟩⟩⟩⟩⟩⟩⟩⟩⟩⟩⟩⟩⟩⟩⟩⟩
end
def ln0 : List PySem.Str := ["__name__", "_law_both", "_law_built", "_law_filling", "_law_joined", "_law_leaf", "_law_number", "_law_over", "_law_part", "_law_pick", "_law_pool", "_law_reserved", "_law_right", "_law_same", "_law_take", "_law_word", "depth_of", "joined", "names_arg", "names_in", "nodes_of", "parts_of", "renamed", "value_of", "words_in"]
abbrev R : PySem.W.OpenRow := PySem.W.OpenLaw.row PySem.Challenge.rw_haltstoreys_k01_expr_values
abbrev hk : PySem.W.Hook := hookM 5 T0.consts (faOf T0.fns T0.blts) dfs
def ob (s : PySem.W.SharedT) : AlM := obsMG 5 T0.consts (faOf T0.fns T0.blts) dfs (HandSHeadRun.getT s)
theorem ob_eq (s : PySem.W.SharedT) : ob s = hk.obs s.abs := obsMG_eq (HandSHeadRun.getT_eq s)
def lns : List PySem.Str := ln0
set_option maxHeartbeats 0 in
theorem run (w : World) : HandSHeadRun.RunEq R (PySem.W.view R.prog [26]) hk ob 9000 lns w := by
  intro os
  kernel_rfl
end K01
namespace K01
open Mv
inductive Un where
  | nt | mn
  deriving DecidableEq
inductive Bi where
  | add | sub | mul | eq | ne | lt | le | an | or
  deriving DecidableEq
def Un.s : Un → List Nat
  | .nt => [110, 111, 116]
  | .mn => [109, 105, 110, 117, 115]
def Bi.s : Bi → List Nat
  | .add => [43] | .sub => [45] | .mul => [42] | .eq => [61, 61] | .ne => [33, 61] | .lt => [60] | .le => [60, 61] | .an => [97, 110, 100] | .or => [111, 114]
inductive Ex where
  | num (n : Int) | name (w : List Nat) | arg | un (o : Un) (a : Ex) | bin (o : Bi) (a b : Ex)
abbrev sNum : List Nat := [110, 117, 109]
abbrev sName : List Nat := [110, 97, 109, 101]
abbrev sArg : List Nat := [97, 114, 103]
def Ex.d : Ex → D
  | .num n => .tup [.str sNum, .int n]
  | .name w => .tup [.str sName, .str w]
  | .arg => .tup [.str sArg]
  | .un o a => .tup [.str o.s, a.d]
  | .bin o a b => .tup [.str o.s, a.d, b.d]
def Un.v : Un → Int → Int
  | .nt, x => if x = 0 then 1 else 0
  | .mn, x => -x
def Bi.v : Bi → Int → Int → Int
  | .add, x, y => x + y
  | .sub, x, y => x - y
  | .mul, x, y => x * y
  | .eq, x, y => if x = y then 1 else 0
  | .ne, x, y => if x = y then 0 else 1
  | .lt, x, y => if x < y then 1 else 0
  | .le, x, y => if x ≤ y then 1 else 0
  | .an, x, y => if x = 0 ∨ y = 0 then 0 else 1
  | .or, x, y => if x = 0 ∧ y = 0 then 0 else 1
def Ex.v (f : List Nat → Int) (g : Int) : Ex → Int
  | .num n => n
  | .name w => f w
  | .arg => g
  | .un o a => o.v (a.v f g)
  | .bin o a b => o.v (a.v f g) (b.v f g)
def Ex.n : Ex → Nat
  | .un _ a => a.n + 1
  | .bin _ a b => a.n + b.n + 1
  | _ => 1
def Ex.h : Ex → Nat
  | .un _ a => a.h + 1
  | .bin _ a b => max a.h b.h + 1
  | _ => 1
def Ex.ws : Ex → List (List Nat)
  | .name w => [w]
  | .un _ a => a.ws
  | .bin _ a b => a.ws ++ b.ws
  | _ => []
def Ex.ha : Ex → Bool
  | .arg => true
  | .un _ a => a.ha
  | .bin _ a b => a.ha || b.ha
  | _ => false
def Ex.ren (t : List Nat → List Nat) (fl : Ex) : Ex → Ex
  | .num n => .num n
  | .name w => .name (t w)
  | .arg => fl
  | .un o a => .un o (Ex.ren t fl a)
  | .bin o a b => .bin o (Ex.ren t fl a) (Ex.ren t fl b)
/-- each once, in order -/
def uq : List (List Nat) → List (List Nat) → List (List Nat)
  | acc, [] => acc
  | acc, w :: r => if w ∈ acc then uq acc r else uq (acc ++ [w]) r
def Ex.ns (e : Ex) : List (List Nat) := uq [] e.ws
theorem Ex.n_pos (e : Ex) : 0 < e.n := by cases e <;> simp [Ex.n]
theorem Ex.h_pos (e : Ex) : 0 < e.h := by cases e <;> simp [Ex.h]
theorem Ex.h_le : ∀ e : Ex, e.h ≤ e.n
  | .num _ => Nat.le_refl _
  | .name _ => Nat.le_refl _
  | .arg => Nat.le_refl _
  | .un _ a => by have := Ex.h_le a; simp only [Ex.h, Ex.n]; omega
  | .bin _ a b => by have := Ex.h_le a; have := Ex.h_le b; simp only [Ex.h, Ex.n]; omega
def B : Nat := 2 ^ 40
/-- the leaves -/
def Ex.lv : Ex → Nat
  | .un _ a => a.lv
  | .bin _ a b => a.lv + b.lv
  | _ => 1
theorem Ex.lv_pos : ∀ e : Ex, 0 < e.lv
  | .num _ => by simp [Ex.lv]
  | .name _ => by simp [Ex.lv]
  | .arg => by simp [Ex.lv]
  | .un _ a => by simp only [Ex.lv]; exact Ex.lv_pos a
  | .bin _ a b => by simp only [Ex.lv]; have := Ex.lv_pos a; omega
theorem Ex.lv_le : ∀ e : Ex, 2 * e.lv ≤ e.n + 1
  | .num _ => by simp [Ex.lv, Ex.n]
  | .name _ => by simp [Ex.lv, Ex.n]
  | .arg => by simp [Ex.lv, Ex.n]
  | .un _ a => by have := Ex.lv_le a; simp only [Ex.lv, Ex.n]; omega
  | .bin _ a b => by have := Ex.lv_le a; have := Ex.lv_le b; simp only [Ex.lv, Ex.n]; omega
theorem B2 : 2 ≤ B := by decide
theorem pow_ge {n : Nat} (h : 0 < n) : 2 ≤ B ^ n := by
  have := Nat.pow_le_pow_left B2 n
  have h2 : 2 ^ 1 ≤ 2 ^ n := Nat.pow_le_pow_right (by decide) h
  omega
theorem sum_le {x y : Nat} (hx : 2 ≤ x) (hy : 2 ≤ y) : x + y ≤ x * y := by
  have h1 : 2 * y ≤ x * y := Nat.mul_le_mul_right y hx
  have h2 : x * 2 ≤ x * y := Nat.mul_le_mul_left x hy
  omega
theorem Bi.bd (o : Bi) {x y : Int} {p q : Nat} (hx : x.natAbs ≤ p) (hy : y.natAbs ≤ q) (hp : 2 ≤ p) (hq : 2 ≤ q) : (o.v x y).natAbs ≤ p * q := by
  have s := sum_le hp hq
  cases o <;> simp only [Bi.v]
  · omega
  · omega
  · rw [Int.natAbs_mul]; exact Nat.mul_le_mul hx hy
  all_goals (split <;> simp <;> omega)
theorem Un.bd (o : Un) {x : Int} {p : Nat} (hx : x.natAbs ≤ p) (hp : 2 ≤ p) : (o.v x).natAbs ≤ p := by
  cases o <;> simp only [Un.v]
  · split <;> simp <;> omega
  · omega
/-- the leaves' values are small -/
def Sm (f : List Nat → Int) (g : Int) : Ex → Prop
  | .num n => n.natAbs ≤ B
  | .name w => (f w).natAbs ≤ B
  | .arg => g.natAbs ≤ B
  | .un _ a => Sm f g a
  | .bin _ a b => Sm f g a ∧ Sm f g b
theorem Ex.bd (f : List Nat → Int) (g : Int) : ∀ e : Ex, Sm f g e → (e.v f g).natAbs ≤ B ^ e.lv
  | .num n, h => by simpa [Ex.lv, Ex.v, Sm] using h
  | .name w, h => by simpa [Ex.lv, Ex.v, Sm] using h
  | .arg, h => by simpa [Ex.lv, Ex.v, Sm] using h
  | .un o a, h => Un.bd o (Ex.bd f g a h) (pow_ge a.lv_pos)
  | .bin o a b, h => by
    simp only [Ex.lv, Ex.v]
    rw [Nat.pow_add]
    exact Bi.bd o (Ex.bd f g a h.1) (Ex.bd f g b h.2) (pow_ge a.lv_pos) (pow_ge b.lv_pos)
theorem log_bd {x : Int} {n : Nat} (h : x.natAbs ≤ B ^ n) (hn : n ≤ 30) : x.natAbs.log2 < 1920 := by
  by_cases z : x.natAbs = 0
  · rw [z]; decide
  · rw [Nat.log2_lt z]
    have h1 : B ^ n ≤ B ^ 30 := Nat.pow_le_pow_right (by decide) hn
    have h2 : B ^ 30 < 2 ^ 1201 := by decide +kernel
    exact Nat.lt_of_le_of_lt (Nat.le_trans h h1) (Nat.lt_of_lt_of_le h2 (Nat.pow_le_pow_right (by decide) (by decide)))
theorem Ex.log (f : List Nat → Int) (g : Int) {e : Ex} (h : Sm f g e) (hn : e.n ≤ 60) : (e.v f g).natAbs.log2 < 1920 := log_bd (Ex.bd f g e h) (by have := e.lv_le; omega)
end K01
namespace K01
open Mv
theorem LINE_eq : LINE = 16777216 := rfl
abbrev I (i : Int) : Slot := some (.imm (.int i))
abbrev S (s : List Nat) : Slot := some (.imm (.str s))
abbrev V (d : D) : Slot := some (.imm d)
theorem joined_call (k : Nat) (o : Bi) (x y : Int) (h : x.natAbs.log2 + y.natAbs.log2 < 1000000) : callK prog (k + 1) 0 [.imm (.str o.s), .imm (.int x), .imm (.int y)] = .ret (.imm (.int (o.v x y))) [S o.s, I x, I y] := by
  rw [callK]
  show callF (callK prog k) f0 _ = _
  unfold callF
  have m := okM_true h
  cases o
  · simp [f0, b0, Bi.s, Bi.v, apEq]
  · simp [f0, b0, Bi.s, Bi.v, apEq]
  · simp [f0, b0, Bi.s, Bi.v, apEq, m]
  · by_cases c : x = y
    · simp [f0, b0, Bi.s, Bi.v, apEq, c]
    · simp [f0, b0, Bi.s, Bi.v, apEq, c, beq_false_of_ne c]
  · by_cases c : x = y
    · simp [f0, b0, Bi.s, Bi.v, apEq, apNe, c]
    · simp [f0, b0, Bi.s, Bi.v, apEq, apNe, c, beq_false_of_ne c]
  · by_cases c : x < y <;> simp [f0, b0, Bi.s, Bi.v, apEq, c]
  · by_cases c : x ≤ y <;> simp [f0, b0, Bi.s, Bi.v, apEq, c]
  · by_cases c : x = 0
    · simp [f0, b0, Bi.s, Bi.v, apEq, apNe, c]
    · by_cases c2 : y = 0
      · simp [f0, b0, Bi.s, Bi.v, apEq, apNe, c, c2, beq_false_of_ne c]
      · simp [f0, b0, Bi.s, Bi.v, apEq, apNe, c, c2, beq_false_of_ne c, beq_false_of_ne c2]
  · by_cases c : x = 0
    · by_cases c2 : y = 0
      · simp [f0, b0, Bi.s, Bi.v, apEq, apNe, c, c2]
      · simp [f0, b0, Bi.s, Bi.v, apEq, apNe, c, c2, beq_false_of_ne c2]
    · simp [f0, b0, Bi.s, Bi.v, apEq, apNe, c, beq_false_of_ne c]
theorem ljoin2_call (k : Nat) (o : Bi) (x y : Int) (h : x.natAbs.log2 + y.natAbs.log2 < 1000000) : callK prog (k + 1) 16 [.imm (.str o.s), .oL [.imm (.int x), .imm (.int y)]] = .ret (.imm (.int (o.v x y))) [S o.s, some (.oL [.imm (.int x), .imm (.int y)])] := by
  rw [callK]
  show callF (callK prog k) f16 _ = _
  unfold callF
  have m := okM_true h
  cases o
  · simp [f16, b16, Bi.s, Bi.v, apEq, apItem, atD]
  · simp [f16, b16, Bi.s, Bi.v, apEq, apItem, atD]
  · simp [f16, b16, Bi.s, Bi.v, apEq, apItem, atD, m]
  · by_cases c : x = y
    · simp [f16, b16, Bi.s, Bi.v, apEq, apItem, atD, c]
    · have c' : ¬ x - y = 0 := by omega
      simp [f16, b16, Bi.s, Bi.v, apEq, apItem, atD, c, beq_false_of_ne c']
  · by_cases c : x = y
    · simp [f16, b16, Bi.s, Bi.v, apEq, apItem, atD, c]
    · have c' : ¬ x - y = 0 := by omega
      simp [f16, b16, Bi.s, Bi.v, apEq, apItem, atD, c, beq_false_of_ne c']
  · by_cases c : x < y
    · have c' : 0 < y - x := by omega
      simp [f16, b16, Bi.s, Bi.v, apEq, apItem, atD, c, c']
    · have c' : ¬ 0 < y - x := by omega
      simp [f16, b16, Bi.s, Bi.v, apEq, apItem, atD, c, c']
  · by_cases c : x ≤ y
    · have c' : 0 ≤ y - x := by omega
      simp [f16, b16, Bi.s, Bi.v, apEq, apItem, atD, c, c']
    · have c' : ¬ 0 ≤ y - x := by omega
      simp [f16, b16, Bi.s, Bi.v, apEq, apItem, atD, c, c']
  · by_cases c : x = 0
    · simp [f16, b16, Bi.s, Bi.v, apEq, apItem, atD, c]
    · by_cases c2 : y = 0
      · simp [f16, b16, Bi.s, Bi.v, apEq, apItem, atD, c, c2, beq_false_of_ne c]
      · simp [f16, b16, Bi.s, Bi.v, apEq, apItem, atD, c, c2, beq_false_of_ne c, beq_false_of_ne c2]
  · by_cases c : x = 0
    · by_cases c2 : y = 0
      · simp [f16, b16, Bi.s, Bi.v, apEq, apItem, atD, c, c2]
      · simp [f16, b16, Bi.s, Bi.v, apEq, apItem, atD, c, c2, beq_false_of_ne c2]
    · simp [f16, b16, Bi.s, Bi.v, apEq, apItem, atD, c, beq_false_of_ne c]
theorem ljoin1_call (k : Nat) (o : Un) (x : Int) : callK prog (k + 1) 16 [.imm (.str o.s), .oL [.imm (.int x)]] = .ret (.imm (.int (o.v x))) [S o.s, some (.oL [.imm (.int x)])] := by
  rw [callK]
  show callF (callK prog k) f16 _ = _
  unfold callF
  cases o
  · by_cases c : x = 0
    · simp [f16, b16, Un.s, Un.v, apEq, apItem, atD, c]
    · simp [f16, b16, Un.s, Un.v, apEq, apItem, atD, c, beq_false_of_ne c]
  · simp [f16, b16, Un.s, Un.v, apEq, apItem, atD]
/-- the table knows the names -/
def Kn (l : List (KD × D)) (f : List Nat → Int) (ws : List (List Nat)) : Prop := ∀ w, w ∈ ws → dget l (.inr w) = some (.int (f w))
theorem value_call (l : List (KD × D)) (f : List Nat → Int) (g : Int) : ∀ (e : Ex) (k : Nat), e.h ≤ k → e.n ≤ 60 → Sm f g e → Kn l f e.ws → callK prog (k + 1) 1 [.imm e.d, .oD l, .imm (.int g)] = .ret (.imm (.int (e.v f g))) [V e.d, some (.oD l), I g] := by
  intro e
  induction e with
  | num n => intro k hk hn sm kn; rw [callK]; show callF (callK prog k) f1 _ = _; unfold callF; simp [f1, b1, Ex.d, Ex.v, apEq, apItem, atD]
  | name w =>
    intro k hk hn sm kn
    have := kn w (by simp [Ex.ws])
    rw [callK]; show callF (callK prog k) f1 _ = _; unfold callF
    simp [f1, b1, Ex.d, Ex.v, apEq, apItem, atD, this]
  | arg => intro k hk hn sm kn; rw [callK]; show callF (callK prog k) f1 _ = _; unfold callF; simp [f1, b1, Ex.d, Ex.v, apEq, apItem, atD]
  | un o a ih =>
    intro k hk hn sm kn
    obtain ⟨k, rfl⟩ : ∃ j, k = j + 1 := ⟨k - 1, by have := (Ex.un o a).h_pos; omega⟩
    have c := ih k (by simp only [Ex.h] at hk; omega) (by simp only [Ex.n] at hn; omega) sm kn
    rw [callK]; show callF (callK prog (k + 1)) f1 _ = _
    generalize callK prog (k + 1) = cf at c ⊢
    unfold callF
    cases o
    · by_cases z : a.v f g = 0
      · rw [z] at c; simp [f1, b1, Ex.d, Ex.v, Un.s, Un.v, apEq, apItem, atD, c, z]
      · simp [f1, b1, Ex.d, Ex.v, Un.s, Un.v, apEq, apItem, atD, c, z, beq_false_of_ne z]
    · simp [f1, b1, Ex.d, Ex.v, Un.s, Un.v, apEq, apItem, atD, c]
  | bin o a b iha ihb =>
    intro k hk hn sm kn
    obtain ⟨k, rfl⟩ : ∃ j, k = j + 1 := ⟨k - 1, by have := (Ex.bin o a b).h_pos; omega⟩
    simp only [Ex.h] at hk
    simp only [Ex.n] at hn
    have c1 := iha k (by omega) (by omega) sm.1 fun w h => kn w (by simp [Ex.ws, h])
    have c2 := ihb k (by omega) (by omega) sm.2 fun w h => kn w (by simp [Ex.ws, h])
    have l1 := Ex.log f g sm.1 (by omega)
    have l2 := Ex.log f g sm.2 (by omega)
    have c3 := joined_call k o (a.v f g) (b.v f g) (by omega)
    rw [callK]; show callF (callK prog (k + 1)) f1 _ = _
    generalize callK prog (k + 1) = cf at c1 c2 c3 ⊢
    unfold callF
    have n1 : (o.s == sNum) = false := by cases o <;> rfl
    have n2 : (o.s == sName) = false := by cases o <;> rfl
    have n3 : (o.s == sArg) = false := by cases o <;> rfl
    have n4 : (o.s == [110, 111, 116]) = false := by cases o <;> rfl
    have n5 : (o.s == [109, 105, 110, 117, 115]) = false := by cases o <;> rfl
    simp [f1, b1, Ex.d, Ex.v, apEq, apItem, atD, n1, n2, n3, n4, n5, c1, c2, c3]
end K01
namespace Mv
theorem comp_run {α : Type} {ρ1 : Loc} {os : List Od} {tg : Tg} {own : List Nat} {test : Loc → Res Bool} {elt : Loc → Res RV} (dd : α → D) (f : α → Option RV) (ap : apartO own os = true) :
    ∀ (xs : List α) (acc : List RV) (ρ : Loc), wipes ρ own = wipes ρ1 own → xs.length + acc.length ≤ LINE → (∀ x, x ∈ xs → ∃ ρ', testK elt (giveT test (give (wipes ρ1 own) tg (dd x))) = .ok (f x) ρ' ∧ wipes ρ' own = wipes ρ1 own) →
      compEnd ρ1 own (compLoop ρ1 os tg own test elt (xs.map dd) acc ρ) = .ok (.oL (acc ++ xs.filterMap f)) ρ1
  | [], acc, ρ, h, _, _ => by
    rw [List.map_nil, compLoop, if_pos (stable_own h ap)]
    show Res.ok (RV.oL acc) (unwipe ρ1 ρ own) = _
    rw [unwipe_own h]; simp
  | d :: r, acc, ρ, h, l, st => by
    rw [List.map_cons, compLoop, if_pos (stable_own h ap), h]
    obtain ⟨ρ', e, w⟩ := st d (by simp)
    rw [e]
    have ih := fun acc l => comp_run (tg := tg) (test := test) (elt := elt) dd f ap r acc ρ' w l fun d hd => st d (by simp [hd])
    simp only [List.length_cons] at l
    cases hf : f d with
    | none =>
      show compEnd ρ1 own (compLoop ρ1 os tg own test elt (r.map dd) acc ρ') = _
      rw [ih acc (by omega), List.filterMap_cons, hf]
    | some x =>
      show compEnd ρ1 own (if acc.length < LINE then compLoop ρ1 os tg own test elt (r.map dd) (acc ++ [x]) ρ' else .fail) = _
      rw [if_pos (by omega), ih (acc ++ [x]) (by simp; omega), List.filterMap_cons, hf]
      simp
/-- a comprehension without a condition over items of one kind -/
theorem comp_map {α : Type} {cf : Nat → List RV → CRes} {e : ME} {ρ1 : Loc} {os : List Od} {own : Nat} (dd : α → D) (g : α → RV) (xs : List α) (hl : xs.length ≤ LINE) (ap : apartO [own] os = true)
    (st : ∀ x, x ∈ xs → ∃ ρ', evE cf e ((wipes ρ1 [own]).set own (some (.imm (dd x)))) = .ok (g x) ρ' ∧ wipes ρ' [own] = wipes ρ1 [own]) :
    compEnd ρ1 [own] (compLoop ρ1 os (.name own) [own] (evC cf []) (evE cf e) (xs.map dd) [] ρ1) = .ok (.oL (xs.map g)) ρ1 := by
  rw [comp_run dd (fun x => some (g x)) ap xs [] ρ1 rfl (by simpa using hl) fun x hx => ?_]
  · rw [List.nil_append]
    congr 2
    induction xs with
    | nil => rfl
    | cons x r ih => rw [List.filterMap_cons, List.map_cons]; simp only [List.cons.injEq, true_and]; exact ih (by simp at hl; omega) fun y hy => st y (by simp [hy])
  · obtain ⟨ρ', e1, w⟩ := st x hx
    exact ⟨ρ', by simp only [give, giveT, evC_nil, testK, e1, mapR], w⟩
end Mv
namespace K01
open Mv
def Ex.ps : Ex → List Ex
  | .un _ a => [a]
  | .bin _ a b => [a, b]
  | _ => []
theorem ps_h {e x : Ex} (h : x ∈ e.ps) : x.h < e.h := by
  cases e <;> simp only [Ex.ps, List.mem_cons, List.not_mem_nil, or_false] at h
  · subst h; simp [Ex.h]
  · rcases h with rfl | rfl <;> simp only [Ex.h] <;> omega
theorem ps_len (e : Ex) : e.ps.length ≤ LINE := Nat.le_trans (m := 2) (by cases e <;> simp [Ex.ps]) (by decide)
theorem Bi.nolf (o : Bi) : isIn (.str o.s) (.tup [.str sNum, .str sName, .str sArg]) = some false := by cases o <;> rfl
theorem Un.nolf (o : Un) : isIn (.str o.s) (.tup [.str sNum, .str sName, .str sArg]) = some false := by cases o <;> rfl
theorem parts_call (k : Nat) (e : Ex) : callK prog (k + 1) 2 [.imm e.d] = .ret (.imm (.tup (e.ps.map Ex.d))) [V e.d] := by
  rw [callK]
  show callF (callK prog k) f2 _ = _
  unfold callF
  have h1 : isIn (.str sNum) (.tup [.str sNum, .str sName, .str sArg]) = some true := by rfl
  have h2 : isIn (.str sName) (.tup [.str sNum, .str sName, .str sArg]) = some true := by rfl
  have h3 : isIn (.str sArg) (.tup [.str sNum, .str sName, .str sArg]) = some true := by rfl
  cases e with
  | num n => simp [f2, b2, Ex.d, Ex.ps, apItem, atD, h1, LINE_eq]
  | name n => simp [f2, b2, Ex.d, Ex.ps, apItem, atD, h2, LINE_eq]
  | arg => simp [f2, b2, Ex.d, Ex.ps, apItem, atD, h3, LINE_eq]
  | un o a => simp [f2, b2, Ex.d, Ex.ps, apItem, atD, o.nolf, LINE_eq, cut, cutIx]
  | bin o a b => simp [f2, b2, Ex.d, Ex.ps, apItem, atD, o.nolf, LINE_eq, cut, cutIx]
@[simp] theorem ints_map {α : Type} (xs : List α) (g : α → Int) : imms (xs.map fun x => RV.imm (D.int (g x))) = some ((xs.map g).map D.int) := by
  rw [show (xs.map fun x => RV.imm (D.int (g x))) = (xs.map g).map fun i => RV.imm (D.int i) from by rw [List.map_map]; rfl]
  exact imms_ints _
theorem nodes_call : ∀ (k : Nat) (e : Ex), e.h ≤ k → callK prog (k + 1) 3 [.imm e.d] = .ret (.imm (.int e.n)) [V e.d]
  | 0, e, h => by have := e.h_pos; omega
  | k + 1, e, h => by
    have pc := parts_call k e
    have ih : ∀ x, x ∈ e.ps → callK prog (k + 1) 3 [.imm x.d] = .ret (.imm (.int x.n)) [V x.d] := fun x hx => nodes_call k x (by have := ps_h hx; omega)
    rw [callK]
    show callF (callK prog (k + 1)) f3 _ = _
    generalize callK prog (k + 1) = cf at pc ih
    unfold callF
    simp [f3, b3, pc, -List.map_map]
    rw [comp_map Ex.d (fun x => RV.imm (.int x.n)) e.ps (ps_len e) (by simp) (fun x hx => ⟨[V e.d, V x.d], by simp [ih x hx], by simp⟩)]
    simp [-List.map_map]
    cases e <;> simp [Ex.ps, Ex.n] <;> omega
end K01
namespace K01
open Mv
theorem depth_call : ∀ (k : Nat) (e : Ex), e.h ≤ k → callK prog (k + 1) 4 [.imm e.d] = .ret (.imm (.int e.h)) [V e.d]
  | 0, e, h => by have := e.h_pos; omega
  | k + 1, e, h => by
    have pc := parts_call k e
    have ih : ∀ x, x ∈ e.ps → callK prog (k + 1) 4 [.imm x.d] = .ret (.imm (.int x.h)) [V x.d] := fun x hx => depth_call k x (by have := ps_h hx; omega)
    rw [callK]
    show callF (callK prog (k + 1)) f4 _ = _
    generalize callK prog (k + 1) = cf at pc ih
    unfold callF
    simp [f4, b4, pc, -List.map_map]
    rw [comp_map Ex.d (fun x => RV.imm (.int x.h)) e.ps (ps_len e) (by simp) (fun x hx => ⟨[V e.d, V x.d], by simp [ih x hx], by simp⟩)]
    simp [-List.map_map]
    cases e with
    | num _ => simp [Ex.ps, Ex.h, mxd]
    | name _ => simp [Ex.ps, Ex.h, mxd]
    | arg => simp [Ex.ps, Ex.h, mxd]
    | un o a => simp [Ex.ps, Ex.h, mxd, mxI]; omega
    | bin o a b => simp [Ex.ps, Ex.h, mxd, mxI]; split <;> omega
@[simp] theorem bls_map {α : Type} (xs : List α) (g : α → Bool) : bls? (xs.map fun x => D.bl (g x)) = some (xs.map g) := by
  induction xs with
  | nil => rfl
  | cons x r ih => rw [List.map_cons, bls?, ih]; rfl
theorem imms_of {α : Type} (xs : List α) (g : α → D) : imms (xs.map fun x => RV.imm (g x)) = some (xs.map g) := by
  rw [show (xs.map fun x => RV.imm (g x)) = (xs.map g).map RV.imm from by rw [List.map_map]; rfl, imms_map]
theorem harg_call : ∀ (k : Nat) (e : Ex), e.h ≤ k → callK prog (k + 1) 7 [.imm e.d] = .ret (.imm (.bl e.ha)) [V e.d]
  | 0, e, h => by have := e.h_pos; omega
  | k + 1, e, h => by
    have pc := parts_call k e
    have ih : ∀ x, x ∈ e.ps → callK prog (k + 1) 7 [.imm x.d] = .ret (.imm (.bl x.ha)) [V x.d] := fun x hx => harg_call k x (by have := ps_h hx; omega)
    rw [callK]
    show callF (callK prog (k + 1)) f7 _ = _
    generalize callK prog (k + 1) = cf at pc ih
    unfold callF
    have cm := comp_map (cf := cf) (e := .call 7 [.var 1]) (ρ1 := [V e.d, none]) (os := [Sum.inr (RV.imm (D.tup (e.ps.map Ex.d)))]) (own := 1) Ex.d (fun x => RV.imm (.bl x.ha)) e.ps (ps_len e) (by simp) (fun x hx => ⟨[V e.d, V x.d], by simp [ih x hx], by simp⟩)
    have go : ∀ (hd : List Nat), (hd == sArg) = false → apItem e.d (.int 0) = some (.imm (.str hd)) → e.ha = (e.ps.map Ex.ha).any id → endC 1 [] (evSs cf b7 [V e.d, none]) = .ret (.imm (.bl e.ha)) [V e.d] := fun hd h1 h2 h3 => by
      have h2 : Op.ap .item [e.d, .int 0] = some (.imm (.str hd)) := h2
      simp [b7, pc, h2, apEq, h1, -List.map_map]
      rw [cm]
      simp [imms_of, -List.map_map]
      simp [h3, Mv.bool]
    cases e with
    | num n => exact go sNum rfl rfl rfl
    | name n => exact go sName rfl rfl rfl
    | arg => simp [f7, b7, Ex.d, apEq, apItem, atD, Ex.ha]
    | un o a => exact go o.s (by cases o <;> rfl) rfl (by simp [Ex.ps, Ex.ha])
    | bin o a b => exact go o.s (by cases o <;> rfl) rfl (by simp [Ex.ps, Ex.ha])
abbrev O (T : List (List Nat)) : Slot := some (.oL (T.map fun t => .imm (.str t)))
@[simp] theorem imms_strs (l : List (List Nat)) : imms (l.map fun i => RV.imm (D.str i)) = some (l.map D.str) := imms_of l D.str
@[simp] theorem fzs_strs (l : List (List Nat)) : fzs (l.map fun i => RV.imm (D.str i)) = l.map D.str := by
  rw [show (l.map fun i => RV.imm (D.str i)) = (l.map D.str).map RV.imm from by rw [List.map_map]; rfl]; exact fzs_imm _
theorem ws_len : ∀ e : Ex, e.ws.length ≤ e.n
  | .num _ => by simp [Ex.ws]
  | .name _ => by simp [Ex.ws, Ex.n]
  | .arg => by simp [Ex.ws]
  | .un _ a => by have := ws_len a; simp only [Ex.ws, Ex.n]; omega
  | .bin _ a b => by have := ws_len a; have := ws_len b; simp only [Ex.ws, Ex.n, List.length_append]; omega
theorem words_call : ∀ (k : Nat) (e : Ex), e.h ≤ k → e.n ≤ 60 → callK prog (k + 1) 5 [.imm e.d] = .ret (.oL (e.ws.map fun t => .imm (.str t))) [V e.d]
  | 0, e, h, _ => by have := e.h_pos; omega
  | k + 1, e, h, hn => by
    have pc := parts_call k e
    have ih : ∀ x, x ∈ e.ps → callK prog (k + 1) 5 [.imm x.d] = .ret (.oL (x.ws.map fun t => .imm (.str t))) [V x.d] := fun x hx => words_call k x (by have := ps_h hx; omega) (by
      cases e <;> simp only [Ex.ps, List.mem_cons, List.not_mem_nil, or_false] at hx
      · subst hx; simp only [Ex.n] at hn; omega
      · simp only [Ex.n] at hn; rcases hx with rfl | rfl <;> omega)
    have hL : 1000 ≤ LINE := by decide
    have hw := ws_len e
    rw [callK]
    show callF (callK prog (k + 1)) f5 _ = _
    generalize callK prog (k + 1) = cf at pc ih
    unfold callF
    cases e with
    | num n => simp [f5, b5, pc, Ex.ps, apEq, apItem, atD, Ex.ws, Ex.d, forLoop] at pc ⊢; simp [pc, forLoop]
    | name n => simp [f5, b5, Ex.ps, apEq, apItem, atD, Ex.ws, Ex.d, LINE_eq]
    | arg => simp [f5, b5, pc, Ex.ps, apEq, apItem, atD, Ex.ws, Ex.d, forLoop] at pc ⊢; simp [pc, forLoop]
    | un o a =>
      have i1 := ih a (by simp [Ex.ps])
      have n2 : (o.s == sName) = false := by cases o <;> rfl
      simp only [Ex.ws] at hw
      have l1 : a.ws.length ≤ LINE := by omega
      simp [Ex.ps, Ex.d] at pc
      simp [f5, b5, pc, apEq, apItem, atD, Ex.ws, Ex.d, forLoop, n2, i1, l1]
    | bin o a b =>
      have i1 := ih a (by simp [Ex.ps])
      have i2 := ih b (by simp [Ex.ps])
      have n2 : (o.s == sName) = false := by cases o <;> rfl
      simp only [Ex.ws, List.length_append] at hw
      have l1 : a.ws.length ≤ LINE := by omega
      have l2 : a.ws.length + b.ws.length ≤ LINE := by omega
      simp [Ex.ps, Ex.d] at pc
      simp [f5, b5, pc, apEq, apItem, atD, Ex.ws, Ex.d, forLoop, n2, i1, i2, l1, l2]
      rfl
theorem any_strs (T : List (List Nat)) (w : List Nat) : ((T.map D.str).any fun z => deq z (.str w)) = decide (w ∈ T) := by
  induction T with
  | nil => simp
  | cons t r ih =>
    rw [List.map_cons, List.any_cons, ih]
    by_cases c : t = w
    · subst c; simp
    · have c' : (t == w) = false := beq_false_of_ne c
      have c2 : ¬ w = t := fun z => c z.symm
      simp [c', c2]
theorem flat_strs (T : List (List Nat)) : (T.map D.str).all flatD = true := by
  induction T with
  | nil => rfl
  | cons t r ih => rw [List.map_cons, List.all_cons, ih]; rfl
theorem in_strs (T : List (List Nat)) (w : List Nat) : isIn (.str w) (.lst (T.map D.str)) = some (decide (w ∈ T)) := by
  rw [isIn_lst, any_strs, if_pos]
  unfold inOk
  rw [flat_strs]; rfl
theorem uq_len : ∀ (ws acc : List (List Nat)), (uq acc ws).length ≤ acc.length + ws.length
  | [], acc => by rw [uq]; simp
  | w :: r, acc => by
    rw [uq]
    split
    · have := uq_len r acc; simp only [List.length_cons]; omega
    · have := uq_len r (acc ++ [w]); simp only [List.length_cons, List.length_append, List.length_nil] at this ⊢; omega
def namB : List MS := [(.ite (.op .notIn [(.var 2), (.var 1)]) [(.expr (.meth 1 .append [(.var 2)]))] [])]
theorem names_loop (cf : Nat → List RV → CRes) (a : Slot) (os : List Od) (hos : ∀ ρ0 ρ, stable ρ0 ρ os = true) : ∀ (ws acc : List (List Nat)) (x : Slot) (ρ0 : Loc), acc.length + ws.length < LINE →
    ∃ x', forLoop ρ0 os (.name 2) (evSs cf namB) (ws.map D.str) [a, O acc, x] = .nx [a, O (uq acc ws), x']
  | [], acc, x, ρ0, _ => ⟨x, by rw [List.map_nil, forLoop, if_pos (hos _ _), uq]⟩
  | w :: r, acc, x, ρ0, hl => by
    simp only [List.length_cons] at hl
    rw [List.map_cons, forLoop, if_pos (hos _ _)]
    by_cases c : w ∈ acc
    · obtain ⟨x', e⟩ := names_loop cf a os hos r acc (S w) ρ0 (by omega)
      refine ⟨x', ?_⟩
      rw [uq, if_pos c, ← e]
      simp [namB, in_strs, c]
    · obtain ⟨x', e⟩ := names_loop cf a os hos r (acc ++ [w]) (S w) ρ0 (by simp; omega)
      refine ⟨x', ?_⟩
      rw [uq, if_neg c, ← e]
      have h1 : acc.length < LINE := by omega
      simp [namB, in_strs, c, h1, O]
theorem names_call (k : Nat) (e : Ex) (h : e.h ≤ k) (hn : e.n ≤ 60) : callK prog (k + 2) 6 [.imm e.d] = .ret (.imm (.tup (e.ns.map .str))) [V e.d] := by
  have wc := words_call k e h hn
  rw [show k + 2 = (k + 1) + 1 from rfl, callK]
  show callF (callK prog (k + 1)) f6 _ = _
  generalize callK prog (k + 1) = cf at wc
  unfold callF
  have := ws_len e
  obtain ⟨x', e1⟩ := names_loop cf (V e.d) [Sum.inr (.oL (e.ws.map fun t => .imm (.str t)))] (fun _ _ => by simp) e.ws [] none [V e.d, O [], none] (Nat.lt_of_lt_of_le (m := 100) (by simp; omega) (by decide))
  unfold namB O at e1
  simp only [List.map_nil] at e1
  simp [f6, b6, wc, -List.map_map]
  rw [e1]
  simp [Ex.ns, -List.map_map]
def Kt (l : List (KD × D)) (t : List Nat → List Nat) (ws : List (List Nat)) : Prop := ∀ w, w ∈ ws → dget l (.inr w) = some (.str (t w))
theorem ren_call (l : List (KD × D)) (t : List Nat → List Nat) (fl : Ex) : ∀ (k : Nat) (e : Ex), e.h ≤ k → Kt l t e.ws → callK prog (k + 1) 8 [.imm e.d, .oD l, .imm fl.d] = .ret (.imm (Ex.ren t fl e).d) [V e.d, some (.oD l), V fl.d]
  | 0, e, h, _ => by have := e.h_pos; omega
  | k + 1, e, h, kt => by
    have ih : ∀ x, x ∈ e.ps → callK prog (k + 1) 8 [.imm x.d, .oD l, .imm fl.d] = .ret (.imm (Ex.ren t fl x).d) [V x.d, some (.oD l), V fl.d] := fun x hx => ren_call l t fl k x (by have := ps_h hx; omega) (fun w hw => kt w (by
      cases e <;> simp only [Ex.ps, List.mem_cons, List.not_mem_nil, or_false] at hx
      · subst hx; exact hw
      · rcases hx with rfl | rfl <;> simp [Ex.ws, hw]))
    rw [callK]
    show callF (callK prog (k + 1)) f8 _ = _
    generalize callK prog (k + 1) = cf at ih
    unfold callF
    have cm : ∀ os, apartO [3] os = true → compEnd [V e.d, some (.oD l), V fl.d, none] [3] (compLoop [V e.d, some (.oD l), V fl.d, none] os (.name 3) [3] (evC cf []) (evE cf (.call 8 [.var 3, .var 1, .var 2])) (e.ps.map Ex.d) [] [V e.d, some (.oD l), V fl.d, none]) = .ok (.oL (e.ps.map fun x => .imm (Ex.ren t fl x).d)) [V e.d, some (.oD l), V fl.d, none] := fun os ap =>
      comp_map Ex.d (fun x => RV.imm (Ex.ren t fl x).d) e.ps (ps_len e) ap (fun x hx => ⟨[V e.d, some (.oD l), V fl.d, V x.d], by simp [ih x hx], by simp⟩)
    cases e with
    | num n => simp [f8, b8, Ex.d, Ex.ren, apEq, apItem, atD]
    | name w =>
      have := kt w (by simp [Ex.ws])
      simp [f8, b8, Ex.d, Ex.ren, apEq, apItem, atD, this, LINE_eq]
    | arg => simp [f8, b8, Ex.d, Ex.ren, apEq, apItem, atD]
    | un o a =>
      have n1 : (o.s == sNum) = false := by cases o <;> rfl
      have n2 : (o.s == sName) = false := by cases o <;> rfl
      have n3 : (o.s == sArg) = false := by cases o <;> rfl
      simp only [Ex.d, Ex.ps, List.map_cons, List.map_nil] at cm
      simp [f8, b8, Ex.d, Ex.ren, apEq, apItem, atD, n1, n2, n3, cut, cutIx, LINE_eq]
      rw [cm _ (by simp)]
      simp [LINE_eq]
    | bin o a b =>
      have n1 : (o.s == sNum) = false := by cases o <;> rfl
      have n2 : (o.s == sName) = false := by cases o <;> rfl
      have n3 : (o.s == sArg) = false := by cases o <;> rfl
      simp only [Ex.d, Ex.ps, List.map_cons, List.map_nil] at cm
      simp [f8, b8, Ex.d, Ex.ren, apEq, apItem, atD, n1, n2, n3, cut, cutIx, LINE_eq]
      rw [cm _ (by simp)]
      simp [LINE_eq]
end K01
namespace K01
open Mv
theorem uq_key (p : List (List Nat)) : ∀ (ws q : List (List Nat)), uq (p ++ q.filter (fun w => decide (w ∉ p))) ws = p ++ (uq q ws).filter (fun w => decide (w ∉ p))
  | [], q => by rw [uq, uq]
  | w :: r, q => by
    rw [uq, uq]
    by_cases hp : w ∈ p
    · rw [if_pos (List.mem_append_left _ hp)]
      by_cases hq : w ∈ q
      · rw [if_pos hq]; exact uq_key p r q
      · rw [if_neg hq, ← uq_key p r (q ++ [w])]
        simp [hp]
    · by_cases hq : w ∈ q
      · rw [if_pos hq, if_pos (List.mem_append_right _ (List.mem_filter.mpr ⟨hq, decide_eq_true hp⟩))]
        exact uq_key p r q
      · rw [if_neg hq, if_neg (fun z => by
          rcases List.mem_append.mp z with z | z
          · exact hp z
          · exact hq (List.mem_filter.mp z).1), ← uq_key p r (q ++ [w])]
        simp [hp]
theorem uq_app (p ws : List (List Nat)) : uq p ws = p ++ (uq [] ws).filter (fun w => decide (w ∉ p)) := by
  have := uq_key p ws []
  simpa using this
theorem uq_cat : ∀ (x acc y : List (List Nat)), uq acc (x ++ y) = uq (uq acc x) y
  | [], acc, y => by rw [List.nil_append, uq]
  | w :: r, acc, y => by
    rw [List.cons_append, uq, uq]
    split
    · exact uq_cat r acc y
    · exact uq_cat r _ y
theorem ns_bin (o : Bi) (a b : Ex) : (Ex.bin o a b).ns = a.ns ++ b.ns.filter (fun w => !decide (w ∈ a.ns)) := by
  show uq [] (a.ws ++ b.ws) = _
  rw [uq_cat, uq_app]
  show a.ns ++ b.ns.filter (fun w => decide (w ∉ a.ns)) = _
  congr 2
  funext w
  by_cases c : w ∈ a.ns <;> simp [c]
theorem ns_len (e : Ex) : e.ns.length ≤ e.n := by
  have := uq_len e.ws []
  have := ws_len e
  simp only [List.length_nil] at *
  unfold Ex.ns; omega
/-- a built expression as the law keeps it -/
def It (e : Ex) (vs : List Int) : D := .lst [e.d, .lst (vs.map .int), .int e.n, .int e.h, .lst (e.ns.map .str), .bl e.ha]
def itRV (e : Ex) (vs : List Int) : RV := .oL [.imm e.d, .oL (vs.map fun i => .imm (.int i)), .imm (.int e.n), .imm (.int e.h), .imm (.lst (e.ns.map .str)), .imm (.bl e.ha)]
theorem fz_itRV (e : Ex) (vs : List Int) : fz (itRV e vs) = It e vs := by
  simp [itRV, It, fz, fzs]
@[simp] theorem fzs_strs2 (l : List (List Nat)) : fzs (l.map (RV.imm ∘ D.str)) = l.map D.str := fzs_strs l
@[simp] theorem fzs_cat : ∀ (a b : List RV), fzs (a ++ b) = fzs a ++ fzs b
  | [], b => rfl
  | x :: a, b => by rw [List.cons_append, fzs, fzs, fzs_cat a b]; rfl
def ovB : List MS := [(.setix 2 (.const (.int 0)) (.op .add [(.idx 2 (.const (.int 0))), (.tup [(.op .item [(.var 3), (.const (.int 0))])])])), (.setix 2 (.const (.int 2)) (.op .add [(.idx 2 (.const (.int 2))), (.op .item [(.var 3), (.const (.int 2))])])), (.setix 2 (.const (.int 3)) (.op .max [(.idx 2 (.const (.int 3))), (.op .item [(.var 3), (.const (.int 3))])])), (.setix 2 (.const (.int 4)) (.op .add [(.idx 2 (.const (.int 4))), (.comp [4] .seq [(.op .item [(.var 3), (.const (.int 4))])] (.name 4) [(.op .notIn [(.var 4), (.idx 2 (.const (.int 4)))])] (.var 4))])), (.setix 2 (.const (.int 5)) (.or (.idx 2 (.const (.int 5))) (.op .item [(.var 3), (.const (.int 5))])))]
theorem over_turn (cf : Nat → List RV → CRes) (a0 p x5 x6 : Slot) (e : Ex) (vs : List Int) (T : List D) (v1 r : RV) (n h : Nat) (N : List (List Nat)) (b : Bool) (hr : fz r = .lst (N.map .str)) (hT : T.length ≤ 100) (hN : N.length ≤ 100) (he : e.n ≤ 60) :
    evSs cf ovB [a0, p, some (.oL [.imm (.tup T), v1, .imm (.int n), .imm (.int h), r, .imm (.bl b)]), V (It e vs), none, x5, x6] =
      .nx [a0, p, some (.oL [.imm (.tup (T ++ [e.d])), v1, .imm (.int ((n + e.n : Nat) : Int)), .imm (.int ((max h e.h : Nat) : Int)), .imm (.lst ((N ++ e.ns.filter (fun w => !decide (w ∈ N))).map .str)), .imm (.bl (b || e.ha))]), V (It e vs), none, x5, x6] := by
  have hns := ns_len e
  have L1 : T.length + 1 ≤ LINE := Nat.le_trans (m := 200) (by omega) (by decide)
  have L2 : e.ns.length ≤ LINE := Nat.le_trans (m := 200) (by omega) (by decide)
  have L3 : N.length + (e.ns.filter (fun w => !decide (w ∈ N))).length ≤ LINE := Nat.le_trans (m := 200) (by have := List.length_filter_le (fun w => !decide (w ∈ N)) e.ns; omega) (by decide)
  have mx : (if h < e.h then (e.h : Int) else (h : Int)) = ((max h e.h : Nat) : Int) := by split <;> omega
  have key : ∀ (t q1 q2 x7 : RV) (os : List Od), apartO [4] os = true →
      compEnd [a0, p, some (.oL [t, v1, q1, q2, .imm (.lst (N.map .str)), x7]), V (It e vs), none, x5, x6] [4] (compLoop [a0, p, some (.oL [t, v1, q1, q2, .imm (.lst (N.map .str)), x7]), V (It e vs), none, x5, x6] os (.name 4) [4]
        (evC cf [.op .notIn [.var 4, .idx 2 (.const (.int 4))]]) (evE cf (.var 4)) (e.ns.map .str) [] [a0, p, some (.oL [t, v1, q1, q2, .imm (.lst (N.map .str)), x7]), V (It e vs), none, x5, x6]) =
      .ok (.oL ((e.ns.filter (fun w => !decide (w ∈ N))).map fun w => .imm (.str w))) [a0, p, some (.oL [t, v1, q1, q2, .imm (.lst (N.map .str)), x7]), V (It e vs), none, x5, x6] := fun t q1 q2 x7 os ap => by
    rw [comp_run D.str (fun w => if w ∈ N then none else some (.imm (.str w))) ap e.ns [] _ rfl (by simpa using L2) fun w hw => ?_]
    · rw [List.nil_append]
      congr 2
      generalize e.ns = X
      induction X with
      | nil => rfl
      | cons w r ih => by_cases c : w ∈ N <;> simp [c, ih]
    · refine ⟨[a0, p, some (.oL [t, v1, q1, q2, .imm (.lst (N.map .str)), x7]), V (It e vs), S w, x5, x6], ?_, by simp⟩
      by_cases c : w ∈ N <;> simp [in_strs, c, fz]
  have K1 : 1 ≤ LINE := by decide
  simp only [It] at key ⊢
  simp [ovB, atD, setAt, fz, hr, L1, K1, apItem]
  rw [key _ _ _ _ _ (by simp)]
  simp [atD, setAt, fz, hr, L1, L3, K1, apItem, mx, Mv.bool]
  cases b <;> simp [setAt, atD, fz, Mv.bool]
theorem for_one {ρ0 ρ ρ1' ρ1 : Mv.Loc} {os : List Od} {tg : Tg} {body : Mv.Loc → SRes} {d1 : D} (s0 : stable ρ0 ρ os = true) (g1 : give ρ tg d1 = some ρ1') (b1 : body ρ1' = .nx ρ1) (s1 : stable ρ0 ρ1 os = true) : forLoop ρ0 os tg body [d1] ρ = .nx ρ1 := by
  rw [forLoop, if_pos s0, g1]
  show turnK _ (body ρ1') = _
  rw [b1]
  show forLoop ρ0 os tg body [] ρ1 = _
  rw [forLoop, if_pos s1]
theorem for_two {ρ0 ρ ρ1' ρ1 ρ2' ρ2 : Mv.Loc} {os : List Od} {tg : Tg} {body : Mv.Loc → SRes} {d1 d2 : D} (s0 : stable ρ0 ρ os = true) (g1 : give ρ tg d1 = some ρ1') (b1 : body ρ1' = .nx ρ1) (s1 : stable ρ0 ρ1 os = true) (g2 : give ρ1 tg d2 = some ρ2') (b2 : body ρ2' = .nx ρ2)
    (s2 : stable ρ0 ρ2 os = true) : forLoop ρ0 os tg body [d1, d2] ρ = .nx ρ2 := by
  rw [forLoop, if_pos s0, g1]
  show turnK _ (body ρ1') = _
  rw [b1]
  exact for_one s1 g2 b2 s2
abbrev Pt : Type := Ex × Int × Int
def Pt.it (x : Pt) : D := It x.1 [x.2.1, x.2.2]
def Pt.at_ (x : Pt) : Nat → Int
  | 0 => x.2.1
  | _ => x.2.2
def ovV : List MS := [(.expr (.meth2 2 1 .append [(.call 16 [(.var 0), (.comp [6] .seq [(.var 1)] (.name 6) [] (.op .item [(.op .item [(.var 6), (.const (.int 1))]), (.var 5)]))])]))]
theorem over_val (cf : Nat → List RV → CRes) (o : List Nat) (xs : List Pt) (hx : xs.length ≤ 2) (k : Nat) (hk : k = 0 ∨ k = 1) (r : Int) (hc : cf 16 [.imm (.str o), .oL (xs.map fun x => .imm (.int (x.at_ k)))] = .ret (.imm (.int r)) [S o, some (.oL (xs.map fun x => .imm (.int (x.at_ k))))])
    (t q1 q2 q3 q4 : RV) (l : List RV) (hl : l.length ≤ 5) (x3 : Slot) :
    evSs cf ovV [S o, some (.oL (xs.map fun x => .imm x.it)), some (.oL [t, .oL l, q1, q2, q3, q4]), x3, none, I k, none] = .nx [S o, some (.oL (xs.map fun x => .imm x.it)), some (.oL [t, .oL (l ++ [.imm (.int r)]), q1, q2, q3, q4]), x3, none, I k, none] := by
  have vp : vw (.oL (xs.map fun x => .imm x.it)) = some (.lst (xs.map Pt.it)) := by show (imms _).map D.lst = _; rw [imms_of]; rfl
  have L1 : l.length < LINE := Nat.lt_of_lt_of_le (m := 10) (by omega) (by decide)
  have cm : ∀ os, apartO [6] os = true → compEnd [S o, some (.oL (xs.map fun x => .imm x.it)), none, x3, none, I k, none] [6] (compLoop [S o, some (.oL (xs.map fun x => .imm x.it)), none, x3, none, I k, none] os (.name 6) [6] (evC cf [])
      (evE cf (.op .item [(.op .item [(.var 6), (.const (.int 1))]), (.var 5)])) (xs.map Pt.it) [] [S o, some (.oL (xs.map fun x => .imm x.it)), none, x3, none, I k, none]) = .ok (.oL (xs.map fun x => .imm (.int (x.at_ k)))) [S o, some (.oL (xs.map fun x => .imm x.it)), none, x3, none, I k, none] := fun os ap =>
    comp_map Pt.it (fun x => .imm (.int (x.at_ k))) xs (Nat.le_trans hx (by decide)) ap fun x _ => ⟨[S o, some (.oL (xs.map fun x => .imm x.it)), none, x3, none, I k, V x.it], by rcases hk with rfl | rfl <;> simp [Pt.it, It, atD, Pt.at_], by simp⟩
  simp [ovV, vp]
  rw [cm _ (by simp)]
  simp [hc, L1]
theorem over_core (k : Nat) (o : List Nat) (xs : List Pt) (h0 : 0 < xs.length) (hx : xs.length ≤ 2) (hn : ∀ x, x ∈ xs → x.1.n ≤ 60) (r0 r1 : Int)
    (c0 : callK prog (k + 1) 16 [.imm (.str o), .oL (xs.map fun x => .imm (.int (x.at_ 0)))] = .ret (.imm (.int r0)) [S o, some (.oL (xs.map fun x => .imm (.int (x.at_ 0))))])
    (c1 : callK prog (k + 1) 16 [.imm (.str o), .oL (xs.map fun x => .imm (.int (x.at_ 1)))] = .ret (.imm (.int r1)) [S o, some (.oL (xs.map fun x => .imm (.int (x.at_ 1))))]) (e : Ex)
    (he : ∀ (os : List Od) ρ0, (∀ it x3, stable ρ0 [S o, some (.oL (xs.map fun x => .imm x.it)), it, x3, none, none, none] os = true) → ∃ x3, forLoop ρ0 os (.name 3) (evSs (callK prog (k + 1)) ovB) (xs.map Pt.it) [S o, some (.oL (xs.map fun x => .imm x.it)), some (.oL [.imm (.tup [.str o]), .oL [], .imm (.int (1 : Nat)), .imm (.int (0 : Nat)), .oL [], .imm (.bl false)]), none, none, none, none] =
      .nx [S o, some (.oL (xs.map fun x => .imm x.it)), some (.oL [.imm e.d, .oL [], .imm (.int e.n), .imm (.int ((e.h - 1 : Nat) : Int)), .imm (.lst (e.ns.map .str)), .imm (.bl e.ha)]), x3, none, none, none]) :
    callK prog (k + 2) 17 [.imm (.str o), .oL (xs.map fun x => .imm x.it)] = .ret (itRV e [r0, r1]) [S o, some (.oL (xs.map fun x => .imm x.it))] := by
  rw [show k + 2 = (k + 1) + 1 from rfl, callK]
  show callF (callK prog (k + 1)) f17 _ = _
  have vp : vw (.oL (xs.map fun x => .imm x.it)) = some (.lst (xs.map Pt.it)) := by show (imms _).map D.lst = _; rw [imms_of]; rfl
  obtain ⟨y, ys, rfl⟩ : ∃ y ys, xs = y :: ys := by
    cases xs with
    | nil => cases h0
    | cons y ys => exact ⟨y, ys, rfl⟩
  obtain ⟨x3, e1⟩ := he [Sum.inl 1] [S o, some (.oL ((y :: ys).map fun x => .imm x.it)), some (.oL [.imm (.tup [.str o]), .oL [], .imm (.int (1 : Nat)), .imm (.int (0 : Nat)), .oL [], .imm (.bl false)]), none, none, none, none] (fun it x3 => by simp [stable_inl_iff])
  have v0 := fun t q1 q2 q3 q4 => over_val (callK prog (k + 1)) o (y :: ys) hx 0 (.inl rfl) r0 c0 t q1 q2 q3 q4 [] (by simp) x3
  have v1 := fun t q1 q2 q3 q4 => over_val (callK prog (k + 1)) o (y :: ys) hx 1 (.inr rfl) r1 c1 t q1 q2 q3 q4 [.imm (.int r0)] (by simp) x3
  generalize callK prog (k + 1) = cf at e1 v0 v1
  have loop2 : forLoop [S o, some (.oL ((y :: ys).map fun x => .imm x.it)), some (.oL [.imm e.d, .oL [], .imm (.int e.n), .imm (.int ((e.h - 1 : Nat) : Int)), .imm (.lst (e.ns.map .str)), .imm (.bl e.ha)]), x3, none, none, none] [Sum.inr (.imm (.int 2))] (.name 5) (evSs cf ovV) (rangeL 0 2) [S o, some (.oL ((y :: ys).map fun x => .imm x.it)), some (.oL [.imm e.d, .oL [], .imm (.int e.n), .imm (.int ((e.h - 1 : Nat) : Int)), .imm (.lst (e.ns.map .str)), .imm (.bl e.ha)]), x3, none, none, none] =
      .nx [S o, some (.oL ((y :: ys).map fun x => .imm x.it)), some (.oL [.imm e.d, .oL [.imm (.int r0), .imm (.int r1)], .imm (.int e.n), .imm (.int ((e.h - 1 : Nat) : Int)), .imm (.lst (e.ns.map .str)), .imm (.bl e.ha)]), x3, none, I 1, none] := by
    exact for_two (d1 := .int 0) (d2 := .int 1) (by simp) rfl (v0 _ _ _ _ _) (by simp) rfl (v1 _ _ _ _ _) (by simp)
  have K1 : 1 ≤ LINE := by decide
  have K6 : 6 ≤ LINE := by decide
  have K0 : 0 ≤ LINE := by decide
  have hh : (((e.h - 1 : Nat) : Int) + 1) = (e.h : Int) := by have := e.h_pos; omega
  have ity : y.it = .lst [y.1.d, .lst [.int y.2.1, .int y.2.2], .int y.1.n, .int y.1.h, .lst (y.1.ns.map .str), .bl y.1.ha] := rfl
  unfold callF
  unfold ovB at e1
  unfold ovV at loop2
  have li : Op.ap .item [.lst ((y :: ys).map Pt.it), .int 0] = some (.imm y.it) := rfl
  have li2 : Op.ap .item [y.it, .int 1] = some (.imm (.lst [.int y.2.1, .int y.2.2])) := rfl
  generalize hP : (y :: ys).map (fun x => RV.imm x.it) = P at *
  generalize (y :: ys).map Pt.it = PD at *
  rw [show ((1 : Nat) : Int) = 1 from rfl, show ((0 : Nat) : Int) = 0 from rfl] at e1
  simp [f17, b17, vp, K1, K6, K0]
  rw [e1]
  simp [vp, li, li2]
  rw [loop2]
  simp [atD, setAt, fz, hh, itRV]
theorem filt_all (l : List (List Nat)) : l.filter (fun w => !decide (w ∈ ([] : List (List Nat)))) = l := by
  induction l with
  | nil => rfl
  | cons a r ih => rw [List.filter_cons]; simp
theorem over_un (k : Nat) (o : Un) (a : Ex) (x0 x1 : Int) (hn : a.n ≤ 60) : callK prog (k + 2) 17 [.imm (.str o.s), .oL [.imm (It a [x0, x1])]] = .ret (itRV (.un o a) [o.v x0, o.v x1]) [S o.s, some (.oL [.imm (It a [x0, x1])])] := by
  refine over_core k o.s [(a, x0, x1)] (by simp) (by simp) (fun x hx => by rw [List.mem_singleton.mp hx]; exact hn) _ _ (ljoin1_call k o x0) (ljoin1_call k o x1) (.un o a) fun os ρ0 st => ⟨V (It a [x0, x1]), ?_⟩
  have t := over_turn (callK prog (k + 1)) (S o.s) (some (.oL [.imm (It a [x0, x1])])) none none a [x0, x1] [.str o.s] (.oL []) (.oL []) 1 0 [] false rfl (by simp) (by simp) hn
  refine for_one (st _ _) rfl t ?_ |>.trans ?_
  · exact st _ _
  · congr 1
    have e1 : 1 + a.n = (Ex.un o a).n := by simp only [Ex.n]; omega
    have e2 : max 0 a.h = (Ex.un o a).h - 1 := by simp only [Ex.h]; omega
    have e3 : [] ++ a.ns.filter (fun w => !decide (w ∈ ([] : List (List Nat)))) = (Ex.un o a).ns := by rw [filt_all]; rfl
    rw [e1, e2, e3]
    rfl
theorem over_bin (k : Nat) (o : Bi) (a b : Ex) (x0 x1 y0 y1 : Int) (hn : a.n ≤ 60) (hm : b.n ≤ 60) (h0 : x0.natAbs.log2 + y0.natAbs.log2 < 1000000) (h1 : x1.natAbs.log2 + y1.natAbs.log2 < 1000000) :
    callK prog (k + 2) 17 [.imm (.str o.s), .oL [.imm (It a [x0, x1]), .imm (It b [y0, y1])]] = .ret (itRV (.bin o a b) [o.v x0 y0, o.v x1 y1]) [S o.s, some (.oL [.imm (It a [x0, x1]), .imm (It b [y0, y1])])] := by
  refine over_core k o.s [(a, x0, x1), (b, y0, y1)] (by simp) (by simp) (fun x hx => by
    rcases List.mem_cons.mp hx with rfl | hx
    · exact hn
    · rw [List.mem_singleton.mp hx]; exact hm) _ _ (ljoin2_call k o x0 y0 h0) (ljoin2_call k o x1 y1 h1) (.bin o a b) fun os ρ0 st => ⟨V (It b [y0, y1]), ?_⟩
  have nl := ns_len a
  have t1 := over_turn (callK prog (k + 1)) (S o.s) (some (.oL [.imm (It a [x0, x1]), .imm (It b [y0, y1])])) none none a [x0, x1] [.str o.s] (.oL []) (.oL []) 1 0 [] false rfl (by simp) (by simp) hn
  rw [filt_all] at t1
  have t2 := over_turn (callK prog (k + 1)) (S o.s) (some (.oL [.imm (It a [x0, x1]), .imm (It b [y0, y1])])) none none b [y0, y1] ([.str o.s] ++ [a.d]) (.oL []) (.imm (.lst (([] ++ a.ns).map .str))) (1 + a.n) (max 0 a.h) ([] ++ a.ns) (false || a.ha) rfl (by simp) (by simp; omega) hm
  refine for_two (st _ _) rfl t1 (st _ _) rfl t2 ?_ |>.trans ?_
  · exact st _ _
  · congr 1
    have e1 : 1 + a.n + b.n = (Ex.bin o a b).n := by simp only [Ex.n]; omega
    have e2 : max (max 0 a.h) b.h = (Ex.bin o a b).h - 1 := by simp only [Ex.h]; omega
    have e3 : [] ++ a.ns ++ b.ns.filter (fun w => !decide (w ∈ [] ++ a.ns)) = (Ex.bin o a b).ns := by rw [ns_bin]; rfl
    rw [e1, e2, e3]
    rfl
end K01
namespace K01
open Mv
/-- what is drawn once: the other names, the filling, the two rows -/
structure Ct where
  W : List (List Nat)
  t : List Nat → List Nat
  fl : Ex
  f0 : List Nat → Int
  f1 : List Nat → Int
  g0 : Int
  g1 : Int
def Ct.tw (C : Ct) (e : Ex) : Ex := Ex.ren C.t C.fl e
def Ct.F0 (C : Ct) : List Nat → Int := fun w => C.f0 (C.t w)
def Ct.F1 (C : Ct) : List Nat → Int := fun w => C.f1 (C.t w)
def Ct.G0 (C : Ct) : Int := C.fl.v C.f0 C.g0
def Ct.G1 (C : Ct) : Int := C.fl.v C.f1 C.g1
def Ct.one (C : Ct) (e : Ex) : D := It e [e.v C.F0 C.G0, e.v C.F1 C.G1]
def Ct.two (C : Ct) (e : Ex) : D := It (C.tw e) [(C.tw e).v C.f0 C.g0, (C.tw e).v C.f1 C.g1]
def Ct.pr (C : Ct) (e : Ex) : D := .lst [C.one e, C.two e]
/-- numbers up to 99, drawn names -/
def Lf (W : List (List Nat)) : Ex → Prop
  | .num n => n.natAbs ≤ 99
  | .name w => w ∈ W
  | .arg => True
  | .un _ a => Lf W a
  | .bin _ a b => Lf W a ∧ Lf W b
structure Good (C : Ct) (e : Ex) : Prop where
  n : e.n ≤ 60
  m : (C.tw e).n ≤ 60
  lf : Lf C.W e
/-- the drawn values are small, the drawn names known -/
structure Ct.Ok (C : Ct) : Prop where
  t : ∀ w, w ∈ C.W → C.t w ∈ C.W
  f0 : ∀ w, w ∈ C.W → (C.f0 w).natAbs ≤ B
  f1 : ∀ w, w ∈ C.W → (C.f1 w).natAbs ≤ B
  g0 : C.g0.natAbs ≤ B
  g1 : C.g1.natAbs ≤ B
  G0 : C.G0.natAbs ≤ B
  G1 : C.G1.natAbs ≤ B
  fl : Lf C.W C.fl
  fn : C.fl.n ≤ 3
theorem lf_sm {W : List (List Nat)} {f : List Nat → Int} {g : Int} (hf : ∀ w, w ∈ W → (f w).natAbs ≤ B) (hg : g.natAbs ≤ B) : ∀ {e : Ex}, Lf W e → Sm f g e
  | .num n, h => Nat.le_trans (show n.natAbs ≤ 99 from h) (by decide)
  | .name w, h => hf w h
  | .arg, _ => hg
  | .un _ a, h => lf_sm (e := a) hf hg h
  | .bin _ a b, h => ⟨lf_sm (e := a) hf hg h.1, lf_sm (e := b) hf hg h.2⟩
theorem lf_ren {C : Ct} (ok : C.Ok) : ∀ {e : Ex}, Lf C.W e → Lf C.W (C.tw e)
  | .num n, h => h
  | .name w, h => ok.t w h
  | .arg, _ => ok.fl
  | .un _ a, h => lf_ren (e := a) ok h
  | .bin _ a b, h => ⟨lf_ren (e := a) ok h.1, lf_ren (e := b) ok h.2⟩
theorem lf_ws {W : List (List Nat)} : ∀ {e : Ex}, Lf W e → ∀ w, w ∈ e.ws → w ∈ W
  | .num n, _, w, h => by cases h
  | .name v, l, w, h => by rw [List.mem_singleton.mp h]; exact l
  | .arg, _, w, h => by cases h
  | .un _ a, l, w, h => lf_ws (e := a) l w h
  | .bin _ a b, l, w, h => by
    rcases List.mem_append.mp h with h | h
    · exact lf_ws (e := a) l.1 w h
    · exact lf_ws (e := b) l.2 w h
structure Sms (C : Ct) (e : Ex) : Prop where
  a0 : Sm C.F0 C.G0 e
  a1 : Sm C.F1 C.G1 e
  b0 : Sm C.f0 C.g0 (C.tw e)
  b1 : Sm C.f1 C.g1 (C.tw e)
theorem Good.sms {C : Ct} (ok : C.Ok) {e : Ex} (h : Good C e) : Sms C e :=
  ⟨lf_sm (fun w hw => ok.f0 _ (ok.t w hw)) ok.G0 h.lf, lf_sm (fun w hw => ok.f1 _ (ok.t w hw)) ok.G1 h.lf, lf_sm ok.f0 ok.g0 (lf_ren ok h.lf), lf_sm ok.f1 ok.g1 (lf_ren ok h.lf)⟩
/-- an answer that is a built expression beside its twin -/
def BuiltP (C : Ct) (r : CRes) : Prop := ∃ R e s1 s2, r = .ret R [s1, s2] ∧ fz R = C.pr e ∧ Good C e
theorem both_core (C : Ct) (k : Nat) (o : List Nat) (xs : List Ex) (hx : xs.length ≤ 2) (y : Ex) (hy : xs.head? = some y) (gy : Good C y) (e : Ex) (ge : Lf C.W e)
    (c1 : callK prog (k + 2) 17 [.imm (.str o), .oL (xs.map fun x => .imm (C.one x))] = .ret (itRV e [e.v C.F0 C.G0, e.v C.F1 C.G1]) [S o, some (.oL (xs.map fun x => .imm (C.one x)))])
    (c2 : callK prog (k + 2) 17 [.imm (.str o), .oL (xs.map fun x => .imm (C.two x))] = .ret (itRV (C.tw e) [(C.tw e).v C.f0 C.g0, (C.tw e).v C.f1 C.g1]) [S o, some (.oL (xs.map fun x => .imm (C.two x)))]) :
    BuiltP C (callK prog (k + 3) 18 [.imm (.str o), .oL (xs.map fun x => .imm (C.pr x))]) := by
  rw [show k + 3 = (k + 2) + 1 from rfl, callK]
  show BuiltP C (callF (callK prog (k + 2)) f18 _)
  generalize callK prog (k + 2) = cf at c1 c2
  have vp : vw (.oL (xs.map fun x => .imm (C.pr x))) = some (.lst (xs.map C.pr)) := by show (imms _).map D.lst = _; rw [imms_of]; rfl
  have hl : xs.length ≤ LINE := Nat.le_trans hx (by decide)
  have cm1 : ∀ os, apartO [3] os = true → compEnd [S o, some (.oL (xs.map fun x => .imm (C.pr x))), none, none, none] [3] (compLoop [S o, some (.oL (xs.map fun x => .imm (C.pr x))), none, none, none] os (.name 3) [3] (evC cf []) (evE cf (.op .item [(.var 3), (.const (.int 0))])) (xs.map C.pr) [] [S o, some (.oL (xs.map fun x => .imm (C.pr x))), none, none, none]) =
      .ok (.oL (xs.map fun x => .imm (C.one x))) [S o, some (.oL (xs.map fun x => .imm (C.pr x))), none, none, none] := fun os ap =>
    comp_map C.pr (fun x => .imm (C.one x)) xs hl ap fun x _ => ⟨[S o, some (.oL (xs.map fun x => .imm (C.pr x))), none, V (C.pr x), none], by simp [Ct.pr, atD], by simp⟩
  have cm2 : ∀ z os, apartO [3] os = true → compEnd [S o, some (.oL (xs.map fun x => .imm (C.pr x))), z, none, none] [3] (compLoop [S o, some (.oL (xs.map fun x => .imm (C.pr x))), z, none, none] os (.name 3) [3] (evC cf []) (evE cf (.op .item [(.var 3), (.const (.int 1))])) (xs.map C.pr) [] [S o, some (.oL (xs.map fun x => .imm (C.pr x))), z, none, none]) =
      .ok (.oL (xs.map fun x => .imm (C.two x))) [S o, some (.oL (xs.map fun x => .imm (C.pr x))), z, none, none] := fun z os ap =>
    comp_map C.pr (fun x => .imm (C.two x)) xs hl ap fun x _ => ⟨[S o, some (.oL (xs.map fun x => .imm (C.pr x))), z, V (C.pr x), none], by simp [Ct.pr, atD], by simp⟩
  have it0 : Op.ap .item [.lst (xs.map C.pr), .int 0] = some (.imm (C.pr y)) := by
    cases xs with
    | nil => cases hy
    | cons a r => cases hy; rfl
  have K2 : 2 ≤ LINE := by decide
  unfold callF
  generalize (xs.map fun x => RV.imm (C.pr x)) = P at *
  simp [f18, b18, vp]
  rw [cm1 _ (by simp)]
  simp [c1, vp]
  rw [cm2 _ _ (by simp)]
  simp [c2, itRV, fz, it0, vp]
  by_cases h1 : (60 : Int) < e.n
  · simp [h1, it0, vp]
    exact ⟨_, y, _, _, rfl, rfl, gy⟩
  · by_cases h2 : (60 : Int) < (C.tw e).n
    · simp [h1, h2, it0, vp, fz]
      exact ⟨_, y, _, _, rfl, rfl, gy⟩
    · simp [h1, h2, K2, fz, fzs, it0, vp]
      exact ⟨_, e, _, _, rfl, by simp [fz, fzs, Ct.pr, Ct.one, Ct.two, It], by omega, by omega, ge⟩
theorem both_un (C : Ct) (ok : C.Ok) (k : Nat) (o : Un) (a : Ex) (ga : Good C a) : BuiltP C (callK prog (k + 3) 18 [.imm (.str o.s), .oL [.imm (C.pr a)]]) := by
  refine both_core C k o.s [a] (by simp) a rfl ga (.un o a) ga.lf ?_ ?_
  · exact over_un k o a _ _ ga.n
  · exact over_un k o (C.tw a) _ _ ga.m
theorem both_bin (C : Ct) (ok : C.Ok) (k : Nat) (o : Bi) (a b : Ex) (ga : Good C a) (gb : Good C b) : BuiltP C (callK prog (k + 3) 18 [.imm (.str o.s), .oL [.imm (C.pr a), .imm (C.pr b)]]) := by
  have sa := ga.sms ok
  have sb := gb.sms ok
  have l1 := Ex.log C.F0 C.G0 sa.a0 ga.n
  have l2 := Ex.log C.F1 C.G1 sa.a1 ga.n
  have l3 := Ex.log C.f0 C.g0 sa.b0 ga.m
  have l4 := Ex.log C.f1 C.g1 sa.b1 ga.m
  have l5 := Ex.log C.F0 C.G0 sb.a0 gb.n
  have l6 := Ex.log C.F1 C.G1 sb.a1 gb.n
  have l7 := Ex.log C.f0 C.g0 sb.b0 gb.m
  have l8 := Ex.log C.f1 C.g1 sb.b1 gb.m
  refine both_core C k o.s [a, b] (by simp) a rfl ga (.bin o a b) ⟨ga.lf, gb.lf⟩ ?_ ?_
  · exact over_bin k o a b _ _ _ _ ga.n gb.n (by omega) (by omega)
  · exact over_bin k o (C.tw a) (C.tw b) _ _ _ _ ga.m gb.m (by omega) (by omega)
end K01
namespace K01
open Mv
theorem p9 : prog 9 = some poolF := rfl
theorem p10 : prog 10 = some takeF := rfl
theorem p11 : prog 11 = some (pickF 10) := rfl
theorem p12 : prog 12 = some sameF := rfl
theorem _root_.Mv.Pool.Ok.up {p : Pool} {n m : Nat} (h : p.Ok n) (l : n ≤ m) : p.Ok m := ⟨h.at0, h.turn0, by have := h.turn1; omega⟩
theorem pick_imms (k : Nat) (p : Pool) (ds : List D) (n : Nat) (h0 : 0 < ds.length) (h1 : ds.length < 1073741824) (hp : p.Ok n) (hn : n < 4611686018427387904) :
    ∃ (j : Nat) (d : D) (p' : Pool), callK prog (k + 2) 11 [p.rv, .oL (ds.map .imm)] = .ret (.imm d) [some p'.rv, some (.oL (ds.map .imm))] ∧ ds[j]? = some d ∧ p'.Ok (n + 1) :=
  pick_call p11 p10 k p (.oL (ds.map .imm)) ds n (by simp) h0 h1 hp hn
abbrev Wr (C : Ct) : RV := .oL (C.W.map fun w => .imm (.str w))
abbrev Rr (l0 l1 : List (KD × D)) (C : Ct) : RV := .oL [.imm (.lst [.dic l0, .int C.g0]), .imm (.lst [.dic l1, .int C.g1])]
/-- the drawn dicts -/
structure Dk (C : Ct) (tl l0 l1 : List (KD × D)) : Prop where
  t : Kt tl C.t C.W
  a0 : Kn l0 C.f0 C.W
  a1 : Kn l1 C.f1 C.W
  w0 : 0 < C.W.length
  w4 : C.W.length ≤ 4
def Ct.flD (C : Ct) : D := It C.fl [C.G0, C.G1]
def FlOk (C : Ct) (R : RV) : Prop := R = .imm C.flD ∨ R = .oL [.imm C.fl.d, .imm (.lst [.int C.G0, .int C.G1]), .imm (.int C.fl.n), .imm (.int C.fl.h), .imm (.lst (C.fl.ns.map .str)), .imm (.bl C.fl.ha)]
theorem flok_vw {C : Ct} {R : RV} (h : FlOk C R) : vw R = some C.flD ∧ fz R = C.flD := by
  rcases h with rfl | rfl
  · exact ⟨rfl, rfl⟩
  · exact ⟨rfl, rfl⟩
theorem pick_word (C : Ct) {tl l0 l1 : List (KD × D)} (dk : Dk C tl l0 l1) (k : Nat) (p : Pool) (n : Nat) (hp : p.Ok n) (hn : n < 4611686018427387904) :
    ∃ (w : List Nat) (p' : Pool), callK prog (k + 2) 11 [p.rv, Wr C] = .ret (.imm (.str w)) [some p'.rv, some (Wr C)] ∧ w ∈ C.W ∧ p'.Ok (n + 1) := by
  obtain ⟨j, d, p', e, h, ok⟩ := pick_call p11 p10 k p (Wr C) (C.W.map .str) n (by show (imms _).map D.lst = _; rw [imms_strs]; rfl) (by rw [List.length_map]; exact dk.w0) (by rw [List.length_map]; have := dk.w4; omega) hp hn
  obtain ⟨w, hw, rfl⟩ := List.mem_map.mp (List.mem_of_getElem? h)
  exact ⟨w, p', e, hw, ok⟩
def LeafP (C : Ct) (tl l0 l1 : List (KD × D)) (n : Nat) (r : CRes) : Prop := ∃ R e p' R4, r = .ret R [some p'.rv, some (Wr C), some (.oD tl), some (Rr l0 l1 C), some R4] ∧ fz R = C.pr e ∧ Good C e ∧ Pool.Ok p' n ∧ FlOk C R4
theorem leaf_call (C : Ct) (ok : C.Ok) {tl l0 l1 : List (KD × D)} (dk : Dk C tl l0 l1) (k : Nat) (p : Pool) (R4 : RV) (n : Nat) (hp : p.Ok n) (hn : n < 100000) (h4 : FlOk C R4) :
    LeafP C tl l0 l1 (n + 3) (callK prog (k + 3) 20 [p.rv, Wr C, .oD tl, Rr l0 l1 C, R4]) := by
  rw [show k + 3 = (k + 2) + 1 from rfl, callK]
  show LeafP C tl l0 l1 (n + 3) (callF (callK prog (k + 2)) f20 _)
  obtain ⟨v4, z4⟩ := flok_vw h4
  have K1 : 1 ≤ LINE := by decide
  have K2 : 2 ≤ LINE := by decide
  have K6 : 6 ≤ LINE := by decide
  have K0 : 0 ≤ LINE := by decide
  have K4 : 4 ≤ LINE := by decide
  have P0 : 0 < LINE := by decide
  have P1 : 1 < LINE := by decide
  obtain ⟨v, p1, q1, q2, q3, q4⟩ := take_call p10 (k + 1) p 5 n hp (by omega) (by omega) (by omega)
  have q1 : callK prog (k + 2) 10 [p.rv, .imm (.int 5)] = _ := q1
  have fl1 : Op.ap .item [C.flD, .int 1] = some (.imm (.lst [.int C.G0, .int C.G1])) := rfl
  by_cases c0 : v = 0
  · subst c0
    have ga : Good C .arg := ⟨by simp [Ex.n], by have := ok.fn; show C.fl.n ≤ 60; omega, trivial⟩
    generalize callK prog (k + 2) = cf at q1
    unfold callF
    rcases h4 with rfl | rfl
    · simp [f20, b20, q1, apEq, fl1, K1, K6, K0, K2]
      exact ⟨_, .arg, p1, _, rfl, rfl, ga, q4.up (by omega), .inl rfl⟩
    · simp [f20, b20, q1, apEq, atD, K1, K6, K0, K2]
      exact ⟨_, .arg, p1, _, rfl, rfl, ga, q4.up (by omega), .inl rfl⟩
  · have e0 : (v == 0) = false := beq_false_of_ne c0
    by_cases c1 : v = 1
    · subst c1
      obtain ⟨u, p2, r1, r2, r3, r4⟩ := take_call p10 (k + 1) p1 100 (n + 1) q4 (by omega) (by omega) (by omega)
      have r1 : callK prog (k + 2) 10 [p1.rv, .imm (.int 100)] = _ := r1
      obtain ⟨j, d, p3, s1, s2, s3⟩ := pick_imms k p2 [.int 0, .int 1, .int 2, .int u] (n + 2) (by simp) (by simp) r4 (by omega)
      simp only [List.map_cons, List.map_nil] at s1
      obtain ⟨x, rfl, hx⟩ : ∃ x : Int, d = .int x ∧ x.natAbs ≤ 99 := by
        have := List.mem_of_getElem? s2
        simp at this
        rcases this with rfl | rfl | rfl | rfl
        · exact ⟨_, rfl, by decide⟩
        · exact ⟨_, rfl, by decide⟩
        · exact ⟨_, rfl, by decide⟩
        · exact ⟨_, rfl, by omega⟩
      have ga : Good C (.num x) := ⟨by simp [Ex.n], by simp [Ct.tw, Ex.ren, Ex.n], hx⟩
      generalize callK prog (k + 2) = cf at q1 r1 s1
      unfold callF
      simp [f20, b20, q1, apEq, r1, s1, K1, K6, K0, K2, K4, P0, P1, compLoop, stable_inl_iff]
      exact ⟨_, .num x, p3, R4, rfl, by simp [fz, fzs, Ct.pr, Ct.one, Ct.two, Ct.tw, Ex.ren, It, Ex.d, Ex.v, Ex.n, Ex.h, Ex.ns, Ex.ws, uq, Ex.ha], ga, s3.up (by omega), h4⟩
    · have e1 : (v == 1) = false := beq_false_of_ne c1
      obtain ⟨w, p2, r1, r2, r3⟩ := pick_word C dk k p1 (n + 1) q4 (by omega)
      have ga : Good C (.name w) := ⟨by simp [Ex.n], by simp [Ct.tw, Ex.ren, Ex.n], r2⟩
      have t1 := dk.t w r2
      have a0 := dk.a0 _ (ok.t w r2)
      have a1 := dk.a1 _ (ok.t w r2)
      generalize callK prog (k + 2) = cf at q1 r1
      unfold callF
      simp [f20, b20, q1, apEq, e0, e1, r1, K1, K6, K0, K2, K4, P0, P1, compLoop, stable_inl_iff, t1, a0, a1, atD]
      exact ⟨_, .name w, p2, R4, rfl, by simp [fz, fzs, Ct.pr, Ct.one, Ct.two, Ct.tw, Ct.F0, Ct.F1, Ex.ren, It, Ex.d, Ex.v, Ex.n, Ex.h, Ex.ns, Ex.ws, uq, Ex.ha], ga, r3.up (by omega), h4⟩
end K01
namespace K01
open Mv
def ops : List D := [.str [43], .str [45], .str [42], .str [61, 61], .str [33, 61], .str [60], .str [60, 61], .str [97, 110, 100], .str [111, 114]]
theorem ops_ok {d : D} {j : Nat} (h : ops[j]? = some d) : ∃ o : Bi, d = .str o.s := by
  have := List.mem_of_getElem? h
  simp only [ops, List.mem_cons, List.not_mem_nil, or_false] at this
  rcases this with rfl | rfl | rfl | rfl | rfl | rfl | rfl | rfl | rfl
  · exact ⟨.add, rfl⟩
  · exact ⟨.sub, rfl⟩
  · exact ⟨.mul, rfl⟩
  · exact ⟨.eq, rfl⟩
  · exact ⟨.ne, rfl⟩
  · exact ⟨.lt, rfl⟩
  · exact ⟨.le, rfl⟩
  · exact ⟨.an, rfl⟩
  · exact ⟨.or, rfl⟩
theorem uns_ok {d : D} {j : Nat} (h : ([.str [110, 111, 116], .str [109, 105, 110, 117, 115]] : List D)[j]? = some d) : ∃ o : Un, d = .str o.s := by
  have := List.mem_of_getElem? h
  simp only [List.mem_cons, List.not_mem_nil, or_false] at this
  rcases this with rfl | rfl
  · exact ⟨.nt, rfl⟩
  · exact ⟨.mn, rfl⟩
abbrev PR (C : Ct) (es : List Ex) : Slot := some (.oL (es.map fun e => .imm (C.pr e)))
abbrev OPS : Slot := some (.oL (ops.map .imm))
def unM : List MS := [(.expr (.meth 6 .append [(.call 18 [(.call 11 [(.var 0), (.list [(.const (.str [110, 111, 116])), (.const (.str [109, 105, 110, 117, 115]))])]), (.list [(.meth 6 .pop [])])])]))]
def binM : List MS := [(.asg (.name 9) (.meth 6 .pop [])), (.expr (.meth 6 .append [(.call 18 [(.call 11 [(.var 0), (.var 5)]), (.list [(.meth 6 .pop []), (.var 9)])])]))]
theorem pop1 (l : List RV) (d : D) : chg .pop (.oL (l ++ [.imm d])) [] = some (d, .oL l) := by simp [chg]
theorem pop2 (l : List RV) (x : RV) (d : D) : chg .pop (.oL (l ++ [x, .imm d])) [] = some (d, .oL (l ++ [x])) := by
  rw [show l ++ [x, .imm d] = (l ++ [x]) ++ [.imm d] from by simp, pop1]
theorem last1 {es : List Ex} (h : es ≠ []) : ∃ u a, es = u ++ [a] := ⟨es.dropLast, es.getLast h, (List.dropLast_concat_getLast h).symm⟩
theorem last2 {es : List Ex} (h : 1 < es.length) : ∃ u a b, es = u ++ [a, b] := by
  obtain ⟨u, b, rfl⟩ := last1 (es := es) (fun z => by subst z; simp at h)
  obtain ⟨v, a, rfl⟩ := last1 (es := u) (fun z => by subst z; simp at h)
  exact ⟨v, a, b, by simp⟩
theorem len_pr (C : Ct) (es : List Ex) : vw (.oL (es.map fun e => .imm (C.pr e))) = some (.lst (es.map C.pr)) := by show (imms _).map D.lst = _; rw [imms_of]; rfl
section
variable (C : Ct) (ok : C.Ok)
include ok
theorem un_step (k : Nat) (p : Pool) (n : Nat) (hp : p.Ok n) (hn : n < 200000) (w t r f x7 x8 x9 : Slot) (es : List Ex) (a : Ex) (ga : Good C a) (hl : es.length ≤ 500) :
    ∃ p' e, evSs (callK prog (k + 3)) unM [some p.rv, w, t, r, f, OPS, PR C (es ++ [a]), x7, x8, x9] = .nx [some p'.rv, w, t, r, f, OPS, PR C (es ++ [e]), x7, x8, x9] ∧ Good C e ∧ Pool.Ok p' (n + 1) := by
  obtain ⟨j, d, p1, q1, q2, q3⟩ := pick_imms (k + 1) p [.str [110, 111, 116], .str [109, 105, 110, 117, 115]] n (by decide) (by decide) hp (by omega)
  obtain ⟨o, rfl⟩ := uns_ok q2
  obtain ⟨R, e, s1, s2, r1, r2, r3⟩ := both_un C ok k o a ga
  simp only [List.map_cons, List.map_nil] at q1
  have q1 : callK prog (k + 3) 11 _ = _ := q1
  refine ⟨p1, e, ?_, r3, q3⟩
  generalize callK prog (k + 3) = cf at q1 r1
  have K1 : 1 ≤ LINE := by decide
  have K2 : 2 ≤ LINE := by decide
  have L1 : es.length < LINE := Nat.lt_of_lt_of_le (m := 1000) (by omega) (by decide)
  simp [unM, q1, K1, K2, r1, r2, L1, PR, pop1, pop2]
theorem bin_step (k : Nat) (p : Pool) (n : Nat) (hp : p.Ok n) (hn : n < 200000) (w t r f x7 x8 x9 : Slot) (es : List Ex) (a b : Ex) (ga : Good C a) (gb : Good C b) (hl : es.length ≤ 500) :
    ∃ p' e, evSs (callK prog (k + 3)) binM [some p.rv, w, t, r, f, OPS, PR C (es ++ [a, b]), x7, x8, x9] = .nx [some p'.rv, w, t, r, f, OPS, PR C (es ++ [e]), x7, x8, V (C.pr b)] ∧ Good C e ∧ Pool.Ok p' (n + 1) := by
  obtain ⟨j, d, p1, q1, q2, q3⟩ := pick_imms (k + 1) p ops n (by decide) (by decide) hp (by omega)
  obtain ⟨o, rfl⟩ := ops_ok q2
  obtain ⟨R, e, s1, s2, r1, r2, r3⟩ := both_bin C ok k o a b ga gb
  have q1 : callK prog (k + 3) 11 _ = _ := q1
  refine ⟨p1, e, ?_, r3, q3⟩
  generalize callK prog (k + 3) = cf at q1 r1
  have K1 : 1 ≤ LINE := by decide
  have K2 : 2 ≤ LINE := by decide
  have L1 : es.length < LINE := Nat.lt_of_lt_of_le (m := 1000) (by omega) (by decide)
  have sp : es ++ [a, b] = (es ++ [a]) ++ [b] := by simp
  rw [sp]
  simp [binM, q1, K1, K2, r1, r2, L1, PR, pop1, pop2]

def inM : List MS := [(.ite (.op .eq [(.call 10 [(.var 0), (.const (.int 3))]), (.const (.int 0))]) unM [(.ite (.op .gt [(.op .len [(.var 6)]), (.const (.int 1))]) binM [])])]
theorem in_step (k : Nat) (p : Pool) (n : Nat) (hp : p.Ok n) (hn : n < 150000) (w t r f x7 x8 x9 : Slot) (es : List Ex) (h0 : es ≠ []) (ge : ∀ e, e ∈ es → Good C e) (hl : es.length ≤ 500) :
    ∃ p' es' x9', evSs (callK prog (k + 3)) inM [some p.rv, w, t, r, f, OPS, PR C es, x7, x8, x9] = .nx [some p'.rv, w, t, r, f, OPS, PR C es', x7, x8, x9'] ∧ es' ≠ [] ∧ es'.length ≤ es.length ∧ (∀ e, e ∈ es' → Good C e) ∧ Pool.Ok p' (n + 2) := by
  obtain ⟨v, p1, q1, q2, q3, q4⟩ := take_call p10 (k + 2) p 3 n hp (by omega) (by omega) (by omega)
  have q1 : callK prog (k + 3) 10 _ = _ := q1
  by_cases c0 : v = 0
  · subst c0
    obtain ⟨u, a, rfl⟩ := last1 h0
    have hu : u.length ≤ 500 := by
      have : (u ++ [a]).length = u.length + 1 := by simp
      omega
    obtain ⟨p2, e, e1, g1, k1⟩ := un_step C ok k p1 (n + 1) q4 (by omega) w t r f x7 x8 x9 u a (ge a (by simp)) hu
    refine ⟨p2, u ++ [e], x9, ?_, by simp, by simp, fun d hd => ?_, k1⟩
    · generalize callK prog (k + 3) = cf at q1 e1
      unfold PR at e1
      simp [inM, q1, apEq, -List.map_append]
      rw [e1]
      simp
    · rcases List.mem_append.mp hd with hd | hd
      · exact ge d (by simp [hd])
      · rw [List.mem_singleton.mp hd]; exact g1
  · have e0 : (v == 0) = false := beq_false_of_ne c0
    by_cases c1 : 1 < es.length
    · obtain ⟨u, a, b, rfl⟩ := last2 c1
      have hu : u.length ≤ 500 := by
        have : (u ++ [a, b]).length = u.length + 2 := by simp
        omega
      obtain ⟨p2, e, e1, g1, k1⟩ := bin_step C ok k p1 (n + 1) q4 (by omega) w t r f x7 x8 x9 u a b (ge a (by simp)) (ge b (by simp)) hu
      refine ⟨p2, u ++ [e], V (C.pr b), ?_, by simp, by simp, fun d hd => ?_, k1⟩
      · have vp := len_pr C (u ++ [a, b])
        generalize callK prog (k + 3) = cf at q1 e1
        have c1' : (1 : Int) < ((List.map C.pr (u ++ [a, b])).length : Nat) := by rw [List.length_map]; omega
        generalize u ++ [a, b] = X at *
        unfold PR at e1
        simp only [PR]
        generalize (List.map (fun e => RV.imm (C.pr e)) X) = P at *
        generalize List.map C.pr X = PD at *
        simp [inM, q1, apEq, e0, vp, c1', -List.map_append]
        rw [e1]
        simp
      · rcases List.mem_append.mp hd with hd | hd
        · exact ge d (by simp [hd])
        · rw [List.mem_singleton.mp hd]; exact g1
    · refine ⟨p1, es, x9, ?_, h0, Nat.le_refl _, ge, q4.up (by omega)⟩
      have vp := len_pr C es
      have c1' : ¬ (1 : Int) < ((List.map C.pr es).length : Nat) := by rw [List.length_map]; omega
      generalize callK prog (k + 3) = cf at q1
      simp only [PR]
      generalize (List.map (fun e => RV.imm (C.pr e)) es) = P at *
      generalize List.map C.pr es = PD at *
      simp [inM, q1, apEq, e0, vp, c1']

theorem in_loop (k : Nat) (w t r f x7 : Slot) (os : List Od) (hos : ∀ ρ0 ρ, stable ρ0 ρ os = true) (ρ0 : Mv.Loc) : ∀ (ds : List D) (p : Pool) (n : Nat) (x8 x9 : Slot) (es : List Ex), p.Ok n → n + 2 * ds.length < 150000 → es ≠ [] → (∀ e, e ∈ es → Good C e) → es.length ≤ 500 →
    ∃ p' es' x8' x9', forLoop ρ0 os (.name 8) (evSs (callK prog (k + 3)) inM) ds [some p.rv, w, t, r, f, OPS, PR C es, x7, x8, x9] = .nx [some p'.rv, w, t, r, f, OPS, PR C es', x7, x8', x9'] ∧ es' ≠ [] ∧ es'.length ≤ es.length ∧ (∀ e, e ∈ es' → Good C e) ∧ Pool.Ok p' (n + 2 * ds.length)
  | [], p, n, x8, x9, es, hp, _, h0, ge, hl => ⟨p, es, x8, x9, by rw [forLoop, if_pos (hos _ _)], h0, Nat.le_refl _, ge, hp⟩
  | d :: ds, p, n, x8, x9, es, hp, hn, h0, ge, hl => by
    simp only [List.length_cons] at hn
    obtain ⟨p1, e1, y9, q, a0, a1, a2, a3⟩ := in_step C ok k p n hp (by omega) w t r f x7 (V d) x9 es h0 ge hl
    obtain ⟨p2, e2, y8, z9, q2, b0, b1, b2, b3⟩ := in_loop k w t r f x7 os hos ρ0 ds p1 (n + 2) (V d) y9 e1 a3 (by omega) a0 a2 (by omega)
    refine ⟨p2, e2, y8, z9, ?_, b0, by omega, b2, b3.up (by simp only [List.length_cons]; omega)⟩
    rw [forLoop, if_pos (hos _ _)]
    show turnK _ (evSs (callK prog (k + 3)) inM [some p.rv, w, t, r, f, OPS, PR C es, x7, V d, x9]) = _
    rw [q]
    exact q2
def outM : List MS := [(.expr (.meth 6 .append [(.call 20 [(.var 0), (.var 1), (.var 2), (.var 3), (.var 4)])])), (.for .range [(.call 10 [(.var 0), (.const (.int 4))])] (.name 8) inM)]
theorem out_step {tl l0 l1 : List (KD × D)} (dk : Dk C tl l0 l1) (k : Nat) (p : Pool) (R4 : RV) (n : Nat) (hp : p.Ok n) (hn : n < 90000) (h4 : FlOk C R4) (x7 x8 x9 : Slot) (es : List Ex) (ge : ∀ e, e ∈ es → Good C e) (hl : es.length ≤ 400) :
    ∃ p' R4' es' x8' x9', evSs (callK prog (k + 3)) outM [some p.rv, some (Wr C), some (.oD tl), some (Rr l0 l1 C), some R4, OPS, PR C es, x7, x8, x9] = .nx [some p'.rv, some (Wr C), some (.oD tl), some (Rr l0 l1 C), some R4', OPS, PR C es', x7, x8', x9'] ∧ es' ≠ [] ∧ es'.length ≤ es.length + 1 ∧ (∀ e, e ∈ es' → Good C e) ∧ Pool.Ok p' (n + 12) ∧ FlOk C R4' := by
  obtain ⟨R, e, p1, R4', q1, q2, q3, q4, q5⟩ := leaf_call C ok dk k p R4 n hp (by omega) h4
  obtain ⟨v, p2, r1, r2, r3, r4⟩ := take_call p10 (k + 2) p1 4 (n + 3) q4 (by omega) (by omega) (by omega)
  have r1 : callK prog (k + 3) 10 _ = _ := r1
  obtain ⟨m, rfl⟩ : ∃ m : Nat, v = m := ⟨v.toNat, by omega⟩
  have hlen : (rangeL 0 m).length = m := by simp [rangeL]
  have L1 : es.length < LINE := Nat.lt_of_lt_of_le (m := 1000) (by omega) (by decide)
  have okm := okR_true (n := (m : Int)) (by omega) (by omega)
  obtain ⟨R5, h5, key⟩ : ∃ R5, FlOk C R5 ∧ evSs (callK prog (k + 3)) outM [some p.rv, some (Wr C), some (.oD tl), some (Rr l0 l1 C), some R4, OPS, PR C es, x7, x8, x9] =
      seqK (evSs (callK prog (k + 3)) []) (forLoop [some p2.rv, some (Wr C), some (.oD tl), some (Rr l0 l1 C), some R5, OPS, some (.oL (es.map (fun e => RV.imm (C.pr e)) ++ [.imm (C.pr e)])), x7, x8, x9] [Sum.inr (.imm (.int (m : Int)))] (.name 8) (evSs (callK prog (k + 3)) inM) (rangeL 0 m) [some p2.rv, some (Wr C), some (.oD tl), some (Rr l0 l1 C), some R5, OPS, some (.oL (es.map (fun e => RV.imm (C.pr e)) ++ [.imm (C.pr e)])), x7, x8, x9]) := by
    generalize callK prog (k + 3) = cf at q1 r1
    rcases h4 with rfl | rfl
    · refine ⟨.imm C.flD, .inl rfl, ?_⟩
      simp [outM, q1, r1, q2, L1, okm, PR]
    · refine ⟨R4', q5, ?_⟩
      simp [outM, q1, r1, q2, L1, okm, PR]
  obtain ⟨p3, es', y8, y9, e1, a0, a1, a2, a3⟩ := in_loop C ok k (some (Wr C)) (some (.oD tl)) (some (Rr l0 l1 C)) (some R5) x7 [Sum.inr (.imm (.int (m : Int)))] (fun _ _ => by simp) [some p2.rv, some (Wr C), some (.oD tl), some (Rr l0 l1 C), some R5, OPS, PR C (es ++ [e]), x7, x8, x9] (rangeL 0 m) p2 (n + 4) x8 x9 (es ++ [e]) r4 (by rw [hlen]; omega) (by simp) (fun d hd => by
    rcases List.mem_append.mp hd with hd | hd
    · exact ge d hd
    · rw [List.mem_singleton.mp hd]; exact q3) (by rw [List.length_append]; simp only [List.length_cons, List.length_nil]; omega)
  refine ⟨p3, R5, es', y8, y9, ?_, a0, by rw [List.length_append] at a1; simpa using a1, a2, a3.up (by rw [hlen]; omega), h5⟩
  unfold PR at e1
  simp only [List.map_append, List.map_cons, List.map_nil] at e1
  rw [key, e1]
  simp
end
end K01
namespace K01
open Mv
section
variable (C : Ct) (ok : C.Ok)
include ok
theorem out_loop {tl l0 l1 : List (KD × D)} (dk : Dk C tl l0 l1) (k : Nat) (os : List Od) (hos : ∀ ρ0 ρ, stable ρ0 ρ os = true) (ρ0 : Mv.Loc) : ∀ (ds : List D) (p : Pool) (R4 : RV) (n : Nat) (x7 x8 x9 : Slot) (es : List Ex), p.Ok n → n + 12 * ds.length < 90000 → FlOk C R4 → (∀ e, e ∈ es → Good C e) → es.length + ds.length ≤ 400 → (es ≠ [] ∨ ds ≠ []) →
    ∃ p' R4' es' x7' x8' x9', forLoop ρ0 os (.name 7) (evSs (callK prog (k + 3)) outM) ds [some p.rv, some (Wr C), some (.oD tl), some (Rr l0 l1 C), some R4, OPS, PR C es, x7, x8, x9] = .nx [some p'.rv, some (Wr C), some (.oD tl), some (Rr l0 l1 C), some R4', OPS, PR C es', x7', x8', x9'] ∧
      es' ≠ [] ∧ es'.length ≤ es.length + ds.length ∧ (∀ e, e ∈ es' → Good C e) ∧ Pool.Ok p' (n + 12 * ds.length) ∧ FlOk C R4'
  | [], p, R4, n, x7, x8, x9, es, hp, _, h4, ge, hl, h0 => ⟨p, R4, es, x7, x8, x9, by rw [forLoop, if_pos (hos _ _)], h0.elim id fun z => absurd rfl z, Nat.le_refl _, ge, hp, h4⟩
  | d :: ds, p, R4, n, x7, x8, x9, es, hp, hn, h4, ge, hl, h0 => by
    simp only [List.length_cons] at hn hl
    obtain ⟨p1, R5, e1, y8, y9, q, a0, a1, a2, a3, a4⟩ := out_step C ok dk k p R4 n hp (by omega) h4 (V d) x8 x9 es ge (by omega)
    obtain ⟨p2, R6, e2, z7, z8, z9, q2, b0, b1, b2, b3, b4⟩ := out_loop dk k os hos ρ0 ds p1 R5 (n + 12) (V d) y8 y9 e1 a3 (by omega) a4 a2 (by omega) (.inl a0)
    refine ⟨p2, R6, e2, z7, z8, z9, ?_, b0, by simp only [List.length_cons]; omega, b2, b3.up (by simp only [List.length_cons]; omega), b4⟩
    rw [forLoop, if_pos (hos _ _)]
    show turnK _ (evSs (callK prog (k + 3)) outM [some p.rv, some (Wr C), some (.oD tl), some (Rr l0 l1 C), some R4, OPS, PR C es, V d, x8, x9]) = _
    rw [q]
    exact q2
theorem bin_loop (k : Nat) (w t r f : Slot) (os : List Od) (hos : ∀ ρ0 ρ, stable ρ0 ρ os = true) (ρ0 : Mv.Loc) : ∀ (ds : List D) (p : Pool) (n : Nat) (x7 x8 x9 : Slot) (es : List Ex), p.Ok n → n + ds.length < 150000 → es.length = ds.length + 1 → (∀ e, e ∈ es → Good C e) → es.length ≤ 500 →
    ∃ p' es' x7' x9', forLoop ρ0 os (.name 7) (evSs (callK prog (k + 3)) binM) ds [some p.rv, w, t, r, f, OPS, PR C es, x7, x8, x9] = .nx [some p'.rv, w, t, r, f, OPS, PR C es', x7', x8, x9'] ∧ es' ≠ [] ∧ es'.length ≤ 500 ∧ (∀ e, e ∈ es' → Good C e) ∧ Pool.Ok p' (n + ds.length)
  | [], p, n, x7, x8, x9, es, hp, _, h0, ge, hl => ⟨p, es, x7, x9, by rw [forLoop, if_pos (hos _ _)], fun z => by subst z; simp at h0, hl, ge, hp⟩
  | d :: ds, p, n, x7, x8, x9, es, hp, hn, h0, ge, hl => by
    simp only [List.length_cons] at hn h0
    obtain ⟨u, a, b, rfl⟩ := last2 (es := es) (by omega)
    have hu : u.length = ds.length := by
      have : (u ++ [a, b]).length = u.length + 2 := by simp
      omega
    obtain ⟨p1, e, q, g, k1⟩ := bin_step C ok k p n hp (by omega) w t r f (V d) x8 x9 u a b (ge a (by simp)) (ge b (by simp)) (by
      have : (u ++ [a, b]).length = u.length + 2 := by simp
      omega)
    obtain ⟨p2, e2, z7, z9, q2, b0, b1, b2, b3⟩ := bin_loop k w t r f os hos ρ0 ds p1 (n + 1) (V d) x8 (V (C.pr b)) (u ++ [e]) k1 (by omega) (by simp [hu]) (fun x hx => by
      rcases List.mem_append.mp hx with hx | hx
      · exact ge x (by simp [hx])
      · rw [List.mem_singleton.mp hx]; exact g) (by
      have : (u ++ [a, b]).length = u.length + 2 := by simp
      have : (u ++ [e]).length = u.length + 1 := by simp
      omega)
    refine ⟨p2, e2, z7, z9, ?_, b0, b1, b2, b3.up (by simp only [List.length_cons]; omega)⟩
    rw [forLoop, if_pos (hos _ _)]
    show turnK _ (evSs (callK prog (k + 3)) binM [some p.rv, w, t, r, f, OPS, PR C (u ++ [a, b]), V d, x8, x9]) = _
    rw [q]
    exact q2
theorem un_loop (k : Nat) (w t r f : Slot) (os : List Od) (hos : ∀ ρ0 ρ, stable ρ0 ρ os = true) (ρ0 : Mv.Loc) : ∀ (ds : List D) (p : Pool) (n : Nat) (x7 x8 x9 : Slot) (es : List Ex), p.Ok n → n + ds.length < 150000 → es ≠ [] → (∀ e, e ∈ es → Good C e) → es.length ≤ 500 →
    ∃ p' es' x7', forLoop ρ0 os (.name 7) (evSs (callK prog (k + 3)) unM) ds [some p.rv, w, t, r, f, OPS, PR C es, x7, x8, x9] = .nx [some p'.rv, w, t, r, f, OPS, PR C es', x7', x8, x9] ∧ es' ≠ [] ∧ (∀ e, e ∈ es' → Good C e) ∧ Pool.Ok p' (n + ds.length)
  | [], p, n, x7, x8, x9, es, hp, _, h0, ge, hl => ⟨p, es, x7, by rw [forLoop, if_pos (hos _ _)], h0, ge, hp⟩
  | d :: ds, p, n, x7, x8, x9, es, hp, hn, h0, ge, hl => by
    simp only [List.length_cons] at hn
    obtain ⟨u, a, rfl⟩ := last1 h0
    have hu : (u ++ [a]).length = u.length + 1 := by simp
    obtain ⟨p1, e, q, g, k1⟩ := un_step C ok k p n hp (by omega) w t r f (V d) x8 x9 u a (ge a (by simp)) (by omega)
    obtain ⟨p2, e2, z7, q2, b0, b2, b3⟩ := un_loop k w t r f os hos ρ0 ds p1 (n + 1) (V d) x8 x9 (u ++ [e]) k1 (by omega) (by simp) (fun x hx => by
      rcases List.mem_append.mp hx with hx | hx
      · exact ge x (by simp [hx])
      · rw [List.mem_singleton.mp hx]; exact g) (by
      have : (u ++ [e]).length = u.length + 1 := by simp
      omega)
    refine ⟨p2, e2, z7, ?_, b0, b2, b3.up (by simp only [List.length_cons]; omega)⟩
    rw [forLoop, if_pos (hos _ _)]
    show turnK _ (evSs (callK prog (k + 3)) unM [some p.rv, w, t, r, f, OPS, PR C (u ++ [a]), V d, x8, x9]) = _
    rw [q]
    exact q2
def BldP (tl l0 l1 : List (KD × D)) (n : Nat) (r : CRes) : Prop := ∃ e p' R4, r = .ret (.imm (C.pr e)) [some p'.rv, some (Wr C), some (.oD tl), some (Rr l0 l1 C), some R4] ∧ Good C e ∧ Pool.Ok p' n ∧ FlOk C R4
theorem built_call {tl l0 l1 : List (KD × D)} (dk : Dk C tl l0 l1) (k : Nat) (p : Pool) (R4 : RV) (n : Nat) (hp : p.Ok n) (hn : n < 50000) (h4 : FlOk C R4) :
    BldP C tl l0 l1 (n + 1000) (callK prog (k + 4) 21 [p.rv, Wr C, .oD tl, Rr l0 l1 C, R4]) := by
  rw [show k + 4 = (k + 3) + 1 from rfl, callK]
  show BldP C tl l0 l1 _ (callF (callK prog (k + 3)) f21 _)
  obtain ⟨j, d, p1, q1, q2, q3⟩ := pick_imms (k + 1) p [.int 0, .int 1, .int 2, .int 3, .int 5, .int 8, .int 14, .int 29] n (by decide) (by decide) hp (by omega)
  have q1 : callK prog (k + 3) 11 _ = _ := q1
  obtain ⟨m, rfl, hm⟩ : ∃ m : Nat, d = .int m ∧ m ≤ 29 := by
    have := List.mem_of_getElem? q2
    simp at this
    rcases this with rfl | rfl | rfl | rfl | rfl | rfl | rfl | rfl
    · exact ⟨0, rfl, by omega⟩
    · exact ⟨1, rfl, by omega⟩
    · exact ⟨2, rfl, by omega⟩
    · exact ⟨3, rfl, by omega⟩
    · exact ⟨5, rfl, by omega⟩
    · exact ⟨8, rfl, by omega⟩
    · exact ⟨14, rfl, by omega⟩
    · exact ⟨29, rfl, by omega⟩
  have l1' : (rangeL 0 (1 + m)).length = 1 + m := by simp [rangeL]
  obtain ⟨p2, R5, es, x7, x8, x9, e1, a0, a1, a2, a3, a4⟩ := out_loop C ok dk k [Sum.inr (.imm (.int (1 + m)))] (fun _ _ => by simp) [some p1.rv, some (Wr C), some (.oD tl), some (Rr l0 l1 C), some R4, OPS, PR C [], none, none, none] (rangeL 0 (1 + m)) p1 R4 (n + 1) none none none [] q3 (by rw [l1']; omega) h4 (by simp) (by rw [l1']; simp; omega) (.inr (fun z => by rw [z] at l1'; simp only [List.length_nil] at l1'; omega))
  have hl : es.length ≤ 30 := by simp only [List.length_nil] at a1; omega
  have he : 0 < es.length := List.length_pos_iff.mpr a0
  have l2' : (rangeL 0 (es.length - 1)).length = es.length - 1 := by simp [rangeL]
  obtain ⟨p3, es3, y7, y9, e3, b0, b1, b2, b3⟩ := bin_loop C ok k (some (Wr C)) (some (.oD tl)) (some (Rr l0 l1 C)) (some R5) [Sum.inr (.imm (.int ((es.length : Int) - 1)))] (fun _ _ => by simp) [some p2.rv, some (Wr C), some (.oD tl), some (Rr l0 l1 C), some R5, OPS, PR C es, x7, x8, x9] (rangeL 0 (es.length - 1)) p2 (n + 1 + 12 * (rangeL 0 (1 + m)).length) x7 x8 x9 es a3 (by rw [l1', l2']; omega) (by rw [l2']; omega) a2 (by omega)
  rw [l1'] at b3
  rw [l2'] at b3
  obtain ⟨i, d, p4, s1, s2, s3⟩ := pick_imms (k + 1) p3 [.int 0, .int 0, .int 0, .int 0, .int 1, .int 2, .int 3, .int 59] _ (by decide) (by decide) b3 (by omega)
  have s1 : callK prog (k + 3) 11 _ = _ := s1
  obtain ⟨z, rfl, hz⟩ : ∃ m : Nat, d = .int m ∧ m ≤ 59 := by
    have := List.mem_of_getElem? s2
    simp at this
    rcases this with rfl | rfl | rfl | rfl | rfl
    · exact ⟨0, rfl, by omega⟩
    · exact ⟨1, rfl, by omega⟩
    · exact ⟨2, rfl, by omega⟩
    · exact ⟨3, rfl, by omega⟩
    · exact ⟨59, rfl, by omega⟩
  have l3' : (rangeL 0 z).length = z := by simp [rangeL]
  obtain ⟨p5, es5, z7, e5, c0, c2, c3⟩ := un_loop C ok k (some (Wr C)) (some (.oD tl)) (some (Rr l0 l1 C)) (some R5) [Sum.inr (.imm (.int (z : Int)))] (fun _ _ => by simp) [some p4.rv, some (Wr C), some (.oD tl), some (Rr l0 l1 C), some R5, OPS, PR C es3, y7, x8, y9] (rangeL 0 z) p4 _ y7 x8 y9 es3 s3 (by rw [l3']; omega) b0 b2 b1
  rw [l3'] at c3
  obtain ⟨e, es6, rfl⟩ : ∃ e r, es5 = e :: r := by
    cases es5 with
    | nil => exact absurd rfl c0
    | cons e r => exact ⟨e, r, rfl⟩
  refine ⟨e, p5, R5, ?_, c2 e (by simp), c3.up (by omega), a4⟩
  have K8 : 8 ≤ LINE := by decide
  have K9 : 9 ≤ LINE := by decide
  have K0 : 0 ≤ LINE := by decide
  have vp := len_pr C es
  have vp5 := len_pr C (e :: es6)
  have it0 : Op.ap .item [.lst ((e :: es6).map C.pr), .int 0] = some (.imm (C.pr e)) := rfl
  have okm := okR_true (n := (1 + (m : Int))) (by omega) (by omega)
  have okz := okR_true (n := (z : Int)) (by omega) (by omega)
  have oke := okR_true (n := ((es.length : Int) - 1)) (by omega) (by omega)
  have n1 : (1 + (m : Int)).toNat = 1 + m := by omega
  have n2 : ((es.length : Int) - 1).toNat = es.length - 1 := by omega
  simp only [List.map_cons, List.map_nil] at q1 s1
  generalize callK prog (k + 3) = cf at q1 s1 e1 e3 e5
  unfold callF
  unfold PR OPS at e1 e3 e5
  generalize (List.map (fun e => RV.imm (C.pr e)) (e :: es6)) = P5 at *
  generalize List.map C.pr (e :: es6) = PD5 at *
  generalize (List.map (fun e => RV.imm (C.pr e)) es) = P at *
  generalize hpd : List.map C.pr es = PD at *
  have lpd : PD.length = es.length := by rw [← hpd, List.length_map]
  simp only [List.map_nil] at e1
  unfold outM inM unM binM at e1
  unfold binM at e3
  unfold unM at e5
  simp only [ops, List.map_cons, List.map_nil] at e1 e3 e5
  simp [f21, b21, q1, K8, K9, K0, okm, n1]
  rw [e1]
  simp [vp, lpd, oke, n2]
  rw [e3]
  simp [s1, K8, okz]
  rw [e5]
  simp [vp5, it0]
end
end K01
namespace K01
open Mv
def H39 : Nat := 2 ^ 39
/-- a filling that was drawn -/
structure FilOk (C : Ct) (fl : Ex) : Prop where
  n : fl.n ≤ 3
  lf : Lf C.W fl
  v0 : (fl.v C.f0 C.g0).natAbs ≤ B
  v1 : (fl.v C.f1 C.g1).natAbs ≤ B
def FilP (C : Ct) (l0 l1 : List (KD × D)) (n : Nat) (r : CRes) : Prop := ∃ (p' : Pool) (fl : Ex) (q : RV), r = .ret (.oL [.imm fl.d, q, .imm (.int fl.n), .imm (.int fl.h), .imm (.lst (fl.ns.map .str)), .imm (.bl fl.ha)]) [some p'.rv, some (Wr C), some (Rr l0 l1 C)] ∧
  fz q = .lst [.int (fl.v C.f0 C.g0), .int (fl.v C.f1 C.g1)] ∧ FilOk C fl ∧ p'.Ok n
theorem log39 {x : Int} (h : x.natAbs ≤ H39) : x.natAbs.log2 < 41 := by
  by_cases z : x.natAbs = 0
  · rw [z]; decide
  · rw [Nat.log2_lt z]
    exact Nat.lt_of_le_of_lt h (by decide)
theorem fill_call (C : Ct) {tl l0 l1 : List (KD × D)} (dk : Dk C tl l0 l1) (hf0 : ∀ w, w ∈ C.W → (C.f0 w).natAbs ≤ H39) (hf1 : ∀ w, w ∈ C.W → (C.f1 w).natAbs ≤ H39) (hg0 : C.g0.natAbs ≤ H39) (hg1 : C.g1.natAbs ≤ H39) (k : Nat) (p : Pool) (n : Nat) (hp : p.Ok n) (hn : n < 50000) :
    FilP C l0 l1 (n + 2) (callK prog (k + 3) 19 [p.rv, Wr C, Rr l0 l1 C]) := by
  rw [show k + 3 = (k + 2) + 1 from rfl, callK]
  show FilP C l0 l1 (n + 2) (callF (callK prog (k + 2)) f19 _)
  obtain ⟨w, p1, q1, q2, q3⟩ := pick_word C dk k p n hp (by omega)
  obtain ⟨v, p2, r1, r2, r3, r4⟩ := take_call p10 (k + 1) p1 5 (n + 1) q3 (by omega) (by omega) (by omega)
  have r1 : callK prog (k + 2) 10 _ = _ := r1
  have a0 := dk.a0 w q2
  have a1 := dk.a1 w q2
  have b0 := hf0 w q2
  have b1 := hf1 w q2
  have hB : H39 + H39 = B := by decide
  have lw : Lf C.W (.name w) := q2
  have la : Lf C.W (.bin .sub .arg (.name w)) := ⟨trivial, q2⟩
  have o2 := over_bin k .sub .arg (.name w) C.g0 C.g1 (C.f0 w) (C.f1 w) (by decide) (by simp [Ex.n]) (by have := log39 b0; have := log39 hg0; omega) (by have := log39 b1; have := log39 hg1; omega)
  have o1 := over_un k .mn (.name w) (C.f0 w) (C.f1 w) (by simp [Ex.n])
  have K1 : 1 ≤ LINE := by decide
  have K2 : 2 ≤ LINE := by decide
  have K6 : 6 ≤ LINE := by decide
  have K0 : 0 ≤ LINE := by decide
  have P0 : 0 < LINE := by decide
  have P1 : 1 < LINE := by decide
  generalize callK prog (k + 2) = cf at q1 r1 o1 o2
  simp only [It, Ex.d, Ex.n, Ex.h, Ex.ns, Ex.ws, uq, Ex.ha, Bi.s, Un.s, List.map_cons, List.map_nil, List.not_mem_nil, if_false, List.nil_append] at o1 o2
  rw [show ((1 : Nat) : Int) = 1 from rfl] at o1 o2
  unfold callF
  by_cases c0 : v = 0
  · subst c0
    simp [f19, b19, q1, r1, K1, K2, K6, K0, P0, P1, compLoop, stable_inl_iff, a0, a1, apEq, atD]
    exact ⟨p2, .arg, _, rfl, rfl, ⟨by decide, trivial, by show C.g0.natAbs ≤ B; omega, by show C.g1.natAbs ≤ B; omega⟩, r4⟩
  · have e0 : (v == 0) = false := beq_false_of_ne c0
    by_cases c1 : v = 1
    · subst c1
      simp [f19, b19, q1, r1, K1, K2, K6, K0, P0, P1, compLoop, stable_inl_iff, a0, a1, apEq, atD]
      exact ⟨p2, .name w, _, by simp [Ex.d, Ex.n, Ex.h, Ex.ns, Ex.ws, uq, Ex.ha]; rfl, rfl, ⟨by simp [Ex.n], lw, by show (C.f0 w).natAbs ≤ B; omega, by show (C.f1 w).natAbs ≤ B; omega⟩, r4⟩
    · have e1 : (v == 1) = false := beq_false_of_ne c1
      by_cases c2 : v = 2
      · subst c2
        simp [f19, b19, q1, r1, K1, K2, K6, K0, P0, P1, compLoop, stable_inl_iff, a0, a1, apEq, atD, fz, fzs, o2, itRV]
        exact ⟨p2, .bin .sub .arg (.name w), .oL [.imm (.int (C.g0 - C.f0 w)), .imm (.int (C.g1 - C.f1 w))], rfl, rfl, ⟨by simp [Ex.n], la, by show (C.g0 - C.f0 w).natAbs ≤ B; omega, by show (C.g1 - C.f1 w).natAbs ≤ B; omega⟩, r4⟩
      · have e2 : (v == 2) = false := beq_false_of_ne c2
        by_cases c3 : v = 3
        · subst c3
          simp [f19, b19, q1, r1, K1, K2, K6, K0, P0, P1, compLoop, stable_inl_iff, a0, a1, apEq, atD, fz, fzs, o1, itRV]
          exact ⟨p2, .un .mn (.name w), .oL [.imm (.int (-(C.f0 w))), .imm (.int (-(C.f1 w)))], rfl, rfl, ⟨by simp [Ex.n], lw, by show (-(C.f0 w)).natAbs ≤ B; omega, by show (-(C.f1 w)).natAbs ≤ B; omega⟩, r4⟩
        · have e3 : (v == 3) = false := beq_false_of_ne c3
          simp [f19, b19, q1, r1, K1, K2, K6, K0, P0, P1, compLoop, stable_inl_iff, a0, a1, apEq, atD, e0, e1, e2, e3]
          exact ⟨p2, .num 4, _, rfl, rfl, ⟨by decide, (show (4 : Int).natAbs ≤ 99 by decide), (show (4 : Int).natAbs ≤ B by decide), (show (4 : Int).natAbs ≤ B by decide)⟩, r4⟩
end K01
namespace K01
open Mv
def NumP (b : Bool) (n : Nat) (r : CRes) : Prop := ∃ (v : Int) (p' : Pool), r = .ret (.imm (.int v)) [some p'.rv, V (.bl b)] ∧ v.natAbs ≤ H39 ∧ p'.Ok n
theorem num_call (k : Nat) (p : Pool) (b : Bool) (n : Nat) (hp : p.Ok n) (hn : n < 100000) : NumP b (n + 2) (callK prog (k + 2) 15 [p.rv, .imm (.bl b)]) := by
  rw [show k + 2 = (k + 1) + 1 from rfl, callK]
  show NumP b (n + 2) (callF (callK prog (k + 1)) f15 _)
  have hH : H39 = 549755813888 := by decide
  cases b with
  | true =>
    obtain ⟨v, p1, q1, q2, q3, q4⟩ := take_call p10 k p 1000000 n hp (by omega) (by omega) (by omega)
    obtain ⟨u, p2, r1, r2, r3, r4⟩ := take_call p10 k p1 1000000 (n + 1) q4 (by omega) (by omega) (by omega)
    generalize callK prog (k + 1) = cf at q1 r1
    have s : small64 (v - 500000) := ⟨by omega, by omega⟩
    have s' : small64 (v - 500000) ∨ small64 u := .inl s
    unfold callF
    simp [f15, b15, q1, r1, s]
    refine ⟨_, p2, rfl, ?_, r4⟩
    rw [Int.natAbs_mul, hH]
    have h1 : (v - 500000).natAbs ≤ 500000 := by omega
    have h2 : u.natAbs ≤ 1000000 := by omega
    exact Nat.le_trans (Nat.mul_le_mul h1 h2) (by decide)
  | false =>
    obtain ⟨v, p1, q1, q2, q3, q4⟩ := take_call p10 k p 7 n hp (by omega) (by omega) (by omega)
    generalize callK prog (k + 1) = cf at q1
    unfold callF
    simp [f15, b15, q1]
    exact ⟨_, p1, rfl, by omega, q4.up (by omega)⟩
def partL (ws : List (List Nat)) (d : List Nat → D) : List (KD × D) := ws.map fun w => (.inr w, d w)
theorem dget_part {d : List Nat → D} : ∀ {ws : List (List Nat)} {w : List Nat}, w ∈ ws → dget (partL ws d) (.inr w) = some (d w)
  | [], _, h => by cases h
  | u :: r, w, h => by
    by_cases c : u = w
    · subst c; simp [partL, dget]
    · have hr : w ∈ r := (List.mem_cons.mp h).elim (fun z => absurd z.symm c) id
      have := dget_part (d := d) hr
      have nc : ¬ (Sum.inr u : KD) = Sum.inr w := fun z => c (Sum.inr.inj z)
      unfold dget at this ⊢
      simp only [partL, List.map_cons, List.find?_cons, decide_eq_false nc]
      exact this
theorem dput_new {l : List (KD × D)} {k : KD} {v : D} (h : k ∉ l.map (·.1)) : dput l k v = l ++ [(k, v)] := by
  unfold dput
  rw [if_neg]
  intro z
  obtain ⟨p, hp, e⟩ := List.any_eq_true.mp z
  exact h (List.mem_map.mpr ⟨p, hp, of_decide_eq_true e⟩)
theorem uq_nodup : ∀ (ws acc : List (List Nat)), acc.Nodup → (uq acc ws).Nodup
  | [], acc, h => by rw [uq]; exact h
  | w :: r, acc, h => by
    rw [uq]
    split
    · exact uq_nodup r acc h
    · rename_i c
      exact uq_nodup r _ (List.nodup_append.mpr ⟨h, by simp, fun x hx y hy => by rw [List.mem_singleton.mp hy]; exact fun z => c (z ▸ hx)⟩)
theorem ns_nodup (e : Ex) : e.ns.Nodup := uq_nodup e.ws [] (by simp)
theorem uq_mem : ∀ (ws acc : List (List Nat)) (w : List Nat), w ∈ uq acc ws ↔ w ∈ acc ∨ w ∈ ws
  | [], acc, w => by rw [uq]; simp
  | u :: r, acc, w => by
    rw [uq]
    split
    · rename_i c
      rw [uq_mem r acc w]
      simp only [List.mem_cons]
      constructor
      · rintro (h | h)
        · exact .inl h
        · exact .inr (.inr h)
      · rintro (h | h | h)
        · exact .inl h
        · exact .inl (h ▸ c)
        · exact .inr h
    · rw [uq_mem r _ w]
      simp only [List.mem_append, List.mem_cons, List.not_mem_nil, or_false]
      constructor
      · rintro ((h | h) | h)
        · exact .inl h
        · exact .inr (.inl h)
        · exact .inr (.inr h)
      · rintro (h | h | h)
        · exact .inl (.inl h)
        · exact .inl (.inr h)
        · exact .inr h
theorem ns_mem (e : Ex) (w : List Nat) : w ∈ e.ns ↔ w ∈ e.ws := by
  unfold Ex.ns
  rw [uq_mem]; simp
def putM : List MS := [(.setix 2 (.var 3) (.op .item [(.var 0), (.var 3)]))]
theorem part_loop (cf : Nat → List RV → CRes) (T : RV) (l : List (KD × D)) (hT : T = .oD l ∨ T = .imm (.dic l)) (d : List Nat → D) (s1 : Slot) (os : List Od) (ρ0 : Mv.Loc) (hos : ∀ a b, stable ρ0 [some T, s1, a, b] os = true) : ∀ (ws done : List (List Nat)) (x : Slot), (∀ w, w ∈ ws → dget l (.inr w) = some (d w)) → (done ++ ws).Nodup → (done ++ ws).length ≤ 100 →
    ∃ x', forLoop ρ0 os (.name 3) (evSs cf putM) (ws.map D.str) [some T, s1, some (.oD (partL done d)), x] = .nx [some T, s1, some (.oD (partL (done ++ ws) d)), x']
  | [], done, x, _, _, _ => ⟨x, by rw [List.map_nil, forLoop, if_pos (hos _ _), List.append_nil]⟩
  | w :: r, done, x, hd, nd, hl => by
    have nw : w ∉ done := fun z => (List.nodup_append.mp nd).2.2 w z w (by simp) rfl
    obtain ⟨x', e⟩ := part_loop cf T l hT d s1 os ρ0 hos r (done ++ [w]) (S w) (fun u hu => hd u (by simp [hu])) (by rw [List.append_assoc]; exact nd) (by rw [List.append_assoc]; exact hl)
    refine ⟨x', ?_⟩
    rw [List.map_cons, forLoop, if_pos (hos _ _)]
    have gw := hd w (by simp)
    have lw : (partL done d).length < LINE := by
      unfold partL
      rw [List.length_map]
      rw [List.length_append] at hl
      exact Nat.lt_of_lt_of_le (m := 200) (by omega) (by decide)
    have pw : dput (partL done d) (.inr w) (d w) = partL (done ++ [w]) d := by
      rw [dput_new]
      · unfold partL; rw [List.map_append]; rfl
      · unfold partL
        rw [List.map_map]
        intro z
        obtain ⟨u, hu, e⟩ := List.mem_map.mp z
        exact nw ((Sum.inr.inj e) ▸ hu)
    have step : evSs cf putM [some T, s1, some (.oD (partL done d)), S w] = .nx [some T, s1, some (.oD (partL (done ++ [w]) d)), S w] := by
      rcases hT with rfl | rfl <;> simp [putM, gw, lw, pw]
    show turnK _ (evSs cf putM [some T, s1, some (.oD (partL done d)), S w]) = _
    rw [step]
    rw [List.append_assoc] at e
    exact e
theorem part_call (k : Nat) (T : RV) (l : List (KD × D)) (hT : T = .oD l ∨ T = .imm (.dic l)) (d : List Nat → D) (ws : List (List Nat)) (hd : ∀ w, w ∈ ws → dget l (.inr w) = some (d w)) (nd : ws.Nodup) (hl : ws.length ≤ 100) :
    callK prog (k + 1) 22 [T, .imm (.lst (ws.map .str))] = .ret (.oD (partL ws d)) [some T, V (.lst (ws.map .str))] := by
  rw [callK]
  show callF (callK prog k) f22 _ = _
  generalize callK prog k = cf
  obtain ⟨x', e⟩ := part_loop cf T l hT d (V (.lst (ws.map .str))) [Sum.inl 1] [some T, V (.lst (ws.map .str)), some (.oD []), none] (fun a b => by simp [stable_inl_iff]) ws [] none hd nd hl
  unfold callF
  unfold putM at e
  simp only [partL, List.map_nil, List.nil_append] at e
  simp [f22, b22, -List.map_map]
  rw [e]
  simp [partL]
theorem same_core (k : Nat) (T1 T2 : RV) (d : D) (t : List Nat) (h1 : vw T1 = some d) (h2 : vw T2 = some d) (hr : apRepr d = some (.imm (.str t))) (he : apEq d d = some (Mv.bool true)) : callK prog (k + 1) 12 [T1, T2] = .ret (.imm (.bl true)) [some T1, some T2] := by
  rw [callK]
  show callF (callK prog k) sameF [T1, T2] = _
  have he : Op.ap .eq [d, d] = some (Mv.bool true) := he
  have hr : Op.ap .repr [d] = some (.imm (.str t)) := hr
  have hs : Op.ap .eq [.str t, .str t] = some (Mv.bool true) := by simp
  unfold callF
  simp [sameF, sameB, h1, h2, hr, he, Mv.bool]
theorem same_int (k : Nat) (v : Int) (h : v.natAbs.log2 < 1920) : callK prog (k + 1) 12 [.imm (.int v), .imm (.int v)] = .ret (.imm (.bl true)) [I v, I v] := by
  refine same_core k _ _ (.int v) (shown (.int v)) rfl rfl ?_ (by simp [apEq])
  unfold apRepr
  rw [if_pos]
  have h1 : (shown (.int v)).length ≤ LINE := by
    have := PySem.int_text_fits h
    unfold shown
    simpa [toP, PySem.PyData.shown, PySem.Str.length] using this
  rw [D.sh, decide_eq_true h, decide_eq_true h1, decide_eq_true (by rw [D.dep] <;> first | decide | nofun)]
  rfl
theorem same_fine (k : Nat) (T1 T2 : RV) {d : D} (h1 : vw T1 = some d) (h2 : vw T2 = some d) (h : d.fine = true) (hw : d.wt ≤ 2 ^ 20) (hd : d.dep ≤ 60) : callK prog (k + 1) 12 [T1, T2] = .ret (.imm (.bl true)) [some T1, some T2] := same_call p12 k h1 h2 h hw hd
/-- a short text of plain signs -/
def Wd (w : List Nat) : Prop := w.length ≤ 30 ∧ ∀ c, c ∈ w → c < 128
def Vd (d : D) : Prop := (∃ i : Int, d = .int i ∧ i.natAbs < 10 ^ 12) ∨ ∃ w, d = .str w ∧ Wd w
theorem vd_facts {d : D} (h : Vd d) : flatD d = true ∧ d.sh = true ∧ (toP d).leavesShort 13 = true ∧ (toP d).weight ≤ 50 := by
  rcases h with ⟨i, rfl, hi⟩ | ⟨w, rfl, hw⟩
  · refine ⟨rfl, by rw [D.sh]; exact decide_eq_true (log_small hi), ?_, ?_⟩
    · rw [toP, PySem.PyData.leavesShort]
      exact decide_eq_true (PySem.PyData.shown_int_le hi)
    · rw [toP, PySem.PyData.weight]
      split
      · omega
      · rename_i z
        have z : i.natAbs ≠ 0 := fun e => z (by have : i = 0 := by omega
                                                subst this; rfl)
        have : i.natAbs.log2 < 40 := (Nat.log2_lt z).mpr (Nat.lt_of_lt_of_le hi (by decide))
        omega
  · refine ⟨rfl, by rw [D.sh] <;> nofun, ?_, ?_⟩
    · rw [toP, PySem.PyData.leavesShort]
      refine List.all_eq_true.mpr fun c hc => decide_eq_true ?_
      have := hw.2 c (by simpa [toStr] using hc)
      omega
    · rw [toP, PySem.PyData.weight]
      have := hw.1
      simp [toStr]; omega
theorem part_facts (d : List Nat → D) : ∀ (ws : List (List Nat)), (∀ w, w ∈ ws → Wd w ∧ Vd (d w)) → flatDic (partL ws d) = true ∧ shDic (partL ws d) = true ∧ PySem.PyData.leavesShortKv 13 ((partL ws d).map fun p => (keyP p.1, toP p.2)) = true ∧ PySem.PyData.weightKv ((partL ws d).map fun p => (keyP p.1, toP p.2)) ≤ 82 * ws.length
  | [], _ => ⟨rfl, rfl, by simp [partL, PySem.PyData.leavesShortKv], by simp [partL, PySem.PyData.weightKv]⟩
  | w :: r, h => by
    obtain ⟨a1, a2, a3, a4⟩ := part_facts d r fun u hu => h u (by simp [hu])
    obtain ⟨hw, hv⟩ := h w (by simp)
    obtain ⟨b1, b2, b3, b4⟩ := vd_facts hv
    have kl : (keyP (.inr w)).leavesShort 13 = true := by
      show (PySem.PyData.str (toStr w)).leavesShort 13 = true
      rw [PySem.PyData.leavesShort]
      refine List.all_eq_true.mpr fun c hc => decide_eq_true ?_
      have := hw.2 c (by simpa [toStr] using hc)
      omega
    have kw : (keyP (.inr w)).weight ≤ 30 := by
      show (PySem.PyData.str (toStr w)).weight ≤ 30
      rw [PySem.PyData.weight]
      have := hw.1
      simp [toStr]; omega
    refine ⟨?_, ?_, ?_, ?_⟩
    · show (flatD (d w) && flatDic (partL r d)) = true
      rw [b1, a1]; rfl
    · show ((keySh (.inr w) && (flatD (d w) && (d w).sh)) && shDic (partL r d)) = true
      rw [b1, b2, a2]; rfl
    · show PySem.PyData.leavesShortKv 13 ((keyP (.inr w), toP (d w)) :: ((partL r d).map fun p => (keyP p.1, toP p.2))) = true
      rw [PySem.PyData.leavesShortKv, kl, b3, a3]; rfl
    · show PySem.PyData.weightKv ((keyP (.inr w), toP (d w)) :: ((partL r d).map fun p => (keyP p.1, toP p.2))) ≤ _
      rw [PySem.PyData.weightKv, List.length_cons]
      omega
theorem same_part (k : Nat) (d : List Nat → D) (ws : List (List Nat)) (h : ∀ w, w ∈ ws → Wd w ∧ Vd (d w)) (nd : ws.Nodup) (hl : ws.length ≤ 100) : callK prog (k + 1) 12 [.oD (partL ws d), .oD (partL ws d)] = .ret (.imm (.bl true)) [some (.oD (partL ws d)), some (.oD (partL ws d))] := by
  obtain ⟨a1, a2, a3, a4⟩ := part_facts d ws h
  have ln : (shownDic (partL ws d)).length ≤ LINE := by
    have := PySem.PyData.shown_fits (B := 13) (by decide) (by decide) (d := dicP (partL ws d)) (by unfold dicP; rw [PySem.PyData.leavesShort]; exact a3) (by unfold dicP; rw [PySem.PyData.weight]; exact Nat.le_trans a4 (by omega))
    unfold shownDic
    simpa [PySem.Str.length] using this
  refine same_core k _ _ (.dic (partL ws d)) (shownDic (partL ws d)) rfl rfl ?_ ?_
  · unfold apRepr
    rw [if_neg]
    · show (if shDic (partL ws d) = true ∧ (shownDic (partL ws d)).length ≤ LINE then some (RV.imm (.str (shownDic (partL ws d)))) else none) = _
      rw [if_pos ⟨a2, ln⟩]
    · rw [D.sh]; simp
  · unfold apEq
    rw [if_neg]
    · simp only [apEqDic]
      rw [if_pos]
      refine ⟨trivial, ?_, a1⟩
      unfold partL
      rw [List.map_map]
      exact List.Pairwise.map (f := fun w => (Sum.inr w : KD)) (fun a b n z => n (Sum.inr.inj z)) nd
    · unfold eqOk okEq
      rw [D.nd]; simp [scalD]
end K01
namespace K01
open Mv
abbrev Rw (l0 : List (KD × D)) (g0 : Int) (l1 : List (KD × D)) (g1 : Int) : RV := .oL [.imm (.lst [.dic l0, .int g0]), .imm (.lst [.dic l1, .int g1])]
def dueD (e : Ex) : D := .tup [.int e.n, .int e.h, .tup (e.ns.map .str), .bl e.ha]
theorem strs_fine : ∀ {T : List (List Nat)}, (∀ t, t ∈ T → Wd t) → fines (T.map .str) = true
  | [], _ => by rw [List.map_nil, fines]
  | t :: T, h => by
    rw [List.map_cons, fines, strs_fine fun u hu => h u (by simp [hu]), D.fine, List.all_eq_true.mpr fun c hc => decide_eq_true (Nat.lt_trans ((h t (by simp)).2 c hc) (by decide))]; rfl
theorem strs_wt : ∀ {T : List (List Nat)}, (∀ t, t ∈ T → Wd t) → wts (T.map .str) ≤ 31 * T.length
  | [], _ => by rw [List.map_nil, wts]; simp
  | t :: T, h => by
    have := strs_wt (T := T) fun u hu => h u (by simp [hu])
    have := (h t (by simp)).1
    rw [List.map_cons, wts, D.wt, List.length_cons]; omega
theorem strs_dep : ∀ (T : List (List Nat)), deps (T.map .str) = 0
  | [] => by rw [List.map_nil, deps]
  | t :: T => by rw [List.map_cons, deps, strs_dep T, D.dep] <;> first | rfl | nofun
theorem int_wt {n : Nat} (h : n ≤ 100) : (D.int (n : Nat)).wt ≤ 10 := by
  rw [D.wt]
  split
  · omega
  · rename_i z
    have z : (n : Int).natAbs ≠ 0 := fun e => z (by have : n = 0 := by omega
                                                    subst this; rfl)
    have := (Nat.log2_lt (n := (n : Int).natAbs) z (k := 8)).mpr (by omega)
    omega
theorem due_facts {e : Ex} (hn : e.n ≤ 60) (hw : ∀ w, w ∈ e.ns → Wd w) : (dueD e).fine = true ∧ (dueD e).wt ≤ 2 ^ 20 ∧ (dueD e).dep ≤ 60 := by
  have hh := e.h_le
  have hl := ns_len e
  have s1 := strs_wt hw
  have i1 := int_wt (n := e.n) (by omega)
  have i2 := int_wt (n := e.h) (by omega)
  refine ⟨?_, ?_, ?_⟩
  · unfold dueD
    have c1 : (e.n : Int).natAbs < 10 ^ 12 := by omega
    have c2 : (e.h : Int).natAbs < 10 ^ 12 := by omega
    simp only [D.fine, fines, strs_fine hw, decide_eq_true c1, decide_eq_true c2, Bool.and_true]
  · unfold dueD
    have b : (D.bl e.ha).wt = 0 := by rw [D.wt] <;> nofun
    simp only [D.wt, wts] at i1 i2 b ⊢
    omega
  · unfold dueD
    simp only [D.dep, deps, strs_dep]
    decide
def rgM : List MS := [(.asg (.name 5) (.call 22 [(.op .item [(.op .item [(.var 1), (.var 4)]), (.const (.int 0))]), (.op .item [(.var 0), (.const (.int 4))])])), (.ite (.not (.call 12 [(.call 1 [(.var 2), (.var 5), (.op .item [(.op .item [(.var 1), (.var 4)]), (.const (.int 1))])]), (.op .item [(.op .item [(.var 0), (.const (.int 1))]), (.var 4)])])) [(.ret (.const (.bl false)))] []), (.ite (.and (.op .eq [(.op .item [(.op .item [(.var 1), (.var 4)]), (.const (.int 1))]), (.const (.int 0))]) (.not (.call 12 [(.call 1 [(.var 2), (.var 5), (.const (.int 0))]), (.op .item [(.op .item [(.var 0), (.const (.int 1))]), (.var 4)])]))) [(.ret (.const (.bl false)))] []), (.ite (.not (.call 12 [(.var 5), (.call 22 [(.op .item [(.op .item [(.var 1), (.var 4)]), (.const (.int 0))]), (.op .item [(.var 0), (.const (.int 4))])])])) [(.ret (.const (.bl false)))] [])]
/-- a row's dict knows the names, its values are small -/
structure Row (e : Ex) (l : List (KD × D)) (f : List Nat → Int) (g : Int) : Prop where
  kn : ∀ w, w ∈ e.ns → dget l (.inr w) = some (.int (f w))
  vd : ∀ w, w ∈ e.ns → Wd w ∧ Vd (.int (f w))
  sm : Sm f g e
theorem right_turn (k : Nat) (e : Ex) (hn : e.n ≤ 60) (l : List (KD × D)) (f : List Nat → Int) (g : Int) (ro : Row e l f g) (x0 x1 : Int) (l0 : List (KD × D)) (g0 : Int) (l1 : List (KD × D)) (g1 : Int) (i : Nat) (x5 s3 : Slot)
    (hr : Op.ap .item [.lst [.lst [.dic l0, .int g0], .lst [.dic l1, .int g1]], .int i] = some (.imm (.lst [.dic l, .int g]))) (hv : Op.ap .item [.lst [.int x0, .int x1], .int i] = some (.imm (.int (e.v f g)))) :
    evSs (callK prog (k + 62)) rgM [V (It e [x0, x1]), some (Rw l0 g0 l1 g1), V e.d, s3, I i, x5] = .nx [V (It e [x0, x1]), some (Rw l0 g0 l1 g1), V e.d, s3, I i, some (.oD (partL e.ns fun w => .int (f w)))] := by
  have hh := e.h_le
  have hl := ns_len e
  have pc := part_call (k + 61) (.imm (.dic l)) l (.inr rfl) (fun w => .int (f w)) e.ns ro.kn (ns_nodup e) (by omega)
  have kn2 : Kn (partL e.ns fun w => .int (f w)) f e.ws := fun w hw => dget_part (d := fun w => .int (f w)) ((ns_mem e w).mpr hw)
  have vc := value_call (partL e.ns fun w => .int (f w)) f g e (k + 61) (by omega) hn ro.sm kn2
  have si := same_int (k + 61) (e.v f g) (Ex.log f g ro.sm hn)
  have sp := same_part (k + 61) (fun w => .int (f w)) e.ns ro.vd (ns_nodup e) (by omega)
  have pc : callK prog (k + 62) 22 _ = _ := pc
  have vc : callK prog (k + 62) 1 _ = _ := vc
  have si : callK prog (k + 62) 12 _ = _ := si
  have sp : callK prog (k + 62) 12 _ = _ := sp
  have i1 : Op.ap .item [It e [x0, x1], .int 4] = some (.imm (.lst (e.ns.map .str))) := rfl
  have i2 : Op.ap .item [It e [x0, x1], .int 1] = some (.imm (.lst [.int x0, .int x1])) := rfl
  have j0 : Op.ap .item [.lst [.dic l, .int g], .int 0] = some (.imm (.dic l)) := rfl
  have j1 : Op.ap .item [.lst [.dic l, .int g], .int 1] = some (.imm (.int g)) := rfl
  generalize callK prog (k + 62) = cf at pc vc si sp
  generalize partL e.ns (fun w => .int (f w)) = PL at *
  generalize It e [x0, x1] = IT at *
  by_cases c : g = 0
  · subst c
    simp [rgM, hr, hv, pc, vc, si, sp, i1, i2, j0, j1, apEq, -ap_item_lst]
  · have c' : (g == 0) = false := beq_false_of_ne c
    simp [rgM, hr, hv, pc, vc, si, sp, i1, i2, j0, j1, apEq, c', -ap_item_lst]
theorem right_call (k : Nat) (e : Ex) (hn : e.n ≤ 60) (l0 l1 : List (KD × D)) (f0 f1 : List Nat → Int) (g0 g1 : Int) (r0 : Row e l0 f0 g0) (r1 : Row e l1 f1 g1) :
    callK prog (k + 63) 23 [.imm (It e [e.v f0 g0, e.v f1 g1]), Rw l0 g0 l1 g1] = .ret (.imm (.bl true)) [V (It e [e.v f0 g0, e.v f1 g1]), some (Rw l0 g0 l1 g1)] := by
  rw [show k + 63 = (k + 62) + 1 from rfl, callK]
  show callF (callK prog (k + 62)) f23 _ = _
  have hh := e.h_le
  have hw : ∀ w, w ∈ e.ns → Wd w := fun w h => (r0.vd w h).1
  obtain ⟨d1, d2, d3⟩ := due_facts hn hw
  have nc : callK prog (k + 62) 3 _ = _ := nodes_call (k + 61) e (by omega)
  have dc : callK prog (k + 62) 4 _ = _ := depth_call (k + 61) e (by omega)
  have mc : callK prog (k + 62) 6 _ = _ := names_call (k + 60) e (by omega) hn
  have hc : callK prog (k + 62) 7 _ = _ := harg_call (k + 61) e (by omega)
  have sc : callK prog (k + 62) 12 _ = _ := same_fine (k + 61) (.imm (dueD e)) (.imm (dueD e)) rfl rfl d1 d2 d3
  have t0 := right_turn k e hn l0 f0 g0 r0 (e.v f0 g0) (e.v f1 g1) l0 g0 l1 g1 0 none (V (dueD e)) rfl rfl
  have t1 := right_turn k e hn l1 f1 g1 r1 (e.v f0 g0) (e.v f1 g1) l0 g0 l1 g1 1 (some (.oD (partL e.ns fun w => .int (f0 w)))) (V (dueD e)) rfl rfl
  generalize callK prog (k + 62) = cf at nc dc mc hc sc t0 t1
  have lp : forLoop [V (It e [e.v f0 g0, e.v f1 g1]), some (Rw l0 g0 l1 g1), V e.d, V (dueD e), none, none] [Sum.inr (.imm (.int 2))] (.name 4) (evSs cf rgM) (rangeL 0 2) [V (It e [e.v f0 g0, e.v f1 g1]), some (Rw l0 g0 l1 g1), V e.d, V (dueD e), none, none] = .nx [V (It e [e.v f0 g0, e.v f1 g1]), some (Rw l0 g0 l1 g1), V e.d, V (dueD e), I (1 : Nat), some (.oD (partL e.ns fun w => .int (f1 w)))] :=
    for_two (d1 := .int 0) (d2 := .int 1) (by simp) rfl t0 (by simp) rfl t1 (by simp)
  have K4 : 4 ≤ LINE := by decide
  have i0 : Op.ap .item [It e [e.v f0 g0, e.v f1 g1], .int 0] = some (.imm e.d) := rfl
  have i2 : Op.ap .item [It e [e.v f0 g0, e.v f1 g1], .int 2] = some (.imm (.int e.n)) := rfl
  have i3 : Op.ap .item [It e [e.v f0 g0, e.v f1 g1], .int 3] = some (.imm (.int e.h)) := rfl
  have i4 : Op.ap .item [It e [e.v f0 g0, e.v f1 g1], .int 4] = some (.imm (.lst (e.ns.map .str))) := rfl
  have i5 : Op.ap .item [It e [e.v f0 g0, e.v f1 g1], .int 5] = some (.imm (.bl e.ha)) := rfl
  generalize It e [e.v f0 g0, e.v f1 g1] = IT at *
  unfold rgM at lp
  unfold dueD at lp sc
  unfold callF
  simp [f23, b23, i0, i2, i3, i4, i5, K4, nc, dc, mc, hc, sc, -List.map_map]
  rw [lp]
  simp
end K01
namespace K01
open Mv
def RES : List (List Nat) := splitD (s0 ++ s1) [32]
def resOk : Bool := RES.all (fun w => decide (w.length ≤ 10) && w.all fun c => decide (c < 128)) && decide (0 < RES.length) && decide (RES.length ≤ 100)
theorem res_ok : resOk = true := by decide +kernel
theorem numt : numText 0 = [48] ∧ numText 1 = [49] ∧ numText 2 = [50] ∧ numText 3 = [51] := by decide +kernel
theorem res_n : ∀ c, c ∈ [48, 49, 50, 51] → [110, c] ∉ RES := by decide +kernel
theorem reserved_call (k : Nat) : callK prog (k + 1) 13 [] = .ret (.oL (RES.map fun w => .imm (.str w))) [] := by
  rw [callK]
  show callF (callK prog k) f13 _ = _
  have h1 : s0.length + s1.length ≤ LINE := by decide
  have h2 : (s0 ++ s1).length + 2 ≤ LINE := by decide
  have h3 : s0.length + s1.length + 2 ≤ LINE := by decide
  unfold callF
  simp [f13, b13, h1, h2, h3]
  rfl
abbrev TK (T : List (List Nat)) : RV := .oL (T.map fun w => .imm (.str w))
theorem vw_strs (T : List (List Nat)) : vw (TK T) = some (.lst (T.map .str)) := by show (imms _).map D.lst = _; rw [imms_strs]; rfl
def WordP (T : List (List Nat)) (n : Nat) (r : CRes) : Prop := ∃ (w : List Nat) (p' : Pool), r = .ret (.imm (.str w)) [some p'.rv, some (TK T)] ∧ w ∉ T ∧ Wd w ∧ p'.Ok n
abbrev SG : List Nat := s2 ++ s3
theorem sg_len : SG.length = 37 := by decide
theorem s2_len : s2.length = 26 := by decide
theorem sg_low : ∀ c, c ∈ SG → c < 128 := by decide
def wdM : List MS := [(.asg (.name 6) (.op .add [(.var 6), (.op .item [(.var 5), (.call 10 [(.var 0), (.const (.int 37))])])]))]
theorem word_loop (k : Nat) (s1' l kn wy : Slot) (os : List Od) (hos : ∀ ρ0 ρ, stable ρ0 ρ os = true) (ρ0 : Mv.Loc) (x8 x9 x10 : Slot) : ∀ (ds : List D) (p : Pool) (n : Nat) (w : List Nat) (x7 : Slot), p.Ok n → n + ds.length < 1000000 → w.length + ds.length ≤ 30 → (∀ c, c ∈ w → c < 128) →
    ∃ p' w' x7', forLoop ρ0 os (.name 7) (evSs (callK prog (k + 1)) wdM) ds [some p.rv, s1', l, kn, wy, S SG, S w, x7, x8, x9, x10] = .nx [some p'.rv, s1', l, kn, wy, S SG, S w', x7', x8, x9, x10] ∧ w'.length ≤ 30 ∧ (∀ c, c ∈ w' → c < 128) ∧ Pool.Ok p' (n + ds.length)
  | [], p, n, w, x7, hp, _, hl, hw => ⟨p, w, x7, by rw [forLoop, if_pos (hos _ _)], by simpa using hl, hw, hp⟩
  | d :: ds, p, n, w, x7, hp, hn, hl, hw => by
    simp only [List.length_cons] at hn hl
    obtain ⟨v, p1, q1, q2, q3, q4⟩ := take_call p10 k p 37 n hp (by omega) (by omega) (by omega)
    have hv : v.toNat < SG.length := by rw [sg_len]; omega
    have hg : SG[v.toNat]? = some SG[v.toNat] := List.getElem?_eq_getElem hv
    obtain ⟨p2, w2, y7, e, a1, a2, a3⟩ := word_loop k s1' l kn wy os hos ρ0 x8 x9 x10 ds p1 (n + 1) (w ++ [SG[v.toNat]]) (V d) q4 (by omega) (by simp; omega) (fun c hc => by
      rcases List.mem_append.mp hc with z | z
      · exact hw c z
      · rw [List.mem_singleton.mp z]; exact sg_low _ (List.getElem_mem hv))
    refine ⟨p2, w2, y7, ?_, a1, a2, a3.up (by simp only [List.length_cons]; omega)⟩
    rw [forLoop, if_pos (hos _ _)]
    have K1 : SG.length ≤ LINE := by rw [sg_len]; decide
    have K2 : w.length + 1 ≤ LINE := Nat.le_trans (m := 100) (by omega) (by decide)
    generalize SG[v.toNat] = c at *
    generalize SG = G at *
    have step : evSs (callK prog (k + 1)) wdM [some p.rv, s1', l, kn, wy, S G, S w, V d, x8, x9, x10] = .nx [some p1.rv, s1', l, kn, wy, S G, S (w ++ [c]), V d, x8, x9, x10] := by
      simp [wdM, q1, K1, K2, atD_nat q2, hg]
    show turnK _ (evSs (callK prog (k + 1)) wdM [some p.rv, s1', l, kn, wy, S G, S w, V d, x8, x9, x10]) = _
    rw [step]
    exact e
def lens : List D := [.int 0, .int 0, .int 0, .int 1, .int 2, .int 4, .int 22, .int 23]
theorem lens_ok {v : Int} (h0 : 0 ≤ v) (h1 : v < 8) : ∃ m : Nat, Op.ap .item [.lst lens, .int v] = some (.imm (.int m)) ∧ m ≤ 23 ∧ (v < 2 → m = 0) := by
  have : v = 0 ∨ v = 1 ∨ v = 2 ∨ v = 3 ∨ v = 4 ∨ v = 5 ∨ v = 6 ∨ v = 7 := by omega
  rcases this with rfl | rfl | rfl | rfl | rfl | rfl | rfl | rfl
  · exact ⟨0, rfl, by omega, fun _ => rfl⟩
  · exact ⟨0, rfl, by omega, fun _ => rfl⟩
  · exact ⟨0, rfl, by omega, fun _ => rfl⟩
  · exact ⟨1, rfl, by omega, fun h => by omega⟩
  · exact ⟨2, rfl, by omega, fun h => by omega⟩
  · exact ⟨4, rfl, by omega, fun h => by omega⟩
  · exact ⟨22, rfl, by omega, fun h => by omega⟩
  · exact ⟨23, rfl, by omega, fun h => by omega⟩
/-- one of the spare names is free -/
theorem free_one (T : List (List Nat)) (hT : T.length ≤ 3) : ∃ i, i < T.length + 1 ∧ 110 :: numText (i : Nat) ∉ T ∧ 110 :: numText (i : Nat) ∉ RES := by
  obtain ⟨n0, n1, n2, n3⟩ := numt
  have r := res_n
  have r0 := r 48 (by simp); have r1 := r 49 (by simp); have r2 := r 50 (by simp); have r3 := r 51 (by simp)
  have e0 : numText ((0 : Nat) : Int) = [48] := n0
  have e1 : numText ((1 : Nat) : Int) = [49] := n1
  have e2 : numText ((2 : Nat) : Int) = [50] := n2
  have e3 : numText ((3 : Nat) : Int) = [51] := n3
  by_cases c0 : [110, 48] ∈ T
  · by_cases c1 : [110, 49] ∈ T
    · by_cases c2 : [110, 50] ∈ T
      · by_cases c3 : [110, 51] ∈ T
        · exfalso
          match T, hT with
          | [], _ => cases c0
          | [a], _ => simp only [List.mem_cons, List.not_mem_nil, or_false] at c0 c1; rw [← c0] at c1; cases c1
          | [a, b], _ =>
            simp only [List.mem_cons, List.not_mem_nil, or_false] at c0 c1 c2
            rcases c0 with rfl | rfl <;> rcases c1 with c1 | c1 <;> rcases c2 with c2 | c2 <;> first | (cases c1; done) | (cases c2; done) | (rw [← c1] at c2; cases c2; done)
          | [a, b, d], _ =>
            simp only [List.mem_cons, List.not_mem_nil, or_false] at c0 c1 c2 c3
            rcases c0 with rfl | rfl | rfl <;> rcases c1 with c1 | c1 | c1 <;> rcases c2 with c2 | c2 | c2 <;> rcases c3 with c3 | c3 | c3 <;> first | (cases c1; done) | (cases c2; done) | (cases c3; done) | (rw [← c1] at c2; cases c2; done) | (rw [← c1] at c3; cases c3; done) | (rw [← c2] at c3; cases c3; done)
        · refine ⟨3, ?_, by rw [e3]; exact c3, by rw [e3]; exact r3⟩
          match T, hT with
          | [], _ => cases c0
          | [a], _ => simp only [List.mem_cons, List.not_mem_nil, or_false] at c0 c1; rw [← c0] at c1; cases c1
          | [a, b], _ =>
            simp only [List.mem_cons, List.not_mem_nil, or_false] at c0 c1 c2
            exfalso
            rcases c0 with rfl | rfl <;> rcases c1 with c1 | c1 <;> rcases c2 with c2 | c2 <;> first | (cases c1; done) | (cases c2; done) | (rw [← c1] at c2; cases c2; done)
          | [a, b, d], _ => simp
      · refine ⟨2, ?_, by rw [e2]; exact c2, by rw [e2]; exact r2⟩
        match T, hT with
        | [], _ => cases c0
        | [a], _ => simp only [List.mem_cons, List.not_mem_nil, or_false] at c0 c1; rw [← c0] at c1; cases c1
        | a :: b :: T, _ => simp
    · refine ⟨1, ?_, by rw [e1]; exact c1, by rw [e1]; exact r1⟩
      match T, hT with
      | [], _ => cases c0
      | a :: T, _ => simp
  · exact ⟨0, by omega, by rw [e0]; exact c0, by rw [e0]; exact r0⟩
theorem evSs_app (cf : Nat → List RV → CRes) (b : List MS) : ∀ (a : List MS) (ρ : Mv.Loc), evSs cf (a ++ b) ρ = seqK (evSs cf b) (evSs cf a ρ)
  | [], ρ => by rw [List.nil_append, evSs_nil]; rfl
  | s :: a, ρ => by
    rw [List.cons_append, evSs_cons, evSs_cons]
    cases evS cf s ρ with
    | nx ρ1 => exact evSs_app cf b a ρ1
    | ret _ _ => rfl
    | bk _ => rfl
    | ct _ => rfl
    | fail => rfl
theorem num_low (i : Nat) (h : i ≤ 3) : (numText (i : Int)).length = 1 ∧ (∀ c, c ∈ numText (i : Int) → c < 128) ∧ (i : Int).natAbs.log2 < 1920 := by
  obtain ⟨n0, n1, n2, n3⟩ := numt
  have : i = 0 ∨ i = 1 ∨ i = 2 ∨ i = 3 := by omega
  rcases this with rfl | rfl | rfl | rfl
  · rw [show ((0 : Nat) : Int) = 0 from rfl, n0]; decide
  · rw [show ((1 : Nat) : Int) = 1 from rfl, n1]; decide
  · rw [show ((2 : Nat) : Int) = 2 from rfl, n2]; decide
  · rw [show ((3 : Nat) : Int) = 3 from rfl, n3]; decide
theorem filt_eq (T R : List (List Nat)) : ∀ X : List (List Nat), X.filterMap (fun x => if x ∈ T then none else if x ∈ R then none else some (RV.imm (.str x))) = (X.filter (fun x => !decide (x ∈ T) && !decide (x ∈ R))).map fun x => .imm (.str x)
  | [] => rfl
  | x :: r => by by_cases c : x ∈ T <;> by_cases c2 : x ∈ R <;> simp [c, c2, filt_eq T R r]
theorem word_call (T : List (List Nat)) (hT : T.length ≤ 3) (k : Nat) (p : Pool) (n : Nat) (hp : p.Ok n) (hn : n < 100000) : WordP T (n + 40) (callK prog (k + 3) 14 [p.rv, TK T]) := by
  rw [show k + 3 = (k + 2) + 1 from rfl, callK]
  show WordP T _ (callF (callK prog (k + 2)) f14 _)
  have rk : callK prog (k + 2) 13 _ = _ := reserved_call (k + 1)
  have ro := res_ok
  unfold resOk at ro
  simp only [Bool.and_eq_true, decide_eq_true_eq] at ro
  obtain ⟨⟨ra, rb⟩, rc⟩ := ro
  have rw_ : ∀ w, w ∈ RES → w.length ≤ 10 ∧ ∀ c, c ∈ w → c < 128 := fun w hw => by
    have := List.all_eq_true.mp ra w hw
    simp only [Bool.and_eq_true, decide_eq_true_eq] at this
    exact ⟨this.1, fun c hc => of_decide_eq_true (List.all_eq_true.mp this.2 c hc)⟩
  obtain ⟨v, p1, q1, q2, q3, q4⟩ := take_call p10 (k + 1) p 8 n hp (by omega) (by omega) (by omega)
  have q1 : callK prog (k + 2) 10 _ = _ := q1
  obtain ⟨u, p2, r1, r2, r3, r4⟩ := take_call p10 (k + 1) p1 26 (n + 1) q4 (by omega) (by omega) (by omega)
  have r1 : callK prog (k + 2) 10 _ = _ := r1
  have hu : u.toNat < s2.length := by rw [s2_len]; omega
  have hgu : s2[u.toNat]? = some s2[u.toNat] := List.getElem?_eq_getElem hu
  have lowu : s2[u.toNat] < 128 := sg_low _ (List.mem_append_left _ (List.getElem_mem hu))
  obtain ⟨m, hm, hm1, hm2⟩ := lens_ok q2 q3
  have K1 : 1 ≤ LINE := by decide
  have K8 : 8 ≤ LINE := by decide
  have Ks2 : s2.length ≤ LINE := by rw [s2_len]; decide
  have Ks3 : s2.length + s3.length ≤ LINE := by decide
  have Ksg : SG.length ≤ LINE := by rw [sg_len]; decide
  -- the drawn word, ahead of the loop
  obtain ⟨p3, w, hw1, hw2, ok3, pre⟩ : ∃ (p3 : Pool) (w : List Nat), w.length + m ≤ 30 ∧ (∀ c, c ∈ w → c < 128) ∧ p3.Ok (n + 4) ∧
      evSs (callK prog (k + 2)) (b14.take 4) [some p.rv, some (TK T), none, none, none, none, none, none, none, none, none] = .nx [some p3.rv, some (TK T), S s2, some (TK RES), I v, S SG, S w, none, none, none, none] := by
    by_cases c0 : v = 0
    · subst c0
      obtain ⟨j, d, p3, t1, t2, t3⟩ := pick_call p11 p10 k p2 (TK RES) (RES.map .str) (n + 2) (vw_strs RES) (by rw [List.length_map]; exact rb) (by rw [List.length_map]; omega) r4 (by omega)
      obtain ⟨y, hy, rfl⟩ := List.mem_map.mp (List.mem_of_getElem? t2)
      obtain ⟨y1, y2⟩ := rw_ y hy
      obtain ⟨z, p4, z1, z2, z3, z4⟩ := take_call p10 (k + 1) p3 37 (n + 3) t3 (by omega) (by omega) (by omega)
      have z1 : callK prog (k + 2) 10 _ = _ := z1
      have hz : z.toNat < SG.length := by rw [sg_len]; omega
      have hgz : SG[z.toNat]? = some SG[z.toNat] := List.getElem?_eq_getElem hz
      have lowz : SG[z.toNat] < 128 := sg_low _ (List.getElem_mem hz)
      have Ky : y.length + 1 ≤ LINE := Nat.le_trans (m := 20) (by omega) (by decide)
      have m0 := hm2 (by omega)
      generalize SG[z.toNat] = cz at *
      generalize s2[u.toNat] = cu at *
      refine ⟨p4, y ++ [cz], by simp; omega, fun c hc => ?_, z4, ?_⟩
      · rcases List.mem_append.mp hc with hc | hc
        · exact y2 c hc
        · rw [List.mem_singleton.mp hc]; exact lowz
      · generalize callK prog (k + 2) = cf at *
        have hSG : s2 ++ s3 = SG := rfl
        generalize SG = G at *
        generalize RES = RR at *
        simp [b14, rk, q1, r1, Ks2, Ks3, hSG, atD_nat r2, hgu, apEq, t1, z1, Ksg, atD_nat z2, hgz, Ky]
    · have e0 : (v == 0) = false := beq_false_of_ne c0
      by_cases c1 : v = 1
      · subst c1
        obtain ⟨j, d, p3, t1, t2, t3⟩ := pick_imms k p2 [.str [109, 105, 110, 117, 115], .str [110, 117, 109], .str [110, 97, 109, 101], .str [115, 101, 116], .str [101, 110, 100], .str [115, 107, 105, 112], .str [103, 111], .str [110, 48]] (n + 2) (by decide) (by decide) r4 (by omega)
        simp only [List.map_cons, List.map_nil] at t1
        obtain ⟨y, rfl, y1, y2⟩ : ∃ y, d = .str y ∧ y.length ≤ 10 ∧ ∀ c, c ∈ y → c < 128 := by
          have := List.mem_of_getElem? t2
          simp only [List.mem_cons, List.not_mem_nil, or_false] at this
          rcases this with rfl | rfl | rfl | rfl | rfl | rfl | rfl | rfl <;> exact ⟨_, rfl, by decide, by decide⟩
        have m0 := hm2 (by omega)
        refine ⟨p3, y, by omega, y2, t3.up (by omega), ?_⟩
        generalize s2[u.toNat] = cu at *
        generalize callK prog (k + 2) = cf at *
        have hSG : s2 ++ s3 = SG := rfl
        generalize SG = G at *
        generalize RES = RR at *
        simp [b14, rk, q1, r1, Ks2, Ks3, hSG, atD_nat r2, hgu, apEq, t1, K8]
      · have e1 : (v == 1) = false := beq_false_of_ne c1
        refine ⟨p2, [s2[u.toNat]], by simp; omega, fun c hc => by rw [List.mem_singleton.mp hc]; exact lowu, r4.up (by omega), ?_⟩
        generalize s2[u.toNat] = cu at *
        generalize callK prog (k + 2) = cf at *
        have hSG : s2 ++ s3 = SG := rfl
        generalize SG = G at *
        generalize RES = RR at *
        simp [b14, rk, q1, r1, Ks2, Ks3, hSG, atD_nat r2, hgu, apEq, e0, e1]
  have lr : (rangeL 0 m).length = m := by simp [rangeL]
  obtain ⟨p4, w', x7, lp, w1, w2, ok4⟩ := word_loop (k + 1) (some (TK T)) (S s2) (some (TK RES)) (I v) [Sum.inr (.imm (.int (m : Int)))] (fun _ _ => by simp) [some p3.rv, some (TK T), S s2, some (TK RES), I v, S SG, S w, none, none, none, none] none none none (rangeL 0 m) p3 (n + 4) w none ok3 (by rw [lr]; omega) (by rw [lr]; exact hw1) hw2
  have lp : forLoop _ _ _ (evSs (callK prog (k + 2)) wdM) _ _ = _ := lp
  have okm := okR_true (n := (m : Int)) (by omega) (by omega)
  have okt := okR_true (n := ((T.length : Int) + 1)) (by omega) (by omega)
  let SP : List (List Nat) := w' :: (List.range (T.length + 1)).map fun i => 110 :: numText (i : Nat)
  have hSP : ∀ x, x ∈ SP → Wd x := fun x hx => by
    rcases List.mem_cons.mp hx with rfl | hx
    · exact ⟨w1, w2⟩
    · obtain ⟨i, hi, rfl⟩ := List.mem_map.mp hx
      have hi := List.mem_range.mp hi
      obtain ⟨a1, a2, _⟩ := num_low i (by omega)
      exact ⟨by rw [List.length_cons, a1]; omega, fun c hc => by
        rcases List.mem_cons.mp hc with rfl | hc
        · omega
        · exact a2 c hc⟩
  have lsp : SP.length ≤ 5 := by simp [SP]; omega
  have hQ : SP.filter (fun x => !decide (x ∈ T) && !decide (x ∈ RES)) ≠ [] := by
    obtain ⟨i, hi, f1, f2⟩ := free_one T hT
    intro z
    have : (110 :: numText (i : Nat)) ∈ SP.filter (fun x => !decide (x ∈ T) && !decide (x ∈ RES)) := List.mem_filter.mpr ⟨List.mem_cons_of_mem _ (List.mem_map.mpr ⟨i, List.mem_range.mpr hi, rfl⟩), by simp [f1, f2]⟩
    rw [z] at this
    cases this
  obtain ⟨y, ys, hy⟩ : ∃ y ys, SP.filter (fun x => !decide (x ∈ T) && !decide (x ∈ RES)) = y :: ys := by
    cases h : SP.filter (fun x => !decide (x ∈ T) && !decide (x ∈ RES)) with
    | nil => exact absurd h hQ
    | cons y ys => exact ⟨y, ys, rfl⟩
  have my : y ∈ SP.filter (fun x => !decide (x ∈ T) && !decide (x ∈ RES)) := by rw [hy]; simp
  obtain ⟨my1, my2⟩ := List.mem_filter.mp my
  have my3 : y ∉ T := fun z => by simp [z] at my2
  refine ⟨y, p4, ?_, my3, hSP y my1, ok4.up (by rw [lr]; omega)⟩
  have rg : rangeL 0 ((T.length : Int) + 1).toNat = (List.range (T.length + 1)).map fun i : Nat => D.int (0 + (i : Nat)) := by
    rw [show ((T.length : Int) + 1).toNat = T.length + 1 from by omega]; rfl
  have cm1 : ∀ (st : Mv.Loc) os, st = [some p4.rv, some (TK T), S s2, some (TK RES), I v, S SG, S w', x7, none, none, none] → apartO [9] os = true → compEnd st [9] (compLoop st os (.name 9) [9] (evC (callK prog (k + 2)) []) (evE (callK prog (k + 2)) (.op .add [(.const (.str [110])), (.op .str1 [(.var 9)])])) ((List.range (T.length + 1)).map fun i : Nat => D.int (0 + (i : Nat))) [] st) =
      .ok (.oL ((List.range (T.length + 1)).map fun i : Nat => .imm (.str (110 :: numText (i : Nat))))) st := fun st os e ap => by
    subst e
    refine comp_map (fun i : Nat => D.int (0 + (i : Nat))) (fun i : Nat => .imm (.str (110 :: numText (i : Nat)))) (List.range (T.length + 1)) (Nat.le_trans (m := 10) (by rw [List.length_range]; omega) (by decide)) ap fun i hi => ⟨[some p4.rv, some (TK T), S s2, some (TK RES), I v, S SG, S w', x7, none, I (0 + (i : Nat)), none], ?_, by simp⟩
    have hi := List.mem_range.mp hi
    obtain ⟨a1, _, a3⟩ := num_low i (by omega)
    have a4 : 1 + (numText (i : Nat)).length ≤ LINE := by rw [a1]; decide
    have a3' : i.log2 < 1920 := by simpa using a3
    simp [a3', a4]
  have cm2 : ∀ (st : Mv.Loc) os, st = [some p4.rv, some (TK T), S s2, some (TK RES), I v, S SG, S w', x7, some (TK SP), none, none] → apartO [10] os = true → compEnd st [10] (compLoop st os (.name 10) [10] (evC (callK prog (k + 2)) [(.and (.op .notIn [(.var 10), (.var 1)]) (.op .notIn [(.var 10), (.var 3)]))]) (evE (callK prog (k + 2)) (.var 10)) (SP.map D.str) [] st) =
      .ok (.oL ((y :: ys).map fun x => .imm (.str x))) st := fun st os e ap => by
    subst e
    rw [comp_run D.str (fun x => if x ∈ T then none else if x ∈ RES then none else some (.imm (.str x))) ap SP [] _ rfl (Nat.le_trans (m := 10) (by simp; omega) (by decide)) fun x hx => ?_]
    · rw [List.nil_append, ← hy]
      rw [filt_eq]
    · refine ⟨[some p4.rv, some (TK T), S s2, some (TK RES), I v, S SG, S w', x7, some (TK SP), none, S x], ?_, by simp⟩
      by_cases c : x ∈ T
      · simp [vw_strs, in_strs, c]
      · by_cases c2 : x ∈ RES <;> simp [vw_strs, in_strs, c, c2]
  have hb : b14 = b14.take 4 ++ b14.drop 4 := (List.take_append_drop 4 b14).symm
  have Lsp : 1 + (T.length + 1) ≤ LINE := Nat.le_trans (m := 10) (by omega) (by decide)
  have hm' : Op.ap .item [.lst [.int 0, .int 0, .int 0, .int 1, .int 2, .int 4, .int 22, .int 23], .int v] = some (.imm (.int m)) := hm
  unfold callF
  show (if _ then endC _ _ (evSs (callK prog (k + 2)) b14 [some p.rv, some (TK T), none, none, none, none, none, none, none, none, none]) else CRes.fail) = _
  rw [hb, evSs_app, pre]
  generalize callK prog (k + 2) = cf at *
  generalize hG : SG = G at *
  unfold wdM at lp
  have e8 : (RV.imm (D.str w') :: (List.range (T.length + 1)).map fun i : Nat => RV.imm (.str (110 :: numText (i : Nat)))) = SP.map fun x => .imm (.str x) := by simp [SP]
  simp [b14, K8, hm', okm]
  rw [lp]
  simp [K1, okt, rg, vw_strs]
  have rg' : rangeL 0 (T.length + 1) = (List.range (T.length + 1)).map fun i : Nat => D.int (0 + (i : Nat)) := rfl
  rw [rg']
  have hnp : f14.np = 2 := rfl
  rw [cm1 _ _ rfl (by simp)]
  have e9 : imms (List.map (fun i : Nat => RV.imm (D.str (110 :: numText (i : Nat)))) (List.range (T.length + 1))) = some ((List.range (T.length + 1)).map fun i : Nat => D.str (110 :: numText (i : Nat))) := imms_of _ (fun i => D.str (110 :: numText (i : Nat)))
  have e10 : D.str w' :: (List.range (T.length + 1)).map (fun i : Nat => D.str (110 :: numText (i : Nat))) = SP.map D.str := by simp [SP]
  have v8 : vw (TK SP) = some (.lst (SP.map .str)) := vw_strs SP
  have lsy : ys.length + 1 ≤ LINE := by
    have : (y :: ys).length ≤ SP.length := by rw [← hy]; exact List.length_filter_le _ _
    exact Nat.le_trans (m := 10) (by simp only [List.length_cons] at this; omega) (by decide)
  have iy : imms (RV.imm (D.str y) :: ys.map fun x => RV.imm (D.str x)) = some ((y :: ys).map D.str) := imms_of (y :: ys) D.str
  simp only [List.map_cons] at cm2
  have hf1 : f14.np = 2 := rfl
  have hf2 : f14.ns = 11 := rfl
  have hf3 : f14.w = f14.w := rfl
  generalize SP = sp at *
  have hc : (RV.imm ∘ D.str) = fun x => RV.imm (D.str x) := rfl
  simp [e9, e10, Lsp, hc]
  rw [cm2 _ _ rfl (by simp)]
  have a0 : ∀ (d : D) ds, atD (d :: ds) 0 = some d := fun d ds => by rw [atD_nat (by omega)]; rfl
  simp [lsy, iy, hf1, hf2, a0]
  rfl
end K01
namespace K01
open Mv
theorem tree_facts {W : List (List Nat)} (hW : ∀ w, w ∈ W → Wd w) : ∀ {e : Ex}, Lf W e → e.d.fine = true ∧ e.d.wt ≤ 40 * e.n ∧ e.d.dep ≤ e.h
  | .num i, h => by
    have h : i.natAbs ≤ 99 := h
    have iw : (D.int i).wt ≤ 8 := by
      rw [D.wt]
      split
      · omega
      · rename_i z
        have z : i.natAbs ≠ 0 := fun e => z (by have : i = 0 := by omega
                                                subst this; rfl)
        have := (Nat.log2_lt (n := i.natAbs) z (k := 7)).mpr (by omega)
        omega
    have c1 : i.natAbs < 10 ^ 12 := by omega
    refine ⟨?_, ?_, ?_⟩
    · simp [Ex.d, D.fine, fines, sNum]
      omega
    · have s1 : (D.str sNum).wt = 3 := by rw [D.wt]; rfl
      have en : (Ex.num i).n = 1 := rfl
      rw [Ex.d, D.wt, wts, wts, wts, s1, en]; omega
    · simp [Ex.d, D.dep, deps, Ex.h]
  | .name w, h => by
    have hw := hW w h
    have e1 : w.all (fun c => decide (c < 1114112)) = true := List.all_eq_true.mpr fun c hc => decide_eq_true (Nat.lt_trans (hw.2 c hc) (by decide))
    refine ⟨?_, ?_, ?_⟩
    · simp only [Ex.d, D.fine, fines, sName, e1]; rfl
    · have := hw.1
      simp [Ex.d, D.wt, wts, sName, Ex.n]; omega
    · simp [Ex.d, D.dep, deps, Ex.h]
  | .arg, h => by
    refine ⟨rfl, ?_, ?_⟩
    · simp [Ex.d, D.wt, wts, sArg, Ex.n]
    · simp [Ex.d, D.dep, deps, Ex.h]
  | .un o a, h => by
    obtain ⟨a1, a2, a3⟩ := tree_facts hW (e := a) h
    have l : o.s.length ≤ 5 := by cases o <;> decide
    have f : (D.str o.s).fine = true := by cases o <;> decide
    have w : (D.str o.s).wt ≤ 5 := by rw [D.wt]; exact l
    refine ⟨?_, ?_, ?_⟩
    · simp only [Ex.d, D.fine, fines, a1] at f ⊢; rw [f]; rfl
    · rw [Ex.d, D.wt, wts, wts, wts, Ex.n]; omega
    · have dd : (D.str o.s).dep = 0 := by rw [D.dep] <;> nofun
      rw [Ex.d, D.dep, deps, deps, deps, dd, Ex.h]; omega
  | .bin o a b, h => by
    obtain ⟨a1, a2, a3⟩ := tree_facts hW (e := a) h.1
    obtain ⟨b1, b2, b3⟩ := tree_facts hW (e := b) h.2
    have l : o.s.length ≤ 3 := by cases o <;> decide
    have f : (D.str o.s).fine = true := by cases o <;> decide
    have w : (D.str o.s).wt ≤ 3 := by rw [D.wt]; exact l
    refine ⟨?_, ?_, ?_⟩
    · simp only [Ex.d, D.fine, fines, a1, b1] at f ⊢; rw [f]; rfl
    · rw [Ex.d, D.wt, wts, wts, wts, wts, Ex.n]; omega
    · have dd : (D.str o.s).dep = 0 := by rw [D.dep] <;> nofun
      rw [Ex.d, D.dep, deps, deps, deps, deps, dd, Ex.h]; omega
theorem partL_congr {d d' : List Nat → D} {ws : List (List Nat)} (h : ∀ w, w ∈ ws → d w = d' w) : partL ws d = partL ws d' := by
  unfold partL
  exact List.map_congr_left fun w hw => by rw [h w hw]
theorem partL_len (d : List Nat → D) (ws : List (List Nat)) : (partL ws d).length = ws.length := by unfold partL; rw [List.length_map]
/-- a dict is filled, name by name -/
theorem dict_loop (cf : Nat → List RV → CRes) (st : Pool → List (KD × D) → Slot → Mv.Loc) (os : List Od) (ρ0 : Mv.Loc) (hos : ∀ p l x, stable ρ0 (st p l x) os = true) (hg : ∀ p l x d, give (st p l x) (.name 8) d = some (st p l (some (.imm d)))) (M : List MS)
    (Q : List Nat → D → Prop) (c N : Nat) (ws0 : List (List Nat)) (step : ∀ (p : Pool) n l w, w ∈ ws0 → p.Ok n → n < N → l.length ≤ 10 → ∃ (p' : Pool) (v : D), Q w v ∧ p'.Ok (n + c) ∧ evSs cf M (st p l (S w)) = .nx (st p' (dput l (.inr w) v) (S w))) :
    ∀ (ws done : List (List Nat)) (d : List Nat → D) (x : Slot) (p : Pool) (n : Nat), (∀ w, w ∈ ws → w ∈ ws0) → (done ++ ws).Nodup → (done ++ ws).length ≤ 10 → p.Ok n → n + c * ws.length < N → (∀ w, w ∈ done → Q w (d w)) →
    ∃ p' d' x', forLoop ρ0 os (.name 8) (evSs cf M) (ws.map D.str) (st p (partL done d) x) = .nx (st p' (partL (done ++ ws) d') x') ∧ (∀ w, w ∈ done ++ ws → Q w (d' w)) ∧ Pool.Ok p' (n + c * ws.length)
  | [], done, d, x, p, n, _, _, _, hp, _, hQ => ⟨p, d, x, by rw [List.map_nil, forLoop, if_pos (hos _ _ _), List.append_nil], by rw [List.append_nil]; exact hQ, hp⟩
  | w :: r, done, d, x, p, n, hs, nd, hl, hp, hn, hQ => by
    have nw : w ∉ done := fun z => (List.nodup_append.mp nd).2.2 w z w (by simp) rfl
    have hn' : n + c + c * r.length < N := by rw [List.length_cons, Nat.mul_add, Nat.mul_one] at hn; omega
    obtain ⟨p1, v, qv, k1, e1⟩ := step p n (partL done d) w (hs w (by simp)) hp (by omega) (by rw [partL_len]; rw [List.length_append] at hl; omega)
    have pw : dput (partL done d) (.inr w) v = partL (done ++ [w]) (fun u => if u = w then v else d u) := by
      rw [dput_new]
      · rw [partL_congr (d := d) (d' := fun u => if u = w then v else d u) fun u hu => by rw [if_neg]; exact fun z => nw (z ▸ hu)]
        unfold partL
        rw [List.map_append]
        simp
      · unfold partL
        rw [List.map_map]
        intro z
        obtain ⟨u, hu, e⟩ := List.mem_map.mp z
        exact nw ((Sum.inr.inj e) ▸ hu)
    obtain ⟨p', d', x', e2, q2, k2⟩ := dict_loop cf st os ρ0 hos hg M Q c N ws0 step r (done ++ [w]) (fun u => if u = w then v else d u) (S w) p1 (n + c) (fun u hu => hs u (by simp [hu])) (by rw [List.append_assoc]; exact nd) (by rw [List.append_assoc]; exact hl) k1 hn' (fun u hu => by
      rcases List.mem_append.mp hu with hu | hu
      · have : u ≠ w := fun z => nw (z ▸ hu)
        simp only [if_neg this]
        exact hQ u hu
      · rw [List.mem_singleton.mp hu]; simpa using qv)
    rw [List.append_assoc] at e2 q2
    refine ⟨p', d', x', ?_, q2, by rw [List.length_cons, Nat.mul_add, Nat.mul_one]; exact k2.up (by omega)⟩
    rw [List.map_cons, forLoop, if_pos (hos _ _ _), hg]
    show turnK _ (evSs cf M (st p (partL done d) (S w))) = _
    rw [e1, pw]
    exact e2
def wsM : List MS := [(.expr (.meth 2 .append [(.call 14 [(.var 1), (.var 2)])]))]
theorem words_loop (k : Nat) (s0 s3 s4 s5 s6 s8 s9 s10 s11 s12 s13 s14 s15 s16 : Slot) (os : List Od) (hos : ∀ a b, stable a b os = true) (ρ0 : Mv.Loc) : ∀ (ds : List D) (T : List (List Nat)) (p : Pool) (n : Nat) (x7 : Slot), p.Ok n → n + 40 * ds.length < 100000 → T.length + ds.length ≤ 4 → T.Nodup → (∀ w, w ∈ T → Wd w) →
    ∃ p' T' x7', forLoop ρ0 os (.name 7) (evSs (callK prog (k + 3)) wsM) ds [s0, some p.rv, some (TK T), s3, s4, s5, s6, x7, s8, s9, s10, s11, s12, s13, s14, s15, s16] = .nx [s0, some p'.rv, some (TK T'), s3, s4, s5, s6, x7', s8, s9, s10, s11, s12, s13, s14, s15, s16] ∧ T'.length = T.length + ds.length ∧ T'.Nodup ∧ (∀ w, w ∈ T' → Wd w) ∧ Pool.Ok p' (n + 40 * ds.length)
  | [], T, p, n, x7, hp, _, hl, nd, hw => ⟨p, T, x7, by rw [forLoop, if_pos (hos _ _)], rfl, nd, hw, hp⟩
  | d :: ds, T, p, n, x7, hp, hn, hl, nd, hw => by
    simp only [List.length_cons] at hn hl
    obtain ⟨w, p1, q1, q2, q3, q4⟩ := word_call T (by omega) k p n hp (by omega)
    obtain ⟨p2, T2, y7, e, a1, a2, a3, a4⟩ := words_loop k s0 s3 s4 s5 s6 s8 s9 s10 s11 s12 s13 s14 s15 s16 os hos ρ0 ds (T ++ [w]) p1 (n + 40) (V d) q4 (by omega) (by simp; omega)
      (List.nodup_append.mpr ⟨nd, by simp, fun x hx y hy => by rw [List.mem_singleton.mp hy]; exact fun z => q2 (z ▸ hx)⟩) (fun u hu => by
      rcases List.mem_append.mp hu with z | z
      · exact hw u z
      · rw [List.mem_singleton.mp z]; exact q3)
    refine ⟨p2, T2, y7, ?_, by rw [a1]; simp; omega, a2, a3, a4.up (by simp only [List.length_cons]; omega)⟩
    rw [forLoop, if_pos (hos _ _)]
    have K1 : T.length < LINE := Nat.lt_of_lt_of_le (m := 100) (by omega) (by decide)
    have step : evSs (callK prog (k + 3)) wsM [s0, some p.rv, some (TK T), s3, s4, s5, s6, V d, s8, s9, s10, s11, s12, s13, s14, s15, s16] = .nx [s0, some p1.rv, some (TK (T ++ [w])), s3, s4, s5, s6, V d, s8, s9, s10, s11, s12, s13, s14, s15, s16] := by
      generalize callK prog (k + 3) = cf at q1
      simp [wsM, q1, K1]
    show turnK _ (evSs (callK prog (k + 3)) wsM [s0, some p.rv, some (TK T), s3, s4, s5, s6, V d, s8, s9, s10, s11, s12, s13, s14, s15, s16]) = _
    rw [step]
    exact e
end K01
namespace K01
open Mv
def IsW (T : List (List Nat)) (v : D) : Prop := ∃ u, u ∈ T ∧ v = .str u
def IsN (v : D) : Prop := ∃ i : Int, v = .int i ∧ i.natAbs ≤ H39
def tbM : List MS := [(.setix 3 (.var 8) (.call 11 [(.var 1), (.var 2)]))]
theorem give8 {a0 a1 a2 a3 a4 a5 a6 a7 x a9 a10 a11 a12 a13 a14 a15 a16 : Slot} {d : D} : give [a0, a1, a2, a3, a4, a5, a6, a7, x, a9, a10, a11, a12, a13, a14, a15, a16] (.name 8) d = some [a0, a1, a2, a3, a4, a5, a6, a7, some (.imm d), a9, a10, a11, a12, a13, a14, a15, a16] := rfl
theorem small_lt {n : Nat} (h : n ≤ 10) : n < LINE := Nat.lt_of_lt_of_le (m := 100) (by omega) (by decide)
theorem table_loop (k : Nat) (T : List (List Nat)) (h0 : 0 < T.length) (h4 : T.length ≤ 4) (nd : T.Nodup) (p : Pool) (n : Nat) (hp : p.Ok n) (hn : n < 80000) (s0 s4 s5 s6 s7 s8 s9 s10 s11 s12 s13 s14 s15 s16 : Slot) (ρ0 : Mv.Loc) (os : List Od) (hos : ∀ p l x, stable ρ0 [s0, some (Pool.rv p), some (TK T), some (.oD l), s4, s5, s6, s7, x, s9, s10, s11, s12, s13, s14, s15, s16] os = true) :
    ∃ (p' : Pool) (t : List Nat → List Nat) (x' : Slot), forLoop ρ0 os (.name 8) (evSs (callK prog (k + 3)) tbM) (T.map D.str) [s0, some p.rv, some (TK T), some (.oD []), s4, s5, s6, s7, s8, s9, s10, s11, s12, s13, s14, s15, s16] =
      .nx [s0, some p'.rv, some (TK T), some (.oD (partL T fun w => .str (t w))), s4, s5, s6, s7, x', s9, s10, s11, s12, s13, s14, s15, s16] ∧ (∀ w, w ∈ T → t w ∈ T) ∧ Pool.Ok p' (n + 4) := by
  obtain ⟨p', d, x', e, q, ok⟩ := dict_loop (callK prog (k + 3)) (fun p l x => [s0, some (Pool.rv p), some (TK T), some (.oD l), s4, s5, s6, s7, x, s9, s10, s11, s12, s13, s14, s15, s16]) os ρ0 hos (fun _ _ _ _ => give8) tbM (fun _ v => IsW T v) 1 90000 T (fun p n l w hw hp hn hl => by
    obtain ⟨j, v, p1, q1, q2, q3⟩ := pick_call p11 p10 (k + 1) p (TK T) (T.map .str) n (vw_strs T) (by rw [List.length_map]; exact h0) (by rw [List.length_map]; omega) hp (by omega)
    have q1 : callK prog (k + 3) 11 _ = _ := q1
    obtain ⟨u, hu, rfl⟩ := List.mem_map.mp (List.mem_of_getElem? q2)
    have ll := small_lt hl
    refine ⟨p1, .str u, ⟨u, hu, rfl⟩, q3, ?_⟩
    generalize callK prog (k + 3) = cf at q1
    simp [tbM, q1, ll]) T [] (fun _ => .non) s8 p n (fun _ h => h) (by simpa using nd) (by simp; omega) hp (by omega) (by simp)
  rw [List.nil_append] at e q
  refine ⟨p', fun w => match d w with | .str u => u | _ => [], x', ?_, fun w hw => ?_, ok.up (by omega)⟩
  · rw [show partL T (fun w => .str (match d w with | .str u => u | _ => [])) = partL T d from partL_congr fun w hw => by
      obtain ⟨u, _, e⟩ := q w hw
      simp only [e]]
    exact e
  · obtain ⟨u, hu, e⟩ := q w hw
    simp only [e]; exact hu
def vaM : List MS := [(.setix 10 (.var 8) (.call 15 [(.var 1), (.var 9)]))]
theorem values_loop (k : Nat) (T : List (List Nat)) (h4 : T.length ≤ 4) (nd : T.Nodup) (b : Bool) (p : Pool) (n : Nat) (hp : p.Ok n) (hn : n < 80000) (s0 s3 s4 s5 s6 s7 s8 s11 s12 s13 s14 s15 s16 : Slot) (ρ0 : Mv.Loc) (os : List Od) (hos : ∀ p l x, stable ρ0 [s0, some (Pool.rv p), some (TK T), s3, s4, s5, s6, s7, x, V (.bl b), some (.oD l), s11, s12, s13, s14, s15, s16] os = true) :
    ∃ (p' : Pool) (f : List Nat → Int) (x' : Slot), forLoop ρ0 os (.name 8) (evSs (callK prog (k + 2)) vaM) (T.map D.str) [s0, some p.rv, some (TK T), s3, s4, s5, s6, s7, s8, V (.bl b), some (.oD []), s11, s12, s13, s14, s15, s16] =
      .nx [s0, some p'.rv, some (TK T), s3, s4, s5, s6, s7, x', V (.bl b), some (.oD (partL T fun w => .int (f w))), s11, s12, s13, s14, s15, s16] ∧ (∀ w, w ∈ T → (f w).natAbs ≤ H39) ∧ Pool.Ok p' (n + 8) := by
  obtain ⟨p', d, x', e, q, ok⟩ := dict_loop (callK prog (k + 2)) (fun p l x => [s0, some (Pool.rv p), some (TK T), s3, s4, s5, s6, s7, x, V (.bl b), some (.oD l), s11, s12, s13, s14, s15, s16]) os ρ0 hos (fun _ _ _ _ => give8) vaM (fun _ v => IsN v) 2 90000 T (fun p n l w hw hp hn hl => by
    obtain ⟨v, p1, q1, q2, q3⟩ := num_call k p b n hp (by omega)
    have ll := small_lt hl
    refine ⟨p1, .int v, ⟨v, rfl, q2⟩, q3, ?_⟩
    generalize callK prog (k + 2) = cf at q1
    simp [vaM, q1, ll]) T [] (fun _ => .non) s8 p n (fun _ h => h) (by simpa using nd) (by simp; omega) hp (by omega) (by simp)
  rw [List.nil_append] at e q
  refine ⟨p', fun w => match d w with | .int u => u | _ => 0, x', ?_, fun w hw => ?_, ok.up (by omega)⟩
  · rw [show partL T (fun w => .int (match d w with | .int u => u | _ => 0)) = partL T d from partL_congr fun w hw => by
      obtain ⟨u, e, _⟩ := q w hw
      simp only [e]]
    exact e
  · obtain ⟨u, e, hu⟩ := q w hw
    simp only [e]; exact hu
def roM : List MS := [(.asg (.name 10) .dnew), (.for .seq [(.var 2)] (.name 8) vaM), (.expr (.meth 4 .append [(.list [(.var 10), (.ite (.op .eq [(.var 7), (.const (.int 0))]) (.const (.int 0)) (.call 15 [(.var 1), (.var 9)]))])]))]
theorem row_turn (k : Nat) (T : List (List Nat)) (h4 : T.length ≤ 4) (nd : T.Nodup) (b : Bool) (p : Pool) (n : Nat) (hp : p.Ok n) (hn : n < 80000) (rs : List RV) (hr : rs.length ≤ 10) (i : Int) (s0 s3 s5 s6 s8 s10 s11 s12 s13 s14 s15 s16 : Slot) :
    ∃ (p' : Pool) (f : List Nat → Int) (g : Int) (x8 x10 : Slot), evSs (callK prog (k + 2)) roM [s0, some p.rv, some (TK T), s3, some (.oL rs), s5, s6, I i, s8, V (.bl b), s10, s11, s12, s13, s14, s15, s16] =
      .nx [s0, some p'.rv, some (TK T), s3, some (.oL (rs ++ [.imm (.lst [.dic (partL T fun w => .int (f w)), .int g])])), s5, s6, I i, x8, V (.bl b), x10, s11, s12, s13, s14, s15, s16] ∧ (∀ w, w ∈ T → (f w).natAbs ≤ H39) ∧ g.natAbs ≤ H39 ∧ Pool.Ok p' (n + 10) := by
  obtain ⟨p1, f, x8, e, hf, ok⟩ := values_loop k T h4 nd b p n hp hn s0 s3 (some (.oL rs)) s5 s6 (I i) s8 s11 s12 s13 s14 s15 s16 [s0, some p.rv, some (TK T), s3, some (.oL rs), s5, s6, I i, s8, V (.bl b), some (.oD []), s11, s12, s13, s14, s15, s16] [Sum.inl 2] (fun p l x => by simp [stable_inl_iff])
  obtain ⟨v, p2, q1, q2, q3⟩ := num_call k p1 b (n + 8) ok (by omega)
  have ll := small_lt hr
  have v2 := vw_strs T
  have K2 : 2 ≤ LINE := by decide
  unfold vaM at e
  generalize callK prog (k + 2) = cf at *
  by_cases c : i = 0
  · subst c
    simp [roM, vaM, v2, -List.map_map]
    rw [e]
    simp [apEq, ll, K2]
    exact ⟨p1, f, 0, ⟨rfl, rfl, rfl⟩, hf, by decide, ok.up (by omega)⟩
  · have c' : (i == 0) = false := beq_false_of_ne c
    simp [roM, vaM, v2, -List.map_map]
    rw [e]
    simp [apEq, ll, K2, c', q1]
    exact ⟨p2, f, v, ⟨rfl, rfl, rfl⟩, hf, q2, q3⟩
def ovalM : List MS := [(.setix 10 (.var 8) (.op .item [(.op .item [(.op .item [(.var 4), (.var 12)]), (.const (.int 0))]), (.op .item [(.var 3), (.var 8)])]))]
def olM : List MS := [(.asg (.name 10) .dnew), (.for .seq [(.var 2)] (.name 8) ovalM), (.expr (.meth 5 .append [(.list [(.var 10), (.op .item [(.idx 11 (.const (.int 1))), (.var 12)])])]))]
abbrev FL (fl : Ex) (q : RV) : RV := .oL [.imm fl.d, q, .imm (.int fl.n), .imm (.int fl.h), .imm (.lst (fl.ns.map .str)), .imm (.bl fl.ha)]
theorem old_turn (cf : Nat → List RV → CRes) (T : List (List Nat)) (h4 : T.length ≤ 4) (nd : T.Nodup) (t : List Nat → List Nat) (ht : ∀ w, w ∈ T → t w ∈ T) (l0 l1 : List (KD × D)) (g0 g1 : Int) (i : Int) (f : List Nat → Int) (g : Int)
    (hr : atD [D.lst [.dic l0, .int g0], .lst [.dic l1, .int g1]] i = some (D.lst [.dic (partL T fun w => .int (f w)), .int g])) (G0 G1 G : Int) (hG : atD [D.int G0, .int G1] i = some (D.int G)) (fl : Ex) (q : RV) (hq : fz q = .lst [.int G0, .int G1]) (rs : List RV) (hrs : rs.length ≤ 10) (s0 s1 s6 s7 s8 s9 s10 s13 s14 s15 s16 : Slot) :
    ∃ (x8 x10 : Slot), evSs cf olM [s0, s1, some (TK T), some (.oD (partL T fun w => .str (t w))), some (Rw l0 g0 l1 g1), some (.oL rs), s6, s7, s8, s9, s10, some (FL fl q), I i, s13, s14, s15, s16] =
      .nx [s0, s1, some (TK T), some (.oD (partL T fun w => .str (t w))), some (Rw l0 g0 l1 g1), some (.oL (rs ++ [.imm (.lst [.dic (partL T fun w => .int (f (t w))), .int G])])), s6, s7, x8, s9, x10, some (FL fl (.imm (.lst [.int G0, .int G1]))), I i, s13, s14, s15, s16] := by
  have v2 := vw_strs T
  have K2 : 2 ≤ LINE := by decide
  have ll := small_lt hrs
  obtain ⟨p', d, x8, e, qd, _⟩ := dict_loop cf (fun p l x => [s0, s1, some (TK T), some (.oD (partL T fun w => .str (t w))), some (Rw l0 g0 l1 g1), some (.oL rs), s6, s7, x, s9, some (.oD l), some (FL fl q), I i, s13, s14, s15, s16]) [Sum.inl 2] [s0, s1, some (TK T), some (.oD (partL T fun w => .str (t w))), some (Rw l0 g0 l1 g1), some (.oL rs), s6, s7, s8, s9, some (.oD []), some (FL fl q), I i, s13, s14, s15, s16]
    (fun p l x => by simp [stable_inl_iff]) (fun _ _ _ _ => give8) ovalM (fun w v => v = .int (f (t w))) 0 90000 T (fun p n l w hw hp hn hl => by
    have ll := small_lt hl
    have a1 := dget_part (d := fun w => .str (t w)) hw
    have a2 := dget_part (d := fun w => .int (f w)) (ht w hw)
    refine ⟨p, _, rfl, hp, ?_⟩
    simp [ovalM, a1, a2, ll, hr, atD_nat (show (0 : Int) ≤ 0 from by omega)]) T [] (fun _ => .non) s8 ⟨[], 0, 0, 0, 0⟩ 0 (fun _ h => h) (by simpa using nd) (by simp; omega) ⟨by decide, by decide, by decide⟩ (by simp) (by simp)
  rw [List.nil_append] at e qd
  rw [show partL T d = partL T (fun w => .int (f (t w))) from partL_congr qd] at e
  rw [show partL [] (fun _ => D.non) = [] from rfl] at e
  unfold ovalM at e
  simp [olM, ovalM, v2, -List.map_map]
  rw [e]
  simp [K2, ll, hq, hG]
end K01
namespace K01
open Mv
def blM : List MS := [(.expr (.meth 6 .append [(.call 21 [(.var 1), (.var 2), (.var 3), (.var 4), (.var 11)])]))]
theorem built_turn (C : Ct) (ok : C.Ok) {tl l0 l1 : List (KD × D)} (dk : Dk C tl l0 l1) (k : Nat) (p : Pool) (R4 : RV) (n : Nat) (hp : p.Ok n) (hn : n < 50000) (h4 : FlOk C R4) (es : List RV) (he : es.length ≤ 10) (s0 s5 s7 s8 s9 s10 s12 s13 s14 s15 s16 : Slot) :
    ∃ (p' : Pool) (R : RV) (e : Ex), evSs (callK prog (k + 4)) blM [s0, some p.rv, some (Wr C), some (.oD tl), some (Rr l0 l1 C), s5, some (.oL es), s7, s8, s9, s10, some R4, s12, s13, s14, s15, s16] =
      .nx [s0, some p'.rv, some (Wr C), some (.oD tl), some (Rr l0 l1 C), s5, some (.oL (es ++ [.imm (C.pr e)])), s7, s8, s9, s10, some R, s12, s13, s14, s15, s16] ∧ Good C e ∧ Pool.Ok p' (n + 1000) ∧ FlOk C R := by
  obtain ⟨e, p', R, q1, q2, q3, q4⟩ := built_call C ok dk k p R4 n hp hn h4
  have ll := small_lt he
  generalize callK prog (k + 4) = cf at q1
  rcases h4 with rfl | rfl
  · refine ⟨p', .imm C.flD, e, ?_, q2, q3, .inl rfl⟩
    simp [blM, q1, ll]
  · refine ⟨p', R, e, ?_, q2, q3, q4⟩
    simp [blM, q1, ll]
def chM : List MS := [(.asg (.tup [14, 15]) (.op .item [(.var 6), (.var 13)])), (.ite (.or (.not (.call 23 [(.var 14), (.var 5)])) (.not (.call 23 [(.var 15), (.var 4)]))) [(.ret (.const (.bl false)))] []), (.asg (.name 16) (.call 22 [(.var 3), (.op .item [(.var 14), (.const (.int 4))])])), (.ite (.not (.call 12 [(.call 8 [(.op .item [(.var 14), (.const (.int 0))]), (.var 16), (.idx 11 (.const (.int 0)))]), (.op .item [(.var 15), (.const (.int 0))])])) [(.ret (.const (.bl false)))] []), (.ite (.not (.call 12 [(.var 16), (.call 22 [(.var 3), (.op .item [(.var 14), (.const (.int 4))])])])) [(.ret (.const (.bl false)))] [])]
abbrev Ol (C : Ct) : RV := Rw (partL C.W fun w => .int (C.F0 w)) C.G0 (partL C.W fun w => .int (C.F1 w)) C.G1
abbrev Nw (C : Ct) : RV := Rw (partL C.W fun w => .int (C.f0 w)) C.g0 (partL C.W fun w => .int (C.f1 w)) C.g1
theorem int_vd {i : Int} (h : i.natAbs ≤ H39) : Vd (.int i) := .inl ⟨i, rfl, Nat.lt_of_le_of_lt h (by decide)⟩
theorem check_turn (C : Ct) (ok : C.Ok) (hW : ∀ w, w ∈ C.W → Wd w) (hf0 : ∀ w, w ∈ C.W → (C.f0 w).natAbs ≤ H39) (hf1 : ∀ w, w ∈ C.W → (C.f1 w).natAbs ≤ H39) (k : Nat) (e : Ex) (ge : Good C e) (ps : List D) (i : Int) (hi : atD ps i = some (C.pr e)) (R4 : RV) (h4 : FlOk C R4)
    (s0 s1 s2 s7 s8 s9 s10 s12 s14 s15 s16 : Slot) :
    ∃ (R : RV) (x14 x15 x16 : Slot), evSs (callK prog (k + 63)) chM [s0, s1, s2, some (.oD (partL C.W fun w => .str (C.t w))), some (Nw C), some (Ol C), some (.oL (ps.map .imm)), s7, s8, s9, s10, some R4, s12, I i, s14, s15, s16] =
      .nx [s0, s1, s2, some (.oD (partL C.W fun w => .str (C.t w))), some (Nw C), some (Ol C), some (.oL (ps.map .imm)), s7, s8, s9, s10, some R, s12, I i, x14, x15, x16] ∧ FlOk C R := by
  have sm := ge.sms ok
  have lt := lf_ren ok ge.lf
  have we : ∀ w, w ∈ e.ns → w ∈ C.W := fun w h => lf_ws ge.lf w ((ns_mem e w).mp h)
  have wt : ∀ w, w ∈ (C.tw e).ns → w ∈ C.W := fun w h => lf_ws lt w ((ns_mem _ w).mp h)
  have hh := e.h_le
  have en := ge.n
  have hl := ns_len e
  have r1 := right_call k e ge.n (partL C.W fun w => .int (C.F0 w)) (partL C.W fun w => .int (C.F1 w)) C.F0 C.F1 C.G0 C.G1
    ⟨fun w h => dget_part (d := fun w => .int (C.F0 w)) (we w h), fun w h => ⟨hW w (we w h), int_vd (hf0 _ (ok.t w (we w h)))⟩, sm.a0⟩
    ⟨fun w h => dget_part (d := fun w => .int (C.F1 w)) (we w h), fun w h => ⟨hW w (we w h), int_vd (hf1 _ (ok.t w (we w h)))⟩, sm.a1⟩
  have r2 := right_call k (C.tw e) ge.m (partL C.W fun w => .int (C.f0 w)) (partL C.W fun w => .int (C.f1 w)) C.f0 C.f1 C.g0 C.g1
    ⟨fun w h => dget_part (d := fun w => .int (C.f0 w)) (wt w h), fun w h => ⟨hW w (wt w h), int_vd (hf0 _ (wt w h))⟩, sm.b0⟩
    ⟨fun w h => dget_part (d := fun w => .int (C.f1 w)) (wt w h), fun w h => ⟨hW w (wt w h), int_vd (hf1 _ (wt w h))⟩, sm.b1⟩
  have pc := part_call (k + 62) (.oD (partL C.W fun w => .str (C.t w))) _ (.inl rfl) (fun w => .str (C.t w)) e.ns (fun w h => dget_part (d := fun w => .str (C.t w)) (we w h)) (ns_nodup e) (by omega)
  have rc := ren_call (partL e.ns fun w => .str (C.t w)) C.t C.fl (k + 62) e (by omega) (fun w h => dget_part (d := fun w => .str (C.t w)) ((ns_mem e w).mpr h))
  have sp := same_part (k + 62) (fun w => .str (C.t w)) e.ns (fun w h => ⟨hW w (we w h), .inr ⟨_, rfl, hW _ (ok.t w (we w h))⟩⟩) (ns_nodup e) (by omega)
  obtain ⟨d1, d2, d3⟩ := tree_facts hW lt
  have tn := ge.m
  have th := (C.tw e).h_le
  have sc := same_fine (k + 62) (.imm (C.tw e).d) (.imm (C.tw e).d) rfl rfl d1 (Nat.le_trans (m := 2400) (by omega) (by decide)) (by omega)
  have r1 : callK prog (k + 63) 23 _ = _ := r1
  have r2 : callK prog (k + 63) 23 _ = _ := r2
  have pc : callK prog (k + 63) 22 _ = _ := pc
  have rc : callK prog (k + 63) 8 [_, _, _] = .ret (.imm (C.tw e).d) _ := rc
  have sp : callK prog (k + 63) 12 _ = _ := sp
  have sc : callK prog (k + 63) 12 _ = _ := sc
  generalize callK prog (k + 63) = cf at r1 r2 pc rc sp sc
  have hi : Op.ap .item [.lst ps, .int i] = some (.imm (.lst [C.one e, C.two e])) := by rw [ap_item_lst, hi]; rfl
  have i0 : Op.ap .item [C.one e, .int 0] = some (.imm e.d) := rfl
  have i4 : Op.ap .item [C.one e, .int 4] = some (.imm (.lst (e.ns.map .str))) := rfl
  have j0 : Op.ap .item [C.two e, .int 0] = some (.imm (C.tw e).d) := rfl
  have r1 : cf 23 [.imm (C.one e), Ol C] = .ret (.imm (.bl true)) [V (C.one e), some (Ol C)] := r1
  have r2 : cf 23 [.imm (C.two e), Nw C] = .ret (.imm (.bl true)) [V (C.two e), some (Nw C)] := r2
  generalize C.one e = D1 at *
  generalize C.two e = D2 at *
  generalize (C.tw e).d = TD at *
  obtain ⟨OLD, ho⟩ : ∃ l, Ol C = .oL l := ⟨_, rfl⟩
  obtain ⟨NEW, hnw⟩ : ∃ l, Nw C = .oL l := ⟨_, rfl⟩
  rw [ho] at r1 ⊢
  rw [hnw] at r2 ⊢
  generalize (partL e.ns fun w => D.str (C.t w)) = PT at *
  generalize (partL C.W fun w => D.str (C.t w)) = TL at *
  have f0 : Op.ap .item [C.flD, .int 0] = some (.imm C.fl.d) := rfl
  rcases h4 with rfl | rfl
  · simp [chM, hi, r1, r2, pc, rc, sp, sc, i0, i4, j0, f0, -ap_item_lst, -List.map_map, Ct.flD, It, atD]
    exact .inl rfl
  · simp [chM, hi, r1, r2, pc, rc, sp, sc, i0, i4, j0, f0, -ap_item_lst, -List.map_map]
    exact .inr rfl
end K01
namespace K01
open Mv
theorem chain {cf : Nat → List RV → CRes} {s : MS} {r : List MS} {ρ ρ' : Mv.Loc} {X : SRes} (h : evS cf s ρ = .nx ρ') (h2 : evSs cf r ρ' = X) : evSs cf (s :: r) ρ = X := by
  rw [evSs_cons, h]; exact h2
theorem for_three {ρ0 ρ ρ1' ρ1 ρ2' ρ2 ρ3' ρ3 : Mv.Loc} {os : List Od} {tg : Tg} {body : Mv.Loc → SRes} {d1 d2 d3 : D} (s0 : stable ρ0 ρ os = true) (g1 : give ρ tg d1 = some ρ1') (b1 : body ρ1' = .nx ρ1) (s1 : stable ρ0 ρ1 os = true) (g2 : give ρ1 tg d2 = some ρ2') (b2 : body ρ2' = .nx ρ2) (s2 : stable ρ0 ρ2 os = true) (g3 : give ρ2 tg d3 = some ρ3') (b3 : body ρ3' = .nx ρ3) (s3 : stable ρ0 ρ3 os = true) : forLoop ρ0 os tg body [d1, d2, d3] ρ = .nx ρ3 := by
  rw [forLoop, if_pos s0, g1]
  show turnK _ (body ρ1') = _
  rw [b1]
  exact for_two s1 g2 b2 s2 g3 b3 s3
def L0 : MS := (.asg (.name 1) (.call 9 [(.var 0)]))
def L1 : MS := (.par [2, 3, 4, 5, 6] [(.list []), .dnew, (.list []), (.list []), (.list [])])
def L2 : MS := (.for .range [(.op .add [(.const (.int 1)), (.call 10 [(.var 1), (.const (.int 4))])])] (.name 7) wsM)
def L3 : MS := (.for .seq [(.var 2)] (.name 8) tbM)
def L4 : MS := (.asg (.name 9) (.op .eq [(.call 10 [(.var 1), (.const (.int 4))]), (.const (.int 0))]))
def L5 : MS := (.for .range [(.const (.int 2))] (.name 7) roM)
def L6 : MS := (.asg (.name 11) (.call 19 [(.var 1), (.var 2), (.var 4)]))
def L7 : MS := (.for .range [(.const (.int 2))] (.name 12) olM)
def L8 : MS := (.for .range [(.const (.int 2))] (.name 7) blM)
def L9 : MS := (.for .seq [(.list [(.const (.int 0)), (.const (.int 1)), (.const (.int 0))])] (.name 13) chM)
def L10 : MS := (.ret (.const (.bl true)))
theorem b24_eq : b24 = [L0, L1, L2, L3, L4, L5, L6, L7, L8, L9, L10] := rfl
abbrev deep : Nat := 100
theorem plain (ns : List Int) (hn : ns.length ≤ 63) : ∃ ps, callK prog deep 24 [.imm (.scr ns)] = .ret (.imm (.bl true)) ps := by
  show ∃ ps, callF (callK prog 99) f24 [.imm (.scr ns)] = .ret (.imm (.bl true)) ps
  have K3 : 3 ≤ LINE := by decide
  have K2 : 2 ≤ LINE := by decide
  have K1 : 1 ≤ LINE := by decide
  obtain ⟨p0, a0, k0⟩ := pool_call p9 98 ns hn
  have a0 : callK prog 99 9 [.imm (.scr ns)] = _ := a0
  have e0 : evS (callK prog 99) L0 [some (.imm (.scr ns)), none, none, none, none, none, none, none, none, none, none, none, none, none, none, none, none] = .nx [some (.imm (.scr ns)), some p0.rv, none, none, none, none, none, none, none, none, none, none, none, none, none, none, none] := by
    generalize callK prog 99 = cf at a0
    simp [L0, a0]
  have e1 : evS (callK prog 99) L1 [some (.imm (.scr ns)), some p0.rv, none, none, none, none, none, none, none, none, none, none, none, none, none, none, none] = .nx [some (.imm (.scr ns)), some p0.rv, some (.oL []), some (.oD []), some (.oL []), some (.oL []), some (.oL []), none, none, none, none, none, none, none, none, none, none] := by
    generalize callK prog 99 = cf at a0
    simp [L1]
  obtain ⟨v, p1, a1, v0, v1, k1⟩ := take_call p10 98 p0 4 1 k0 (by omega) (by omega) (by omega)
  have a1 : callK prog 99 10 _ = _ := a1
  have hl1 : (rangeL 0 (1 + v).toNat).length = (1 + v).toNat := by simp [rangeL]
  have okv := okR_true (n := 1 + v) (by omega) (by omega)
  obtain ⟨p2, T, x7, lp2, T1, T2, T3, k2⟩ := words_loop 96 (some (.imm (.scr ns))) (some (.oD [])) (some (.oL [])) (some (.oL [])) (some (.oL [])) none none none none none none none none none [Sum.inr (.imm (.int (1 + v)))] (fun _ _ => by simp) [some (.imm (.scr ns)), some p1.rv, some (.oL []), some (.oD []), some (.oL []), some (.oL []), some (.oL []), none, none, none, none, none, none, none, none, none, none] (rangeL 0 (1 + v).toNat) [] p1 2 none k1 (by rw [hl1]; omega) (by rw [hl1]; simp; omega) (by simp) (by simp)
  rw [hl1] at T1 k2
  simp only [List.length_nil] at T1
  have e2 : evS (callK prog 99) L2 [some (.imm (.scr ns)), some p0.rv, some (.oL []), some (.oD []), some (.oL []), some (.oL []), some (.oL []), none, none, none, none, none, none, none, none, none, none] = .nx [some (.imm (.scr ns)), some p2.rv, some (TK T), some (.oD []), some (.oL []), some (.oL []), some (.oL []), x7, none, none, none, none, none, none, none, none, none] := by
    have lp2 : forLoop _ _ _ (evSs (callK prog 99) wsM) _ _ = _ := lp2
    rw [show TK [] = .oL [] from rfl] at lp2
    generalize callK prog 99 = cf at *
    unfold wsM at lp2
    simp [L2, wsM, a1, okv]
    rw [lp2]
  have Tp : 0 < T.length := by omega
  have T4 : T.length ≤ 4 := by omega
  obtain ⟨p3, t, x8, lp3, ht, k3⟩ := table_loop 96 T Tp T4 T2 p2 _ k2 (by omega) (some (.imm (.scr ns))) (some (.oL [])) (some (.oL [])) (some (.oL [])) x7 none none none none none none none none none [some (.imm (.scr ns)), some p2.rv, some (TK T), some (.oD []), some (.oL []), some (.oL []), some (.oL []), x7, none, none, none, none, none, none, none, none, none] [Sum.inl 2] (fun p l x => by simp [stable_inl_iff])
  have v2 := vw_strs T
  have e3 : evS (callK prog 99) L3 [some (.imm (.scr ns)), some p2.rv, some (TK T), some (.oD []), some (.oL []), some (.oL []), some (.oL []), x7, none, none, none, none, none, none, none, none, none] = .nx [some (.imm (.scr ns)), some p3.rv, some (TK T), some (.oD (partL T fun w => .str (t w))), some (.oL []), some (.oL []), some (.oL []), x7, x8, none, none, none, none, none, none, none, none] := by
    have lp3 : forLoop _ _ _ (evSs (callK prog 99) tbM) _ _ = _ := lp3
    generalize callK prog 99 = cf at *
    unfold tbM at lp3
    simp [L3, tbM, v2, -List.map_map]
    exact lp3
  obtain ⟨u, p4, a4, u0, u1, k4⟩ := take_call p10 98 p3 4 _ k3 (by omega) (by omega) (by omega)
  have a4 : callK prog 99 10 _ = _ := a4
  obtain ⟨wd, e4⟩ : ∃ wd, evS (callK prog 99) L4 [some (.imm (.scr ns)), some p3.rv, some (TK T), some (.oD (partL T fun w => .str (t w))), some (.oL []), some (.oL []), some (.oL []), x7, x8, none, none, none, none, none, none, none, none] = .nx [some (.imm (.scr ns)), some p4.rv, some (TK T), some (.oD (partL T fun w => .str (t w))), some (.oL []), some (.oL []), some (.oL []), x7, x8, V (.bl wd), none, none, none, none, none, none, none] := by
    refine ⟨u == 0, ?_⟩
    generalize callK prog 99 = cf at *
    simp [L4, a4, apEq]
    rfl
  obtain ⟨p5, f0, g0, y8, y10, r5, f0b, g0b, k5⟩ := row_turn 97 T T4 T2 wd p4 _ k4 (by omega) [] (by simp) 0 (some (.imm (.scr ns))) (some (.oD (partL T fun w => .str (t w)))) (some (.oL [])) (some (.oL [])) x8 none none none none none none none
  obtain ⟨p6, f1, g1, z8, z10, r6, f1b, g1b, k6⟩ := row_turn 97 T T4 T2 wd p5 _ k5 (by omega) [.imm (.lst [.dic (partL T fun w => .int (f0 w)), .int g0])] (by simp) 1 (some (.imm (.scr ns))) (some (.oD (partL T fun w => .str (t w)))) (some (.oL [])) (some (.oL [])) y8 y10 none none none none none none
  have r5 : evSs (callK prog 99) roM _ = _ := r5
  have r6 : evSs (callK prog 99) roM _ = _ := r6
  have e5 : evS (callK prog 99) L5 [some (.imm (.scr ns)), some p4.rv, some (TK T), some (.oD (partL T fun w => .str (t w))), some (.oL []), some (.oL []), some (.oL []), x7, x8, V (.bl wd), none, none, none, none, none, none, none] = .nx [some (.imm (.scr ns)), some p6.rv, some (TK T), some (.oD (partL T fun w => .str (t w))), some (.oL [.imm (.lst [.dic (partL T fun w => .int (f0 w)), .int g0]), .imm (.lst [.dic (partL T fun w => .int (f1 w)), .int g1])]), some (.oL []), some (.oL []), I 1, z8, V (.bl wd), z10, none, none, none, none, none, none] := by
    have lp : forLoop [some (.imm (.scr ns)), some p4.rv, some (TK T), some (.oD (partL T fun w => .str (t w))), some (.oL []), some (.oL []), some (.oL []), x7, x8, V (.bl wd), none, none, none, none, none, none, none] [Sum.inr (.imm (.int 2))] (.name 7) (evSs (callK prog 99) roM) (rangeL 0 2) [some (.imm (.scr ns)), some p4.rv, some (TK T), some (.oD (partL T fun w => .str (t w))), some (.oL []), some (.oL []), some (.oL []), x7, x8, V (.bl wd), none, none, none, none, none, none, none] = .nx [some (.imm (.scr ns)), some p6.rv, some (TK T), some (.oD (partL T fun w => .str (t w))), some (.oL [.imm (.lst [.dic (partL T fun w => .int (f0 w)), .int g0]), .imm (.lst [.dic (partL T fun w => .int (f1 w)), .int g1])]), some (.oL []), some (.oL []), I 1, z8, V (.bl wd), z10, none, none, none, none, none, none] := for_two (d1 := .int 0) (d2 := .int 1) (by simp) rfl r5 (by simp) rfl r6 (by simp)
    generalize callK prog 99 = cf at *
    generalize hro : roM = ro at *
    simp [L5, hro]
    exact lp
  -- the filling
  obtain ⟨p7, fl, q, a7, hq, fok, k7⟩ := fill_call ⟨T, t, .arg, f0, f1, g0, g1⟩ (tl := partL T fun w => .str (t w)) (l0 := partL T fun w => .int (f0 w)) (l1 := partL T fun w => .int (f1 w))
    ⟨fun w h => dget_part (d := fun w => .str (t w)) h, fun w h => dget_part (d := fun w => .int (f0 w)) h, fun w h => dget_part (d := fun w => .int (f1 w)) h, Tp, T4⟩ f0b f1b g0b g1b 96 p6 _ k6 (by omega)
  have a7 : callK prog 99 19 [p6.rv, TK T, (.oL [.imm (.lst [.dic (partL T fun w => .int (f0 w)), .int g0]), .imm (.lst [.dic (partL T fun w => .int (f1 w)), .int g1])])] = .ret (FL fl q) [some p7.rv, some (TK T), some (.oL [.imm (.lst [.dic (partL T fun w => .int (f0 w)), .int g0]), .imm (.lst [.dic (partL T fun w => .int (f1 w)), .int g1])])] := a7
  have e6 : evS (callK prog 99) L6 [some (.imm (.scr ns)), some p6.rv, some (TK T), some (.oD (partL T fun w => .str (t w))), some (.oL [.imm (.lst [.dic (partL T fun w => .int (f0 w)), .int g0]), .imm (.lst [.dic (partL T fun w => .int (f1 w)), .int g1])]), some (.oL []), some (.oL []), I 1, z8, V (.bl wd), z10, none, none, none, none, none, none] = .nx [some (.imm (.scr ns)), some p7.rv, some (TK T), some (.oD (partL T fun w => .str (t w))), some (.oL [.imm (.lst [.dic (partL T fun w => .int (f0 w)), .int g0]), .imm (.lst [.dic (partL T fun w => .int (f1 w)), .int g1])]), some (.oL []), some (.oL []), I 1, z8, V (.bl wd), z10, some (FL fl q), none, none, none, none, none] := by
    generalize callK prog 99 = cf at *
    simp [L6, a7]
  have hB : H39 ≤ B := by decide
  let C : Ct := ⟨T, t, fl, f0, f1, g0, g1⟩
  have cok : C.Ok := ⟨ht, fun w h => Nat.le_trans (f0b w h) hB, fun w h => Nat.le_trans (f1b w h) hB, Nat.le_trans g0b hB, Nat.le_trans g1b hB, fok.v0, fok.v1, fok.lf, fok.n⟩
  have dk : Dk C (partL T fun w => .str (t w)) (partL T fun w => .int (f0 w)) (partL T fun w => .int (f1 w)) :=
    ⟨fun w h => dget_part (d := fun w => .str (t w)) h, fun w h => dget_part (d := fun w => .int (f0 w)) h, fun w h => dget_part (d := fun w => .int (f1 w)) h, Tp, T4⟩
  obtain ⟨G0, hG0⟩ : ∃ z, C.G0 = z := ⟨_, rfl⟩
  obtain ⟨G1, hG1⟩ : ∃ z, C.G1 = z := ⟨_, rfl⟩
  have hq : fz q = .lst [.int G0, .int G1] := by rw [← hG0, ← hG1]; exact hq
  obtain ⟨u8, u10, r7⟩ := old_turn (callK prog 99) T T4 T2 t ht (partL T fun w => .int (f0 w)) (partL T fun w => .int (f1 w)) g0 g1 0 f0 g0 rfl G0 G1 G0 rfl fl q hq [] (by simp) (some (.imm (.scr ns))) (some p7.rv) (some (.oL [])) (I 1) z8 (V (.bl wd)) z10 none none none none
  obtain ⟨w8, w10, r8⟩ := old_turn (callK prog 99) T T4 T2 t ht (partL T fun w => .int (f0 w)) (partL T fun w => .int (f1 w)) g0 g1 1 f1 g1 rfl G0 G1 G1 rfl fl (.imm (.lst [.int G0, .int G1])) rfl [.imm (.lst [.dic (partL T fun w => .int (f0 (t w))), .int G0])] (by simp) (some (.imm (.scr ns))) (some p7.rv) (some (.oL [])) (I 1) u8 (V (.bl wd)) u10 none none none none
  have e7 : evS (callK prog 99) L7 [some (.imm (.scr ns)), some p7.rv, some (TK T), some (.oD (partL T fun w => .str (t w))), some (.oL [.imm (.lst [.dic (partL T fun w => .int (f0 w)), .int g0]), .imm (.lst [.dic (partL T fun w => .int (f1 w)), .int g1])]), some (.oL []), some (.oL []), I 1, z8, V (.bl wd), z10, some (FL fl q), none, none, none, none, none] = .nx [some (.imm (.scr ns)), some p7.rv, some (TK T), some (.oD (partL T fun w => .str (t w))), some (.oL [.imm (.lst [.dic (partL T fun w => .int (f0 w)), .int g0]), .imm (.lst [.dic (partL T fun w => .int (f1 w)), .int g1])]), some (.oL [.imm (.lst [.dic (partL T fun w => .int (f0 (t w))), .int G0]), .imm (.lst [.dic (partL T fun w => .int (f1 (t w))), .int G1])]), some (.oL []), I 1, w8, V (.bl wd), w10, some (FL fl (.imm (.lst [.int G0, .int G1]))), I 1, none, none, none, none] := by
    have lp : forLoop [some (.imm (.scr ns)), some p7.rv, some (TK T), some (.oD (partL T fun w => .str (t w))), some (.oL [.imm (.lst [.dic (partL T fun w => .int (f0 w)), .int g0]), .imm (.lst [.dic (partL T fun w => .int (f1 w)), .int g1])]), some (.oL []), some (.oL []), I 1, z8, V (.bl wd), z10, some (FL fl q), none, none, none, none, none] [Sum.inr (.imm (.int 2))] (.name 12) (evSs (callK prog 99) olM) (rangeL 0 2) [some (.imm (.scr ns)), some p7.rv, some (TK T), some (.oD (partL T fun w => .str (t w))), some (.oL [.imm (.lst [.dic (partL T fun w => .int (f0 w)), .int g0]), .imm (.lst [.dic (partL T fun w => .int (f1 w)), .int g1])]), some (.oL []), some (.oL []), I 1, z8, V (.bl wd), z10, some (FL fl q), none, none, none, none, none] = .nx [some (.imm (.scr ns)), some p7.rv, some (TK T), some (.oD (partL T fun w => .str (t w))), some (.oL [.imm (.lst [.dic (partL T fun w => .int (f0 w)), .int g0]), .imm (.lst [.dic (partL T fun w => .int (f1 w)), .int g1])]), some (.oL [.imm (.lst [.dic (partL T fun w => .int (f0 (t w))), .int G0]), .imm (.lst [.dic (partL T fun w => .int (f1 (t w))), .int G1])]), some (.oL []), I 1, w8, V (.bl wd), w10, some (FL fl (.imm (.lst [.int G0, .int G1]))), I 1, none, none, none, none] := for_two (d1 := .int 0) (d2 := .int 1) (by simp) rfl r7 (by simp) rfl r8 (by simp)
    generalize callK prog 99 = cf at *
    generalize hro : olM = ro at *
    simp [L7, hro]
    exact lp
  have fk0 : FlOk C (FL fl (.imm (.lst [.int G0, .int G1]))) := .inr (by rw [← hG0, ← hG1])
  obtain ⟨p8, R0, e0', b0, ge0, k8, fk1⟩ := built_turn C cok dk 95 p7 _ _ k7 (by omega) fk0 [] (by simp) (some (.imm (.scr ns))) (some (.oL [.imm (.lst [.dic (partL T fun w => .int (f0 (t w))), .int G0]), .imm (.lst [.dic (partL T fun w => .int (f1 (t w))), .int G1])])) (I 0) w8 (V (.bl wd)) w10 (I 1) none none none none
  obtain ⟨p9, R1, e1', b1, ge1, k9, fk2⟩ := built_turn C cok dk 95 p8 _ _ k8 (by omega) fk1 [.imm (C.pr e0')] (by simp) (some (.imm (.scr ns))) (some (.oL [.imm (.lst [.dic (partL T fun w => .int (f0 (t w))), .int G0]), .imm (.lst [.dic (partL T fun w => .int (f1 (t w))), .int G1])])) (I 1) w8 (V (.bl wd)) w10 (I 1) none none none none
  have b0 : evSs (callK prog 99) blM _ = _ := b0
  have b1 : evSs (callK prog 99) blM _ = _ := b1
  have e8 : evS (callK prog 99) L8 [some (.imm (.scr ns)), some p7.rv, some (TK T), some (.oD (partL T fun w => .str (t w))), some (.oL [.imm (.lst [.dic (partL T fun w => .int (f0 w)), .int g0]), .imm (.lst [.dic (partL T fun w => .int (f1 w)), .int g1])]), some (.oL [.imm (.lst [.dic (partL T fun w => .int (f0 (t w))), .int G0]), .imm (.lst [.dic (partL T fun w => .int (f1 (t w))), .int G1])]), some (.oL []), I 1, w8, V (.bl wd), w10, some (FL fl (.imm (.lst [.int G0, .int G1]))), I 1, none, none, none, none] = .nx [some (.imm (.scr ns)), some p9.rv, some (TK T), some (.oD (partL T fun w => .str (t w))), some (.oL [.imm (.lst [.dic (partL T fun w => .int (f0 w)), .int g0]), .imm (.lst [.dic (partL T fun w => .int (f1 w)), .int g1])]), some (.oL [.imm (.lst [.dic (partL T fun w => .int (f0 (t w))), .int G0]), .imm (.lst [.dic (partL T fun w => .int (f1 (t w))), .int G1])]), some (.oL [.imm (C.pr e0'), .imm (C.pr e1')]), I 1, w8, V (.bl wd), w10, some R1, I 1, none, none, none, none] := by
    have lp : forLoop [some (.imm (.scr ns)), some p7.rv, some (TK T), some (.oD (partL T fun w => .str (t w))), some (.oL [.imm (.lst [.dic (partL T fun w => .int (f0 w)), .int g0]), .imm (.lst [.dic (partL T fun w => .int (f1 w)), .int g1])]), some (.oL [.imm (.lst [.dic (partL T fun w => .int (f0 (t w))), .int G0]), .imm (.lst [.dic (partL T fun w => .int (f1 (t w))), .int G1])]), some (.oL []), I 1, w8, V (.bl wd), w10, some (FL fl (.imm (.lst [.int G0, .int G1]))), I 1, none, none, none, none] [Sum.inr (.imm (.int 2))] (.name 7) (evSs (callK prog 99) blM) (rangeL 0 2) [some (.imm (.scr ns)), some p7.rv, some (TK T), some (.oD (partL T fun w => .str (t w))), some (.oL [.imm (.lst [.dic (partL T fun w => .int (f0 w)), .int g0]), .imm (.lst [.dic (partL T fun w => .int (f1 w)), .int g1])]), some (.oL [.imm (.lst [.dic (partL T fun w => .int (f0 (t w))), .int G0]), .imm (.lst [.dic (partL T fun w => .int (f1 (t w))), .int G1])]), some (.oL []), I 1, w8, V (.bl wd), w10, some (FL fl (.imm (.lst [.int G0, .int G1]))), I 1, none, none, none, none] = .nx [some (.imm (.scr ns)), some p9.rv, some (TK T), some (.oD (partL T fun w => .str (t w))), some (.oL [.imm (.lst [.dic (partL T fun w => .int (f0 w)), .int g0]), .imm (.lst [.dic (partL T fun w => .int (f1 w)), .int g1])]), some (.oL [.imm (.lst [.dic (partL T fun w => .int (f0 (t w))), .int G0]), .imm (.lst [.dic (partL T fun w => .int (f1 (t w))), .int G1])]), some (.oL [.imm (C.pr e0'), .imm (C.pr e1')]), I 1, w8, V (.bl wd), w10, some R1, I 1, none, none, none, none] := for_two (d1 := .int 0) (d2 := .int 1) (by simp) rfl b0 (by simp) rfl b1 (by simp)
    generalize callK prog 99 = cf at *
    generalize hro : blM = ro at *
    simp [L8, hro]
    exact lp
  obtain ⟨R2, m14, m15, m16, c0, fk3⟩ := check_turn C cok T3 f0b f1b 36 e0' ge0 [C.pr e0', C.pr e1'] 0 rfl R1 fk2 (some (.imm (.scr ns))) (some p9.rv) (some (TK T)) (I 1) w8 (V (.bl wd)) w10 (I 1) none none none
  obtain ⟨R3, n14, n15, n16, c1, fk4⟩ := check_turn C cok T3 f0b f1b 36 e1' ge1 [C.pr e0', C.pr e1'] 1 rfl R2 fk3 (some (.imm (.scr ns))) (some p9.rv) (some (TK T)) (I 1) w8 (V (.bl wd)) w10 (I 1) m14 m15 m16
  obtain ⟨R4, o14, o15, o16, c2, _⟩ := check_turn C cok T3 f0b f1b 36 e0' ge0 [C.pr e0', C.pr e1'] 0 rfl R3 fk4 (some (.imm (.scr ns))) (some p9.rv) (some (TK T)) (I 1) w8 (V (.bl wd)) w10 (I 1) n14 n15 n16
  have e9 : evS (callK prog 99) L9 [some (.imm (.scr ns)), some p9.rv, some (TK T), some (.oD (partL T fun w => .str (t w))), some (.oL [.imm (.lst [.dic (partL T fun w => .int (f0 w)), .int g0]), .imm (.lst [.dic (partL T fun w => .int (f1 w)), .int g1])]), some (.oL [.imm (.lst [.dic (partL T fun w => .int (f0 (t w))), .int G0]), .imm (.lst [.dic (partL T fun w => .int (f1 (t w))), .int G1])]), some (.oL [.imm (C.pr e0'), .imm (C.pr e1')]), I 1, w8, V (.bl wd), w10, some R1, I 1, none, none, none, none] = .nx [some (.imm (.scr ns)), some p9.rv, some (TK T), some (.oD (partL T fun w => .str (t w))), some (.oL [.imm (.lst [.dic (partL T fun w => .int (f0 w)), .int g0]), .imm (.lst [.dic (partL T fun w => .int (f1 w)), .int g1])]), some (.oL [.imm (.lst [.dic (partL T fun w => .int (f0 (t w))), .int G0]), .imm (.lst [.dic (partL T fun w => .int (f1 (t w))), .int G1])]), some (.oL [.imm (C.pr e0'), .imm (C.pr e1')]), I 1, w8, V (.bl wd), w10, some R4, I 1, I 0, o14, o15, o16] := by
    have lp : forLoop [some (.imm (.scr ns)), some p9.rv, some (TK T), some (.oD (partL T fun w => .str (t w))), some (.oL [.imm (.lst [.dic (partL T fun w => .int (f0 w)), .int g0]), .imm (.lst [.dic (partL T fun w => .int (f1 w)), .int g1])]), some (.oL [.imm (.lst [.dic (partL T fun w => .int (f0 (t w))), .int G0]), .imm (.lst [.dic (partL T fun w => .int (f1 (t w))), .int G1])]), some (.oL [.imm (C.pr e0'), .imm (C.pr e1')]), I 1, w8, V (.bl wd), w10, some R1, I 1, none, none, none, none] [Sum.inr (.imm (.lst [.int 0, .int 1, .int 0]))] (.name 13) (evSs (callK prog 99) chM) [.int 0, .int 1, .int 0] [some (.imm (.scr ns)), some p9.rv, some (TK T), some (.oD (partL T fun w => .str (t w))), some (.oL [.imm (.lst [.dic (partL T fun w => .int (f0 w)), .int g0]), .imm (.lst [.dic (partL T fun w => .int (f1 w)), .int g1])]), some (.oL [.imm (.lst [.dic (partL T fun w => .int (f0 (t w))), .int G0]), .imm (.lst [.dic (partL T fun w => .int (f1 (t w))), .int G1])]), some (.oL [.imm (C.pr e0'), .imm (C.pr e1')]), I 1, w8, V (.bl wd), w10, some R1, I 1, none, none, none, none] = .nx [some (.imm (.scr ns)), some p9.rv, some (TK T), some (.oD (partL T fun w => .str (t w))), some (.oL [.imm (.lst [.dic (partL T fun w => .int (f0 w)), .int g0]), .imm (.lst [.dic (partL T fun w => .int (f1 w)), .int g1])]), some (.oL [.imm (.lst [.dic (partL T fun w => .int (f0 (t w))), .int G0]), .imm (.lst [.dic (partL T fun w => .int (f1 (t w))), .int G1])]), some (.oL [.imm (C.pr e0'), .imm (C.pr e1')]), I 1, w8, V (.bl wd), w10, some R4, I 1, I 0, o14, o15, o16] := by
      rw [← hG0, ← hG1]
      exact for_three (d1 := .int 0) (d2 := .int 1) (d3 := .int 0) (by simp) rfl c0 (by simp) rfl c1 (by simp) rfl c2 (by simp)
    generalize callK prog 99 = cf at *
    generalize hro : chM = ro at *
    simp [L9, hro, K3]
    exact lp
  have e10 : evSs (callK prog 99) [L10] [some (.imm (.scr ns)), some p9.rv, some (TK T), some (.oD (partL T fun w => .str (t w))), some (.oL [.imm (.lst [.dic (partL T fun w => .int (f0 w)), .int g0]), .imm (.lst [.dic (partL T fun w => .int (f1 w)), .int g1])]), some (.oL [.imm (.lst [.dic (partL T fun w => .int (f0 (t w))), .int G0]), .imm (.lst [.dic (partL T fun w => .int (f1 (t w))), .int G1])]), some (.oL [.imm (C.pr e0'), .imm (C.pr e1')]), I 1, w8, V (.bl wd), w10, some R4, I 1, I 0, o14, o15, o16] = .ret (.imm (.bl true)) [some (.imm (.scr ns)), some p9.rv, some (TK T), some (.oD (partL T fun w => .str (t w))), some (.oL [.imm (.lst [.dic (partL T fun w => .int (f0 w)), .int g0]), .imm (.lst [.dic (partL T fun w => .int (f1 w)), .int g1])]), some (.oL [.imm (.lst [.dic (partL T fun w => .int (f0 (t w))), .int G0]), .imm (.lst [.dic (partL T fun w => .int (f1 (t w))), .int G1])]), some (.oL [.imm (C.pr e0'), .imm (C.pr e1')]), I 1, w8, V (.bl wd), w10, some R4, I 1, I 0, o14, o15, o16] := by
    generalize callK prog 99 = cf at *
    simp [L10]
  have all := chain e0 (chain e1 (chain e2 (chain e3 (chain e4 (chain e5 (chain e6 (chain e7 (chain e8 (chain e9 e10)))))))))
  rw [← b24_eq] at all
  generalize callK prog 99 = cf at all
  unfold callF
  rw [show (List.map some [RV.imm (D.scr ns)] ++ List.replicate (f24.ns - f24.np) none) = [some (.imm (.scr ns)), none, none, none, none, none, none, none, none, none, none, none, none, none, none, none, none] from rfl, show f24.body = b24 from rfl, all]
  simp [f24]
end K01
open PySem PySem.W PySem.Calls PyProof.Rows
set_option maxHeartbeats 0 in
theorem PySem.Challenge.cw_haltstoreys_k01_expr_values_holds : PySem.Challenge.rw_haltstoreys_k01_expr_values.Holds := by
  w_on; o_law
  refine HandSHeadRun.head_any (r := K01.R) (q := view K01.R.prog [26]) (H := K01.hk) (ob := K01.ob) (M := 9000) (loose := K01.lns) (d := HandSHeadRun.topDef K01.R.prog 26) (kwd := []) K01.ob_eq
    (by kernel_rfl) (fun s => by kernel_rfl) K01.run (by kernel_rfl) (by kernel_rfl) (by kernel_rfl) (by rfl) (by first | assumption | decide +kernel) (by decide +kernel) ⟨rfl, rfl, rfl, rfl, rfl, by decide +kernel⟩ ?hw ?hc
  case hw => w_witness2
  case hc =>
    refine Mv.mv_walk (l := PySem.Challenge.rw_haltstoreys_k01_expr_values) (n := 63) (k := K01.deep) rfl (by decide) (by kernel_rfl) ⟨rfl, by decide, by decide⟩ ?go
    intro w mg fa h Y G hmg0
    obtain ⟨K, KX, c⟩ := Y
    have hmg : mg ("law" : PySem.Str) = some (.ref fa) := by
      have e : (HandSHeadRun.topDef K01.R.prog 26).name = ("law" : PySem.Str) := by kernel_rfl
      rw [← e]
      exact hmg0
    have hd := K01.ds c KX G
    refine Mv.law_go (fa := fa) (T0 := K01.T0) (prog := K01.prog) (i := 24) KX (Mv.says_shr c KX G) hd (by decide +kernel) (by decide +kernel) hmg ?_
    exact fun ns hn => K01.plain ns hn
#print axioms PySem.Challenge.cw_haltstoreys_k01_expr_values_holds
