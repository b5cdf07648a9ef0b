import PyProof.Rows.All
import HandS.ForMost
import HandS.Deep
import HandS.Flow
import HandS.TupAny
import HandS.IsInst
import KE.SortData
import KE.DataEq
import KE.DataMinKey
import HandS.Exc
import HandS.TryOnly
import HandS.ExcOwn
import HandS.WordsExc
import KE.DataCmp
import HandS.TupLe
import HandS.Replace
import PyProof.AutoSeq1
import HandS.TupSets
import HandS.Set
import HandS.Strs
import HandS.ExcIs
import HandS.ExcCtx
import HandS.CallSlots
import HandS.Conv
import HandS.SortKw
import HandS.Style
import HandS.Defaults
import HandS.EndBits
import PyProof.Rows.ReprOcc
import PyProof.FitsInt
import HandS.Text
import PySem.Challenge.RW_whomaywhat_k27_chains_and_revoking
set_option Elab.async false
set_option linter.all false
set_option maxRecDepth 100000
/-! PW1: the core language, its values, its evaluator (plain Lean). -/
namespace PW
open PySem

/-- values: data without identity, or a place of the store; mix: a tuple (true) or a list by value (false) that holds places -/
inductive PV where
  | d (x : PyData)
  | loc (n : Nat)
  | mix (t : Bool) (xs : List PV)

/-- objects of the store -/
inductive Ob where
  | lst (ds : List PyData)
  | plst (xs : List PV)
  /-- an instance of the class at C, its attributes -/
  | inst (C : Nat) (fs : List (Str × PV))
abbrev Store := List Ob
def Ob.items : Ob → List PV
  | .lst ds => ds.map .d
  | .plst xs => xs
  | _ => []
def Ob.isL : Ob → Bool
  | .lst _ => true
  | .plst _ => true
  | _ => false
@[simp] theorem isL_lst (ds : List PyData) : (Ob.lst ds).isL = true := Eq.trans rfl rfl
@[simp] theorem isL_plst (ds : List PV) : (Ob.plst ds).isL = true := Eq.trans rfl rfl
@[simp] theorem isL_inst (C : Nat) (fs : List (Str × PV)) : (Ob.inst C fs).isL = false := Eq.trans rfl rfl
/-- the list at l -/
def lk (S : Store) (l : Nat) : Option Ob := match S[l]? with
  | some o => if o.isL = true then some o else none
  | none => none
def Ob.asL (o : Ob) : Option Ob := if o.isL = true then some o else none
@[simp] theorem asL_lst (ds : List PyData) : (Ob.lst ds).asL = some (.lst ds) := Eq.trans rfl rfl
@[simp] theorem asL_plst (ds : List PV) : (Ob.plst ds).asL = some (.plst ds) := Eq.trans rfl rfl
@[simp] theorem asL_inst (C : Nat) (fs : List (Str × PV)) : (Ob.inst C fs).asL = none := Eq.trans rfl rfl
theorem lk_eq (S : Store) (l : Nat) : lk S l = (S[l]?).bind Ob.asL := by
  unfold lk
  cases S[l]? <;> rfl
theorem lk_some {S : Store} {l : Nat} {o : Ob} (h : lk S l = some o) : S[l]? = some o ∧ o.isL = true := by
  unfold lk at h
  cases e : S[l]? with
  | none => rw [e] at h; cases h
  | some o' =>
    rw [e] at h
    simp only at h
    split at h
    · cases h; exact ⟨rfl, ‹_›⟩
    · cases h
theorem lk_of {S : Store} {l : Nat} {o : Ob} (h : S[l]? = some o) (ho : o.isL = true) : lk S l = some o := by
  unfold lk
  rw [h]
  simp only
  rw [if_pos ho]
theorem lk_lst {S : Store} {l : Nat} {ds : List PyData} (h : S[l]? = some (.lst ds)) : lk S l = some (.lst ds) := lk_of h rfl
theorem lk_plst {S : Store} {l : Nat} {ds : List PV} (h : S[l]? = some (.plst ds)) : lk S l = some (.plst ds) := lk_of h rfl

inductive Res (α : Type) where
  | ok (a : α) (S : Store)
  | err (c : Nat) (as : List PyData) (S : Store)
  | stuck
def Res.bind {α β : Type} (r : Res α) (f : α → Store → Res β) : Res β :=
  match r with
  | .ok a S => f a S
  | .err c as S => .err c as S
  | .stuck => .stuck
@[simp] theorem bind_ok {α β : Type} (a : α) (S : Store) (f : α → Store → Res β) : (Res.ok a S).bind f = f a S := Eq.trans rfl rfl
@[simp] theorem bind_err {α β : Type} (c : Nat) (as : List PyData) (S : Store) (f : α → Store → Res β) : (Res.err c as S).bind f = .err c as S := Eq.trans rfl rfl
@[simp] theorem bind_stuck {α β : Type} (f : α → Store → Res β) : (Res.stuck).bind f = .stuck := Eq.trans rfl rfl

abbrev Env := List (Option PV)

def allD : List PV → Option (List PyData)
  | [] => some []
  | .d x :: r => (allD r).map (x :: ·)
  | _ :: _ => none
@[simp] theorem allD_map : ∀ ds : List PyData, allD (ds.map PV.d) = some ds
  | [] => rfl
  | x :: r => by simp [allD, allD_map r]
theorem allD_eq : ∀ {xs : List PV} {ds : List PyData}, allD xs = some ds → xs = ds.map .d
  | [], ds, h => by simp [allD] at h; subst h; rfl
  | .d x :: r, ds, h => by
    simp only [allD] at h
    cases e : allD r with
    | none => rw [e] at h; simp at h
    | some es =>
      rw [e] at h
      simp at h
      subst h
      rw [allD_eq e]
      rfl
  | .loc _ :: _, _, h => by simp [allD] at h
  | .mix _ _ :: _, _, h => by simp [allD] at h
def mkTup (xs : List PV) : PV := match allD xs with
  | some ds => .d (.tuple ds)
  | none => .mix true xs
def mkLst (xs : List PV) : PV := match allD xs with
  | some ds => .d (.list ds)
  | none => .mix false xs
def mkOb (xs : List PV) : Ob := match allD xs with
  | some ds => .lst ds
  | none => .plst xs
@[simp] theorem mkTup_map (ds : List PyData) : mkTup (ds.map .d) = .d (.tuple ds) := by simp [mkTup]
@[simp] theorem mkLst_map (ds : List PyData) : mkLst (ds.map .d) = .d (.list ds) := by simp [mkLst]
@[simp] theorem mkOb_map (ds : List PyData) : mkOb (ds.map .d) = .lst ds := by simp [mkOb]
theorem items_mkOb (xs : List PV) : (mkOb xs).items = xs := by
  unfold mkOb
  cases e : allD xs with
  | none => rfl
  | some ds => exact (allD_eq e).symm

/-- the items of a list or tuple: (is it a tuple, its items) -/
def seqOf (S : Store) : PV → Option (Bool × List PV)
  | .d (.tuple ds) => some (true, ds.map .d)
  | .d (.list ds) => some (false, ds.map .d)
  | .mix t xs => some (t, xs)
  | .loc l => (lk S l).map fun o => (false, o.items)
  | _ => none

inductive Bop | add | sub | mul | fdiv | mod | pow
  deriving DecidableEq
inductive Cop | eq | ne | lt | le | gt | ge | in_ | notin | is_ | isnot
  deriving DecidableEq
inductive Bn | len | int | abs | max | min | str | tuple | all | any | sum
  deriving DecidableEq
inductive Fop | disp | list | sorted | sset
  deriving DecidableEq
inductive Mt | append | pop | popAt | insert | reverse | index | clear | extend
  deriving DecidableEq
inductive Dm | sindex | join
  deriving DecidableEq
inductive Ty | bool | int | str | tuple | list
  deriving DecidableEq
inductive Ik | of | rng1 | rng2 | enum | zip
  deriving DecidableEq
inductive Tg | slot (i : Nat) | tup (is : List Nat)

inductive CE where
  | var (i : Nat)
  | glob (x : Str) (d : PyData)
  | lit (d : PyData)
  | tup (es : List CE)
  | fr (al : Bool) (o : Fop) (es : List CE)
  | bin (o : Bop) (a b : CE)
  | neg (a : CE)
  | cmp (o : Cop) (a b : CE)
  | chain (o p : Cop) (a b c : CE)
  | not (a : CE)
  | and (a b : CE)
  | or (a b : CE)
  | ite (c a b : CE)
  | call (al : Bool) (f : Nat) (es : List CE)
  | bn (b : Bn) (es : List CE)
  | mt (m : Mt) (o : CE) (es : List CE)
  | dm (m : Dm) (o : CE) (es : List CE)
  | idx (a i : CE)
  | slice (a : CE) (lo hi : List CE)
  | isi (e : CE) (t : Ty)
  | comp (al : Bool) (own : List Nat) (tg : Tg) (k : Ik) (src : List CE) (cnd : List CE) (elt : CE)
  | callD (al : Bool) (f : Nat) (es : List CE) (ds : List PyData)
  | minK (f : Nat) (e : CE)
  /-- an attribute of an instance; jc tells its class -/
  | fld (jc : Nat) (e : CE) (f : Str)
  /-- a method: the function j, of an instance -/
  | mcall (al : Bool) (jc j : Nat) (m : Str) (o : CE) (es : List CE) (ds : List PyData)
  /-- a new instance: the function j is its __init__ -/
  | make (jc j : Nat) (es : List CE) (ds : List PyData)
  /-- two lists, one behind the other -/
  | catL (al : Bool) (a b : CE)
  /-- list(range(a, b)) -/
  | lrange (al : Bool) (a b : CE)
  | stuckE

inductive CS where
  | asg (tg : Tg) (e : CE)
  | set (o i e : CE)
  | aug (i : Nat) (o : Bop) (e : CE)
  | expr (e : CE)
  | ite (c : CE) (a b : List CS)
  | for_ (tg : Tg) (k : Ik) (src : List CE) (body : List CS)
  | while_ (c : CE) (body : List CS)
  | ret (e : CE)
  | retN
  | brk
  | cont
  | pass
  | kill (is : List Nat)
  /-- o.f = e -/
  | setf (jc : Nat) (o : CE) (f : Str) (e : CE)
  /-- raise C(..), C by its number -/
  | raise_ (c : Nat)
  /-- try: body, except C as e: return [isinstance(e, D), ..]; each class by the numbers of those that belong to it -/
  | tryI (body : List CS) (c : List Nat) (i : Nat) (ds : List (List Nat))
  | stuckS

inductive Fl where
  | next
  | ret (v : PV)
  | brk
  | cont

/-! ### operations on values -/
def ok1 (v : PV) (S : Store) : Res PV := .ok v S
def orStuck (o : Option PV) (S : Store) : Res PV := match o with
  | some v => .ok v S
  | none => .stuck

def truth (S : Store) : PV → Option Bool
  | .d .none => some false
  | .d (.bool b) => some b
  | .d (.int i) => some (i != 0)
  | .d (.str x) => if x.length ≤ sizeLine then some ((x.length : Int) != 0) else none
  | v => (seqOf S v).map fun p => !p.2.isEmpty
def asBool (r : Res PV) : Res PV := r.bind fun v S => orStuck ((truth S v).map fun b => .d (.bool b)) S

def mulOk (i j : Int) : Bool := (decide (-(2 ^ 64) < i) && decide (i < 2 ^ 64)) || (decide (-(2 ^ 64) < j) && decide (j < 2 ^ 64))
def binop : Bop → PV → PV → Option PV
  | .add, .d (.int i), .d (.int j) => some (.d (.int (i + j)))
  | .add, .d (.str x), .d (.str y) => if x.length + y.length ≤ sizeLine then some (.d (.str (x ++ y))) else none
  | .add, .d (.tuple xs), .d (.tuple ys) => if xs.length + ys.length ≤ sizeLine then some (.d (.tuple (xs ++ ys))) else none
  | .add, .d (.list xs), .d (.list ys) => if xs.length + ys.length ≤ sizeLine then some (.d (.list (xs ++ ys))) else none
  | .sub, .d (.int i), .d (.int j) => some (.d (.int (i - j)))
  | .mul, .d (.int i), .d (.int j) => if mulOk i j then some (.d (.int (i * j))) else none
  | .fdiv, .d (.int i), .d (.int j) => if 0 < j ∧ j < 1073741824 then some (.d (.int (i / j))) else none
  | .mod, .d (.int i), .d (.int j) => if 0 < j then some (.d (.int (i % j))) else none
  | .pow, .d (.int i), .d (.int j) => if 0 ≤ j ∧ j ≤ 1000000 ∧ i.natAbs < 2 ^ 64 then some (.d (.int (i ^ j.toNat))) else none
  | _, _, _ => none

def isTupP : PV → Bool
  | .d (.tuple _) => true
  | .d (.list _) => true
  | _ => false
def augop (o : Bop) (x y : PV) : Option PV := if isTupP x then none else binop o x y

def flatD : PyData → Bool
  | .none => true
  | .bool _ => true
  | .int _ => true
  | .str _ => true
  | _ => false
def sameScal : PyData → PyData → Bool
  | .str _, .str _ => true
  | .int _, .int _ => true
  | .bool _, .bool _ => true
  | _, _ => false
/-- x == y of items that a comparison meets -/
def lowOk (x : PyData) : Bool := x.plain && decide (x.depth ≤ 40)
def eqOk (x y : PyData) : Bool := sameScal x y || (lowOk x && lowOk y)
def isInts : List PyData → Option (List Int)
  | [] => some []
  | .int i :: r => (isInts r).map (i :: ·)
  | _ :: _ => none
/-- the first place whose items differ decides -/
def ltL (f : PyData → PyData → Option Bool) : List PyData → List PyData → Option Bool
  | [], [] => some false
  | [], _ :: _ => some true
  | _ :: _, [] => some false
  | x :: xs, y :: ys => if (lowOk x && lowOk y) = true then (if PyData.eqv x y = true then ltL f xs ys else f x y) else none
def ltD : Nat → PyData → PyData → Option Bool
  | _, .int i, .int j => some (decide (i < j))
  | _, .str x, .str y => some (decide (x.cps.toList < y.cps.toList))
  | n + 1, .tuple xs, .tuple ys => ltL (ltD n) xs ys
  | _, _, _ => none
def cmpop (S : Store) : Cop → PV → PV → Option Bool
  | .eq, .d x, .d y => if eqOk x y then some (PyData.eqv x y) else none
  | .ne, .d x, .d y => if eqOk x y then some (!PyData.eqv x y) else none
  | .lt, .d (.int i), .d (.int j) => some (decide (i < j))
  | .le, .d (.int i), .d (.int j) => some (decide (i ≤ j))
  | .gt, .d (.int i), .d (.int j) => some (decide (j < i))
  | .ge, .d (.int i), .d (.int j) => some (decide (j ≤ i))
  | .lt, .d (.str x), .d (.str y) => some (decide (x.cps.toList < y.cps.toList))
  | .lt, .d (.tuple xs), .d (.tuple ys) => match isInts xs, isInts ys with
    | some ns, some ms => some (HT.lexLt ns ms)
    | _, _ => ltL (ltD 8) xs ys
  | .in_, .d (.str x), .d (.str z) => match x.cps.toList with
    | [c] => some (decide (c ∈ z.cps.toList))
    | _ => none
  | .notin, .d (.str x), .d (.str z) => match x.cps.toList with
    | [c] => some (!decide (c ∈ z.cps.toList))
    | _ => none
  | .in_, .d x, v => match seqOf S v with
    | some (_, xs) => match allD xs with
      | some ds => if lowOk x && ds.all lowOk then some (ds.any fun y => PyData.eqv y x) else none
      | none => none
    | none => none
  | .notin, .d x, v => match seqOf S v with
    | some (_, xs) => match allD xs with
      | some ds => if lowOk x && ds.all lowOk then some (!(ds.any fun y => PyData.eqv y x)) else none
      | none => none
    | none => none
  | .is_, .d .none, .d .none => some true
  | .is_, .d (.bool _), .d .none => some false
  | .is_, .d (.int _), .d .none => some false
  | .is_, .d (.str _), .d .none => some false
  | .is_, .d (.tuple _), .d .none => some false
  | .is_, .d (.list _), .d .none => some false
  | .isnot, .d .none, .d .none => some false
  | .isnot, .d (.bool _), .d .none => some true
  | .isnot, .d (.int _), .d .none => some true
  | .isnot, .d (.str _), .d .none => some true
  | .isnot, .d (.tuple _), .d .none => some true
  | .isnot, .d (.list _), .d .none => some true
  | _, _, _ => none

def isBools : List PV → Option (List Bool)
  | [] => some []
  | .d (.bool b) :: r => (isBools r).map (b :: ·)
  | _ :: _ => none
def bnop (S : Store) : Bn → List PV → Option PV
  | .len, [.d (.str x)] => if x.length ≤ sizeLine then some (.d (.int x.length)) else none
  | .len, [v] => (seqOf S v).map fun p => .d (.int p.2.length)
  | .int, [.d (.int i)] => some (.d (.int i))
  | .int, [.d (.bool k)] => some (.d (.int (if k then 1 else 0)))
  | .abs, [.d (.int i)] => some (.d (.int (if i < 0 then -i else i)))
  | .max, [.d (.int i), .d (.int j)] => some (.d (.int (if j > i then j else i)))
  | .min, [.d (.int i), .d (.int j)] => some (.d (.int (if j < i then j else i)))
  | .str, [.d (.int i)] => if i.natAbs.log2 < 1920 then some (.d (.str (toString i))) else none
  | .tuple, [v] => (seqOf S v).map fun p => mkTup p.2
  | .all, [v] => match seqOf S v with
    | some (false, xs) => (isBools xs).map fun bs => .d (.bool (bs.all id))
    | _ => none
  | .any, [v] => match seqOf S v with
    | some (false, xs) => (isBools xs).map fun bs => .d (.bool (bs.any id))
    | _ => none
  | .sum, [v] => match seqOf S v with
    | some (false, xs) => match allD xs with
      | some ds => (isInts ds).map fun ns => .d (.int ns.sum)
      | none => none
    | _ => none
  | _, _ => none

/-- is it data that sorted takes (all alike; tuples that are not empty, or none a tuple or None) -/
def allAlike (ds : List PyData) : Bool := ds.all fun x => ds.all fun y => PySem.W.alike x y
def sortable (ds : List PyData) : Bool := (ds.all fun d => match d with
  | .tuple (_ :: _) => true
  | _ => false) || (ds.all fun d => match d with
  | .tuple _ => false
  | .none => false
  | _ => true)
def depthOk (ds : List PyData) : Bool := ds.all fun d => decide (d.depth ≤ 40)
def sortD (ds : List PyData) : List PyData := ds.mergeSort (PySem.W.dataLe false id)
/-! sorted(set(xs)) of texts -/
def addT (L : List Str) (k : Str) : List Str := if k ∈ L then L else k :: L
def leT (x y : Str) : Bool := decide (x.cps.toList ≤ y.cps.toList)
def ssetD (xs : List Str) : List Str := (xs.foldl addT []).mergeSort leT
def allStr : List PyData → Option (List Str)
  | [] => some []
  | .str x :: r => (allStr r).map (x :: ·)
  | _ :: _ => none
theorem allStr_eq : ∀ {ds : List PyData} {ss : List Str}, allStr ds = some ss → ds = ss.map .str
  | [], ss, h => by cases h; rfl
  | d :: r, ss, h => by
    cases d with
    | str x =>
      have h : (allStr r).map (x :: ·) = some ss := h
      obtain ⟨t, e, rfl⟩ := Option.map_eq_some_iff.mp h
      rw [allStr_eq e]
      rfl
    | _ => cases h
@[simp] theorem allStr_map : ∀ ss : List Str, allStr (ss.map .str) = some ss
  | [] => rfl
  | x :: r => by
    show (allStr (r.map .str)).map (x :: ·) = _
    rw [allStr_map r]
    rfl
def frop (S : Store) : Fop → List PV → Option (List PV)
  | .disp, vs => if vs.length ≤ sizeLine then some vs else none
  | .list, [v] => (seqOf S v).map fun p => p.2
  | .sorted, [v] => match seqOf S v with
    | some (false, xs) => match allD xs with
      | some ds => if allAlike ds && sortable ds && depthOk ds then some ((sortD ds).map .d) else none
      | none => none
    | _ => none
  | .sset, [v] => match seqOf S v with
    | some (false, xs) => match allD xs with
      | some ds => match allStr ds with
        | some ss => if ss.length ≤ 1000 then some ((ssetD ss).map fun x => .d (.str x)) else none
        | none => none
      | none => none
    | _ => none
  | _, _ => none
def fin (al : Bool) (xs : List PV) (S : Store) : Res PV := match al with
  | false => .ok (mkLst xs) S
  | true => .ok (.loc S.length) (S ++ [mkOb xs])

def isTy (S : Store) : Ty → PV → Option Bool
  | .bool, .d (.bool _) => some true
  | .bool, .d _ => some false
  | .int, .d (.bool _) => some true
  | .int, .d (.int _) => some true
  | .int, .d _ => some false
  | .str, .d (.str _) => some true
  | .str, .d _ => some false
  | .tuple, .d (.tuple _) => some true
  | .tuple, .d _ => some false
  | .list, .d (.list _) => some true
  | .list, .d _ => some false
  | t, .loc l => match lk S l with
    | some _ => some (decide (t = .list))
    | none => none
  | _, .mix _ _ => none

/-- methods of what is never written -/
def dmop : Dm → PV → List PV → Option PV
  | .sindex, .d (.str a), [.d (.str b)] => match Builtin.Str.occurrences a b 0 a.length 1 with
    | i :: _ => some (.d (.int (i : Nat)))
    | [] => none
  | .join, .d (.str a), [.d (.list ds)] => match allStr ds with
    | some ss => if (ss.map (·.length)).sum + ss.length * a.length ≤ 16777216 then some (.d (.str (PySem.Txt.join a ss))) else none
    | none => none
  | _, _, _ => none
def dmRecv : Dm → PV → Bool
  | .sindex, .d (.str _) => true
  | .join, .d (.str _) => true
  | _, _ => false
def idxop (S : Store) : PV → PV → Option PV
  | .d (.str z), .d (.int i) => if z.length ≤ sizeLine then (L2.atI z.cps.toList i).map fun c => .d (.str ⟨#[c]⟩) else none
  | v, .d (.int i) => match seqOf S v with
    | some (_, xs) => L2.atI xs i
    | none => none
  | _, _ => none
def partOf : List PV → Option (Option Int)
  | [] => some none
  | [.d (.int i)] => some (some i)
  | _ => none
def cutP (xs : List PV) (lo hi : Option Int) : List PV := (xs.drop (HT.sIx xs.length 0 lo)).take (HT.sIx xs.length xs.length hi - HT.sIx xs.length 0 lo)
def sliceV (S : Store) (v : PV) (l h : Option Int) : Option PV := match v with
    | .d (.str z) => if z.length ≤ sizeLine then some (.d (.str (L2.cutS z l h))) else none
    | v => match seqOf S v with
      | some (true, xs) => some (mkTup (cutP xs l h))
      | some (false, xs) => some (mkLst (cutP xs l h))
      | none => none

/-! methods that write: the object at l, as it is; gives the value and the new object -/
def Ob.push : Ob → PV → Ob
  | .lst ds, .d x => .lst (ds ++ [x])
  | o, v => .plst (o.items ++ [v])
theorem items_push (o : Ob) (v : PV) : (o.push v).items = o.items ++ [v] := by
  cases o with
  | lst ds =>
    cases v with
    | d x => simp [Ob.push, Ob.items]
    | loc n => simp [Ob.push, Ob.items]
    | mix t xs => simp [Ob.push, Ob.items]
  | _ => cases v <;> simp [Ob.push, Ob.items]
/-- .lst where it can be, by the form of the old object -/
def Ob.like (o : Ob) (xs : List PV) : Ob := match o with
  | .lst _ => mkOb xs
  | _ => .plst xs
theorem items_like (o : Ob) (xs : List PV) : (o.like xs).items = xs := by
  cases o with
  | lst ds => exact items_mkOb xs
  | _ => rfl
theorem isL_mkOb (xs : List PV) : (mkOb xs).isL = true := by
  unfold mkOb
  cases allD xs <;> rfl
theorem isL_like (o : Ob) (xs : List PV) : (o.like xs).isL = true := by
  cases o with
  | lst ds => exact isL_mkOb xs
  | _ => rfl
theorem isL_push (o : Ob) (v : PV) : (o.push v).isL = true := by
  cases o with
  | lst ds => cases v <;> rfl
  | _ => rfl
def mtop (S : Store) : Mt → Nat → List PV → Option (PV × Store)
  | .append, l, [v] => match lk S l with
    | some o => if o.items.length < sizeLine then some (.d .none, S.set l (o.push v)) else none
    | none => none
  | .pop, l, [] => match lk S l with
    | some o => match o.items[o.items.length - 1]? with
      | some v => some (v, S.set l (o.like o.items.dropLast))
      | none => none
    | none => none
  | .popAt, l, [.d (.int i)] => match lk S l with
    | some o => if -(2 ^ 63) ≤ i ∧ i < 2 ^ 63 then (match seqIndex? i o.items.length with
      | some k => match o.items[k]? with
        | some v => some (v, S.set l (o.like (o.items.eraseIdx k)))
        | none => none
      | none => none) else none
    | none => none
  | .reverse, l, [] => match lk S l with
    | some o => some (.d .none, S.set l (o.like o.items.reverse))
    | none => none
  | .clear, l, [] => match lk S l with
    | some o => some (.d .none, S.set l (o.like []))
    | none => none
  | .extend, l, [.d (.list ds)] => match lk S l with
    | some o => if o.items.length + ds.length ≤ sizeLine then some (.d .none, S.set l (o.like (o.items ++ ds.map .d))) else none
    | none => none
  | _, _, _ => none
def setop (S : Store) : PV → PV → PV → Option Store
  | .loc l, .d (.int k), v => match lk S l with
    | some o => match L2.ixN o.items.length k with
      | some j => some (S.set l (o.like (o.items.set j v)))
      | none => none
    | none => none
  | _, _, _ => none

/-! what a loop walks: the items, and the object that must stay as it is -/
def chars (x : Str) : List PV := x.cps.toList.map fun c => .d (.str ⟨#[c]⟩)
def intsP (lo : Int) (n : Nat) : List PV := (List.range n).map fun (i : Nat) => .d (.int (lo + i))
def small62 (i : Int) : Bool := decide (-(2 ^ 62) ≤ i) && decide (i < 2 ^ 62)
structure Walked where
  items : List PV
  at_ : Option (Nat × Ob)
def walkV (S : Store) : List PV → Option Walked
  | [.d (.str x)] => some ⟨chars x, none⟩
  | [.loc l] => match lk S l with
    | some o => some ⟨o.items, some (l, o)⟩
    | none => none
  | [v] => match seqOf S v with
    | some (_, xs) => some ⟨xs, none⟩
    | none => none
  | _ => none
def walkR1 : List PV → Option Walked
  | [.d (.int n)] => if small62 n then some ⟨intsP 0 n.toNat, none⟩ else none
  | _ => none
def walkR2 : List PV → Option Walked
  | [.d (.int i), .d (.int j)] => if small62 i && small62 j then some ⟨intsP i (j - i).toNat, none⟩ else none
  | _ => none
def walkOf (S : Store) : Ik → List PV → Option Walked
  | .of, vs => walkV S vs
  | .rng1, vs => walkR1 vs
  | .rng2, vs => walkR2 vs
  | _, _ => none
/-- nothing: the walked object must be as it was -/
def Walked.same (w : Walked) (S : Store) : Prop := match w.at_ with
  | none => True
  | some (l, o) => S[l]? = some o

def killE (env : Env) : List Nat → Env
  | [] => env
  | v :: vs => (killE env vs).set v none
def tupItems : PV → Option (List PV)
  | .d (.tuple ds) => some (ds.map .d)
  | .mix true xs => some xs
  | _ => none
def putTg : Tg → PV → Env → Option Env
  | .slot i, v, env => some (env.set i (some v))
  | .tup is, v, env => match tupItems v with
    | some xs => if xs.length = is.length then some ((is.zip xs).foldl (fun e p => e.set p.1 (some p.2)) env) else none
    | none => none

/-! ### calls: what the callee leaves -/
mutual
def PV.free : PV → Bool
  | .d _ => true
  | .loc _ => false
  | .mix _ xs => PV.frees xs
def PV.frees : List PV → Bool
  | [] => true
  | x :: r => x.free && PV.frees r
end
def Ob.free : Ob → Bool
  | .lst _ => true
  | .plst xs => PV.frees xs
  | .inst _ fs => fs.all fun p => p.2.free
mutual
/-- it speaks of no place from n on -/
def PV.under (n : Nat) : PV → Bool
  | .d _ => true
  | .loc l => decide (l < n)
  | .mix _ xs => PV.unders n xs
def PV.unders (n : Nat) : List PV → Bool
  | [] => true
  | x :: r => x.under n && PV.unders n r
end
def Ob.under (n : Nat) : Ob → Bool
  | .lst _ => true
  | .plst xs => PV.unders n xs
  | .inst _ fs => fs.all fun p => p.2.under n
mutual
theorem PV.free_under (n : Nat) : ∀ {x : PV}, x.free = true → x.under n = true
  | .d _, _ => rfl
  | .loc _, h => by simp [PV.free] at h
  | .mix _ xs, h => PV.frees_unders n (xs := xs) (by simpa [PV.free] using h)
theorem PV.frees_unders (n : Nat) : ∀ {xs : List PV}, PV.frees xs = true → PV.unders n xs = true
  | [], _ => rfl
  | x :: r, h => by
    simp only [PV.frees, Bool.and_eq_true] at h
    simp only [PV.unders, Bool.and_eq_true]
    exact ⟨PV.free_under n h.1, PV.frees_unders n h.2⟩
end
theorem Ob.free_under (n : Nat) {o : Ob} (h : o.free = true) : o.under n = true := by
  cases o with
  | lst ds => rfl
  | plst xs => exact PV.frees_unders n h
  | inst C fs => exact List.all_eq_true.mpr fun p hp => PV.free_under n (List.all_eq_true.mp h p hp)
theorem all_under (n : Nat) {S : Store} (h : S.all Ob.free = true) : S.all (Ob.under n) = true := List.all_eq_true.mpr fun o ho => Ob.free_under n (List.all_eq_true.mp h o ho)
def back (al : Bool) (n : Nat) (v : PV) (S : Store) : Res PV := match v with
  | .d x => if (S.take n).all (Ob.under n) then .ok (.d x) (S.take n) else .ok (.d x) S
  | .loc l => if l < n then .ok (.loc l) S else match lk S l with
    | some o => if (S.take n).all (Ob.under n) && o.under n then (match al with
      | true => .ok (.loc n) (S.take n ++ [o])
      | false => .ok (mkLst o.items) (S.take n)) else .ok (.loc l) S
    | none => .ok (.loc l) S
  | .mix t xs => .ok (.mix t xs) S

/-- an attribute is written -/
def putA (f : Str) (v : PV) : List (Str × PV) → List (Str × PV)
  | [] => [(f, v)]
  | (g, w) :: r => if g = f then (g, v) :: r else (g, w) :: putA f v r
/-! ### the evaluator -/
noncomputable section
open Classical in
/-- the keys of the items, where the function leaves the store as it is -/
def keysK (F : List PV → Store → Res PV) (S : Store) : List PyData → Option (List Int)
  | [] => some []
  | x :: r => match F [.d x] S with
    | .ok (.d (.int k)) S' => if S' = S then (keysK F S r).map (k :: ·) else none
    | _ => none
/-- the first item with the least key -/
def minAt (ds : List PyData) (ks : List Int) : Option PyData := ds[argBest (fun i j => decide (ks.getD i 0 < ks.getD j 0)) (ds.length - 1)]?
def minR (F : List PV → Store → Res PV) (v : PV) (S : Store) : Res PV := match v with
  | .d (.list ds) => match keysK F S ds with
    | some ks => match minAt ds ks with
      | some x => .ok (.d x) S
      | none => .stuck
    | none => .stuck
  | _ => .stuck
abbrev Fns := Nat → List PV → Store → Res PV
def catR (al : Bool) (x y : PV) (S : Store) : Res PV := match seqOf S x with
  | some (false, xs) => match seqOf S y with
    | some (false, ys) => if xs.length + ys.length ≤ sizeLine then fin al (xs ++ ys) S else .stuck
    | _ => .stuck
  | _ => .stuck
def lrangeR (al : Bool) (x y : PV) (S : Store) : Res PV := match x, y with
  | .d (.int i), .d (.int j) => if (small62 i && small62 j && decide ((j - i).toNat ≤ 1000000)) = true then fin al (intsP i (j - i).toNat) S else .stuck
  | _, _ => .stuck
/-- the class that jc tells -/
def clsNo (Φ : Fns) (jc : Nat) : Option Nat := match Φ jc [] [] with
  | .ok (.d (.int i)) _ => some i.toNat
  | _ => none
def fldR (Φ : Fns) (jc : Nat) (f : Str) (x : PV) (S : Store) : Res PV := match x with
  | .loc l => match S[l]? with
    | some (.inst C fs) => if clsNo Φ jc = some C then (match fs.lookup f with
      | some v => .ok v S
      | none => .stuck) else .stuck
    | _ => .stuck
  | _ => .stuck
def instR (Φ : Fns) (jc : Nat) (m : Str) (x : PV) (S : Store) : Res PV := match x with
  | .loc l => match S[l]? with
    | some (.inst C fs) => if clsNo Φ jc = some C ∧ fs.lookup m = none then .ok (.loc l) S else .stuck
    | _ => .stuck
  | _ => .stuck
def makeR (Φ : Fns) (jc : Nat) (run : Store → Res PV) (S : Store) : Res PV := match clsNo Φ jc with
  | some C => (run (S ++ [.inst C []])).bind fun v S2 => match v with
    | .d .none => .ok (.loc S.length) S2
    | _ => .stuck
  | none => .stuck
def mtoR (o : Option (PV × Store)) : Res PV := match o with
  | some (v, S) => .ok v S
  | none => .stuck
def froR (S : Store) (al : Bool) (o : Option (List PV)) : Res PV := match o with
  | some xs => fin al xs S
  | none => .stuck
def partM (r : Res (List PV)) : Res (Option Int) := r.bind fun ls S => match partOf ls with
  | some l => .ok l S
  | none => .stuck
def noErr {α : Type} : Res α → Res α
  | .err _ _ _ => .stuck
  | r => r
@[simp] theorem noErr_ok {α : Type} (a : α) (S : Store) : noErr (.ok a S) = .ok a S := Eq.trans rfl rfl
/-- one turn of a comprehension -/
def compStep (env : Env) (tg : Tg) (cnd : Option (Env → Store → Res PV)) (elt : Env → Store → Res PV) (x : PV) (S : Store) : Res (List PV) := match putTg tg x env with
  | some env1 => match cnd with
    | none => (elt env1 S).bind fun y S3 => .ok [y] S3
    | some c => (asBool (c env1 S)).bind fun v S3 => match v with
      | .d (.bool true) => (elt env1 S3).bind fun y S4 => .ok [y] S4
      | .d (.bool false) => .ok [] S3
      | _ => .stuck
  | none => .stuck
def compLoop (w : Walked) (step : PV → Store → Res (List PV)) : List PV → Store → Res (List PV)
  | [], S => .ok [] S
  | x :: r, S => (step x S).bind fun ys S1 => open Classical in if w.same S1 then (compLoop w step r S1).bind fun zs S2 => .ok (ys ++ zs) S2 else .stuck
def Env.get (env : Env) (i : Nat) : Option PV := match env[i]? with
  | some o => o
  | none => none
mutual
/-- t: as a test (and, or, not by truth) -/
def ev (Φ : Fns) : CE → Bool → Env → Store → Res PV
  | .var i, _, env, S => orStuck (env.get i) S
  | .glob _ d, _, _, S => .ok (.d d) S
  | .lit d, _, _, S => .ok (.d d) S
  | .tup es, _, env, S => (evs Φ es env S).bind fun vs S1 => if vs.length ≤ sizeLine then .ok (mkTup vs) S1 else .stuck
  | .fr al o es, _, env, S => (evs Φ es env S).bind fun vs S1 => froR S1 al (frop S1 o vs)
  | .bin o a b, _, env, S => (ev Φ a false env S).bind fun x S1 => (ev Φ b false env S1).bind fun y S2 => orStuck (binop o x y) S2
  | .neg a, _, env, S => (ev Φ a false env S).bind fun x S1 => match x with
    | .d (.int i) => .ok (.d (.int (-i))) S1
    | _ => .stuck
  | .cmp o a b, _, env, S => (ev Φ a false env S).bind fun x S1 => (ev Φ b false env S1).bind fun y S2 => orStuck ((cmpop S2 o x y).map fun k => .d (.bool k)) S2
  | .chain o p a b c, _, env, S => (ev Φ a false env S).bind fun x S1 => (ev Φ b false env S1).bind fun y S2 => match cmpop S2 o x y with
    | some true => (ev Φ c false env S2).bind fun z S3 => orStuck ((cmpop S3 p y z).map fun k => .d (.bool k)) S3
    | some false => .ok (.d (.bool false)) S2
    | none => .stuck
  | .not a, t, env, S => (asBool (ev Φ a t env S)).bind fun v S1 => match v with
    | .d (.bool k) => .ok (.d (.bool (!k))) S1
    | _ => .stuck
  | .and a b, true, env, S => (asBool (ev Φ a true env S)).bind fun v S1 => match v with
    | .d (.bool true) => asBool (ev Φ b true env S1)
    | v => .ok v S1
  | .and a b, false, env, S => (ev Φ a false env S).bind fun v S1 => match v with
    | .d (.bool true) => ev Φ b false env S1
    | .d (.bool false) => .ok (.d (.bool false)) S1
    | _ => .stuck
  | .or a b, true, env, S => (asBool (ev Φ a true env S)).bind fun v S1 => match v with
    | .d (.bool false) => asBool (ev Φ b true env S1)
    | v => .ok v S1
  | .or a b, false, env, S => (ev Φ a false env S).bind fun v S1 => match v with
    | .d (.bool false) => ev Φ b false env S1
    | .d (.bool true) => .ok (.d (.bool true)) S1
    | _ => .stuck
  | .ite c a b, _, env, S => (asBool (ev Φ c true env S)).bind fun v S1 => match v with
    | .d (.bool true) => ev Φ a false env S1
    | .d (.bool false) => ev Φ b false env S1
    | _ => .stuck
  | .call al f es, _, env, S => (evs Φ es env S).bind fun vs S1 => (Φ f vs S1).bind fun v S2 => back al S1.length v S2
  | .bn b es, _, env, S => (evs Φ es env S).bind fun vs S1 => orStuck (bnop S1 b vs) S1
  | .mt m o es, _, env, S => (ev Φ o false env S).bind fun x S1 => match x with
    | .loc l => if (lk S1 l).isSome = true then (evs Φ es env S1).bind fun vs S2 => mtoR (mtop S2 m l vs) else .stuck
    | _ => .stuck
  | .dm m o es, _, env, S => (ev Φ o false env S).bind fun x S1 => if dmRecv m x = true then (evs Φ es env S1).bind fun vs S2 => orStuck (dmop m x vs) S2 else .stuck
  | .idx a i, _, env, S => (ev Φ a false env S).bind fun x S1 => (ev Φ i false env S1).bind fun y S2 => orStuck (idxop S2 x y) S2
  | .slice a lo hi, _, env, S => (ev Φ a false env S).bind fun x S1 => (partM (evs Φ lo env S1)).bind fun l S2 => (partM (evs Φ hi env S2)).bind fun h S3 => orStuck (sliceV S3 x l h) S3
  | .isi e t, _, env, S => (ev Φ e false env S).bind fun x S1 => orStuck ((isTy S1 t x).map fun k => .d (.bool k)) S1
  | .comp al own tg k src cnd elt, _, env, S => (evs Φ src env S).bind fun vs S1 => match walkOf S1 k vs with
    | some w => (noErr (compLoop w (compStep (killE env own) tg (evc Φ cnd) (fun env S => ev Φ elt false env S)) w.items S1)).bind fun ys S2 => if ys.length ≤ sizeLine then fin al ys S2 else .stuck
    | none => .stuck
  | .callD al f es ds, _, env, S => (evs Φ es env S).bind fun vs S1 => (Φ f (vs ++ ds.map PV.d) S1).bind fun v S2 => back al S1.length v S2
  | .minK f e, _, env, S => (ev Φ e false env S).bind fun v S1 => minR (Φ f) v S1
  | .fld jc e f, _, env, S => (ev Φ e false env S).bind fun x S1 => fldR Φ jc f x S1
  | .mcall al jc j m o es ds, _, env, S => (ev Φ o false env S).bind fun x S1 => (instR Φ jc m x S1).bind fun x S1 => (evs Φ es env S1).bind fun vs S2 => (Φ j (x :: (vs ++ ds.map PV.d)) S2).bind fun v S3 => back al S2.length v S3
  | .make jc j es ds, _, env, S => (evs Φ es env S).bind fun vs S1 => makeR Φ jc (fun S2 => Φ j (.loc S1.length :: (vs ++ ds.map PV.d)) S2) S1
  | .catL al a b, _, env, S => (ev Φ a false env S).bind fun x S1 => (ev Φ b false env S1).bind fun y S2 => catR al x y S2
  | .lrange al a b, _, env, S => (ev Φ a false env S).bind fun x S1 => (ev Φ b false env S1).bind fun y S2 => lrangeR al x y S2
  | .stuckE, _, _, _ => .stuck
def evc (Φ : Fns) : List CE → Option (Env → Store → Res PV)
  | [] => none
  | c :: _ => some fun env S => ev Φ c true env S
def evs (Φ : Fns) : List CE → Env → Store → Res (List PV)
  | [], _, S => .ok [] S
  | e :: r, env, S => (ev Φ e false env S).bind fun v S1 => (evs Φ r env S1).bind fun vs S2 => .ok (v :: vs) S2
end

def forLoop (w : Walked) (step : PV → Env → Store → Res (Env × Fl)) : List PV → Env → Store → Res (Env × Fl)
  | [], env, S => .ok (env, .next) S
  | x :: r, env, S => (step x env S).bind fun p S1 => match p with
    | (env1, .ret v) => .ok (env1, .ret v) S1
    | (env1, .brk) => .ok (env1, .next) S1
    | (env1, _) => open Classical in if w.same S1 then forLoop w step r env1 S1 else .stuck
def whileLoop (c : Env → Store → Res PV) (body : Env → Store → Res (Env × Fl)) : Nat → Env → Store → Res (Env × Fl)
  | 0, _, _ => .stuck
  | n + 1, env, S => (asBool (c env S)).bind fun v S1 => match v with
    | .d (.bool true) => (body env S1).bind fun p S2 => match p with
      | (env1, .ret v) => .ok (env1, .ret v) S2
      | (env1, .brk) => .ok (env1, .next) S2
      | (env1, _) => whileLoop c body n env1 S2
    | .d (.bool false) => .ok (env, .next) S1
    | _ => .stuck
def setfR (Φ : Fns) (jc : Nat) (f : Str) (x v : PV) (S : Store) : Option Store := match x with
  | .loc l => match S[l]? with
    | some (.inst C fs) => if clsNo Φ jc = some C ∧ fs.length < 1000 then some (S.set l (.inst C (putA f v fs))) else none
    | _ => none
  | _ => none
def catchI (r : Res (Env × Fl)) (c : List Nat) (ds : List (List Nat)) (env : Env) : Res (Env × Fl) := match r with
  | .err x [] S => if x ∈ c then .ok (env, .ret (.d (.list (ds.map fun d => .bool (decide (x ∈ d)))))) S else .err x [] S
  | .err _ _ _ => .stuck
  | r => r
mutual
def ex (Φ : Fns) (N : Nat) : CS → Env → Store → Res (Env × Fl)
  | .asg tg e, env, S => (ev Φ e false env S).bind fun v S1 => match putTg tg v env with
    | some env1 => .ok (env1, .next) S1
    | none => .stuck
  | .set o i e, env, S => (ev Φ e false env S).bind fun v S1 => (ev Φ o false env S1).bind fun x S2 => (ev Φ i false env S2).bind fun y S3 => match setop S3 x y v with
    | some S4 => .ok (env, .next) S4
    | none => .stuck
  | .aug i o e, env, S => match env.get i with
    | some x => (ev Φ e false env S).bind fun y S1 => match augop o x y with
      | some v => .ok (env.set i (some v), .next) S1
      | none => .stuck
    | none => .stuck
  | .expr e, env, S => (ev Φ e false env S).bind fun _ S1 => .ok (env, .next) S1
  | .ite c a b, env, S => (asBool (ev Φ c true env S)).bind fun v S1 => match v with
    | .d (.bool true) => exs Φ N a env S1
    | .d (.bool false) => exs Φ N b env S1
    | _ => .stuck
  | .for_ tg k src body, env, S => (evs Φ src env S).bind fun vs S1 => match walkOf S1 k vs with
    | some w => forLoop w (fun x env1 S2 => match putTg tg x env1 with
      | some env2 => exs Φ N body env2 S2
      | none => .stuck) w.items env S1
    | none => .stuck
  | .while_ c body, env, S => whileLoop (fun env S => ev Φ c true env S) (fun env S => exs Φ N body env S) N env S
  | .ret e, env, S => (ev Φ e false env S).bind fun v S1 => .ok (env, .ret v) S1
  | .retN, env, S => .ok (env, .ret (.d .none)) S
  | .brk, env, S => .ok (env, .brk) S
  | .cont, env, S => .ok (env, .cont) S
  | .pass, env, S => .ok (env, .next) S
  | .kill is, env, S => .ok (killE env is, .next) S
  | .setf jc o f e, env, S => (ev Φ e false env S).bind fun v S1 => (ev Φ o false env S1).bind fun x S2 => match setfR Φ jc f x v S2 with
    | some S3 => .ok (env, .next) S3
    | none => .stuck
  | .raise_ c, _, S => .err c [] S
  | .tryI body c _ ds, env, S => catchI (exs Φ N body env S) c ds env
  | .stuckS, _, _ => .stuck
def exs (Φ : Fns) (N : Nat) : List CS → Env → Store → Res (Env × Fl)
  | [], env, S => .ok (env, .next) S
  | s :: r, env, S => (ex Φ N s env S).bind fun p S1 => match p with
    | (env1, .next) => exs Φ N r env1 S1
    | (env1, f) => .ok (env1, f) S1
end

/-- a def: how many names (the parameters first), how many parameters, the body -/
structure FD where
  names : Nat
  params : Nat
  body : List CS
def start (d : FD) (args : List PV) : Env := args.map some ++ List.replicate (d.names - args.length) none
def run1 (Φ : Fns) (N : Nat) (d : FD) (args : List PV) (S : Store) : Res PV :=
  if args.length = d.params then (exs Φ N d.body (start d args) S).bind fun p S1 => match p.2 with
    | .ret v => .ok v S1
    | .next => .ok (.d .none) S1
    | _ => .stuck
  else .stuck
/-- the functions at depth n -/
def callN (T : List FD) (N : Nat) : Nat → Fns
  | 0, _, _, _ => .stuck
  | n + 1, f, args, S => match T[f]? with
    | some d => run1 (callN T N n) N d args S
    | none => .stuck
end
end PW

/-! PW2: how values and the store lie in the abstract heap; what is wanted behind a step. -/
namespace PW
open PySem PySem.Spec PyProof.Rows L2

/-- the ground: what is never written; and where the store's objects stand -/
structure Gs where
  G : Hp
  ρ : Nat → Addr

theorem Same.sqT {K : PySem.W.Frag} {H H' : Hp} {a : Addr} {xs : List V} (e : Same H H') (h : SqT K H a xs) : SqT K H' a xs := by
  rcases h with (h | ⟨o, h⟩) | h
  · exact .inl (.inl (e _ _ h))
  · exact .inl (.inr ⟨o, e _ _ h⟩)
  · exact .inr h
mutual
theorem dp_mono {K : PySem.W.Frag} {H H' : Hp} (e : Same H H') : ∀ {x : PyData} {v : V}, Dp K H v x → Dp K H' v x
  | _, _, .non => .non
  | _, _, .bl b => .bl b
  | _, _, .int i => .int i
  | _, _, .str x => .str x
  | _, _, .lst h t => .lst (e.seq h) (dpAll_mono e t)
  | _, _, .tup h t => .tup (Same.sqT e h) (dpAll_mono e t)
theorem dpAll_mono {K : PySem.W.Frag} {H H' : Hp} (e : Same H H') : ∀ {xs : List PyData} {vs : List V}, DpAll K H vs xs → DpAll K H' vs xs
  | _, _, .nil => .nil
  | _, _, .cons h t => .cons (dp_mono e h) (dpAll_mono e t)
end

mutual
inductive RV (K : PySem.W.Frag) (g : Gs) (n : Nat) : V → PV → Prop
  | d {v : V} {x : PyData} : Dp K g.G v x → RV K g n v (.d x)
  | loc {l : Nat} : l < n → RV K g n (.ref (g.ρ l)) (.loc l)
  | tup {a : Addr} {vs : List V} {xs : List PV} : SqT K g.G a vs → RVs K g n vs xs → RV K g n (.ref a) (.mix true xs)
  | lst {a : Addr} {vs : List V} {xs : List PV} : SqL K g.G a vs → RVs K g n vs xs → RV K g n (.ref a) (.mix false xs)
inductive RVs (K : PySem.W.Frag) (g : Gs) (n : Nat) : List V → List PV → Prop
  | nil : RVs K g n [] []
  | cons {v : V} {x : PV} {vs : List V} {xs : List PV} : RV K g n v x → RVs K g n vs xs → RVs K g n (v :: vs) (x :: xs)
end
/-- the ground grows, the places below n stay -/
structure Up (n : Nat) (g : Gs) (n' : Nat) (g' : Gs) : Prop where
  le : n ≤ n'
  sub : Same g.G g'.G
  agr : ∀ l, l < n → g'.ρ l = g.ρ l
section
variable {K : PySem.W.Frag} {g g' : Gs} {n n' : Nat}
mutual
theorem RV.up (u : Up n g n' g') : ∀ {x : PV} {v : V}, RV K g n v x → RV K g' n' v x
  | _, _, .d h => .d (dp_mono u.sub h)
  | _, _, .loc (l := l) h => by rw [← u.agr l h]; exact .loc (Nat.lt_of_lt_of_le h u.le)
  | _, _, .tup h t => .tup (Same.sqT u.sub h) (RVs.up u t)
  | _, _, .lst h t => .lst (u.sub.seq h) (RVs.up u t)
theorem RVs.up (u : Up n g n' g') : ∀ {xs : List PV} {vs : List V}, RVs K g n vs xs → RVs K g' n' vs xs
  | _, _, .nil => .nil
  | _, _, .cons h t => .cons (RV.up u h) (RVs.up u t)
end
theorem RVs.length : ∀ {vs : List V} {xs : List PV}, RVs K g n vs xs → vs.length = xs.length
  | _, _, .nil => rfl
  | _, _, .cons _ t => by simp [RVs.length t]
theorem RVs.get : ∀ {vs : List V} {xs : List PV} {i : Nat} {x : PV}, RVs K g n vs xs → xs[i]? = some x → ∃ v, vs[i]? = some v ∧ RV K g n v x
  | _, _, _, _, .nil, e => by simp at e
  | _, _, 0, _, .cons h _, e => by simp at e; subst e; exact ⟨_, rfl, h⟩
  | _, _, i + 1, _, .cons _ t, e => by
    obtain ⟨v, h1, h2⟩ := RVs.get (i := i) t (by simpa using e)
    exact ⟨v, by simpa using h1, h2⟩
theorem RVs.getV : ∀ {vs : List V} {xs : List PV} {i : Nat} {v : V}, RVs K g n vs xs → vs[i]? = some v → ∃ x, xs[i]? = some x ∧ RV K g n v x
  | _, _, _, _, .nil, e => by simp at e
  | _, _, 0, _, .cons h _, e => by simp at e; subst e; exact ⟨_, rfl, h⟩
  | _, _, i + 1, _, .cons _ t, e => by
    obtain ⟨v, h1, h2⟩ := RVs.getV (i := i) t (by simpa using e)
    exact ⟨v, by simpa using h1, h2⟩
theorem RVs.append : ∀ {vs ws : List V} {xs ys : List PV}, RVs K g n vs xs → RVs K g n ws ys → RVs K g n (vs ++ ws) (xs ++ ys)
  | _, _, _, _, .nil, s => s
  | _, _, _, _, .cons h t, s => .cons h (RVs.append t s)
theorem RVs.set {v : V} {x : PV} (h0 : RV K g n v x) : ∀ {vs : List V} {xs : List PV} (i : Nat), RVs K g n vs xs → RVs K g n (vs.set i v) (xs.set i x)
  | _, _, _, .nil => .nil
  | _, _, 0, .cons _ t => .cons h0 t
  | _, _, i + 1, .cons h t => .cons h (RVs.set h0 i t)
theorem RVs.take : ∀ {vs : List V} {xs : List PV} (i : Nat), RVs K g n vs xs → RVs K g n (vs.take i) (xs.take i)
  | _, _, 0, _ => .nil
  | _, _, _ + 1, .nil => .nil
  | _, _, i + 1, .cons h t => .cons h (RVs.take i t)
theorem RVs.drop : ∀ {vs : List V} {xs : List PV} (i : Nat), RVs K g n vs xs → RVs K g n (vs.drop i) (xs.drop i)
  | _, _, 0, h => h
  | _, _, _ + 1, .nil => .nil
  | _, _, i + 1, .cons h t => RVs.drop i t
theorem RVs.eraseIdx : ∀ {vs : List V} {xs : List PV} (i : Nat), RVs K g n vs xs → RVs K g n (vs.eraseIdx i) (xs.eraseIdx i)
  | _, _, _, .nil => .nil
  | _, _, 0, .cons _ t => t
  | _, _, i + 1, .cons h t => .cons h (RVs.eraseIdx i t)
theorem RVs.reverse {vs : List V} {xs : List PV} (h : RVs K g n vs xs) : RVs K g n vs.reverse xs.reverse := by
  induction vs generalizing xs with
  | nil => cases h; exact .nil
  | cons v vs ih =>
    cases h with
    | cons a t =>
      rw [List.reverse_cons, List.reverse_cons]
      exact RVs.append (ih t) (.cons a .nil)
theorem RVs.dropLast {vs : List V} {xs : List PV} (h : RVs K g n vs xs) : RVs K g n vs.dropLast xs.dropLast := by
  rw [List.dropLast_eq_take, List.dropLast_eq_take, h.length]
  exact h.take _
theorem RVs.of_dp : ∀ {vs : List V} {ds : List PyData}, DpAll K g.G vs ds → RVs K g n vs (ds.map .d)
  | _, _, .nil => .nil
  | _, _, .cons h t => .cons (.d h) (RVs.of_dp t)
theorem RVs.to_dp : ∀ {vs : List V} {ds : List PyData}, RVs K g n vs (ds.map .d) → DpAll K g.G vs ds
  | _, [], h => by cases h; exact .nil
  | _, x :: r, h => by
    cases h with
    | cons a t => cases a with | d a => exact .cons a (RVs.to_dp t)
theorem RV.tup_mk {a : Addr} {vs : List V} {xs : List PV} (h : SqT K g.G a vs) (r : RVs K g n vs xs) : RV K g n (.ref a) (mkTup xs) := by
  unfold mkTup
  cases e : allD xs with
  | none => exact .tup h r
  | some ds =>
    have := allD_eq e
    subst this
    exact .d (.tup h r.to_dp)
theorem RV.lst_mk {a : Addr} {vs : List V} {xs : List PV} (h : SqL K g.G a vs) (r : RVs K g n vs xs) : RV K g n (.ref a) (mkLst xs) := by
  unfold mkLst
  cases e : allD xs with
  | none => exact .lst h r
  | some ds =>
    have := allD_eq e
    subst this
    exact .d (.lst h r.to_dp)
theorem rv_int {v : V} {i : Int} (h : RV K g n v (.d (.int i))) : v = .int i := by cases h with | d h => cases h; rfl
theorem rv_str {v : V} {x : Str} (h : RV K g n v (.d (.str x))) : v = .str x := by cases h with | d h => cases h; rfl
theorem rv_bool {v : V} {b : Bool} (h : RV K g n v (.d (.bool b))) : v = .bl b := by cases h with | d h => cases h; rfl
theorem rv_none {v : V} (h : RV K g n v (.d .none)) : v = .non := by cases h with | d h => cases h; rfl
theorem rv_loc {v : V} {l : Nat} (h : RV K g n v (.loc l)) : v = .ref (g.ρ l) ∧ l < n := by cases h with | loc h => exact ⟨rfl, h⟩
end

/-- attributes, one by one -/
inductive FsR (K : PySem.W.Frag) (g : Gs) (n : Nat) : List (Str × V) → List (Str × PV) → Prop
  | nil : FsR K g n [] []
  | cons {f : Str} {v : V} {x : PV} {vs : List (Str × V)} {xs : List (Str × PV)} : RV K g n v x → FsR K g n vs xs → FsR K g n ((f, v) :: vs) ((f, x) :: xs)
theorem FsR.imp {K : PySem.W.Frag} {g g' : Gs} {n n' : Nat} {vs : List (Str × V)} {xs : List (Str × PV)} (h : FsR K g n vs xs) (k : ∀ p ∈ xs, ∀ v, RV K g n v p.2 → RV K g' n' v p.2) : FsR K g' n' vs xs := by
  induction h with
  | nil => exact .nil
  | @cons f v x vs xs a _ ih => exact .cons (k (f, x) List.mem_cons_self v a) (ih fun p hp => k p (List.mem_cons_of_mem _ hp))
theorem FsR.length {K : PySem.W.Frag} {g : Gs} {n : Nat} {vs : List (Str × V)} {xs : List (Str × PV)} (h : FsR K g n vs xs) : vs.length = xs.length := by
  induction h with
  | nil => rfl
  | cons _ _ ih => simp [ih]
theorem FsR.lookup {K : PySem.W.Frag} {g : Gs} {n : Nat} {vs : List (Str × V)} {xs : List (Str × PV)} {f : Str} (h : FsR K g n vs xs) : (∀ x, xs.lookup f = some x → ∃ v, vs.lookup f = some v ∧ RV K g n v x) ∧ (xs.lookup f = none → vs.lookup f = none) := by
  induction h with
  | nil => exact ⟨fun x h => (nomatch h), fun _ => rfl⟩
  | @cons f' v x vs xs a _ ih =>
    rw [List.lookup_cons, List.lookup_cons]
    split
    · exact ⟨fun y h => by cases h; exact ⟨v, rfl, a⟩, fun h => nomatch h⟩
    · exact ih
theorem FsR.put {K : PySem.W.Frag} {g : Gs} {n : Nat} {vs : List (Str × V)} {xs : List (Str × PV)} {f : Str} {v : V} {x : PV} (h : FsR K g n vs xs) (r : RV K g n v x) : FsR K g n (putF f v vs) (putA f x xs) := by
  induction h with
  | nil => exact .cons r .nil
  | @cons f' w y vs xs a t ih =>
    unfold putF putA
    split
    · exact .cons r t
    · exact .cons a ih
def ObR (K : PySem.W.Frag) (g : Gs) (n : Nat) (o : Ob) (h : Option HO) : Prop := match o with
  | .inst C fs => ∃ dx vs, h = some (.ins C dx vs) ∧ FsR K g n vs fs
  | o => ∃ vs, h = some (.lst vs) ∧ RVs K g n vs o.items
theorem ObR.lst {K : PySem.W.Frag} {g : Gs} {n : Nat} {o : Ob} {h : Option HO} (r : ObR K g n o h) (ho : o.isL = true) : ∃ vs, h = some (.lst vs) ∧ RVs K g n vs o.items := by
  cases o with
  | inst C fs => cases ho
  | _ => exact r
theorem ObR.of {K : PySem.W.Frag} {g : Gs} {n : Nat} {o : Ob} {h : Option HO} {vs : List V} (e : h = some (.lst vs)) (r : RVs K g n vs o.items) (ho : o.isL = true) : ObR K g n o h := by
  cases o with
  | inst C fs => cases ho
  | _ => exact ⟨vs, e, r⟩
theorem ObR.up {K : PySem.W.Frag} {g g' : Gs} {n n' : Nat} {o : Ob} {h : Option HO} (u : Up n g n' g') (r : ObR K g n o h) : ObR K g' n' o h := by
  cases o with
  | inst C fs =>
    obtain ⟨dx, vs, e, t⟩ := r
    exact ⟨dx, vs, e, t.imp fun _ _ _ q => q.up u⟩
  | lst ds =>
    obtain ⟨vs, e, t⟩ := r
    exact ⟨vs, e, t.up u⟩
  | plst ds =>
    obtain ⟨vs, e, t⟩ := r
    exact ⟨vs, e, t.up u⟩
theorem ObR.ne {K : PySem.W.Frag} {g : Gs} {n : Nat} {o : Ob} {h : Option HO} (r : ObR K g n o h) : h ≠ none := by
  rintro rfl
  cases o with
  | inst C fs => obtain ⟨_, _, e, _⟩ := r; cases e
  | lst ds => obtain ⟨_, e, _⟩ := r; cases e
  | plst ds => obtain ⟨_, e, _⟩ := r; cases e
/-- a list of the store -/
structure Rep (K : PySem.W.Frag) (g : Gs) (S : Store) (H : Hp) : Prop where
  sub : Same g.G H
  ob : ∀ l o, S[l]? = some o → g.G (g.ρ l) = none ∧ ObR K g S.length o (H (g.ρ l))
  inj : ∀ l m, l < S.length → m < S.length → g.ρ l = g.ρ m → l = m
def EnvR (K : PySem.W.Frag) (g : Gs) (n : Nat) (env : Env) (σ : L2.St) : Prop := env.length = List.length σ ∧ ∀ (i : Nat) (x : PV), env[i]? = some (some x) → ∃ v : V, σ[i]? = some (some v) ∧ RV K g n v x
theorem EnvR.up {K : PySem.W.Frag} {g g' : Gs} {n n' : Nat} {env : Env} {σ : L2.St} (u : Up n g n' g') (h : EnvR K g n env σ) : EnvR K g' n' env σ :=
  ⟨h.1, fun i x e => let ⟨v, h1, h2⟩ := h.2 i x e; ⟨v, h1, h2.up u⟩⟩
theorem EnvR.set {K : PySem.W.Frag} {g : Gs} {n : Nat} {env : Env} {σ : L2.St} {i : Nat} {x : PV} {v : V} (h : EnvR K g n env σ) (r : RV K g n v x) : EnvR K g n (env.set i (some x)) (σ.set i (some v)) := by
  refine ⟨by simp [h.1], fun j y e => ?_⟩
  by_cases hj : i = j
  · subst hj
    rw [List.getElem?_set] at e ⊢
    simp only [if_true] at e ⊢
    split at e
    · rename_i hl
      rw [if_pos (by rw [← h.1]; exact hl)]
      cases e
      exact ⟨v, rfl, r⟩
    · cases e
  · rw [List.getElem?_set_ne hj] at e ⊢
    exact h.2 j y e
theorem EnvR.forget {K : PySem.W.Frag} {g : Gs} {n : Nat} {env : Env} {σ : L2.St} {i : Nat} (h : EnvR K g n env σ) : EnvR K g n (env.set i none) σ := by
  refine ⟨by simp [h.1], fun j y e => ?_⟩
  by_cases hj : i = j
  · subst hj
    rw [List.getElem?_set] at e
    simp only [if_true] at e
    split at e <;> cases e
  · rw [List.getElem?_set_ne hj] at e
    exact h.2 j y e
theorem EnvR.wipe {K : PySem.W.Frag} {g : Gs} {n : Nat} {env : Env} {σ : L2.St} (h : EnvR K g n env σ) : ∀ is : List Nat, EnvR K g n (killE env is) (L2.wipe σ is)
  | [] => h
  | i :: is => by
    have ih := EnvR.wipe h is
    unfold killE L2.wipe
    refine ⟨by simp [ih.1], fun j y e => ?_⟩
    by_cases hj : i = j
    · subst hj
      rw [List.getElem?_set] at e
      simp only [if_true] at e
      split at e <;> cases e
    · rw [List.getElem?_set_ne hj] at e ⊢
      exact ih.2 j y e
theorem EnvR.kill {K : PySem.W.Frag} {g : Gs} {n : Nat} {env : Env} {σ : L2.St} (h : EnvR K g n env σ) : ∀ is : List Nat, EnvR K g n (killE env is) σ
  | [] => h
  | i :: is => (EnvR.kill h is).forget

/-- from a state to a later one: places below n0 stay; what the store does not speak of stays -/
structure Ext (n0 n : Nat) (g : Gs) (H : Hp) (n' : Nat) (g' : Gs) (H' : Hp) : Prop where
  le : n0 ≤ n'
  sub : Same g.G g'.G
  agr : ∀ l, l < n0 → g'.ρ l = g.ρ l
  new : ∀ l, l < n' → H (g'.ρ l) = none ∨ ∃ m, m < n ∧ g'.ρ l = g.ρ m
  fr : ∀ a o, H a = some o → (∀ m, m < n → g.ρ m ≠ a) → H' a = some o
  gn : ∀ a o, g'.G a = some o → g.G a = some o ∨ H a = none ∨ ∃ m, m < n ∧ a = g.ρ m
section
variable {n0 n1 n n' n'' : Nat} {g g' g'' : Gs} {H H' H'' : Hp}
theorem Ext.refl (h : n0 ≤ n) : Ext n0 n g H n g H := ⟨h, .refl _, fun _ _ => rfl, fun l hl => .inr ⟨l, hl, rfl⟩, fun _ _ e _ => e, fun _ _ e => .inl e⟩
theorem Ext.trans (a : Ext n0 n g H n' g' H') (b : Ext n1 n' g' H' n'' g'' H'') (h : n0 ≤ n1) : Ext n0 n g H n'' g'' H'' := by
  refine ⟨Nat.le_trans h b.le, a.sub.trans b.sub, fun l hl => (b.agr l (Nat.lt_of_lt_of_le hl h)).trans (a.agr l hl), fun l hl => ?_, fun c o e hc => ?_, fun c o e => ?_⟩
  · rcases b.new l hl with q | ⟨m, hm, q⟩
    · by_cases z : ∃ m, m < n ∧ g.ρ m = g''.ρ l
      · obtain ⟨m, hm, z⟩ := z
        exact .inr ⟨m, hm, z.symm⟩
      · left
        cases e : H (g''.ρ l) with
        | none => rfl
        | some o =>
          have := a.fr _ o e fun m hm z' => z ⟨m, hm, z'⟩
          rw [q] at this
          cases this
    · rw [q]
      exact a.new m hm
  · refine b.fr c o (a.fr c o e hc) fun m hm z => ?_
    rcases a.new m hm with q | ⟨k, hk, q⟩
    · rw [z, e] at q
      cases q
    · exact hc k hk (by rw [← q, z])
  · rcases b.gn c o e with q | q | ⟨m, hm, q⟩
    · exact a.gn c o q
    · by_cases z : ∃ m, m < n ∧ c = g.ρ m
      · exact .inr (.inr z)
      · refine .inr (.inl ?_)
        cases e : H c with
        | none => rfl
        | some o' =>
          have := a.fr _ o' e fun m hm z' => z ⟨m, hm, z'.symm⟩
          rw [q] at this
          cases this
    · subst q
      rcases a.new m hm with q | ⟨k, hk, q⟩
      · exact .inr (.inl q)
      · exact .inr (.inr ⟨k, hk, q⟩)
theorem Ext.up (a : Ext n n g H n' g' H') : Up n g n' g' := ⟨a.le, a.sub, a.agr⟩
theorem Ext.up0 (a : Ext n0 n g H n' g' H') : Up n0 g n' g' := ⟨a.le, a.sub, a.agr⟩
theorem Ext.weak (a : Ext n1 n g H n' g' H') (h : n0 ≤ n1) : Ext n0 n g H n' g' H' := ⟨Nat.le_trans h a.le, a.sub, fun l hl => a.agr l (Nat.lt_of_lt_of_le hl h), a.new, a.fr, a.gn⟩
end

theorem Rep.lst {K : PySem.W.Frag} {g : Gs} {S : Store} {H : Hp} (r : Rep K g S H) {l : Nat} {o : Ob} (h : lk S l = some o) : ∃ vs, H (g.ρ l) = some (.lst vs) ∧ RVs K g S.length vs o.items ∧ S[l]? = some o ∧ o.isL = true := by
  obtain ⟨e, ho⟩ := lk_some h
  obtain ⟨_, q⟩ := r.ob l o e
  obtain ⟨vs, e1, e2⟩ := q.lst ho
  exact ⟨vs, e1, e2, e, ho⟩
/-! ### a new object; a write -/
section
variable {K : PySem.W.Frag} {g : Gs} {S : Store} {H : Hp} {n0 : Nat}
theorem Rep.ne_of_new (r : Rep K g S H) {p : Addr} (hp : H p = none) {l : Nat} (hl : l < S.length) : g.ρ l ≠ p := by
  intro e
  obtain ⟨_, q⟩ := r.ob l S[l] (by simp [hl])
  rw [e, hp] at q
  exact q.ne rfl
theorem Rep.gnew (r : Rep K g S H) {p : Addr} (hp : H p = none) : g.G p = none := by
  cases e : g.G p with
  | none => rfl
  | some o =>
    have := r.sub _ _ e
    rw [hp] at this
    cases this
/-- a new object that is never written -/
def Gs.laid (g : Gs) (p : Addr) (o : HO) : Gs := ⟨L2.upd g.G p o, g.ρ⟩
theorem same_upd {H : Hp} {p : Addr} {o : HO} (h : H p = none) : Same H (L2.upd H p o) := fun b x e => by
  rw [upd_ne (ne_of_none e h)]
  exact e
theorem Rep.laid (r : Rep K g S H) {p : Addr} {o : HO} (hp : H p = none) : Rep K (g.laid p o) S (L2.upd H p o) := by
  have u : Up S.length g S.length (g.laid p o) := ⟨Nat.le_refl _, same_upd (r.gnew hp), fun _ _ => rfl⟩
  refine ⟨fun a x e => ?_, fun l ob hl => ?_, r.inj⟩
  · by_cases ha : a = p
    · subst ha
      rw [show (g.laid a o).G a = some o from upd_same] at e
      rw [upd_same]
      exact e
    · rw [show (g.laid p o).G a = g.G a from upd_ne ha] at e
      rw [upd_ne ha]
      exact r.sub _ _ e
  · have hlt : l < S.length := (List.getElem?_eq_some_iff.mp hl).1
    have ne := r.ne_of_new hp hlt
    obtain ⟨a, b⟩ := r.ob l ob hl
    refine ⟨(upd_ne ne).trans a, ?_⟩
    show ObR _ _ _ _ (L2.upd H p o (g.ρ l))
    rw [upd_ne ne]
    exact b.up u
theorem Ext.laid (hp : H p = none) (hr : Rep K g S H) (h0 : n0 ≤ S.length) : Ext n0 S.length g H S.length (g.laid p o) (L2.upd H p o) :=
  ⟨h0, same_upd (hr.gnew hp), fun _ _ => rfl, fun l hl => .inr ⟨l, hl, rfl⟩, fun a x e _ => by rw [upd_ne (ne_of_none e hp)]; exact e, fun a x e => by
    by_cases ha : a = p
    · subst ha; exact .inr (.inl hp)
    · rw [show (g.laid p o).G a = g.G a from upd_ne ha] at e; exact .inl e⟩
/-- a new object of the store -/
def Gs.grow (g : Gs) (n : Nat) (p : Addr) : Gs := ⟨g.G, fun l => if l = n then p else g.ρ l⟩
theorem Gs.grow_lt {n l : Nat} {p : Addr} (h : l < n) : (g.grow n p).ρ l = g.ρ l := by show (if l = n then p else g.ρ l) = _; rw [if_neg (Nat.ne_of_lt h)]
theorem Gs.grow_at {n : Nat} {p : Addr} : (g.grow n p).ρ n = p := by show (if n = n then p else g.ρ n) = _; rw [if_pos rfl]
theorem Rep.growO (r : Rep K g S H) {p : Addr} {o : Ob} {u : HO} (hp : H p = none) (ho : ∀ g' n', Up S.length g n' g' → ObR K g' n' o (some u)) : Rep K (g.grow S.length p) (S ++ [o]) (L2.upd H p u) := by
  have u : Up S.length g (S ++ [o]).length (g.grow S.length p) := ⟨by simp, .refl _, fun l hl => Gs.grow_lt hl⟩
  refine ⟨fun a x e => ?_, fun l ob hl => ?_, fun l m hl hm e => ?_⟩
  · rw [upd_ne (ne_of_none (r.sub _ _ e) hp)]
    exact r.sub _ _ e
  · have hlt : l < (S ++ [o]).length := (List.getElem?_eq_some_iff.mp hl).1
    by_cases h : l < S.length
    · rw [List.getElem?_append_left h] at hl
      obtain ⟨a, b⟩ := r.ob l ob hl
      have e := Gs.grow_lt (g := g) (p := p) h
      refine ⟨?_, ?_⟩
      · rw [e]; exact a
      · rw [e, upd_ne (r.ne_of_new hp h)]; exact b.up u
    · have e : l = S.length := by simp at hlt; omega
      subst e
      rw [List.getElem?_append_right (Nat.le_refl _)] at hl
      simp at hl
      subst hl
      refine ⟨?_, ?_⟩
      · rw [Gs.grow_at]; exact r.gnew hp
      · rw [Gs.grow_at, upd_same]; exact ho _ _ u
  · simp at hl hm
    by_cases h1 : l = S.length
    · by_cases h2 : m = S.length
      · rw [h1, h2]
      · subst h1
        rw [Gs.grow_at, Gs.grow_lt (by omega)] at e
        exact absurd e.symm (r.ne_of_new hp (by omega))
    · by_cases h2 : m = S.length
      · subst h2
        rw [Gs.grow_at, Gs.grow_lt (by omega)] at e
        exact absurd e (r.ne_of_new hp (by omega))
      · rw [Gs.grow_lt (by omega), Gs.grow_lt (by omega)] at e
        exact r.inj l m (by omega) (by omega) e
theorem Rep.grow (r : Rep K g S H) {p : Addr} {o : Ob} {vs : List V} (hp : H p = none) (ho : RVs K g S.length vs o.items) (hL : o.isL = true := by first | rfl | exact isL_mkOb _) : Rep K (g.grow S.length p) (S ++ [o]) (L2.upd H p (.lst vs)) :=
  r.growO hp fun _ _ u => .of rfl (ho.up u) hL
theorem Ext.grow {p : Addr} {o : Ob} {u : HO} (hp : H p = none) (h0 : n0 ≤ S.length) : Ext n0 S.length g H (S ++ [o]).length (g.grow S.length p) (L2.upd H p u) := by
  refine ⟨by simp; omega, .refl _, fun l hl => Gs.grow_lt (by omega), fun l hl => ?_, fun a x e _ => by rw [upd_ne (ne_of_none e hp)]; exact e, fun _ _ e => .inl e⟩
  simp at hl
  by_cases h : l = S.length
  · subst h
    left
    rw [Gs.grow_at]
    exact hp
  · exact .inr ⟨l, by omega, Gs.grow_lt (by omega)⟩
/-- an object of the store is written -/
theorem Rep.writeO (r : Rep K g S H) {l : Nat} {o o' : Ob} {u : HO} (hl : S[l]? = some o) (ho : ObR K g S.length o' (some u)) : Rep K g (S.set l o') (L2.upd H (g.ρ l) u) := by
  have hlt : l < S.length := (List.getElem?_eq_some_iff.mp hl).1
  obtain ⟨gn, _⟩ := r.ob l o hl
  refine ⟨fun a x e => ?_, fun m ob hm => ?_, fun a b ha hb => r.inj a b (by simpa using ha) (by simpa using hb)⟩
  · have : a ≠ g.ρ l := by rintro rfl; rw [gn] at e; cases e
    rw [upd_ne this]
    exact r.sub _ _ e
  · rw [List.length_set]
    by_cases h : l = m
    · subst h
      rw [List.getElem?_set_self hlt] at hm
      cases hm
      exact ⟨gn, by rw [upd_same]; exact ho⟩
    · rw [List.getElem?_set_ne h] at hm
      obtain ⟨a, b⟩ := r.ob m ob hm
      refine ⟨a, ?_⟩
      rw [upd_ne fun e => h (r.inj l m hlt (List.getElem?_eq_some_iff.mp hm).1 e.symm)]
      exact b
theorem Rep.write (r : Rep K g S H) {l : Nat} {o o' : Ob} {vs : List V} (hl : S[l]? = some o) (ho : RVs K g S.length vs o'.items) (hL : o'.isL = true := by first | exact isL_like _ _ | exact isL_push _ _ | rfl) : Rep K g (S.set l o') (L2.upd H (g.ρ l) (.lst vs)) := r.writeO hl (.of rfl ho hL)
theorem Ext.write (h0 : n0 ≤ S.length) {l : Nat} {o' : Ob} {u : HO} (hl : l < S.length) : Ext n0 S.length g H (S.set l o').length g (L2.upd H (g.ρ l) u) := by
  rw [List.length_set]
  exact ⟨h0, .refl _, fun _ _ => rfl, fun m hm => .inr ⟨m, hm, rfl⟩, fun a x e hc => by rw [upd_ne (fun z => hc l hl z.symm)]; exact e, fun _ _ e => .inl e⟩
end

/-- an object that neither the ground nor the store speaks of -/
structure Side (g : Gs) (n : Nat) (D : Addr) : Prop where
  gr : g.G D = none
  st : ∀ l, l < n → g.ρ l ≠ D
theorem Rep.side {K : PySem.W.Frag} {g : Gs} {S : Store} {H : Hp} {D : Addr} {o : HO} (r : Rep K g S H) (d : Side g S.length D) : Rep K g S (L2.upd H D o) := by
  refine ⟨fun a x e => ?_, fun l ob hl => ?_, r.inj⟩
  · have : a ≠ D := by rintro rfl; rw [d.gr] at e; cases e
    rw [upd_ne this]
    exact r.sub _ _ e
  · obtain ⟨a, b⟩ := r.ob l ob hl
    refine ⟨a, ?_⟩
    rw [upd_ne (d.st l (List.getElem?_eq_some_iff.mp hl).1)]
    exact b
theorem Ext.side {n0 n n' : Nat} {g g' : Gs} {H H' : Hp} {D : Addr} {o : HO} (e : Ext n0 n g H n' g' H') (hD : H D = none) : Ext n0 n g H n' g' (L2.upd H' D o) :=
  ⟨e.le, e.sub, e.agr, e.new, fun a x q hc => by rw [upd_ne (ne_of_none q hD)]; exact e.fr a x q hc, e.gn⟩
theorem Side.ext {n0 n n' : Nat} {g g' : Gs} {H H' : Hp} {D : Addr} {o : HO} (d : Side g n D) (e : Ext n0 n g H n' g' H') (hD : H D = some o) : Side g' n' D ∧ H' D = some o := by
  refine ⟨⟨?_, fun l hl z => ?_⟩, e.fr D o hD d.st⟩
  · cases q : g'.G D with
    | none => rfl
    | some u =>
      rcases e.gn D u q with z | z | ⟨m, hm, z⟩
      · rw [d.gr] at z; cases z
      · rw [hD] at z; cases z
      · exact absurd z.symm (d.st m hm)
  · rcases e.new l hl with q | ⟨m, hm, q⟩
    · rw [z, hD] at q; cases q
    · exact d.st m hm (by rw [← q, z])

/-! ### what is wanted behind a step -/
structure Cfg where
  K : PySem.W.Frag
  cls : Nat → Option Value
/-- how an exception of the evaluator lies -/
def ExcR (cf : Cfg) (c : Nat) (as : List PyData) (u : Value) (d : Option Addr) (g : Gs) : Prop := cf.cls c = some u ∧ as = [] ∧ d = none
section
variable {α β : Type}
def Post (cf : Cfg) (W : WX) (R : Gs → Nat → β → α → Prop) (n0 n : Nat) (g : Gs) (H : Hp) (r : Res α) (Q : β → Hp → Prop) : Prop := match r with
  | .ok x S' => ∀ g' H' v, Ext n0 n g H S'.length g' H' → Rep cf.K g' S' H' → R g' S'.length v x → Q v H'
  | .err c as S' => ∀ g' H' σ' u d, Ext n0 n g H S'.length g' H' → Rep cf.K g' S' H' → ExcR cf c as u d g' → W u d σ' H'
  | .stuck => False
def tR (cf : Cfg) (W : WX) (R : Gs → Nat → β → α → Prop) (env : Env) (S : Store) (r : Res α) : L2.St → Hp → (β → Hp → Prop) → Prop := fun σ H Q =>
  ∃ g, Rep cf.K g S H ∧ EnvR cf.K g S.length env σ ∧ Post cf W R S.length S.length g H r Q
end
abbrev RVc (cf : Cfg) : Gs → Nat → V → PV → Prop := fun g n v x => RV cf.K g n v x
abbrev RVsc (cf : Cfg) : Gs → Nat → List V → List PV → Prop := fun g n v x => RVs cf.K g n v x
abbrev RB : Gs → Nat → Bool → PV → Prop := fun _ _ b x => x = .d (.bool b)
section
variable {α β α' β' : Type} {cf : Cfg} {W : WX} {R : Gs → Nat → β → α → Prop} {R' : Gs → Nat → β' → α' → Prop}
theorem Post.move {n0 n n1 : Nat} {g g1 : Gs} {H H1 : Hp} {r : Res α} {Q : β → Hp → Prop} (h : Post cf W R n0 n g H r Q) (e : Ext n0 n g H n1 g1 H1) : Post cf W R n1 n1 g1 H1 r Q := by
  cases r with
  | ok x S' => exact fun g' H' v ex rep rv => h g' H' v (e.trans ex e.le) rep rv
  | err c as S' => exact fun g' H' σ' u d ex rep er => h g' H' σ' u d (e.trans ex e.le) rep er
  | stuck => exact h
theorem Post.bind {env : Env} {S : Store} {g : Gs} {H : Hp} {σ : L2.St} {r : Res α} {f : α → Store → Res α'} {Q : β' → Hp → Prop} {Q1 : β → Hp → Prop} (rep : Rep cf.K g S H) (er : EnvR cf.K g S.length env σ)
    (h : Post cf W R' S.length S.length g H (r.bind f) Q)
    (k : ∀ x S1 g1 H1 v, r = .ok x S1 → Ext S.length S.length g H S1.length g1 H1 → Rep cf.K g1 S1 H1 → EnvR cf.K g1 S1.length env σ → R g1 S1.length v x → Post cf W R' S1.length S1.length g1 H1 (f x S1) Q → Q1 v H1) : tR cf W R env S r σ H Q1 := by
  refine ⟨g, rep, er, ?_⟩
  cases r with
  | ok x S1 => exact fun g1 H1 v ex rep1 rv => k x S1 g1 H1 v rfl ex rep1 (er.up ex.up) rv (Post.move h ex)
  | err c as S' => exact h
  | stuck => exact h
end
def valOf {α : Type} (dflt : α) : Res α → α
  | .ok x _ => x
  | _ => dflt
def stOf {α : Type} : Res α → Store
  | .ok _ S => S
  | _ => []
abbrev pv0 : PV := .d .none
theorem PE.imp {X : Cx} {e : Expr} {t t' : TE} (h : PE X e t) (k : ∀ σ H Q, t' σ H Q → t σ H Q) : PE X e t' := ⟨fun pins s σ H Q I q => h.run pins s σ H Q I (k σ H Q q)⟩
theorem PT.imp {X : Cx} {e : Expr} {t t' : TT} (h : PT X e t) (k : ∀ σ H Q, t' σ H Q → t σ H Q) : PT X e t' := ⟨fun pins s σ H Q I q => h.run pins s σ H Q I (k σ H Q q)⟩
theorem PW.imp {X : Cx} {e : Expr} {t t' : TT} (h : L2.PW X e t) (k : ∀ σ H Q, t' σ H Q → t σ H Q) : L2.PW X e t' := ⟨fun wh pins s σ H Q I q => h.run wh pins s σ H Q I (k σ H Q q)⟩
theorem PA.imp {X : Cx} {e : List Expr} {t t' : TA} (h : PA X e t) (k : ∀ σ H Q, t' σ H Q → t σ H Q) : PA X e t' := ⟨fun pos pins s σ H Q I q => h.run pos pins s σ H Q I (k σ H Q q)⟩
theorem PS.imp {X : Cx} {e : Stmt} {t t' : TS} (h : PS X e t) (k : ∀ D σ H, t' D σ H → t D σ H) : PS X e t' := ⟨fun pins s σ H D I q => h.run pins s σ H D I (k D σ H q)⟩
theorem PSs.imp {X : Cx} {e : List Stmt} {t t' : TS} (h : PSs X e t) (k : ∀ D σ H, t' D σ H → t D σ H) : PSs X e t' := ⟨fun pins s σ H D I q => h.run pins s σ H D I (k D σ H q)⟩
end PW

/-! PW2w: x < y of data, as far as the first difference asks. -/
namespace PW
section
open PySem PySem.SeqAt
open PySem.AutoSeq1 (wpAny_loadPart')
open PySem.MeetsSeq PySem.MeetsSeq2 PySem.MeetsSeq3
/-- tuple < tuple: Q j says that nothing before place j differs; k is the answer -/
theorem tuple_ltP (l b : Addr) (items items2 : Array Value) (n n2 : Nat) (dd dd2 : Option Addr) (sl sl2 : Array (Option Value)) (e : Nat → Bool) (P : Nat → Prop) (k : Bool) :
    Meets (Builtin.«tuple.__lt__» ⟨[.ref l, .ref b], []⟩)
      (fun A R s => s.heap.get? l = some { cls := .type "tuple", dict := dd, data := .seq items n, slots := sl } ∧ s.heap.get? b = some { cls := .type "tuple", dict := dd2, data := .seq items2 n2, slots := sl2 } ∧
        P 0 ∧ (∀ j (h1 : j < items.size) (h2 : j < items2.size), P j → EqAt A.in1 s items[j] items2[j] (e j)) ∧
        (∀ j (h1 : j < items.size) (h2 : j < items2.size), P j → e j = true → P (j + 1)) ∧
        (∀ j (h1 : j < items.size) (h2 : j < items2.size), P j → e j = false → RcLt A.in1 s items[j] items2[j] k) ∧
        (P (min items.size items2.size) → decide (items.size < items2.size) = k) ∧
        R (.ok (.ret (.bool k))) s) :=
  .of_wp fun prog w A R s h => by
    obtain ⟨hp, g, d, tk, os⟩ := s; obtain ⟨hl, hb, h0, he, hs, hr, hz0, h⟩ := h
    have f2 := AutoSeq1.sub_tuple_tuple
    have hZ : (items.toList.zip items2.toList).length = min items.size items2.size := by simp
    wp_walk using wpAny_loadPart' hl, wpAny_loadPart' hb, wpAny_forIn_list _ (fun rest b s' => b.1 = none ∧ s' = ⟨hp, g, d, tk, os⟩ ∧ ∃ i, rest = (items.toList.zip items2.toList).drop i ∧ i ≤ min items.size items2.size ∧ P i) _
    case turn =>
      rintro ⟨y, x⟩ rest b s' ⟨hb', rfl, i, hz, hi, hP⟩
      have hlt : i < (items.toList.zip items2.toList).length := by
        rcases Nat.lt_or_ge i (items.toList.zip items2.toList).length with h' | h'
        · exact h'
        · rw [List.drop_of_length_le h'] at hz; cases hz
      have hm : i < min items.size items2.size := hZ ▸ hlt
      have h1 : i < items.size := Nat.lt_of_lt_of_le hm (Nat.min_le_left _ _)
      have h2 : i < items2.size := Nat.lt_of_lt_of_le hm (Nat.min_le_right _ _)
      rw [List.drop_eq_getElem_cons hlt] at hz
      injection hz with hyx hrest
      have hy : y = items[i] := by have := congrArg Prod.fst hyx; simpa using this
      have hx : x = items2[i] := by have := congrArg Prod.snd hyx; simpa using this
      subst hy hx
      refine wpAny_bind (he i h1 h2 hP prog w _ _ ?_)
      cases hei : e i with
      | true =>
        wp_walk
        exact ⟨rfl, rfl, i + 1, hrest, hm, hs i h1 h2 hP hei⟩
      | false =>
        have hri := hr i h1 h2 hP hei prog w
        wp_walk using hri
        exact ⟨_, rfl, by simpa using h⟩
    case fin =>
      rintro ⟨b1, b2⟩ s' ⟨hb', rfl, i, hz, hi, hP⟩
      simp only at hb'
      subst hb'
      have hge : min items.size items2.size ≤ i := by
        rcases Nat.lt_or_ge i (items.toList.zip items2.toList).length with h' | h'
        · rw [List.drop_eq_getElem_cons h'] at hz; cases hz
        · exact hZ ▸ h'
      have hi' : i = min items.size items2.size := Nat.le_antisymm hi hge
      subst hi'
      have hk := hz0 hP
      wp_walk
      exact ⟨_, rfl, by simpa [Builtin.Tuple.tupleCompareSizes, hk] using h⟩
    case h =>
      exact ⟨rfl, rfl, 0, rfl, Nat.zero_le _, h0⟩
theorem rcLt_tuples {A : Around} {s : Shared} {l b : Addr} {items items2 : Array Value} {e : Nat → Bool} {P : Nat → Prop} {k : Bool} (hl : s.heap.IsTuple l items) (hb : s.heap.IsTuple b items2) (hu : A.units < cLine) (h0 : P 0)
    (he : ∀ j (h1 : j < items.size) (h2 : j < items2.size), P j → EqAt A.in1 s items[j] items2[j] (e j))
    (hs : ∀ j (h1 : j < items.size) (h2 : j < items2.size), P j → e j = true → P (j + 1))
    (hr : ∀ j (h1 : j < items.size) (h2 : j < items2.size), P j → e j = false → RcLt A.in1 s items[j] items2[j] k)
    (hz : P (min items.size items2.size) → decide (items.size < items2.size) = k) : RcLt A s (.ref l) (.ref b) k := fun prog w E Q h => by
  obtain ⟨⟨cls, dd, data, sl⟩, ho, hc, n, hd⟩ := id hl
  obtain ⟨⟨cls2, dd2, data2, sl2⟩, ho2, hc2, n2, hd2⟩ := id hb
  simp only at hc hd hc2 hd2
  subst hc hd hc2 hd2
  exact richCompare_meets_room (op := .Lt) ⟨_, ho, rfl⟩ ⟨_, ho2, rfl⟩ F.slot_tuple_lt F.entry_tuple_lt (F.args_tuple_lt_2 _ _) (tuple_ltP l b items items2 n n2 dd dd2 sl sl2 e P k)
    ⟨ho, ho2, h0, he, hs, hr, hz, ⟨(fun x => nomatch x), h⟩⟩ hu
theorem reads_at {h : Heap} : ∀ {us : List Value} {ds : List PyData} {as : List Addr}, ReadsAll h us ds as → ∀ j (h1 : j < us.length), ∃ (h2 : j < ds.length) (bs : List Addr), Reads h us[j] ds[j] bs
  | _, _, _, .cons r rs, 0, h1 => ⟨Nat.zero_lt_succ _, _, r⟩
  | _, _, _, .cons r rs, j + 1, h1 => by
    obtain ⟨h2, bs, q⟩ := reads_at rs j (Nat.lt_of_succ_lt_succ h1)
    exact ⟨Nat.succ_lt_succ h2, bs, q⟩
theorem ltL_step {f : PyData → PyData → Option Bool} {xs ys : List PyData} {k : Bool} {j : Nat} (h1 : j < xs.length) (h2 : j < ys.length) (h : ltL f (xs.drop j) (ys.drop j) = some k) :
    (lowOk xs[j] && lowOk ys[j]) = true ∧ (PyData.eqv xs[j] ys[j] = true → ltL f (xs.drop (j + 1)) (ys.drop (j + 1)) = some k) ∧ (PyData.eqv xs[j] ys[j] = false → f xs[j] ys[j] = some k) := by
  rw [List.drop_eq_getElem_cons h1, List.drop_eq_getElem_cons h2] at h
  unfold ltL at h
  split at h
  · rename_i hc
    refine ⟨hc, fun e => ?_, fun e => ?_⟩
    · rw [if_pos e] at h; exact h
    · rw [if_neg (by rw [e]; exact Bool.false_ne_true)] at h; exact h
  · cases h
theorem ltL_end {f : PyData → PyData → Option Bool} {xs ys : List PyData} {k : Bool} (h : ltL f (xs.drop (min xs.length ys.length)) (ys.drop (min xs.length ys.length)) = some k) : decide (xs.length < ys.length) = k := by
  rcases Nat.lt_trichotomy xs.length ys.length with hl | hl | hl
  · rw [Nat.min_eq_left (Nat.le_of_lt hl), List.drop_length, List.drop_eq_getElem_cons hl] at h
    cases h
    exact decide_eq_true hl
  · rw [hl, Nat.min_self, List.drop_length, ← hl, List.drop_length] at h
    cases h
    exact decide_eq_false (by omega)
  · rw [Nat.min_eq_right (Nat.le_of_lt hl), List.drop_length, List.drop_eq_getElem_cons hl] at h
    cases h
    exact decide_eq_false (by omega)
theorem rcLt_data : ∀ (n : Nat) (x y : PyData) (k : Bool) (A : Around) (s : Shared) (a b : Value) (as bs : List Addr), Reads s.heap a x as → Reads s.heap b y bs → ltD n x y = some k → A.units + n + 41 < cLine → RcLt A s a b k
  | n, .int i, y, k, A, s, a, b, as, bs, ra, rb, h, hu => by
    cases y with
    | int j =>
      have h : some (decide (i < j)) = some k := by cases n <;> exact h
      cases h; cases ra; cases rb
      intro prog w E Q hq
      exact PyProof.Rows.lt_int hq
    | _ => cases n <;> cases h
  | n, .str x, y, k, A, s, a, b, as, bs, ra, rb, h, hu => by
    cases y with
    | str y =>
      have h : some (decide (x.cps.toList < y.cps.toList)) = some k := by cases n <;> exact h
      cases h; cases ra; cases rb
      intro prog w E Q hq
      exact PyProof.Rows.lt_str hq
    | _ => cases n <;> cases h
  | n + 1, .tuple xs, y, k, A, s, a, b, as, bs, ra, rb, h, hu => by
    cases y with
    | tuple ys =>
      have h : ltL (ltD n) xs ys = some k := h
      cases ra with
      | @tuple l o vs n1 _ as₁ h1 h2 h3 h4 =>
        cases rb with
        | @tuple l' o' vs' n2 _ bs₁ k1 k2 k3 k4 =>
          have z1 : vs.size = xs.length := by simpa using ReadsAll.length _ _ _ h4
          have z2 : vs'.size = ys.length := by simpa using ReadsAll.length _ _ _ k4
          refine rcLt_tuples (e := fun j => PyData.eqv (xs.getD j .none) (ys.getD j .none)) (P := fun j => ltL (ltD n) (xs.drop j) (ys.drop j) = some k) ⟨_, h1, h2, _, h3⟩ ⟨_, k1, k2, _, k3⟩ (by omega) h ?_ ?_ ?_ ?_
          · intro j j1 j2 hP
            obtain ⟨q1, c1, r1⟩ := reads_at h4 j (by simpa using j1)
            obtain ⟨q2, c2, r2⟩ := reads_at k4 j (by simpa using j2)
            obtain ⟨hc, _, _⟩ := ltL_step q1 q2 hP
            unfold lowOk at hc
            simp only [Bool.and_eq_true, decide_eq_true_eq] at hc
            have := eqAt_plain xs[j] ys[j] A.in1 s _ _ _ _ r1 r2 hc.1.1 hc.2.1 (by show A.units + 1 + _ < cLine; omega)
            simpa [q1, q2] using this
          · intro j j1 j2 hP he
            have q1 : j < xs.length := by omega
            have q2 : j < ys.length := by omega
            exact (ltL_step q1 q2 hP).2.1 (by simpa [q1, q2] using he)
          · intro j j1 j2 hP he
            obtain ⟨q1, c1, r1⟩ := reads_at h4 j (by simpa using j1)
            obtain ⟨q2, c2, r2⟩ := reads_at k4 j (by simpa using j2)
            have hf := (ltL_step q1 q2 hP).2.2 (by simpa [q1, q2] using he)
            have := rcLt_data n _ _ k A.in1 s _ _ _ _ r1 r2 hf (by show A.units + 1 + n + 41 < cLine; omega)
            simpa using this
          · intro hP
            rw [z1, z2] at hP ⊢
            exact ltL_end hP
    | _ => cases h
  | 0, .tuple _, y, _, _, _, _, _, _, _, _, _, h, _ => by cases y <;> cases h
  | 0, .none, y, _, _, _, _, _, _, _, _, _, h, _ => by cases y <;> cases h
  | n + 1, .none, y, _, _, _, _, _, _, _, _, _, h, _ => by cases y <;> cases h
  | 0, .bool _, y, _, _, _, _, _, _, _, _, _, h, _ => by cases y <;> cases h
  | n + 1, .bool _, y, _, _, _, _, _, _, _, _, _, h, _ => by cases y <;> cases h
  | 0, .list _, y, _, _, _, _, _, _, _, _, _, h, _ => by cases y <;> cases h
  | n + 1, .list _, y, _, _, _, _, _, _, _, _, _, h, _ => by cases y <;> cases h
  | 0, .dict _, y, _, _, _, _, _, _, _, _, _, h, _ => by cases y <;> cases h
  | n + 1, .dict _, y, _, _, _, _, _, _, _, _, _, h, _ => by cases y <;> cases h
end
section
open PySem PySem.Spec PyProof.Rows L2
def rLtD (K : PySem.W.Frag) : R2 := fun x y H Q => ∃ d e k, Dp K H x d ∧ Dp K H y e ∧ ltD 9 d e = some k ∧ Q (.bl k) H
theorem op_ltD {X : Cx} (hu : X.A.units + 64 < cLine) : OpR X (compareOp .Lt) (rLtD X.K) := by
  intro pins s σ H x y v u Q I rx ry h
  obtain ⟨d, e, k, hd, he, hk, q⟩ := h
  obtain ⟨as, r1⟩ := Dp.reads I d x v hd rx
  obtain ⟨bs, r2⟩ := Dp.reads I e y u he ry
  exact rcLt_data 9 d e k X.A s v u as bs r1 r2 hk (by omega) X.prog X.w _ _ ⟨.bl k, H, I, rfl, q⟩

open Classical in
noncomputable def eqR (s : Shared) (d : PyData) (v : Value) : Bool := decide (∃ d' as, Reads s.heap v d' as ∧ d'.plain = true ∧ PyData.eqv d' d = true)
open Classical in
theorem eqR_eq {s : Shared} {d d' : PyData} {v : Value} {as : List Addr} (r : Reads s.heap v d' as) (hp : d'.plain = true) : eqR s d v = PyData.eqv d' d := by
  unfold eqR
  by_cases h : PyData.eqv d' d = true
  · rw [h]
    exact (decide_eq_true_iff).mpr ⟨d', as, r, hp, h⟩
  · rw [Bool.not_eq_true] at h
    rw [h]
    refine (decide_eq_false_iff_not).mpr ?_
    rintro ⟨d2, as2, r2, hp2, h2⟩
    have := SeqAt.plain_unique d' d2 v as as2 hp r r2
    subst this
    rw [h] at h2
    cases h2
theorem eqR_any {s : Shared} {d : PyData} : ∀ {us : List Value} {ds : List PyData} {as : List Addr}, ReadsAll s.heap us ds as → ds.all lowOk = true → us.any (eqR s d) = ds.any fun z => PyData.eqv z d
  | _, _, _, .nil, _ => rfl
  | _, _, _, .cons r rs, h => by
    rw [List.all_cons, Bool.and_eq_true] at h
    have hp := h.1
    unfold lowOk at hp
    rw [Bool.and_eq_true] at hp
    rw [List.any_cons, List.any_cons, eqR_eq r hp.1, eqR_any rs h.2]
theorem eqR_at {s : Shared} {A : Around} {d : PyData} {x : Value} {bs : List Addr} (hu : A.units + 64 < cLine) (rx : Reads s.heap x d bs) (hd : lowOk d = true) : ∀ {us : List Value} {ds : List PyData} {as : List Addr}, ReadsAll s.heap us ds as → ds.all lowOk = true → ∀ w ∈ us, SeqAt.EqAt A.in1 s w x (eqR s d w)
  | _, _, _, .nil, _, _, hw => by cases hw
  | _, _, _, .cons (d := z) r rs, h, w, hw => by
    rw [List.all_cons, Bool.and_eq_true] at h
    have hp := h.1
    unfold lowOk at hp hd
    rw [Bool.and_eq_true, decide_eq_true_eq] at hp hd
    rcases List.mem_cons.mp hw with rfl | hw
    · rw [eqR_eq r hp.1]
      exact SeqAt.eqAt_plain z d A.in1 s _ _ _ _ r rx hp.1 hd.1 (by show A.units + 1 + _ < cLine; omega)
    · exact eqR_at hu rx (by unfold lowOk; rw [Bool.and_eq_true, decide_eq_true_eq]; exact hd) rs h.2 w hw
def rInD (K : PySem.W.Frag) (neg : Bool) : R2 := fun x y H Q => ∃ p xs ds d, y = .ref p ∧ (SqL K H p xs ∨ SqT K H p xs) ∧ DpAll K H xs ds ∧ Dp K H x d ∧ lowOk d = true ∧ ds.all lowOk = true ∧ Q (.bl (if neg then !(ds.any fun z => PyData.eqv z d) else ds.any fun z => PyData.eqv z d)) H
theorem op_inD {X : Cx} (hu : X.A.units + 64 < cLine) : OpR X (compareOp .In) (rInD X.K false) := by
  intro pins s σ H x y v u Q I rx ry h
  obtain ⟨p, xs, ds, d, rfl, hq, ha, hd, ld, ls, q⟩ := h
  cases ry
  obtain ⟨bs, r1⟩ := Dp.reads I d x v hd rx
  rcases hq with hq | hq
  · obtain ⟨its, r, pl, hz⟩ := I.list hq
    obtain ⟨as, r2⟩ := Dp.readsAll I ds xs its ha r
    refine SeqAt.in_listAt (eqR s d) pl.isList (fun w hw => eqR_at hu r1 ld r2 ls w (by simpa using hw)) ⟨.bl _, H, I, rfl, ?_⟩
    rw [show its.toArray.any (eqR s d) = its.any (eqR s d) by simp, eqR_any r2 ls]
    exact q
  · obtain ⟨its, r, pl, hz⟩ := I.tuple hq
    obtain ⟨as, r2⟩ := Dp.readsAll I ds xs its ha r
    refine SeqAt.in_tupleAt (eqR s d) pl (fun w hw => eqR_at hu r1 ld r2 ls w (by simpa using hw)) ⟨.bl _, H, I, rfl, ?_⟩
    rw [show its.toArray.any (eqR s d) = its.any (eqR s d) by simp, eqR_any r2 ls]
    exact q
theorem op_notInD {X : Cx} (hu : X.A.units + 64 < cLine) : OpR X (compareOp .NotIn) (rInD X.K true) := by
  intro pins s σ H x y v u Q I rx ry h
  obtain ⟨p, xs, ds, d, rfl, hq, ha, hd, ld, ls, q⟩ := h
  cases ry
  obtain ⟨bs, r1⟩ := Dp.reads I d x v hd rx
  rcases hq with hq | hq
  · obtain ⟨its, r, pl, hz⟩ := I.list hq
    obtain ⟨as, r2⟩ := Dp.readsAll I ds xs its ha r
    refine SeqAt.notIn_listAt (eqR s d) pl.isList (fun w hw => eqR_at hu r1 ld r2 ls w (by simpa using hw)) ⟨.bl _, H, I, rfl, ?_⟩
    rw [show its.toArray.any (eqR s d) = its.any (eqR s d) by simp, eqR_any r2 ls]
    exact q
  · obtain ⟨its, r, pl, hz⟩ := I.tuple hq
    obtain ⟨as, r2⟩ := Dp.readsAll I ds xs its ha r
    refine SeqAt.notIn_tupleAt (eqR s d) pl (fun w hw => eqR_at hu r1 ld r2 ls w (by simpa using hw)) ⟨.bl _, H, I, rfl, ?_⟩
    rw [show its.toArray.any (eqR s d) = its.any (eqR s d) by simp, eqR_any r2 ls]
    exact q
/-- list + list -/
def rCatL (K : PySem.W.Frag) : R2 := fun x y H Q => ∃ l b xs zs, x = .ref l ∧ y = .ref b ∧ SqL K H l xs ∧ SqL K H b zs ∧ xs.length + zs.length ≤ sizeLine ∧ ∀ p, H p = none → Q (.ref p) (upd H p (.lst (xs ++ zs)))
theorem op_catL {X : Cx} : OpR X (binaryOp .Add) (rCatL X.K) := by
  intro pins s σ H x y v u Q I rx ry h
  obtain ⟨l, b, xs, zs, rfl, rfl, hH, hB, hz, q⟩ := h
  cases rx
  cases ry
  obtain ⟨its, r, p1, hl⟩ := I.list hH
  obtain ⟨its2, r2, p2, hl2⟩ := I.list hB
  have l1 := r.length
  have l2 := r2.length
  obtain ⟨⟨cls, dd, data, sl⟩, ho, hc, n, hd⟩ := p1.isList
  obtain ⟨⟨cls2, dd2, data2, sl2⟩, ho2, hc2, n2, hd2⟩ := p2.isList
  simp only at hc hd hc2 hd2
  subst hc hd hc2 hd2
  have e : its.toArray ++ its2.toArray = (its ++ its2).toArray := by simp
  refine concat_meets ⟨_, ho, rfl⟩ ⟨_, ho2, rfl⟩ noFill_list_add seq_list_add PySem.F.slot_list_add PySem.F.entry_list_add (PySem.F.args_list_add_2 _ _) (list_addW l b its.toArray its2.toArray n n2 dd dd2 sl sl2 (by simp; omega)) ⟨ho, ho2, ?_⟩
  rw [e]
  exact ⟨.ref _, _, I.lnew (t' := s.toks) (r.append r2) (by rw [List.length_append]; omega), rfl, q _ I.fresh⟩
/-- == and != of data -/
def rEqP (K : PySem.W.Frag) : R2 := fun x y H Q => ∃ d e, Dp K H x d ∧ Dp K H y e ∧ lowOk d = true ∧ lowOk e = true ∧ Q (.bl (PyData.eqv d e)) H
def rNeP (K : PySem.W.Frag) : R2 := fun x y H Q => ∃ d e, Dp K H x d ∧ Dp K H y e ∧ lowOk d = true ∧ lowOk e = true ∧ Q (.bl (!PyData.eqv d e)) H
theorem op_eqP {X : Cx} (hu : X.A.units + 64 < cLine) : OpR X (compareOp .Eq) (rEqP X.K) := by
  intro pins s σ H x y v u Q I rx ry h
  obtain ⟨d, e, hd, he, ld, le, q⟩ := h
  obtain ⟨as, r1⟩ := Dp.reads I d x v hd rx
  obtain ⟨bs, r2⟩ := Dp.reads I e y u he ry
  unfold lowOk at ld le
  rw [Bool.and_eq_true, decide_eq_true_eq] at ld le
  exact SeqAt.eq_plain r1 r2 ld.1 le.1 (by omega) ⟨.bl _, H, I, rfl, q⟩
theorem op_neP {X : Cx} (hu : X.A.units + 64 < cLine) : OpR X (compareOp .NotEq) (rNeP X.K) := by
  intro pins s σ H x y v u Q I rx ry h
  obtain ⟨d, e, hd, he, ld, le, q⟩ := h
  obtain ⟨as, r1⟩ := Dp.reads I d x v hd rx
  obtain ⟨bs, r2⟩ := Dp.reads I e y u he ry
  unfold lowOk at ld le
  rw [Bool.and_eq_true, decide_eq_true_eq] at ld le
  exact SeqAt.ne_plain r1 r2 ld.1 le.1 (by omega) ⟨.bl _, H, I, rfl, q⟩
end
end PW

set_option maxHeartbeats 1000000
/-! PW3: operators, built-ins and methods keep to the evaluator. -/
namespace PW
open PySem PySem.Spec PyProof.Rows L2

abbrev cfX (X : Cx) (cls : Nat → Option Value) : Cfg := ⟨X.K, cls⟩
def Bop.op : Bop → Operator
  | .add => .Add
  | .sub => .Sub
  | .mul => .Mult
  | .fdiv => .FloorDiv
  | .mod => .Mod
  | .pow => .Pow
def Cop.op : Cop → CmpOp
  | .eq => .Eq
  | .ne => .NotEq
  | .lt => .Lt
  | .le => .LtE
  | .gt => .Gt
  | .ge => .GtE
  | .in_ => .In
  | .notin => .NotIn
  | .is_ => .Is
  | .isnot => .IsNot

section
variable {X : Cx} {cls : Nat → Option Value} {W : WX}
def tV1 (X : Cx) (cls : Nat → Option Value) (W : WX) (x : PV) (S : Store) (r : Res PV) : V → Hp → VK → Prop := fun v H Q =>
  ∃ g, Rep X.K g S H ∧ RV X.K g S.length v x ∧ Post (cfX X cls) W (RVc (cfX X cls)) S.length S.length g H r Q
def tV2 (X : Cx) (cls : Nat → Option Value) (W : WX) (x y : PV) (S : Store) (r : Res PV) : R2 := fun v u H Q =>
  ∃ g, Rep X.K g S H ∧ RV X.K g S.length v x ∧ RV X.K g S.length u y ∧ Post (cfX X cls) W (RVc (cfX X cls)) S.length S.length g H r Q
def tVs (X : Cx) (cls : Nat → Option Value) (W : WX) (xs : List PV) (S : Store) (r : Res PV) : List V → Hp → VK → Prop := fun vs H Q =>
  ∃ g, Rep X.K g S H ∧ RVs X.K g S.length vs xs ∧ Post (cfX X cls) W (RVc (cfX X cls)) S.length S.length g H r Q
def tV1s (X : Cx) (cls : Nat → Option Value) (W : WX) (x : PV) (xs : List PV) (S : Store) (r : Res PV) : V → List V → Hp → VK → Prop := fun v vs H Q =>
  ∃ g, Rep X.K g S H ∧ RV X.K g S.length v x ∧ RVs X.K g S.length vs xs ∧ Post (cfX X cls) W (RVc (cfX X cls)) S.length S.length g H r Q

theorem post_here {g : Gs} {S : Store} {H : Hp} {x : PV} {v : V} {Q : VK} (h : Post (cfX X cls) W (RVc (cfX X cls)) S.length S.length g H (.ok x S) Q) (rep : Rep X.K g S H) (r : RV X.K g S.length v x) : Q v H :=
  h g H v (Ext.refl (Nat.le_refl _)) rep r
theorem post_laid {g : Gs} {S : Store} {H : Hp} {x : PV} {p : Addr} {o : HO} {v : V} {Q : VK} (h : Post (cfX X cls) W (RVc (cfX X cls)) S.length S.length g H (.ok x S) Q) (rep : Rep X.K g S H) (hp : H p = none)
    (r : RV X.K (g.laid p o) S.length v x) : Q v (L2.upd H p o) := h _ _ v (Ext.laid hp rep (Nat.le_refl _)) (rep.laid hp) r
theorem up_laid {g : Gs} {S : Store} {H : Hp} {p : Addr} {o : HO} (rep : Rep X.K g S H) (hp : H p = none) : Up S.length g S.length (g.laid p o) := (Ext.laid (n0 := S.length) (o := o) hp rep (Nat.le_refl _)).up
theorem laid_at {g : Gs} {p : Addr} {o : HO} : (g.laid p o).G p = some o := upd_same

/-- what a sequence's value is -/
theorem seq_get {g : Gs} {S : Store} {H : Hp} {x : PV} {v : V} {t : Bool} {xs : List PV} (rep : Rep X.K g S H) (r : RV X.K g S.length v x) (h : seqOf S x = some (t, xs)) :
    ∃ a vs, v = .ref a ∧ RVs X.K g S.length vs xs ∧ (t = true → SqT X.K g.G a vs) ∧ (t = true → SqT X.K H a vs) ∧ (t = false → SqL X.K H a vs) := by
  cases r with
  | d q =>
    cases q with
    | lst hs ha =>
      cases (show some (false, _) = some (t, xs) from h)
      exact ⟨_, _, rfl, .of_dp ha, nofun, nofun, fun _ => rep.sub.seq hs⟩
    | tup hs ha =>
      cases (show some (true, _) = some (t, xs) from h)
      exact ⟨_, _, rfl, .of_dp ha, fun _ => hs, fun _ => Same.sqT rep.sub hs, nofun⟩
    | _ => exact absurd h (by simp [seqOf])
  | tup hs ha =>
    cases (show some (true, _) = some (t, xs) from h)
    exact ⟨_, _, rfl, ha, fun _ => hs, fun _ => Same.sqT rep.sub hs, nofun⟩
  | lst hs ha =>
    cases (show some (false, _) = some (t, xs) from h)
    exact ⟨_, _, rfl, ha, nofun, nofun, fun _ => rep.sub.seq hs⟩
  | loc hl =>
    rename_i l
    simp only [seqOf] at h
    obtain ⟨o, e, h⟩ := Option.map_eq_some_iff.mp h
    cases h
    obtain ⟨vs, b, c, _⟩ := rep.lst e
    exact ⟨_, vs, rfl, c, nofun, nofun, fun _ => .of b⟩

theorem stuckE {g : Gs} {n : Nat} {H : Hp} {Q : VK} (h : Post (cfX X cls) W (RVc (cfX X cls)) n n g H (.stuck) Q) : False := h

theorem op_bin (o : Bop) (x y : PV) (S : Store) : OpR X (binaryOp o.op) (tV2 X cls W x y S (orStuck (binop o x y) S)) := by
  intro pins s σ H v u vv uu Q I rv ru h
  obtain ⟨g, rep, r1, r2, h⟩ := h
  unfold binop at h
  split at h
  · cases rv_int r1; cases rv_int r2
    exact op_add pins s σ H _ _ _ _ Q I rv ru ⟨_, _, rfl, rfl, post_here h rep (.d (.int _))⟩
  · split at h
    · rename_i hz
      cases rv_str r1; cases rv_str r2
      exact op_add_str pins s σ H _ _ _ _ Q I rv ru ⟨_, _, rfl, rfl, hz, post_here h rep (.d (.str _))⟩
    · exact (stuckE h).elim
  · rename_i xs ys
    split at h
    · rename_i hz
      obtain ⟨a, vs, e1, rs, hg, hT, _⟩ := seq_get rep r1 (show seqOf S (.d (.tuple xs)) = some (true, xs.map .d) from rfl)
      obtain ⟨b, ws, e2, rs2, hg2, hT2, _⟩ := seq_get rep r2 (show seqOf S (.d (.tuple ys)) = some (true, ys.map .d) from rfl)
      subst e1; subst e2
      have l1 := rs.length
      have l2 := rs2.length
      simp at l1 l2
      have fin : ∀ {p : Addr}, SqT X.K g.G p (vs ++ ws) → RV X.K g S.length (.ref p) (.d (.tuple (xs ++ ys))) := fun hp => by
        have := RV.tup_mk hp (rs.append rs2)
        rw [← List.map_append, mkTup_map] at this
        exact this
      refine op_catA pins s σ H _ _ _ _ Q I rv ru ⟨a, b, vs, ws, rfl, rfl, hT rfl, hT2 rfl, by omega, fun e => ?_, fun e1 e => ?_, fun _ _ p hp => ?_⟩
      · subst e
        exact post_here h rep (fin (hg2 rfl))
      · subst e
        exact post_here h rep (fin (by rw [List.append_nil]; exact hg rfl))
      · refine post_laid h rep hp ?_
        have u := up_laid (X := X) (o := .tup (vs ++ ws)) rep hp
        have := RV.tup_mk (.of laid_at) ((rs.append rs2).up u)
        rw [← List.map_append, mkTup_map] at this
        exact this
    · exact (stuckE h).elim
  · rename_i xs ys
    split at h
    · rename_i hz
      obtain ⟨a, vs, e1, rs, hg, _, hL⟩ := seq_get rep r1 (show seqOf S (.d (.list xs)) = some (false, xs.map .d) from rfl)
      obtain ⟨b, ws, e2, rs2, hg2, _, hL2⟩ := seq_get rep r2 (show seqOf S (.d (.list ys)) = some (false, ys.map .d) from rfl)
      subst e1; subst e2
      have l1 := rs.length
      have l2 := rs2.length
      simp at l1 l2
      refine op_catL pins s σ H _ _ _ _ Q I rv ru ⟨a, b, vs, ws, rfl, rfl, hL rfl, hL2 rfl, by omega, fun p hp => ?_⟩
      refine post_laid h rep hp ?_
      have u := up_laid (X := X) (o := .lst (vs ++ ws)) rep hp
      have := RV.lst_mk (.of laid_at) ((rs.append rs2).up u)
      rw [← List.map_append, mkLst_map] at this
      exact this
    · exact (stuckE h).elim
  · cases rv_int r1; cases rv_int r2
    exact op_sub pins s σ H _ _ _ _ Q I rv ru ⟨_, _, rfl, rfl, post_here h rep (.d (.int _))⟩
  · split at h
    · rename_i hm
      cases rv_int r1; cases rv_int r2
      refine op_mul pins s σ H _ _ _ _ Q I rv ru ⟨_, _, rfl, rfl, ?_, post_here h rep (.d (.int _))⟩
      simpa [mulOk, CMul] using hm
    · exact (stuckE h).elim
  · split at h
    · rename_i hm
      cases rv_int r1; cases rv_int r2
      exact op_fdiv pins s σ H _ _ _ _ Q I rv ru ⟨_, _, rfl, rfl, hm, post_here h rep (.d (.int _))⟩
    · exact (stuckE h).elim
  · split at h
    · rename_i hm
      cases rv_int r1; cases rv_int r2
      exact op_mod pins s σ H _ _ _ _ Q I rv ru ⟨_, _, rfl, rfl, hm, post_here h rep (.d (.int _))⟩
    · exact (stuckE h).elim
  · split at h
    · rename_i hm
      cases rv_int r1; cases rv_int r2
      exact op_pow pins s σ H _ _ _ _ Q I rv ru ⟨_, _, rfl, rfl, hm, post_here h rep (.d (.int _))⟩
    · exact (stuckE h).elim
  · exact (stuckE h).elim
theorem op_aug (o : Bop) (ho : o = .add ∨ o = .sub ∨ o = .mul ∨ o = .fdiv) (x y : PV) (S : Store) (hx : isTupP x = false) : OpR X (inplaceOp o.op) (tV2 X cls W x y S (orStuck (binop o x y) S)) := by
  intro pins s σ H v u vv uu Q I rv ru h
  obtain ⟨g, rep, r1, r2, h⟩ := h
  unfold binop at h
  split at h
  · cases rv_int r1; cases rv_int r2
    exact iop_add pins s σ H _ _ _ _ Q I rv ru ⟨_, _, rfl, rfl, post_here h rep (.d (.int _))⟩
  · split at h
    · rename_i hz
      cases rv_str r1; cases rv_str r2
      exact iop_add_str pins s σ H _ _ _ _ Q I rv ru ⟨_, _, rfl, rfl, hz, post_here h rep (.d (.str _))⟩
    · exact (stuckE h).elim
  · cases hx
  · cases hx
  · cases rv_int r1; cases rv_int r2
    exact iop_sub pins s σ H _ _ _ _ Q I rv ru ⟨_, _, rfl, rfl, post_here h rep (.d (.int _))⟩
  · split at h
    · rename_i hm
      cases rv_int r1; cases rv_int r2
      refine iop_mul pins s σ H _ _ _ _ Q I rv ru ⟨_, _, rfl, rfl, ?_, post_here h rep (.d (.int _))⟩
      simpa [mulOk, CMul] using hm
    · exact (stuckE h).elim
  · split at h
    · rename_i hm
      cases rv_int r1; cases rv_int r2
      exact iop_fdiv pins s σ H _ _ _ _ Q I rv ru ⟨_, _, rfl, rfl, hm, post_here h rep (.d (.int _))⟩
    · exact (stuckE h).elim
  · rcases ho with ho | ho | ho | ho <;> cases ho
  · rcases ho with ho | ho | ho | ho <;> cases ho
  · exact (stuckE h).elim

theorem bl_here {g : Gs} {S : Store} {H : Hp} {b c : Bool} {Q : VK} (h : Post (cfX X cls) W (RVc (cfX X cls)) S.length S.length g H (.ok (.d (.bool b)) S) Q) (rep : Rep X.K g S H) (e : c = b) : Q (.bl c) H := by
  subst e
  exact post_here h rep (.d (.bl _))
theorem ints_get : ∀ {xs : List PyData} {ns : List Int} {K : PySem.W.Frag} {G : Hp} {vs : List V}, isInts xs = some ns → DpAll K G vs xs → vs = ns.map V.int
  | [], ns, _, _, _, h, .nil => by simp [isInts] at h; subst h; rfl
  | .int i :: r, ns, _, _, _, h, .cons a t => by
    simp only [isInts] at h
    cases e : isInts r with
    | none => rw [e] at h; simp at h
    | some ms =>
      rw [e] at h
      simp at h
      subst h
      cases a
      rw [ints_get e t]
      rfl
  | .none :: _, _, _, _, _, h, _ => by simp [isInts] at h
  | .bool _ :: _, _, _, _, _, h, _ => by simp [isInts] at h
  | .str _ :: _, _, _, _, _, h, _ => by simp [isInts] at h
  | .list _ :: _, _, _, _, _, h, _ => by simp [isInts] at h
  | .tuple _ :: _, _, _, _, _, h, _ => by simp [isInts] at h
  | .dict _ :: _, _, _, _, _, h, _ => by simp [isInts] at h
theorem flat_get {K : PySem.W.Frag} {G : Hp} {v : V} {x : PyData} (h : flatD x = true) (d : Dp K G v x) : flatV v = true := by
  cases d <;> first | rfl | (simp [flatD] at h)
theorem eqv_get {K : PySem.W.Frag} {G : Hp} {v u : V} {x y : PyData} (h : flatD x = true) (h' : flatD y = true) (d : Dp K G v x) (d' : Dp K G u y) : eqV v u = PyData.eqv x y := by
  cases d <;> cases d' <;> first | rfl | (simp [flatD] at h h') | (simp [eqV, PyData.eqv])
theorem flats_get {K : PySem.W.Frag} {G : Hp} {u : V} {y : PyData} (h' : flatD y = true) (d' : Dp K G u y) : ∀ {xs : List PyData} {vs : List V}, xs.all flatD = true → DpAll K G vs xs →
    vs.all flatV = true ∧ inV u vs = xs.any fun x => PyData.eqv x y
  | [], _, _, .nil => ⟨rfl, rfl⟩
  | x :: xs, _, h, .cons a t => by
    simp only [List.all_cons, Bool.and_eq_true] at h
    obtain ⟨i1, i2⟩ := flats_get h' d' h.2 t
    refine ⟨by simp [flat_get h.1 a, i1], ?_⟩
    show inV u (_ :: _) = _
    unfold inV at i2 ⊢
    rw [List.any_cons, List.any_cons, i2, eqv_get h.1 h' a d']
theorem allD_get {K : PySem.W.Frag} {g : Gs} {n : Nat} {vs : List V} {xs : List PV} {ds : List PyData} (e : allD xs = some ds) (r : RVs K g n vs xs) : DpAll K g.G vs ds := by
  rw [allD_eq e] at r
  exact r.to_dp

theorem orStuck_map {o : Option Bool} {S : Store} : orStuck (o.map fun k => PV.d (.bool k)) S = match o with
  | some k => .ok (.d (.bool k)) S
  | none => .stuck := by cases o <;> rfl
theorem op_in (hu : X.A.units + 64 < cLine) (neg : Bool) {x : PyData} {y : PV} {S : Store} {t : Bool} {xs : List PV} {ds : List PyData} (e1 : seqOf S y = some (t, xs)) (e2 : allD xs = some ds) (hf : (lowOk x && ds.all lowOk) = true) :
    OpR X (compareOp (if neg then CmpOp.NotIn else CmpOp.In)) (tV2 X cls W (.d x) y S (.ok (.d (.bool (if neg then !(ds.any fun z => PyData.eqv z x) else ds.any fun z => PyData.eqv z x))) S)) := by
  intro pins s σ H v u vv uu Q I rv ru h
  obtain ⟨g, rep, r1, r2, h⟩ := h
  obtain ⟨a, vs, rfl, rs, _, hT, hL⟩ := seq_get rep r2 e1
  rw [Bool.and_eq_true] at hf
  cases r1 with
  | d dx =>
    have dd := dpAll_mono rep.sub (allD_get e2 rs)
    have hs : SqL X.K H a vs ∨ SqT X.K H a vs := by
      cases t with
      | true => exact .inr (hT rfl)
      | false => exact .inl (hL rfl)
    cases neg with
    | false => exact op_inD hu pins s σ H _ _ _ _ Q I rv ru ⟨a, vs, ds, x, rfl, hs, dd, dp_mono rep.sub dx, hf.1, hf.2, bl_here h rep rfl⟩
    | true => exact op_notInD hu pins s σ H _ _ _ _ Q I rv ru ⟨a, vs, ds, x, rfl, hs, dd, dp_mono rep.sub dx, hf.1, hf.2, bl_here h rep rfl⟩
theorem cps_one {x : Str} {c : Nat} (h : x.cps.toList = [c]) : x = ⟨#[c]⟩ := by
  cases x with
  | mk a =>
    congr 1
    exact Array.toList_inj.mp h
theorem op_cmp (hu : X.A.units + 64 < cLine) (o : Cop) (x y : PV) (S : Store) : OpR X (compareOp o.op) (tV2 X cls W x y S (orStuck ((cmpop S o x y).map fun k => .d (.bool k)) S)) := by
  have isN : ∀ {d : PyData} {g : Gs} {v : V} {n : Nat}, RV X.K g n v (.d d) → decide (v = V.non) = (match d with | .none => true | _ => false) := fun {d g v n} r => by
    cases r with | d q => cases q <;> first | rfl | (simp)
  intro pins s σ H v u vv uu Q I rv ru h
  obtain ⟨g, rep, r1, r2, h⟩ := h
  rw [orStuck_map] at h
  unfold cmpop at h
  split at h
  rename_i k hk
  · revert hk
    split
    · -- eq
      rename_i x' y'
      intro hk
      split at hk
      · rename_i ho
        cases hk
        by_cases hs : sameScal x' y' = true
        · cases r1 with
          | d q1 =>
            cases r2 with
            | d q2 =>
              cases q1 <;> cases q2 <;> first | (simp [sameScal] at hs) | skip
              · exact op_eq pins s σ H _ _ _ _ Q I rv ru ⟨rfl, bl_here h rep (by rw [dec_bl]; simp [PyData.eqv])⟩
              · exact op_eq pins s σ H _ _ _ _ Q I rv ru ⟨rfl, bl_here h rep (by rw [dec_int]; simp [PyData.eqv])⟩
              · exact op_eq pins s σ H _ _ _ _ Q I rv ru ⟨rfl, bl_here h rep (by rw [dec_str]; simp [PyData.eqv])⟩
        · have hs' : sameScal x' y' = false := by simpa using hs
          simp only [eqOk, hs', Bool.false_or, Bool.and_eq_true] at ho
          cases r1 with
          | d q1 => cases r2 with
            | d q2 => exact op_eqP hu pins s σ H _ _ _ _ Q I rv ru ⟨_, _, dp_mono rep.sub q1, dp_mono rep.sub q2, ho.1, ho.2, bl_here h rep rfl⟩
      · cases hk
    · -- ne
      rename_i x' y'
      intro hk
      split at hk
      · rename_i ho
        cases hk
        by_cases hs : sameScal x' y' = true
        · cases r1 with
          | d q1 =>
            cases r2 with
            | d q2 =>
              cases q1 <;> cases q2 <;> first | (simp [sameScal] at hs) | skip
              · exact op_ne pins s σ H _ _ _ _ Q I rv ru ⟨rfl, bl_here h rep (by rw [dec_bl]; simp [PyData.eqv])⟩
              · exact op_ne pins s σ H _ _ _ _ Q I rv ru ⟨rfl, bl_here h rep (by rw [dec_int]; simp [PyData.eqv])⟩
              · exact op_ne pins s σ H _ _ _ _ Q I rv ru ⟨rfl, bl_here h rep (by rw [dec_str]; simp [PyData.eqv])⟩
        · have hs' : sameScal x' y' = false := by simpa using hs
          simp only [eqOk, hs', Bool.false_or, Bool.and_eq_true] at ho
          cases r1 with
          | d q1 => cases r2 with
            | d q2 => exact op_neP hu pins s σ H _ _ _ _ Q I rv ru ⟨_, _, dp_mono rep.sub q1, dp_mono rep.sub q2, ho.1, ho.2, bl_here h rep rfl⟩
      · cases hk
    · intro hk; cases hk; cases rv_int r1; cases rv_int r2
      exact op_lt pins s σ H _ _ _ _ Q I rv ru ⟨_, _, rfl, rfl, bl_here h rep rfl⟩
    · intro hk; cases hk; cases rv_int r1; cases rv_int r2
      exact op_le pins s σ H _ _ _ _ Q I rv ru ⟨_, _, rfl, rfl, bl_here h rep rfl⟩
    · intro hk; cases hk; cases rv_int r1; cases rv_int r2
      exact op_gt pins s σ H _ _ _ _ Q I rv ru ⟨_, _, rfl, rfl, bl_here h rep rfl⟩
    · intro hk; cases hk; cases rv_int r1; cases rv_int r2
      exact op_ge pins s σ H _ _ _ _ Q I rv ru ⟨_, _, rfl, rfl, bl_here h rep rfl⟩
    · intro hk; cases hk; cases rv_str r1; cases rv_str r2
      exact op_lt_str pins s σ H _ _ _ _ Q I rv ru ⟨_, _, rfl, rfl, bl_here h rep rfl⟩
    · rename_i xs ys
      intro hk
      split at hk
      · rename_i ns ms e1 e2
        cases hk
        obtain ⟨a, vs, rfl, rs, _, hT, _⟩ := seq_get rep r1 (show seqOf S (.d (.tuple xs)) = some (true, xs.map .d) from rfl)
        obtain ⟨b, ws, rfl, rs2, _, hT2, _⟩ := seq_get rep r2 (show seqOf S (.d (.tuple ys)) = some (true, ys.map .d) from rfl)
        have v1 := ints_get e1 rs.to_dp
        have v2 := ints_get e2 rs2.to_dp
        subst v1; subst v2
        exact op_ltT (by omega) pins s σ H _ _ _ _ Q I rv ru ⟨a, b, ns, ms, rfl, rfl, hT rfl, hT2 rfl, bl_here h rep rfl⟩
      · cases r1 with
        | d q1 => cases r2 with
          | d q2 => exact op_ltD hu pins s σ H _ _ _ _ Q I rv ru ⟨_, _, k, dp_mono rep.sub q1, dp_mono rep.sub q2, hk, bl_here h rep rfl⟩
    · intro hk
      split at hk
      · rename_i c e
        cases hk
        cases rv_str r1; cases rv_str r2
        rw [cps_one e] at rv
        exact op_in_sign pins s σ H _ _ _ _ Q I rv ru ⟨c, _, rfl, rfl, bl_here h rep rfl⟩
      · cases hk
    · intro hk
      split at hk
      · rename_i c e
        cases hk
        cases rv_str r1; cases rv_str r2
        rw [cps_one e] at rv
        exact op_notIn_sign pins s σ H _ _ _ _ Q I rv ru ⟨c, _, rfl, rfl, bl_here h rep rfl⟩
      · cases hk
    · intro hk
      split at hk
      · rename_i e1
        split at hk
        · rename_i e2
          split at hk
          · rename_i hf
            cases hk
            exact op_in (X := X) (cls := cls) (W := W) hu false e1 e2 hf pins s σ H _ _ _ _ Q I rv ru ⟨g, rep, r1, r2, h⟩
          · cases hk
        · cases hk
      · cases hk
    · intro hk
      split at hk
      · rename_i e1
        split at hk
        · rename_i e2
          split at hk
          · rename_i hf
            cases hk
            exact op_in (X := X) (cls := cls) (W := W) hu true e1 e2 hf pins s σ H _ _ _ _ Q I rv ru ⟨g, rep, r1, r2, h⟩
          · cases hk
        · cases hk
      · cases hk
    all_goals first
      | (intro hk; cases hk; cases rv_none r2
         first
          | exact op_isN pins s σ H _ _ _ _ Q I rv ru ⟨rfl, bl_here h rep (by rw [isN r1])⟩
          | exact op_notN pins s σ H _ _ _ _ Q I rv ru ⟨rfl, bl_here h rep (by rw [isN r1]; rfl)⟩)
      | (intro hk; cases hk)
  · exact (stuckE h).elim
end
end PW

set_option maxHeartbeats 1000000
namespace PW
open PySem PySem.Spec PyProof.Rows L2
section
variable {X : Cx} {cls : Nat → Option Value} {W : WX}

def Bn.val : Bn → Value
  | .len => .builtin "len"
  | .int => .type "int"
  | .abs => .builtin "abs"
  | .max => .builtin "max"
  | .min => .builtin "min"
  | .str => .type "str"
  | .tuple => .type "tuple"
  | .all => .builtin "all"
  | .any => .builtin "any"
  | .sum => .builtin "sum"
theorem post_some {g : Gs} {S : Store} {H : Hp} {o : Option PV} {Q : VK} (h : Post (cfX X cls) W (RVc (cfX X cls)) S.length S.length g H (orStuck o S) Q) : ∃ x, o = some x ∧ Post (cfX X cls) W (RVc (cfX X cls)) S.length S.length g H (.ok x S) Q := by
  cases o with
  | none => exact (stuckE h).elim
  | some x => exact ⟨x, rfl, h⟩
theorem rvs1 {g : Gs} {n : Nat} {vs : List V} {x : PV} (r : RVs X.K g n vs [x]) : ∃ v, vs = [v] ∧ RV X.K g n v x := by
  cases r with | cons a t => cases t; exact ⟨_, rfl, a⟩
theorem rvs2 {g : Gs} {n : Nat} {vs : List V} {x y : PV} (r : RVs X.K g n vs [x, y]) : ∃ v u, vs = [v, u] ∧ RV X.K g n v x ∧ RV X.K g n u y := by
  cases r with | cons a t => cases t with | cons b t => cases t; exact ⟨_, _, rfl, a, b⟩
theorem rvs0 {g : Gs} {n : Nat} {vs : List V} (r : RVs X.K g n vs []) : vs = [] := by cases r; rfl
theorem bools_get : ∀ {xs : List PV} {bs : List Bool} {g : Gs} {n : Nat} {vs : List V}, isBools xs = some bs → RVs X.K g n vs xs → vs = bs.map V.bl
  | [], bs, _, _, _, h, .nil => by simp [isBools] at h; subst h; rfl
  | .d (.bool b) :: r, bs, _, _, _, h, .cons a t => by
    simp only [isBools] at h
    cases e : isBools r with
    | none => rw [e] at h; simp at h
    | some ms =>
      rw [e] at h
      simp at h
      subst h
      cases rv_bool a
      rw [bools_get e t]
      rfl
  | .d .none :: _, _, _, _, _, h, _ => by simp [isBools] at h
  | .d (.int _) :: _, _, _, _, _, h, _ => by simp [isBools] at h
  | .d (.str _) :: _, _, _, _, _, h, _ => by simp [isBools] at h
  | .d (.list _) :: _, _, _, _, _, h, _ => by simp [isBools] at h
  | .d (.tuple _) :: _, _, _, _, _, h, _ => by simp [isBools] at h
  | .d (.dict _) :: _, _, _, _, _, h, _ => by simp [isBools] at h
  | .loc _ :: _, _, _, _, _, h, _ => by simp [isBools] at h
  | .mix _ _ :: _, _, _, _, _, h, _ => by simp [isBools] at h

theorem call_bn (hc : X.calm = true) (b : Bn) (xs : List PV) (S : Store) : CallR X b.val (tVs X cls W xs S (orStuck (bnop S b xs) S)) := by
  intro pins s σ H vs us Q I r h
  obtain ⟨g, rep, rs, h⟩ := h
  obtain ⟨z, hz, h⟩ := post_some h
  unfold bnop at hz
  split at hz
  · split at hz
    · rename_i hl
      cases hz
      obtain ⟨v, rfl, rv⟩ := rvs1 rs
      cases rv_str rv
      exact call_len_str pins s σ H _ _ Q I r ⟨_, rfl, hl, post_here h rep (.d (.int _))⟩
    · cases hz
  · obtain ⟨v, rfl, rv⟩ := rvs1 rs
    obtain ⟨p, e, rfl⟩ := Option.map_eq_some_iff.mp hz
    obtain ⟨t, ys⟩ := p
    obtain ⟨a, ws, rfl, rws, _, hT, hL⟩ := seq_get rep rv e
    have hs : SqL X.K H a ws ∨ SqT X.K H a ws := by
      cases t with
      | true => exact .inr (hT rfl)
      | false => exact .inl (hL rfl)
    refine call_len_seq pins s σ H _ _ Q I r ⟨a, ws, rfl, hs, ?_⟩
    rw [rws.length]
    exact post_here h rep (.d (.int _))
  · cases hz
    obtain ⟨v, rfl, rv⟩ := rvs1 rs
    cases rv_int rv
    exact call_int1 pins s σ H _ _ Q I r (.inl ⟨_, rfl, post_here h rep (.d (.int _))⟩)
  · cases hz
    obtain ⟨v, rfl, rv⟩ := rvs1 rs
    cases rv_bool rv
    exact call_int1 pins s σ H _ _ Q I r (.inr ⟨_, rfl, post_here h rep (.d (.int _))⟩)
  · cases hz
    obtain ⟨v, rfl, rv⟩ := rvs1 rs
    cases rv_int rv
    exact call_abs pins s σ H _ _ Q I r ⟨_, rfl, post_here h rep (.d (.int _))⟩
  · cases hz
    obtain ⟨v, u, rfl, rv, ru⟩ := rvs2 rs
    cases rv_int rv; cases rv_int ru
    exact call_max2 hc pins s σ H _ _ Q I r ⟨_, _, rfl, post_here h rep (.d (.int _))⟩
  · cases hz
    obtain ⟨v, u, rfl, rv, ru⟩ := rvs2 rs
    cases rv_int rv; cases rv_int ru
    exact call_min2 hc pins s σ H _ _ Q I r ⟨_, _, rfl, post_here h rep (.d (.int _))⟩
  · split at hz
    · rename_i hl
      cases hz
      obtain ⟨v, rfl, rv⟩ := rvs1 rs
      cases rv_int rv
      exact call_str_int pins s σ H _ _ Q I r ⟨_, rfl, hl, post_here h rep (.d (.str _))⟩
    · cases hz
  · obtain ⟨v, rfl, rv⟩ := rvs1 rs
    obtain ⟨p, e, rfl⟩ := Option.map_eq_some_iff.mp hz
    obtain ⟨t, ys⟩ := p
    obtain ⟨a, ws, rfl, rws, hg, hT, hL⟩ := seq_get rep rv e
    cases t with
    | true => exact call_tuple_of pins s σ H _ _ Q I r ⟨a, ws, rfl, .inr ⟨hT rfl, post_here h rep (RV.tup_mk (hg rfl) rws)⟩⟩
    | false =>
      refine call_tuple_of pins s σ H _ _ Q I r ⟨a, ws, rfl, .inl ⟨hL rfl, fun l hl => post_laid h rep hl ?_⟩⟩
      exact RV.tup_mk (.of laid_at) (rws.up (up_laid rep hl))
  · split at hz
    · rename_i e
      obtain ⟨bs, e2, rfl⟩ := Option.map_eq_some_iff.mp hz
      obtain ⟨v, rfl, rv⟩ := rvs1 rs
      obtain ⟨a, ws, rfl, rws, _, _, hL⟩ := seq_get rep rv e
      have hw := bools_get e2 rws
      subst hw
      exact cr_all hc pins s σ H _ _ Q I r ⟨a, bs, rfl, hL rfl, post_here h rep (.d (.bl _))⟩
    · cases hz
  · split at hz
    · rename_i e
      obtain ⟨bs, e2, rfl⟩ := Option.map_eq_some_iff.mp hz
      obtain ⟨v, rfl, rv⟩ := rvs1 rs
      obtain ⟨a, ws, rfl, rws, _, _, hL⟩ := seq_get rep rv e
      have hw := bools_get e2 rws
      subst hw
      exact cr_any hc pins s σ H _ _ Q I r ⟨a, bs, rfl, hL rfl, post_here h rep (.d (.bl _))⟩
    · cases hz
  · split at hz
    · rename_i e
      split at hz
      · rename_i e1
        obtain ⟨ns, e2, rfl⟩ := Option.map_eq_some_iff.mp hz
        obtain ⟨v, rfl, rv⟩ := rvs1 rs
        obtain ⟨a, ws, rfl, rws, _, _, hL⟩ := seq_get rep rv e
        have hw := ints_get e2 (allD_get e1 rws)
        subst hw
        exact cr_sum hc pins s σ H _ _ Q I r ⟨a, ns, rfl, hL rfl, post_here h rep (.d (.int _))⟩
      · cases hz
    · cases hz
  · cases hz

/-! ### new lists -/
theorem fin_ok {g : Gs} {S : Store} {H : Hp} {al : Bool} {xs : List PV} {vs : List V} {Q : VK} (h : Post (cfX X cls) W (RVc (cfX X cls)) S.length S.length g H (fin al xs S) Q) (rep : Rep X.K g S H) (rs : RVs X.K g S.length vs xs) :
    ∀ p, H p = none → Q (.ref p) (L2.upd H p (.lst vs)) := fun p hp => by
  cases al with
  | false => exact post_laid h rep hp (RV.lst_mk (.of laid_at) (rs.up (up_laid rep hp)))
  | true =>
    have e : (mkOb xs).items = xs := items_mkOb xs
    have r2 := rep.grow (o := mkOb xs) hp (by rw [e]; exact rs)
    have h' : ∀ g' H' v, Ext S.length S.length g H (S ++ [mkOb xs]).length g' H' → Rep X.K g' (S ++ [mkOb xs]) H' → RV X.K g' (S ++ [mkOb xs]).length v (.loc S.length) → Q v H' := h
    refine h' _ _ (.ref p) (Ext.grow hp (Nat.le_refl _)) r2 ?_
    have := RV.loc (K := X.K) (g := g.grow S.length p) (n := (S ++ [mkOb xs]).length) (l := S.length) (by simp)
    rw [Gs.grow_at] at this
    exact this

theorem alike_of {ds : List PyData} (h : allAlike ds = true) : PySem.W.AllAlike ds := fun x hx y hy => by
  have := List.all_eq_true.mp h x hx
  exact List.all_eq_true.mp this y hy
theorem sortable_of {ds : List PyData} (h : sortable ds = true) : PySem.W.Sortable ds := by
  unfold sortable at h
  rw [Bool.or_eq_true] at h
  rcases h with h | h
  · refine .inl fun d hd => ?_
    have := List.all_eq_true.mp h d hd
    split at this
    · exact ⟨_, _, rfl⟩
    · cases this
  · refine .inr fun d hd => ?_
    have := List.all_eq_true.mp h d hd
    split at this
    · cases this
    · cases this
    · rename_i n1 n2
      exact ⟨fun e => n2 e, fun xs e => n1 xs e⟩
theorem dpAll_each {K : PySem.W.Frag} {H : Hp} : ∀ {vs : List V} {ds : List PyData} {us : List Value}, DpAll K H vs ds → Vals vs us → PySem.W.EachIs (fun (u : Value) (b : V × PyData) => RelV b.1 u ∧ Dp K H b.1 b.2) us (vs.zip ds)
  | _, _, _, .nil, .nil => .nil
  | _, _, _, .cons a t, .cons r q => .cons ⟨r, a⟩ (dpAll_each t q)
theorem each_vals {K : PySem.W.Frag} {H : Hp} : ∀ {us : List Value} {bs : List (V × PyData)}, PySem.W.EachIs (fun (u : Value) (b : V × PyData) => RelV b.1 u ∧ Dp K H b.1 b.2) us bs → Vals (bs.map (·.1)) us ∧ DpAll K H (bs.map (·.1)) (bs.map (·.2))
  | _, _, .nil => ⟨.nil, .nil⟩
  | _, _, .cons ⟨r, a⟩ t => ⟨.cons r (each_vals t).1, .cons a (each_vals t).2⟩
theorem dpAll_len {K : PySem.W.Frag} {H : Hp} : ∀ {vs : List V} {ds : List PyData}, DpAll K H vs ds → vs.length = ds.length
  | _, _, .nil => rfl
  | _, _, .cons _ t => by simp [dpAll_len t]
theorem cr_sortedD (hu : X.A.units + 64 < cLine) : CallR X (.builtin "sorted") (fun vs H Q => ∃ a xs ds G, vs = [.ref a] ∧ SqL X.K H a xs ∧ Same G H ∧ DpAll X.K G xs ds ∧ allAlike ds = true ∧ sortable ds = true ∧ depthOk ds = true ∧
    ∀ ys p, DpAll X.K G ys (sortD ds) → H p = none → Q (.ref p) (L2.upd H p (.lst ys))) := by
  intro pins s σ H vs us Q I r h
  obtain ⟨a, xs, ds, G, rfl, hS, hG, hD, h1, h2, h3, q⟩ := h
  have eu := Vals.ref1 r
  subst eu
  obtain ⟨its, rv, pl, hz⟩ := I.list hS
  have hlen := dpAll_len hD
  have e := dpAll_each hD rv
  have em : (xs.zip ds).map (·.2) = ds := List.map_snd_zip (by omega)
  have er : PySem.W.EachIs (fun (v : Value) (b : V × PyData) => ∃ as, Reads s.heap v b.2 as) its (xs.zip ds) := e.mono fun u b hb => Dp.reads I b.2 b.1 u (dp_mono hG hb.2) hb.1
  refine PySem.W.sorted_data (enc := fun b : V × PyData => b.2) pl.isList e er (by rw [em]; exact alike_of h1) (by rw [em]; exact sortable_of h2) (by rw [List.length_zip]; omega) (fun b hb => ?_) fun out hout he => ?_
  · have hb2 : b.2 ∈ ds := (List.of_mem_zip (a := b.1) (b := b.2) hb).2
    have := of_decide_eq_true (List.all_eq_true.mp h3 _ hb2)
    omega
  · obtain ⟨e1, e2⟩ := each_vals he
    have es : ((xs.zip ds).mergeSort (PySem.W.dataLe false fun b => b.2)).map (·.2) = sortD ds := by
      have := PySem.W.sort_maps (r := PySem.W.dataLe false fun b : V × PyData => b.2) (s := PySem.W.dataLe false id) (fun b : V × PyData => b.2) (l := xs.zip ds) (fun _ _ _ _ => rfl)
      rw [this, em]
      rfl
    rw [es] at e2
    obtain ⟨c, hc⟩ := PyProof.Rows.sortedAll_at s.heap its out.toArray
    have hp : H (s.heap.objs.size + 1) = none := I.hok.fresh (Nat.le_succ _)
    have hl : (List.map (fun b : V × PyData => b.1) ((xs.zip ds).mergeSort (PySem.W.dataLe false fun b => b.2))).length ≤ sizeLine := by
      rw [List.length_map, List.length_mergeSort, List.length_zip]
      omega
    refine ⟨.ref (s.heap.objs.size + 1), _, I.laid (t' := s.toks) (o := .lst _) (fun b o eo => PyProof.Rows.sortedAll_old eo) (Nat.le_succ _) ?_, rfl, q _ _ e2 hp⟩
    exact ⟨hl, out, c, e1, hc⟩

def Fop.val : Fop → Value
  | .disp => .none
  | .list => .type "list"
  | .sorted => .builtin "sorted"
  | .sset => .none
theorem call_fr (hu : X.A.units + 64 < cLine) (o : Fop) (ho : o ≠ .disp ∧ o ≠ .sset) (al : Bool) (xs : List PV) (S : Store) : CallR X o.val (tVs X cls W xs S (froR S al (frop S o xs))) := by
  intro pins s σ H vs us Q I r h
  obtain ⟨g, rep, rs, h⟩ := h
  cases ho' : frop S o xs with
  | none => rw [ho'] at h; exact (stuckE h).elim
  | some ys =>
    rw [ho'] at h
    have h : Post (cfX X cls) W (RVc (cfX X cls)) S.length S.length g H (fin al ys S) Q := h
    unfold frop at ho'
    split at ho'
    · exact absurd rfl ho.1
    · obtain ⟨v, rfl, rv⟩ := rvs1 rs
      obtain ⟨p, e, rfl⟩ := Option.map_eq_some_iff.mp ho'
      obtain ⟨t, zs⟩ := p
      obtain ⟨a, ws, rfl, rws, _, hT, hL⟩ := seq_get rep rv e
      have hs : SqL X.K H a ws ∨ SqT X.K H a ws := by
        cases t with
        | true => exact .inr (hT rfl)
        | false => exact .inl (hL rfl)
      exact call_list_of pins s σ H _ _ Q I r ⟨a, ws, rfl, hs, fun l hl => fin_ok h rep rws l hl⟩
    · split at ho'
      · rename_i e
        split at ho'
        · rename_i e1
          split at ho'
          · rename_i hc
            cases ho'
            simp only [Bool.and_eq_true] at hc
            obtain ⟨v, rfl, rv⟩ := rvs1 rs
            obtain ⟨a, ws, rfl, rws, _, _, hL⟩ := seq_get rep rv e
            exact cr_sortedD hu pins s σ H _ _ Q I r ⟨a, ws, _, g.G, rfl, hL rfl, rep.sub, allD_get e1 rws, hc.1.1, hc.1.2, hc.2, fun ys p hy hp => fin_ok h rep (.of_dp hy) p hp⟩
          · cases ho'
        · cases ho'
      · cases ho'
    · exact absurd rfl ho.2
    · cases ho'
end
end PW

set_option maxHeartbeats 1000000
namespace PySem.AutoSeq1
theorem extend_any (l : Addr) (items : Array Value) (n : Nat) (b : Addr) (items2 : Array Value) (n2 : Nat) (sl : Array (Option Value)) (hc0 : ¬(!items.isEmpty && Builtin.List.listTooLong (items.size + items2.size)) = true) (hc1 : items.size ≤ sizeLine) (hs2 : items.size + items2.size ≤ sizeLine + 1) :
    Meets (Builtin.«list.extend» ⟨[.ref l, .ref b], []⟩) (fun _ R s => s.heap.get? l = some { cls := .type "list", dict := none, data := .seq items n, slots := #[] } ∧ s.heap.get? b = some { cls := .type "list", dict := none, data := .seq items2 n2, slots := sl } ∧ R (.ok (.ret Value.none)) { s with heap := s.heap.update l (Obj.mapSeq fun x => x ++ items2), toks := s.toks }) :=
  .of_wp fun prog w A R s h => by
    obtain ⟨hp, g, d, tk, os⟩ := s; obtain ⟨hl, hb, h⟩ := h; have f1 := idx_int; have f2 := sub_tuple_tuple; have f3 := sub_list_list; have f4 := sub_tuple_list; have f5 := sub_list_tuple;
    have hz' : (items ++ items2).size ≤ sizeLine + 1 := by rw [Array.size_append]; exact hs2
    wp_walk using (wpAny_updateSeq hl rfl (hz := hc1) (_hz' := hz')), wpAny_loadPart' hl, wpAny_loadPart' hb; exact ⟨_, rfl, h⟩
end PySem.AutoSeq1
namespace PW
open PySem PySem.Spec PyProof.Rows L2
section
variable {X : Cx} {cls : Nat → Option Value} {W : WX}
theorem atI_rvs {g : Gs} {n : Nat} {vs : List V} {xs : List PV} {i : Int} {x : PV} (r : RVs X.K g n vs xs) (h : atI xs i = some x) : ∃ v, atI vs i = some v ∧ RV X.K g n v x := by
  unfold atI at h ⊢
  rw [← r.length] at h
  cases e : ixN vs.length i with
  | none => rw [e] at h; simp at h
  | some j =>
    rw [e] at h
    exact r.get (show xs[j]? = some x from h)
theorem ix_ok (x y : PV) (S : Store) : IxR X (tV2 X cls W x y S (orStuck (idxop S x y) S)) := by
  intro value slice pins s σ H v u vv uu Q I rv ru h hs
  obtain ⟨g, rep, r1, r2, h0⟩ := h
  obtain ⟨z, hz, h⟩ := post_some h0
  clear h0
  unfold idxop at hz
  split at hz
  · split at hz
    · rename_i hl
      obtain ⟨c, e, rfl⟩ := Option.map_eq_some_iff.mp hz
      cases rv_str r1; cases rv_int r2
      exact ix_str value slice pins s σ H _ _ _ _ Q I rv ru ⟨_, _, c, rfl, rfl, hl, e, post_here h rep (.d (.str _))⟩ hs
    · cases hz
  · rename_i i _
    split at hz
    · rename_i t xs e
      cases rv_int r2
      obtain ⟨a, ws, rfl, rws, _, hT, hL⟩ := seq_get rep r1 e
      obtain ⟨w, hw, rw'⟩ := atI_rvs rws hz
      cases t with
      | true => exact ix_tup value slice pins s σ H _ _ _ _ Q I rv ru ⟨a, ws, i, w, rfl, rfl, hT rfl, hw, post_here h rep rw'⟩ hs
      | false => exact ix_list value slice pins s σ H _ _ _ _ Q I rv ru ⟨a, ws, i, w, rfl, rfl, hL rfl, hw, post_here h rep rw'⟩ hs
    · cases hz
  · cases hz

def tSlV (X : Cx) (cls : Nat → Option Value) (W : WX) (x : PV) (l h : Option Int) (S : Store) (r : Res PV) : V → Option Int → Option Int → Hp → VK → Prop := fun v l' h' H Q =>
  l' = l ∧ h' = h ∧ ∃ g, Rep X.K g S H ∧ RV X.K g S.length v x ∧ Post (cfX X cls) W (RVc (cfX X cls)) S.length S.length g H r Q
theorem cut_rvs {g : Gs} {n : Nat} {vs : List V} {xs : List PV} {l h : Option Int} (r : RVs X.K g n vs xs) : RVs X.K g n (cutV vs l h) (cutP xs l h) := by
  unfold cutV cutP
  rw [r.length]
  exact (r.drop _).take _
theorem cut_whole {xs : List V} {l h : Option Int} (hw : HT.sIx xs.length 0 l = 0 ∧ HT.sIx xs.length xs.length h = xs.length) : cutV xs l h = xs := by
  unfold cutV
  rw [hw.1, hw.2]
  simp
theorem slice_ok (x : PV) (l h : Option Int) (S : Store) : SlR X (tSlV X cls W x l h S (orStuck (sliceV S x l h) S)) := by
  intro pins s σ H v vv vl vu l' h' sl Q I rv hs pl pu hh
  obtain ⟨rfl, rfl, g, rep, r1, hh⟩ := hh
  obtain ⟨z, hz, hh⟩ := post_some hh
  unfold sliceV at hz
  split at hz
  · split at hz
    · rename_i hl
      cases hz
      cases rv_str r1
      exact sl_str pins s σ H _ _ _ _ _ _ sl Q I rv hs pl pu ⟨_, rfl, hl, post_here hh rep (.d (.str _))⟩
    · cases hz
  · split at hz
    · rename_i xs e
      cases hz
      obtain ⟨a, ws, rfl, rws, hg, hT, _⟩ := seq_get rep r1 e
      refine sl_tupA pins s σ H _ _ _ _ _ _ sl Q I rv hs pl pu ⟨a, ws, rfl, hT rfl, fun hw => ?_, fun _ p hp => ?_⟩
      · refine post_here hh rep ?_
        have := cut_rvs (l := l') (h := h') rws
        rw [cut_whole hw] at this
        exact RV.tup_mk (hg rfl) this
      · exact post_laid hh rep hp (RV.tup_mk (.of laid_at) ((cut_rvs rws).up (up_laid rep hp)))
    · rename_i xs e
      cases hz
      obtain ⟨a, ws, rfl, rws, _, _, hL⟩ := seq_get rep r1 e
      exact sl_list pins s σ H _ _ _ _ _ _ sl Q I rv hs pl pu ⟨a, ws, rfl, hL rfl, fun p hp => post_laid hh rep hp (RV.lst_mk (.of laid_at) ((cut_rvs rws).up (up_laid rep hp)))⟩
    · cases hz

/-! ### methods that write -/
theorem post_write {g : Gs} {S : Store} {H : Hp} {x : PV} {l : Nat} {o o' : Ob} {vs : List V} {v : V} {Q : VK} (h : Post (cfX X cls) W (RVc (cfX X cls)) S.length S.length g H (.ok x (S.set l o')) Q) (rep : Rep X.K g S H) (hl : S[l]? = some o)
    (ho : RVs X.K g S.length vs o'.items) (r : RV X.K g S.length v x) (hL : o'.isL = true := by first | exact isL_like _ _ | exact isL_push _ _) : Q v (L2.upd H (g.ρ l) (.lst vs)) := by
  have hlt : l < S.length := (List.getElem?_eq_some_iff.mp hl).1
  refine h g _ v (Ext.write (Nat.le_refl _) hlt) (rep.write hl ho hL) ?_
  rw [List.length_set]
  exact r
/-- l.extend(m), m a list that is only read -/
def rExtendR (K : PySem.W.Frag) : V → List V → Hp → VK → Prop := fun x vs H Q => ∃ l b xs zs, x = .ref l ∧ vs = [.ref b] ∧ H l = some (.lst xs) ∧ SqL K H b zs ∧ xs.length + zs.length ≤ sizeLine ∧ Q .non (L2.upd H l (.lst (xs ++ zs)))
theorem mt_extendR : MtM X "list.extend" (rExtendR X.K) := by
  intro pins s σ H x vs v us Q I rx rv h
  obtain ⟨l, b, xs, zs, rfl, rfl, hH, hB, hz, q⟩ := h
  cases rx
  obtain ⟨u, rfl, ru⟩ := rv.one
  cases ru
  obtain ⟨z, its, n, r, hl, e⟩ := I.lstM hH
  obtain ⟨its2, r2, ⟨o2, n2, e2, hc2, hd2, hs2⟩, _⟩ := I.list hB
  have hl2 := r2.length
  obtain ⟨oc, od, odt, osl⟩ := o2
  have hc2 : oc = _ := hc2
  have hd2 : od = _ := hd2
  have hs2 : odt = _ := hs2
  subst hc2 hd2 hs2
  have hsz : its.toArray.size + its2.toArray.size ≤ sizeLine := by rw [List.size_toArray, List.size_toArray]; omega
  have hlong : ¬ (!its.toArray.isEmpty && Builtin.List.listTooLong (its.toArray.size + its2.toArray.size)) = true := by
    rw [notLongL hsz, Bool.and_false]
    exact Bool.false_ne_true
  refine call_meets PySem.F.slot_list_extend ⟨_, e, rfl⟩ PySem.F.entry_list_extend (PySem.F.args_list_extend_2 _ _)
    (PySem.AutoSeq1.extend_any l its.toArray n b its2.toArray n2 osl hlong (by rw [List.size_toArray]; omega) (by omega)) ⟨e, e2, ?_⟩
  refine ⟨.non, _, I.lset (its' := its ++ its2) hH e (by simp) (r.append r2) ?_, rfl, q⟩
  rw [List.length_append]
  omega
def Mt.id : Mt → String
  | .append => "list.append"
  | .pop => "list.pop"
  | .popAt => "list.pop"
  | .insert => "list.insert"
  | .reverse => "list.reverse"
  | .index => "list.index"
  | .clear => "list.clear"
  | .extend => "list.extend"
theorem mt_ok (m : Mt) (l : Nat) (xs : List PV) (S : Store) : MtR X m.id (tV1s X cls W (.loc l) xs S (mtoR (mtop S m l xs))) := by
  intro pins s σ H v vs vv us Q I rv r h
  obtain ⟨g, rep, r1, rs, h⟩ := h
  cases hm : mtop S m l xs with
  | none => rw [hm] at h; exact (stuckE h).elim
  | some p =>
    obtain ⟨z, S'⟩ := p
    rw [hm] at h
    have h : Post (cfX X cls) W (RVc (cfX X cls)) S.length S.length g H (.ok z S') Q := h
    unfold mtop at hm
    split at hm
    · split at hm
      · rename_i o e
        split at hm
        · rename_i hl
          cases hm
          obtain ⟨rfl, hlt⟩ := rv_loc r1
          obtain ⟨w, rfl, rw1⟩ := rvs1 rs
          obtain ⟨ws, hH, rws, e, _⟩ := rep.lst e
          refine mt_append pins s σ H _ _ _ _ Q I rv r ⟨_, ws, w, rfl, rfl, hH, by rw [rws.length]; exact hl, post_write h rep e ?_ (.d .non)⟩
          rw [items_push]
          exact rws.append (.cons rw1 .nil)
        · cases hm
      · cases hm
    · split at hm
      · rename_i o e
        split at hm
        · rename_i y ey
          cases hm
          obtain ⟨rfl, hlt⟩ := rv_loc r1
          cases rvs0 rs
          obtain ⟨ws, hH, rws, e, _⟩ := rep.lst e
          obtain ⟨w, hw, rw1⟩ := rws.get ey
          rw [← rws.length] at hw
          refine mt_pop pins s σ H _ _ _ _ Q I rv r ⟨_, ws, w, rfl, rfl, hH, hw, post_write h rep e ?_ rw1⟩
          rw [items_like]
          exact rws.dropLast
        · cases hm
      · cases hm
    · split at hm
      · rename_i o e
        split at hm
        · rename_i hb
          split at hm
          · rename_i k ek
            split at hm
            · rename_i y ey
              cases hm
              obtain ⟨rfl, hlt⟩ := rv_loc r1
              obtain ⟨w, rfl, rw1⟩ := rvs1 rs
              cases rv_int rw1
              obtain ⟨ws, hH, rws, e, _⟩ := rep.lst e
              obtain ⟨u, hu, ru⟩ := rws.get ey
              rw [← rws.length] at ek
              refine mt_popAt pins s σ H _ _ _ _ Q I rv r ⟨_, ws, _, k, u, rfl, rfl, hH, hb.1, hb.2, ek, hu, post_write h rep e ?_ ru⟩
              rw [items_like]
              exact rws.eraseIdx k
            · cases hm
          · cases hm
        · cases hm
      · cases hm
    · split at hm
      · rename_i o e
        cases hm
        obtain ⟨rfl, hlt⟩ := rv_loc r1
        cases rvs0 rs
        obtain ⟨ws, hH, rws, e, _⟩ := rep.lst e
        refine mt_reverse pins s σ H _ _ _ _ Q I rv r ⟨_, ws, rfl, rfl, hH, post_write h rep e ?_ (.d .non)⟩
        rw [items_like]
        exact rws.reverse
      · cases hm
    · split at hm
      · rename_i o e
        cases hm
        obtain ⟨rfl, hlt⟩ := rv_loc r1
        cases rvs0 rs
        obtain ⟨ws, hH, rws, e, _⟩ := rep.lst e
        refine mt_clear pins s σ H _ _ _ _ Q I rv r ⟨_, ws, rfl, rfl, hH, post_write h rep e ?_ (.d .non)⟩
        rw [items_like]
        exact .nil
      · cases hm
    · split at hm
      · rename_i o e
        split at hm
        · rename_i hl
          cases hm
          obtain ⟨rfl, hlt⟩ := rv_loc r1
          obtain ⟨w, rfl, rw1⟩ := rvs1 rs
          obtain ⟨ws, hH, rws, e, _⟩ := rep.lst e
          cases rw1 with
          | d hd =>
            cases hd with
            | lst hq hdp =>
              have hlen := (RVs.of_dp (n := S.length) hdp).length
              rw [List.length_map] at hlen
              refine mt_extendR pins s σ H _ _ _ _ Q I rv r ⟨_, _, ws, _, rfl, rfl, hH, rep.sub.seq hq, by rw [rws.length, hlen]; exact hl, post_write h rep e ?_ (.d .non)⟩
              rw [items_like]
              exact rws.append (RVs.of_dp hdp)
        · cases hm
      · cases hm
    · cases hm
def Dm.id : Dm → String
  | .sindex => "str.index"
  | .join => "str.join"
def Dm.T : Dm → String
  | .sindex => "str"
  | .join => "str"
theorem dpAll_strs {K : PySem.W.Frag} {G : Hp} : ∀ {ss : List Str} {vs : List V}, DpAll K G vs (ss.map .str) → vs = ss.map V.str
  | [], _, h => by cases h; rfl
  | x :: r, _, h => by
    cases h with
    | cons a t =>
      cases a
      rw [dpAll_strs t]
      rfl
theorem dm_ok (m : Dm) (x : PV) (xs : List PV) (S : Store) : MtR X m.id (tV1s X cls W x xs S (orStuck (dmop m x xs) S)) := by
  intro pins s σ H v vs vv us Q I rv r h
  obtain ⟨g, rep, r1, rs, h0⟩ := h
  obtain ⟨z, hz, h⟩ := post_some h0
  clear h0
  unfold dmop at hz
  split at hz
  · split at hz
    · rename_i i rest e
      cases hz
      cases rv_str r1
      obtain ⟨w, rfl, rw1⟩ := rvs1 rs
      cases rv_str rw1
      exact mt_sindex pins s σ H _ _ _ _ Q I rv r ⟨_, _, i, rest, rfl, rfl, e, post_here h rep (.d (.int _))⟩
    · cases hz
  · split at hz
    · rename_i ss e
      split at hz
      · rename_i hl
        cases hz
        cases rv_str r1
        obtain ⟨w, rfl, rw1⟩ := rvs1 rs
        have e2 := allStr_eq e
        subst e2
        cases rw1 with
        | d hd =>
          cases hd with
          | lst hq hdp =>
            have hv := dpAll_strs hdp
            subst hv
            exact mt_join pins s σ H _ _ _ _ Q I rv r ⟨_, _, ss, rfl, rfl, .inl (rep.sub.seq hq), hl, post_here h rep (.d (.str _))⟩
      · cases hz
    · cases hz
  · cases hz
/-- o[i] = v: the places of the store only -/
def tSet3 (X : Cx) (o i v : PV) (S S' : Store) (g0 : Gs) (H0 : Hp) (K : Gs → Hp → Prop) : V → V → V → Hp → (Hp → Prop) → Prop := fun ov iv vv H Q =>
  ∃ g, Rep X.K g S H ∧ RV X.K g S.length ov o ∧ RV X.K g S.length iv i ∧ RV X.K g S.length vv v ∧ ∀ g' H', Ext S.length S.length g H S'.length g' H' → Rep X.K g' S' H' → Q H'
theorem set_ok {o i v : PV} {S S' : Store} (hs : setop S o i v = some S') : PSet X (fun ov iv vv H Q => ∃ g, Rep X.K g S H ∧ RV X.K g S.length ov o ∧ RV X.K g S.length iv i ∧ RV X.K g S.length vv v ∧
    ∀ g' H', Ext S.length S.length g H S'.length g' H' → Rep X.K g' S' H' → Q H') := by
  intro pins s σ H ov iv vv ov' iv' vv' Q I ro ri rv h
  obtain ⟨g, rep, r1, r2, r3, h⟩ := h
  unfold setop at hs
  split at hs
  · split at hs
    · rename_i ob e
      split at hs
      · rename_i j hj
        cases hs
        obtain ⟨rfl, hlt⟩ := rv_loc r1
        cases rv_int r2
        obtain ⟨ws, hH, rws, e, _⟩ := rep.lst e
        rw [← rws.length] at hj
        refine set_list pins s σ H _ _ _ _ _ _ Q I ro ri rv ⟨_, ws, _, j, rfl, rfl, hH, hj, ?_⟩
        refine h g _ (Ext.write (Nat.le_refl _) hlt) (rep.write e ?_)
        rw [items_like]
        exact rws.set r3 j
      · cases hs
    · cases hs
  · cases hs
end
end PW

set_option maxHeartbeats 3200000
namespace PW
open PySem PySem.Spec PyProof.Rows L2
/-! PW3s: sets of texts: made from a list, sorted -/
def txtOf (e : Int × Value) : Str := match e.2 with
  | .str k _ => k
  | _ => Str.empty
def GoodT (P : Program) (w : World) (e : Int × Value) : Prop := ∃ k tk, e.2 = Value.str k tk ∧ e.1 = (PySem.strKind P w).hash k
/-- the set of texts at a: L, its members, each once -/
def SetT (P : Program) (w : World) (h : Heap) (a : Addr) (L : List Str) : Prop :=
  ∃ ob en ep tb, h.get? a = some ob ∧ ob.ExactSet ∧ ob.data = .set en ep tb ∧ (∀ e ∈ en.toList, GoodT P w e) ∧ (en.toList.map txtOf).Perm L ∧ L.Nodup ∧
    en.size < scanBound ∧ tb.fits en.size = true ∧ Ris tb.place.toList ∧ (w.params.followText "set-order" = true ∨ tb.led = true)
theorem addT_len (L : List Str) (k : Str) : (addT L k).length ≤ L.length + 1 := by
  unfold addT
  split <;> simp
section
variable {P : Program} {w : World} {h h' : Heap} {a : Addr} {L : List Str}
theorem SetT.at (R : SetT P w h a L) (k : ∀ o, h.get? a = some o → h'.get? a = some o) : SetT P w h' a L := by
  obtain ⟨ob, en, ep, tb, ho, r⟩ := R
  exact ⟨ob, en, ep, tb, k ob ho, r⟩
theorem goodT_elems {l : List (Int × Value)} (g : ∀ e ∈ l, GoodT P w e) : ElemsOf (PySem.strKind P w) l := fun e he => by
  obtain ⟨k, tk, h1, h2⟩ := g e he
  exact ⟨⟨k, by rw [h1]; exact strKind_is P w k tk, h2⟩, by rw [h1]; rfl⟩
theorem goodT_is {e : Int × Value} (g : GoodT P w e) (k : Str) : (PySem.strKind P w).is k e.2 = true ↔ txtOf e = k := by
  obtain ⟨k0, tk, h1, _⟩ := g
  constructor
  · intro z
    have := strKind_is P w k0 tk
    rw [← h1] at this
    unfold txtOf
    rw [h1]
    exact (PySem.strKind P w).inj _ _ _ this z
  · intro z
    unfold txtOf at z
    rw [h1] at z ⊢
    have z : k0 = k := z
    subst z
    exact strKind_is P w k0 tk
theorem goodT_mem {l : List (Int × Value)} (g : ∀ e ∈ l, GoodT P w e) (k : Str) : k ∈ l.map txtOf ↔ ∃ e ∈ l, (PySem.strKind P w).is k e.2 = true := by
  rw [List.mem_map]
  exact ⟨fun ⟨e, he, q⟩ => ⟨e, he, (goodT_is (g e he) k).2 q⟩, fun ⟨e, he, q⟩ => ⟨e, he, (goodT_is (g e he) k).1 q⟩⟩
end
section
variable {P : Program} {w : World} {A : Around} {E : Value → Shared → Prop} {s : Shared} {a : Addr} {L : List Str}
theorem setT_tail {g : Bool → Sem Unit} (hg : ∀ (b : Bool) (s₁ : Shared) (Q' : Unit → Shared → Prop), Q' () s₁ → wpAny (model P w) A (g b) Q' E s₁)
    {ob : Obj} {en : Array (Int × Value)} {ep : Nat} {tb : SetTable} (ho : s.heap.get? a = some ob) (hex : ob.ExactSet) (hd : ob.data = .set en ep tb)
    {e1 : Array (Int × Value)} {t2 : SetTable} {L' : List Str} (g1 : ∀ e ∈ e1.toList, GoodT P w e) (p1 : (e1.toList.map txtOf).Perm L') (nd : L'.Nodup)
    (hb1 : e1.size < scanBound) (hf2 : t2.fits e1.size = true) (hr : Ris t2.place.toList) (hl : w.params.followText "set-order" = true ∨ t2.led = true) {wasDummy : Bool} {R : Option Bool → Shared → Prop}
    (hR : ∀ h', Heap.SameBut a s.heap h' → SetT P w h' a L' → R (some true) { s with heap := h' }) :
    wpAny (model P w) A (do
        storeSet a e1 t2
        if (!wasDummy && t2.tooFull) = true then do
            g (relayAll t2 e1 (SetTable.grown e1.size)).2.2
            storeSet a (relayAll t2 e1 (SetTable.grown e1.size)).1 (relayAll t2 e1 (SetTable.grown e1.size)).2.1
            pure (some true)
          else pure (some true)) R E s := by
  refine wpAny_bind (wpAny_storeSet_of ho hd ?_ (fits_of_scanBound hb1))
  have ho1 := store_at (es' := e1) (t' := t2) ho hd
  have sb1 := Heap.SameBut.update s.heap a (Obj.putSet e1 t2)
  split
  · have pm := relayAll_perm t2 e1 (SetTable.grown e1.size)
    have hf3 := relayAll_fits t2 e1 (SetTable.grown e1.size)
    have hr3 := relayAll_ris t2 e1 (SetTable.grown e1.size)
    have hl3 := relayAll_led t2 e1 (SetTable.grown e1.size)
    generalize relayAll t2 e1 (SetTable.grown e1.size) = Z at pm hf3 hr3 hl3 ⊢
    obtain ⟨e2, t3, gave⟩ := Z
    dsimp only at pm hf3 hr3 hl3 ⊢
    have hsz : e2.size = e1.size := by rw [← Array.length_toList, pm.length_eq, Array.length_toList]
    have hb2 : e2.size < scanBound := by rw [hsz]; exact hb1
    refine wpAny_bind (hg _ _ _ ?_)
    refine wpAny_bind (wpAny_storeSet_of ho1 rfl ?_ (fits_of_scanBound hb2))
    have ho2 := store_at (es' := e2) (t' := t3) ho1 rfl
    refine wpAny_pure (hR _ (sb1.trans (Heap.SameBut.update _ a _)) ?_)
    exact ⟨_, e2, _, t3, ho2, hex, rfl, fun e he => g1 e (pm.mem_iff.mp he), (pm.map txtOf).trans p1, nd, hb2, hf3, hr3, hl.imp id fun z => by rw [hl3]; exact z⟩
  · exact wpAny_pure (hR _ sb1 ⟨_, e1, _, t2, ho1, hex, rfl, g1, p1, nd, hb1, hf2, hr, hl⟩)
theorem setT_add {k : Str} {tk : Tok} {Q : Bool → Shared → Prop} (R : SetT P w s.heap a L) (room : L.length + 1 < scanBound)
    (hQ : ∀ b h', Heap.SameBut a s.heap h' → SetT P w h' a (addT L k) → Q b { s with heap := h' }) :
    wpAny (model P w) A (setAddHashed a (.str k tk) ((PySem.strKind P w).hash k)) Q E s := by
  obtain ⟨ob, en, ep, tb, ho, hex, hd, g, pm0, nd, hb, hf, hr, hl⟩ := R
  have hkey : (PySem.strKind P w).is k (.str k tk) = true := strKind_is P w k tk
  have hsc : (Value.str k tk).scannable = true := rfl
  have hel : ElemsOf (PySem.strKind P w) en.toList := goodT_elems g
  unfold setAddHashed setAddHashedIn
  refine wpAny_holding (wpAny_bind (wpAny_setState_of ho hd hf ?_))
  dsimp only
  rw [byScan_of hsc hb hel]
  simp only [↓reduceIte]
  unfold setAddByScan
  refine wpAny_bind ?_
  refine wpAny_bind (wpAny_rule ?_)
  refine wpAny_bind (wpAny_setScan_of hkey ho hd hf hel ?_)
  cases hfi : List.findIdx? (fun e => (PySem.strKind P w).is k e.2) en.toList with
  | some j =>
    dsimp only
    obtain ⟨hj, pj, _⟩ := List.findIdx?_eq_some_iff_getElem.mp hfi
    have hSk : k ∈ L := pm0.mem_iff.mp ((goodT_mem g k).2 ⟨en.toList[j], List.getElem_mem hj, pj⟩)
    refine wpAny_pure (wpAny_pure ?_)
    refine hQ _ s.heap (Heap.SameBut.refl a s.heap) ?_
    unfold addT
    rw [if_pos hSk]
    exact ⟨ob, en, ep, tb, ho, hex, hd, g, pm0, nd, hb, hf, hr, hl⟩
  | none =>
    dsimp only
    have hnk : k ∉ L := fun z => by
      obtain ⟨e, he, q⟩ := (goodT_mem g k).1 (pm0.mem_iff.mpr z)
      have c := List.findIdx?_eq_none_iff.mp hfi e he
      rw [q] at c
      cases c
    have hgw : ∀ (b : Bool) {s₁ : Shared} {Q' : Unit → Shared → Prop}, Q' () s₁ → wpAny (model P w) A (match b with | true => rule "set.scan.the-table-gave-way" | false => pure ()) Q' E s₁ :=
      fun b s₁ Q' q => by cases b <;> first | exact wpAny_pure q | exact wpAny_rule q
    have pm := layNew_perm tb en ((PySem.strKind P w).hash k) (.str k tk)
    have hf1 := layNew_fits tb en ((PySem.strKind P w).hash k) (.str k tk)
    have hr1 := layNew_ris tb en ((PySem.strKind P w).hash k) (.str k tk) hr
    have hl1 := layNew_led tb en ((PySem.strKind P w).hash k) (.str k tk)
    generalize layNew tb en ((PySem.strKind P w).hash k) (.str k tk) = Z at pm hf1 hr1 hl1 ⊢
    obtain ⟨e1, t1, wasDummy, gave⟩ := Z
    dsimp only at pm hf1 hr1 hl1 ⊢
    rw [Array.toList_push] at pm
    have pc : e1.toList.Perm (((PySem.strKind P w).hash k, Value.str k tk) :: en.toList) := pm.trans (List.perm_append_singleton _ _)
    have pk : (e1.toList.map txtOf).Perm (addT L k) := by
      unfold addT
      rw [if_neg hnk]
      exact (pc.map txtOf).trans (pm0.cons k)
    have g1 : ∀ e ∈ e1.toList, GoodT P w e := fun e he => by
      rcases List.mem_cons.mp (pc.mem_iff.mp he) with z | z
      · rw [z]; exact ⟨k, tk, rfl, rfl⟩
      · exact g e z
    have nd1 : (addT L k).Nodup := by
      unfold addT
      rw [if_neg hnk]
      exact List.nodup_cons.mpr ⟨hnk, nd⟩
    have hsz : e1.size = L.length + 1 := by
      have := pc.length_eq
      rw [Array.length_toList, List.length_cons] at this
      have h2 := pm0.length_eq
      rw [List.length_map] at h2
      omega
    have hb1 : e1.size < scanBound := by rw [hsz]; exact room
    have hled : w.params.followText "set-order" = true ∨ t1.led = true := hl.imp id fun z => by rw [hl1]; exact z
    refine wpAny_bind (hgw _ ?_)
    split
    · refine wpAny_bind ?_
      rw [hashByValue_scannable 8 hsc]
      refine wpAny_pure ?_
      refine setT_tail ?_ ho hex hd g1 pk nd1 hb1 ?_ ?_ ?_ ?_
      · intro b s₁ Q' q; cases b <;> first | exact wpAny_pure q | exact wpAny_rule q
      · first | (split <;> first | exact hf1 | exact SetTable.fits_plain_off hf1) | exact hf1
      · first | (split <;> exact hr1) | exact hr1
      · first | (split <;> exact hled) | exact hled
      · intro h' sb r; dsimp only; exact wpAny_pure (hQ _ h' sb r)
    · refine wpAny_bind (wpAny_pure ?_)
      simp only [↓reduceIte]
      refine setT_tail ?_ ho hex hd g1 pk nd1 hb1 hf1 hr1 hled ?_
      · intro b s₁ Q' q; cases b <;> first | exact wpAny_pure q | exact wpAny_rule q
      · intro h' sb r; dsimp only; exact wpAny_pure (hQ _ h' sb r)
theorem setT_fresh {h : Heap} (ho : h.get? a = some { cls := .type "set", dict := none, data := .set #[] 0 (.fresh 0 0 (!w.params.followText "set-order")) }) : SetT P w h a [] :=
  ⟨_, #[], 0, _, ho, ⟨rfl, rfl, rfl⟩, rfl, fun e he => (by simp at he), List.Perm.refl _, List.nodup_nil, by decide, rfl, List.Pairwise.nil, by
    show _ ∨ (!w.params.followText "set-order") = true
    cases w.params.followText "set-order"
    · exact .inr rfl
    · exact .inl rfl⟩
end
/-- the members in the order in which they come -/
def gather (xs : List Str) (i : Nat) : List Str := (xs.take i).foldl addT []
theorem foldl_addT (xs : List Str) : ∀ L : List Str, (xs.foldl addT L).length ≤ L.length + xs.length := by
  induction xs with
  | nil => intro L; simp
  | cons x r ih =>
    intro L
    have h1 := ih (addT L x)
    have h2 := addT_len L x
    simp only [List.foldl_cons, List.length_cons]
    omega
theorem gather_len (xs : List Str) (i : Nat) : (gather xs i).length ≤ i := by
  have h := foldl_addT (xs.take i) []
  rw [List.length_take] at h
  simp only [List.length_nil] at h
  unfold gather
  omega
theorem gather_next {xs : List Str} {i : Nat} {x : Str} (h : xs[i]? = some x) : gather xs (i + 1) = addT (gather xs i) x := by
  unfold gather
  rw [List.take_add_one, h, List.foldl_append]
  rfl
section
variable {P : Program} {w : World} {A : Around} {E : Value → Shared → Prop} {s : Shared}
theorem update_txts {I : Addr} {fp wr : List Addr} {G : Array GenState → Array GenState → Prop} {n : Nat} {Pv : Nat → Value → Prop} {St : Nat → Shared → Prop} {R : Result → Shared → Prop}
    (W : WalksS P w A.in1 I fp wr G n Pv St) (D : Addr) (hD : D ∉ fp) (xs : List Str) (hb : n + 1 < scanBound) (hval : ∀ i v, Pv i v → ∃ x t, xs[i]? = some x ∧ v = .str x t) :
    ∀ (k i : Nat) (s : Shared), n - i = k → i ≤ n → St i s → SetT P w s.heap D (gather xs i) →
      (∀ s', Moved (D :: wr) G s s' → SetT P w s'.heap D (gather xs n) → R (.ok (.ret .none)) s') →
      codeAny (model P w) A (.builtin "set.update.loop" ⟨[.ref D, .ref I], []⟩) R s := by
  have hDw : D ∉ wr := fun h => hD (W.sub _ h)
  have hsub : ∀ b ∈ wr, b ∈ D :: wr := fun b hb => List.mem_cons_of_mem _ hb
  intro k
  induction k with
  | zero =>
    intro i s hk hi hst hS hR
    have hin : i = n := by omega
    subst hin
    refine codeAny_builtin PyProof.Rows.F.entry_set_update_loop ?_
    rw [Around.under_plainId PyProof.Rows.F.plain_set_update_loop _]
    show wpAny _ A.in1 (pyNext (.ref I) >>= _) _ _ s
    refine wpAny_bind (W.done s _ _ hst fun s' hm => ?_)
    show wpAny _ A.in1 (ret Value.none) _ _ s'
    exact wpAny_pure (hR s' (hm.mono hsub) (hS.at fun o e => hm.heap D o hDw e))
  | succ k ih =>
    intro i s hk hi hst hS hR
    have hlt : i < n := by omega
    refine codeAny_builtin PyProof.Rows.F.entry_set_update_loop ?_
    rw [Around.under_plainId PyProof.Rows.F.plain_set_update_loop _]
    show wpAny _ A.in1 (pyNext (.ref I) >>= _) _ _ s
    refine wpAny_bind (W.item i s _ _ hlt hst fun v s' hP hst' hm => ?_)
    obtain ⟨x, t, hx, rfl⟩ := hval i v hP
    have hS' : SetT P w s'.heap D (gather xs i) := hS.at fun o e => hm.heap D o hDw e
    show wpAny _ A.in1 (holding [Value.str x t] (setAdd D (.str x t)) >>= _) _ _ s'
    refine wpAny_bind (wpAny_holding ?_)
    unfold setAdd
    refine wpAny_holding ?_
    refine wpAny_bind ((PySem.strKind P w).pyHash (k := x) (strKind_is _ _ _ _) ?_)
    have hroom : (gather xs i).length + 1 < scanBound := by have := gather_len xs i; omega
    refine setT_add (s := { s' with toks := s'.toks + 1 }) hS' hroom fun b h' hsb hS2 => ?_
    rw [← gather_next hx] at hS2
    refine wpAny_pure ⟨plainId_quiet PyProof.Rows.F.plain_set_update_loop _, ih (i + 1) _ (by omega) hlt (W.frame _ s' _ _ hst' (Nat.le_succ _) fun b hb o e => ?_) hS2 fun s'' hm'' hS'' => ?_⟩
    · rw [hsb.2 b (fun h : b = D => hD (by rw [← h]; exact hb))]; exact e
    · refine hR s'' (Moved.trans W.gtrans ((hm.mono hsub).then_heap (Nat.le_succ _) fun b o hb e => ?_) hm'') hS''
      rw [hsb.2 b (fun h : b = D => hb (by rw [h]; exact List.mem_cons_self))]; exact e
end
end PW

namespace PW
open PySem PySem.Spec PyProof.Rows L2
/-! PW3t: set(xs) of texts -/
section
variable {P : Program} {w : World} {A : Around} {E : Value → Shared → Prop} {s : Shared}

set_option maxHeartbeats 3200000 in
theorem set_of_list {l : Addr} {items : Array Value} (xs : List Str) {Q : Value → Shared → Prop} (hh : A.handled = none) (hl : s.heap.IsList l items) (hit : ∀ (i : Nat) (v : Value), items[i]? = some v → ∃ x t, xs[i]? = some x ∧ v = Value.str x t) (hb : items.size + 1 < scanBound)
    (h : ∀ (h' : Heap) (tk : Nat), SetT P w h' s.heap.objs.size (gather xs items.size) → (∀ b o, s.heap.get? b = some o → h'.get? b = some o) → Q (.ref s.heap.objs.size) { s with heap := h', toks := tk }) :
    wpAny (model P w) A (call (.type "set") [.ref l]) Q E s := by
  obtain ⟨c, tl, hmro⟩ := PySem.F.called_set.mro
  have hmade := PySem.F.called_set.made
  have hsub := PySem.F.called_set.sub
  refine wpAny_call (codeAny_of_tree ?_)
  show wpAny _ _ (callAny (.type "set") _) _ _ _
  refine wpAny_pure ⟨Code.quiet_builtin _ (by decide +kernel), codeAny_builtin PySem.F.entry_type_call ?_⟩
  rw [Around.under_plain (weight_type_call_type "set" [.ref l] []) rfl]
  have h1 := PySem.F.called_set.notType
  have h2 := PySem.F.called_set.canCreate
  have hct := PySem.F.typeCall_set_1 (.ref l)
  repeat (any_goals (first | assumption | wp_step))
  refine codeAny_mono (code_set_led1 (.ref l) (E := E) (Q₁ := fun obj s₁ => obj = .ref s.heap.objs.size ∧ s₁ = { s with heap := s.heap.push { cls := .type "set", dict := none, data := .set #[] 0 (.fresh 0 0 (!w.params.followText "set-order")) } }) ⟨rfl, rfl⟩) fun r s₁ hr => ?_
  cases r with
  | error e => exact hr
  | ok fl =>
    cases fl with
    | ret obj =>
      obtain ⟨rfl, rfl⟩ := hr
      generalize hled : (!w.params.followText "set-order") = led
      have hS : (s.heap.push { cls := .type "set", dict := none, data := .set #[] 0 (.fresh 0 0 led) }).get? s.heap.objs.size = some { cls := .type "set", dict := none, data := .set #[] 0 (.fresh 0 0 led) } := Heap.get?_push_size _ rfl
      have hT : Shared.TypeIs { s with heap := s.heap.push { cls := .type "set", dict := none, data := .set #[] 0 (.fresh 0 0 led) } } (.ref s.heap.objs.size) "set" := ⟨_, hS, rfl⟩
      have hli := PySem.F.called_set.init.lookup
      have hbi := PySem.F.called_set.init.bind (.ref s.heap.objs.size)
      repeat (any_goals (first | assumption | wp_step))
      refine codeAny_mono (codeAny_call_builtin (R := wants (fun r s₂ => r = .none ∧ ∃ h' tk, s₂ = { s with heap := h', toks := tk } ∧ SetT P w h' s.heap.objs.size (gather xs items.size) ∧
          (∀ b o, s.heap.get? b = some o → h'.get? b = some o)) E) PySem.F.called_set.init.plain PySem.F.entry_set_init (check_set_init_1 hT ?_)) fun r₂ s₂ hr₂ => ?_
      · obtain ⟨ol, hol, hcl, nl, hdl⟩ := hl
        obtain ⟨ocls, odict, odata, oslots⟩ := ol
        simp only at hcl hdl
        subst hcl; subst hdl
        have hol' : (s.heap.push { cls := .type "set", dict := none, data := .set #[] 0 (.fresh 0 0 led) }).get? l = some { cls := .type "list", dict := odict, data := .seq items nl, slots := oslots } := Heap.get?_push_of_some _ hol
        have hsls := PySem.F.sub_list_set
        have hslf := PySem.F.sub_list_frozenset
        have hne : (Value.type "list" == Value.type "dict") = false := by decide
        have hl1 : (s.heap.push { cls := .type "set", dict := none, data := .set #[] 0 (.fresh 0 0 led) }).IsList l items := ⟨_, hol', rfl, nl, rfl⟩
        unfold Builtin.«set.__init__» noKeywords Builtin.Frozenset.updateFrom
        generalize hPI : pyIter = PI
        wp_walk
        subst hPI
        refine wpAny_pyIter_list hl1 ?_
        refine wpAny_bind (wpAny_runValue ?_)
        have hlS : l < s.heap.objs.size := Heap.lt_size hol
        have hh3 : A.in1.in1.in1.handled = none := by simp [hh]
        have hneI : l ≠ (s.heap.push { cls := .type "set", dict := none, data := .set #[] 0 (.fresh 0 0 led) }).objs.size := by
          rw [Heap.size_push]; exact Nat.ne_of_lt (Nat.lt_succ_of_lt hlS)
        have hSf : s.heap.objs.size ∉ [(s.heap.push { cls := .type "set", dict := none, data := .set #[] 0 (.fresh 0 0 led) }).objs.size, l] := by
          rw [Heap.size_push]; simp only [List.mem_cons, List.mem_singleton, List.not_mem_nil, or_false, not_or]
          exact ⟨Nat.ne_of_lt (Nat.lt_succ_self _), Nat.ne_of_gt hlS⟩
        refine update_txts ((Walks.list hh3 _ l hneI items).toS) s.heap.objs.size
          hSf xs hb hit (items.size - 0) 0 _ (by omega) (Nat.zero_le _)
          ⟨⟨_, Heap.get?_push_size _ rfl, rfl, rfl⟩, (hl1.push _)⟩ ?hS0 ?hR
        case hS0 =>
          have hget : ((s.heap.push { cls := .type "set", dict := none, data := .set #[] 0 (.fresh 0 0 led) }).push { cls := .type "list_iterator", data := .fields #[.ref l, .int 0 0] }).get? s.heap.objs.size
              = some { cls := .type "set", dict := none, data := .set #[] 0 (.fresh 0 0 led) } := Heap.get?_push_of_some _ hS
          exact setT_fresh (by rw [hled]; exact hget)
        case hR =>
          intro s' hm hS'
          obtain ⟨h', g', d', tk', os'⟩ := s'
          have eg : g' = s.gens := hm.gens
          have ed : d' = s.drawn := hm.drawn
          have eo : os' = s.os := hm.os
          subst eg; subst ed; subst eo
          show wpAny _ _ _ _ _ _
          refine wpAny_pure ?_
          show wpAny _ _ (ret Value.none) _ _ _
          refine wpAny_pure ⟨rfl, h', tk', rfl, hS', fun b o e => ?_⟩
          have hb := Heap.lt_size e
          have hb1 : b ≠ s.heap.objs.size := Nat.ne_of_lt hb
          have hb2 : b ≠ (s.heap.push { cls := .type "set", dict := none, data := .set #[] 0 (.fresh 0 0 led) }).objs.size := by
            rw [Heap.size_push]; exact Nat.ne_of_lt (Nat.lt_succ_of_lt hb)
          exact hm.heap b o (by simp only [List.mem_cons, List.mem_singleton, List.not_mem_nil, or_false, not_or]; exact ⟨hb1, hb2⟩) (Heap.get?_push_of_some _ (Heap.get?_push_of_some _ e))
      · cases r₂ with
        | error e => exact hr₂
        | ok fl₂ =>
          cases fl₂ with
          | ret r =>
            obtain ⟨rfl, h', tk, rfl, hS', hk'⟩ := hr₂
            repeat (any_goals (first | assumption | wp_step))
            exact h _ _ hS' hk'
          | _ => exact hr₂.elim
    | _ => exact hr.elim

end
end PW

set_option maxHeartbeats 1000000
namespace PW
open PySem PySem.Spec PyProof.Rows L2
/-! PW3v: sorted(set(xs)) of texts -/
theorem leT_trans : ∀ x y z : Str, leT x y = true → leT y z = true → leT x z = true := by
  intro x y z h1 h2
  unfold leT at *
  rw [decide_eq_true_eq] at *
  exact List.le_trans h1 h2
theorem leT_total : ∀ x y : Str, (leT x y || leT y x) = true := by
  intro x y
  unfold leT
  rw [Bool.or_eq_true, decide_eq_true_eq, decide_eq_true_eq]
  exact List.le_total _ _
theorem leT_anti {x y : Str} (h1 : leT x y = true) (h2 : leT y x = true) : x = y := by
  unfold leT at *
  rw [decide_eq_true_eq] at *
  have := List.le_antisymm h1 h2
  obtain ⟨⟨a⟩⟩ := x
  obtain ⟨⟨b⟩⟩ := y
  simp at this
  rw [this]
theorem sortT_perm {L M : List Str} (h : L.Perm M) : L.mergeSort leT = M.mergeSort leT := by
  refine List.Perm.eq_of_pairwise (le := fun x y => leT x y = true) (fun x y _ _ h1 h2 => leT_anti h1 h2) ?_ ?_ ?_
  · exact List.pairwise_mergeSort leT_trans leT_total L
  · exact List.pairwise_mergeSort leT_trans leT_total M
  · exact (List.mergeSort_perm L leT).trans (h.trans (List.mergeSort_perm M leT).symm)
section
variable {P : Program} {w : World} {A : Around} {E : Value → Shared → Prop} {s : Shared}
theorem txts_of {en : List (Int × Value)} (g : ∀ e ∈ en, GoodT P w e) : ∀ vs : List Value, (∀ v ∈ vs, v ∈ en.map (·.2)) → PySem.W.EachIs (fun (v : Value) (x : Str) => ∃ t, v = .str x t) vs (vs.map fun v => txtOf (0, v))
  | [], _ => .nil
  | v :: vs, h => by
    refine .cons ?_ (txts_of g vs fun u hu => h u (List.mem_cons_of_mem _ hu))
    obtain ⟨e, he, q⟩ := List.mem_map.mp (h v List.mem_cons_self)
    obtain ⟨k, t, h1, _⟩ := g e he
    rw [← q, h1]
    exact ⟨t, rfl⟩
theorem sorted_setTxt {a : Addr} {L : List Str} {Q : Value → Shared → Prop} (R : SetT P w s.heap a L) (hh : A.handled = none) (hu : A.units + 64 < cLine)
    (hQ : ∀ s' p (out : Array Value) (c : Nat), (∀ b o, s.heap.get? b = some o → s'.heap.get? b = some o) → s'.gens = s.gens → s'.os = s.os → s.heap.objs.size ≤ p →
      s'.heap.get? p = some (seqObj "list" out c) → PySem.W.EachIs (fun (v : Value) (x : Str) => ∃ t, v = .str x t) out.toList (L.mergeSort leT) → Q (.ref p) s') :
    wpAny (model P w) A (call (.builtin "sorted") [.ref a]) Q E s := by
  obtain ⟨ob, en, ep, tb, ho, hex, hd, g, pm0, nd, hb, hf, hr, hl⟩ := R
  refine Calls.call_function_entry kind_sorted plain_sorted entry_sorted (args_sorted1 _) ?_
  unfold Builtin.«sorted»
  refine wpAny_bind (m := checkCount "sorted" 1 1 _) (wpAny_pure ?_)
  refine wpAny_bind (collect_set (A := A.in1) hh ⟨ob, ho, hex.1, hd⟩ hf hb hr hl fun s1 vs k1 hz g1 o1 pm => ?_)
  have hvl : vs.length = en.size := by rw [pm.length_eq, List.length_map, Array.length_toList]
  have hs4 : vs.length ≤ sizeLine := by
    have := sizeLine_eq
    unfold scanBound at hb
    omega
  have hE := txts_of g vs fun v hv => pm.mem_iff.mp hv
  have pL : (vs.map fun v => txtOf (0, v)).Perm L := by
    have q := pm.map (fun v => txtOf (0, v))
    rw [List.map_map] at q
    exact q.trans pm0
  generalize hws : (vs.map fun v => txtOf (0, v)) = ws at hE pL
  refine wpAny_bind (wpAny_newList ?_ hs4)
  have hoL : (s1.heap.push (seqObj "list" vs.toArray 0)).get? s1.heap.objs.size = some (seqObj "list" vs.toArray 0) := Heap.get?_push_size _ rfl
  have er : PySem.W.EachIs (fun (v : Value) (x : Str) => ∃ as, Reads (s1.heap.push (seqObj "list" vs.toArray 0)) v (.str x) as ∧ s1.heap.objs.size ∉ as) vs ws := hE.mono fun v x ⟨t, e⟩ => by
    subst e
    exact ⟨[], by constructor, by simp⟩
  have hws2 : ws.length ≤ sizeLine := by rw [← hws, List.length_map]; exact hs4
  refine wpAny_bind (wpAny_holding (PySem.W.list_sort_data (s := { s1 with heap := s1.heap.push (seqObj "list" vs.toArray 0) }) (enc := fun x : Str => PyData.str x) hoL hE er (PySem.W.AllAlike.of fun _ _ => rfl) (PySem.W.Sortable.others fun b => ⟨by simp, by simp⟩) hws2 (fun b _ => ?_) fun out hlo ho2 => ?_))
  · show A.units + 1 + 1 + 0 < cLine
    omega
  · obtain ⟨c, hc⟩ := sortedHeap_at (vs := vs) (out := out.toArray) hoL
    rw [PySem.W.dataLe_str (fun x : Str => x)] at ho2
    have e3 : ws.mergeSort leT = L.mergeSort leT := sortT_perm pL
    refine wpAny_pure ⟨_, rfl, hQ _ s1.heap.objs.size out.toArray c (fun b u e => ?_) g1 o1 hz hc ?_⟩
    · have q := k1 b u e
      have hlt := Heap.lt_size q
      show (sortedHeap (s1.heap.push (seqObj "list" vs.toArray 0)) s1.heap.objs.size vs out.toArray).get? b = some u
      rw [sortedHeap_old (Nat.ne_of_lt hlt) (by rw [size_push']; exact Nat.lt_succ_of_lt hlt)]
      exact Heap.get?_push_of_some _ q
    · rw [← e3]
      exact ho2
end
section
variable {X : Cx}
theorem dp_txts {K : PySem.W.Frag} {H : Hp} : ∀ {us : List Value} {xs : List Str}, PySem.W.EachIs (fun (v : Value) (x : Str) => ∃ t, v = .str x t) us xs → Vals (xs.map V.str) us
  | _, _, .nil => .nil
  | _, _, .cons ⟨t, e⟩ r => .cons ⟨t, e⟩ (dp_txts (K := K) (H := H) r)
theorem sorted_inv {pins : List (Addr × Obj)} {σ : L2.St} {H : Hp} {s : Shared} {a : Addr} {L : List Str} {Q : VK} (I : Inv X pins σ H s) (hc : X.calm = true) (hu : X.A.units + 64 < cLine) (R : SetT X.prog X.w s.heap a L) (hL : L.length ≤ 1000)
    (q : ∀ p, H p = none → Q (.ref p) (L2.upd H p (.lst ((L.mergeSort leT).map V.str)))) : wpAny (model X.prog X.w) X.A (call (.builtin "sorted") [.ref a]) (EP X pins σ Q) X.xe s := by
  refine sorted_setTxt R (I.ok.hd hc) hu fun s' p out c k g o hp hgp he => ?_
  have hn : H p = none := I.hok.fresh hp
  have hlen : ((L.mergeSort leT).map V.str).length ≤ sizeLine := by rw [List.length_map, List.length_mergeSort, sizeLine_eq]; omega
  have hv : Vals ((L.mergeSort leT).map V.str) out.toList := dp_txts (K := X.K) (H := H) he
  have J : Inv X pins σ (L2.upd H p (.lst ((L.mergeSort leT).map V.str))) { s with heap := s'.heap, gens := s'.gens, drawn := s'.drawn, toks := s'.toks } :=
    I.call (ch := []) (Un.laid k hp hn) (I.hok.laid k hp ⟨hlen, out.toList, c, hv, hgp⟩) (by rw [g]; exact I.bare) (fun _ z => nomatch z)
  have e : s' = { s with heap := s'.heap, gens := s'.gens, drawn := s'.drawn, toks := s'.toks } := by
    cases s'
    cases s
    cases o
    rfl
  rw [e]
  exact ⟨.ref p, _, J, rfl, q p hn⟩
def tSset (K : PySem.W.Frag) (ta : TE) : TE := fun σ H Q => ta σ H fun x H1 => ∃ (l : Addr) (xs : List Str), x = .ref l ∧ SqL K H1 l (xs.map V.str) ∧ xs.length ≤ 1000 ∧ ∀ p, H1 p = none → Q (.ref p) (L2.upd H1 p (.lst ((ssetD xs).map V.str)))
theorem pe_sset {a : Expr} {ta : TE} {p p2 q pos : Pos} (hc : X.calm = true) (hu : X.A.units + 64 < cLine) (hg : Gl X "sorted") (hm : X.mg "sorted" = none) (hg2 : Gl X "set") (hm2 : X.mg "set" = none) (ha : PE X a ta)
    (na : starEach [a] X.env = (false, eval a X.env) :: starEach [] X.env) : PE X (.Call (.Name "sorted" p) [.Call (.Name "set" p2) [a] [] q] [] pos) (tSset X.K ta) := by
  refine ⟨fun pins s σ H Q I h => ?_⟩
  refine Call_ (ld_blt I hg hm (u := .builtin "sorted") (by decide +kernel) ?_)
  refine PyProof.Rows.callWith_builtin1 (PyProof.Rows.args_cons ?_ rfl) rfl rfl
  refine Call_ (ld_blt I hg2 hm2 boot_set ?_)
  refine PyProof.Rows.callWith_type1 (PyProof.Rows.args_cons (thn (ha.run pins s σ H _ I h) fun v s1 ⟨x, H1, I1, r1, q1⟩ => PyProof.Rows.args_nil ?_) na) na rfl
  obtain ⟨l, xs, rfl, hq, h1, q1⟩ := q1
  cases r1
  obtain ⟨its, r, pl, hz⟩ := I1.list hq
  have hl : its.length = xs.length := by rw [← r.length, List.length_map]
  refine set_of_list (items := its.toArray) xs (I1.ok.hd hc) pl.isList (fun i v hv => ?_) (by rw [List.size_toArray, hl]; unfold scanBound; omega) fun h' tk hS hk => ?_
  · have hv : its[i]? = some v := by simpa using hv
    have hi : i < xs.length := by rw [← hl]; exact (List.getElem?_eq_some_iff.mp hv).1
    obtain ⟨u, hu2, t, rfl⟩ := r.get (i := i) (x := .str xs[i]) (by simp [hi])
    rw [hv] at hu2
    cases hu2
    exact ⟨xs[i], t, List.getElem?_eq_getElem hi, rfl⟩
  · refine PyProof.Rows.args_nil ?_
    have I2 : Inv X pins σ H1 { s1 with heap := h', toks := tk } := I1.kept fun b o e => hk b o e
    have e0 : gather xs its.toArray.size = xs.foldl addT [] := by
      unfold gather
      rw [List.size_toArray, hl, List.take_length]
    rw [e0] at hS
    have hln := foldl_addT xs []
    exact sorted_inv I2 hc hu hS (by simp at hln; omega) q1
end
end PW

set_option maxHeartbeats 1000000
namespace PW
open PySem PySem.Spec PyProof.Rows L2
/-! PW4a: what a def promises; what a callee leaves; what a loop walks. -/
def spOf (K : PySem.W.Frag) (cls : Nat → Option Value) (n : Nat) (F : List PV → Store → Res PV) : Sp := fun vs H Q E =>
  vs.length = n ∧ ∃ g S args, Rep K g S H ∧ RVs K g S.length vs args ∧ Post ⟨K, cls⟩ (fun c d _ H => E c d H) (RVc ⟨K, cls⟩) S.length S.length g H (F args S) Q

mutual
theorem RV.other' {K : PySem.W.Frag} {g g' : Gs} {n m k : Nat} (s : Same g.G g'.G) (ag : ∀ l, l < k → g'.ρ l = g.ρ l) (hk : k ≤ m) : ∀ {x : PV} {v : V}, RV K g n v x → x.under k = true → RV K g' m v x
  | _, _, .d h, _ => .d (dp_mono s h)
  | _, _, .loc (l := l) _, h => by
    have hl : l < k := by simpa [PV.under] using h
    rw [← ag l hl]
    exact .loc (Nat.lt_of_lt_of_le hl hk)
  | _, _, .tup q t, h => .tup (Same.sqT s q) (RVs.other' s ag hk t (by simpa [PV.under] using h))
  | _, _, .lst q t, h => .lst (s.seq q) (RVs.other' s ag hk t (by simpa [PV.under] using h))
theorem RVs.other' {K : PySem.W.Frag} {g g' : Gs} {n m k : Nat} (s : Same g.G g'.G) (ag : ∀ l, l < k → g'.ρ l = g.ρ l) (hk : k ≤ m) : ∀ {xs : List PV} {vs : List V}, RVs K g n vs xs → PV.unders k xs = true → RVs K g' m vs xs
  | _, _, .nil, _ => .nil
  | _, _, .cons a t, h => by
    simp only [PV.unders, Bool.and_eq_true] at h
    exact .cons (RV.other' s ag hk a h.1) (RVs.other' s ag hk t h.2)
end
theorem RV.other {K : PySem.W.Frag} {g g' : Gs} {n m k : Nat} (s : Same g.G g'.G) (ag : ∀ l, l < k → g'.ρ l = g.ρ l) (hk : k ≤ m) {x : PV} {v : V} (h : x.under k = true) (r : RV K g n v x) : RV K g' m v x := r.other' s ag hk h
theorem RVs.other {K : PySem.W.Frag} {g g' : Gs} {n m k : Nat} (s : Same g.G g'.G) (ag : ∀ l, l < k → g'.ρ l = g.ρ l) (hk : k ≤ m) {xs : List PV} {vs : List V} (h : PV.unders k xs = true) (r : RVs K g n vs xs) : RVs K g' m vs xs := r.other' s ag hk h
theorem unders_map (k : Nat) : ∀ ds : List PyData, PV.unders k (ds.map .d) = true
  | [] => rfl
  | _ :: r => by simp [PV.unders, PV.under, unders_map k r]
theorem Ob.unders {o : Ob} {k : Nat} (h : o.under k = true) : PV.unders k o.items = true := by
  cases o with
  | lst ds => exact unders_map k ds
  | plst xs => exact h
  | inst C fs => rfl
theorem ObR.other {K : PySem.W.Frag} {g g' : Gs} {n m k : Nat} {o : Ob} {h : Option HO} (s : Same g.G g'.G) (ag : ∀ l, l < k → g'.ρ l = g.ρ l) (hk : k ≤ m) (ho : o.under k = true) (r : ObR K g n o h) : ObR K g' m o h := by
  cases o with
  | inst C fs =>
    obtain ⟨dx, vs, e, t⟩ := r
    exact ⟨dx, vs, e, t.imp fun p hp _ q => RV.other s ag hk (List.all_eq_true.mp ho p hp) q⟩
  | lst ds =>
    obtain ⟨vs, e, t⟩ := r
    exact ⟨vs, e, RVs.other s ag hk (Ob.unders ho) t⟩
  | plst ds =>
    obtain ⟨vs, e, t⟩ := r
    exact ⟨vs, e, RVs.other s ag hk (Ob.unders ho) t⟩

section
variable {K : PySem.W.Frag} {cls : Nat → Option Value} {W : WX}
theorem back_ok {al : Bool} {n : Nat} {g g2 : Gs} {H H2 : Hp} {v : PV} {S2 : Store} {u : V} {Q : VK} (h : Post ⟨K, cls⟩ W (RVc ⟨K, cls⟩) n n g H (back al n v S2) Q)
    (ex : Ext n n g H S2.length g2 H2) (rep : Rep K g2 S2 H2) (rv : RV K g2 S2.length u v) : Q u H2 := by
  have hn : n ≤ S2.length := ex.le
  have htl : (S2.take n).length = n := by rw [List.length_take]; omega
  have cut : ∀ (g3 : Gs), (S2.take n).all (Ob.under n) = true → g3.ρ = g2.ρ → Same g2.G g3.G → Same g3.G H2 → (∀ m, m < n → g3.G (g2.ρ m) = none) → (∀ a o, g3.G a = some o → g2.G a = some o ∨ ∃ m, m < S2.length ∧ a = g2.ρ m) → Rep K g3 (S2.take n) H2 ∧ Ext n n g H (S2.take n).length g3 H2 := fun g3 hf hρ hs hG hno hgn => by
    refine ⟨⟨hG, fun m o hm => ?_, fun a b ha hb e => ?_⟩, ⟨by omega, ex.sub.trans hs, fun l hl => by rw [hρ]; exact ex.agr l hl, fun l hl => ?_, ex.fr, fun a o e => ?_⟩⟩
    · have hlt : m < n := by rw [← htl]; exact (List.getElem?_eq_some_iff.mp hm).1
      have hm' := hm
      rw [List.getElem?_take_of_lt hlt] at hm'
      obtain ⟨_, q⟩ := rep.ob m o hm'
      have fo : o.under n = true := List.all_eq_true.mp hf o (List.mem_of_getElem? hm)
      refine ⟨by rw [hρ]; exact hno m hlt, ?_⟩
      rw [hρ]
      exact q.other hs (fun l _ => by rw [hρ]) (by omega) fo
    · rw [htl] at ha hb
      rw [hρ] at e
      exact rep.inj a b (by omega) (by omega) e
    · rw [htl] at hl
      rw [hρ]
      exact ex.new l (by omega)
    · rcases hgn a o e with q | ⟨m, hm, q⟩
      · exact ex.gn a o q
      · subst q
        rcases ex.new m hm with q | ⟨k, hk, q⟩
        · exact .inr (.inl q)
        · exact .inr (.inr ⟨k, hk, q⟩)
  unfold back at h
  split at h
  · split at h
    · rename_i hf
      obtain ⟨r3, e3⟩ := cut g2 hf rfl (.refl _) rep.sub (fun m hm => (rep.ob m (S2[m]'(by omega)) (by simp)).1) (fun _ _ e => .inl e)
      cases rv with
      | d q => exact h g2 H2 u e3 r3 (.d q)
    · exact h g2 H2 u ex rep rv
  · rename_i l
    split at h
    · exact h g2 H2 u ex rep rv
    · rename_i hl
      obtain ⟨rfl, hlt⟩ := rv_loc rv
      cases eS : lk S2 l with
      | none =>
        rw [eS] at h
        exact h g2 H2 _ ex rep rv
      | some ol =>
      rw [eS] at h
      simp only at h
      split at h
      · rename_i hf
        rw [Bool.and_eq_true] at hf
        obtain ⟨vs, e1, r1, eS, hLo⟩ := rep.lst eS
        obtain ⟨gn, _⟩ := rep.ob l _ eS
        cases al with
        | true =>
          have h : Post ⟨K, cls⟩ W (RVc ⟨K, cls⟩) n n g H (.ok (.loc n) (S2.take n ++ [ol])) Q := h
          have hL : (S2.take n ++ [ol]).length = n + 1 := by simp [htl]
          obtain ⟨r3, e3⟩ := cut g2 hf.1 rfl (.refl _) rep.sub (fun m hm => (rep.ob m (S2[m]'(by omega)) (by simp)).1) (fun _ _ e => .inl e)
          have lt : ∀ {m}, m < n → (if m = n then g2.ρ l else g2.ρ m) = g2.ρ m := fun {m} hm => if_neg (by omega)
          refine h ⟨g2.G, fun m => if m = n then g2.ρ l else g2.ρ m⟩ H2 _ ⟨by omega, ex.sub, fun m hm => by rw [← ex.agr m hm]; exact lt hm, fun m hm => ?_, ex.fr, ex.gn⟩ ⟨rep.sub, fun m o hm => ?_, fun a b ha hb e => ?_⟩ ?_
          · rw [hL] at hm
            show H (if m = n then g2.ρ l else g2.ρ m) = none ∨ ∃ k, k < n ∧ (if m = n then g2.ρ l else g2.ρ m) = g.ρ k
            by_cases hm' : m = n
            · rw [if_pos hm']
              exact ex.new l hlt
            · rw [if_neg hm']
              exact ex.new m (by omega)
          · show g2.G (if m = n then g2.ρ l else g2.ρ m) = none ∧ ObR K _ _ o (H2 (if m = n then g2.ρ l else g2.ρ m))
            by_cases hm' : m = n
            · subst hm'
              rw [List.getElem?_append_right (by omega)] at hm
              simp [htl] at hm
              subst hm
              rw [if_pos rfl]
              refine ⟨gn, .of e1 ?_ hLo⟩
              refine RVs.other (g := g2) (k := m) ?_ ?_ ?_ (Ob.unders hf.2) r1
              · exact Same.refl g2.G
              · exact fun k hk => lt hk
              · omega
            · have hlt' : m < (S2.take n ++ [ol]).length := (List.getElem?_eq_some_iff.mp hm).1
              rw [hL] at hlt'
              rw [List.getElem?_append_left (by omega)] at hm
              obtain ⟨a1, a2⟩ := r3.ob m o hm
              have fo : o.under n = true := List.all_eq_true.mp hf.1 o (List.mem_of_getElem? hm)
              rw [if_neg hm']
              refine ⟨a1, ?_⟩
              refine ObR.other (g := g2) (k := n) ?_ ?_ ?_ fo a2
              · exact Same.refl g2.G
              · exact fun k hk => lt hk
              · omega
          · rw [hL] at ha hb
            have e : (if a = n then g2.ρ l else g2.ρ a) = (if b = n then g2.ρ l else g2.ρ b) := e
            by_cases h1 : a = n
            · by_cases h2 : b = n
              · rw [h1, h2]
              · rw [if_pos h1, if_neg h2] at e
                have := rep.inj l b hlt (by omega) e
                omega
            · by_cases h2 : b = n
              · rw [if_neg h1, if_pos h2] at e
                have := rep.inj a l (by omega) hlt e
                omega
              · rw [if_neg h1, if_neg h2] at e
                exact rep.inj a b (by omega) (by omega) e
          · have := RV.loc (K := K) (g := ⟨g2.G, fun m => if m = n then g2.ρ l else g2.ρ m⟩) (n := (S2.take n ++ [ol]).length) (l := n) (by omega)
            simpa using this
        | false =>
          have h : Post ⟨K, cls⟩ W (RVc ⟨K, cls⟩) n n g H (.ok (mkLst ol.items) (S2.take n)) Q := h
          have hs : Same g2.G (L2.upd g2.G (g2.ρ l) (.lst vs)) := same_upd gn
          obtain ⟨r3, e3⟩ := cut (g2.laid (g2.ρ l) (.lst vs)) hf.1 rfl hs (fun a o q => by
            by_cases ha : a = g2.ρ l
            · subst ha
              rw [show (g2.laid (g2.ρ l) (.lst vs)).G (g2.ρ l) = _ from upd_same] at q
              cases q
              exact e1
            · rw [show (g2.laid (g2.ρ l) (.lst vs)).G a = g2.G a from upd_ne ha] at q
              exact rep.sub _ _ q) (fun m hm => by
            show L2.upd g2.G (g2.ρ l) (.lst vs) (g2.ρ m) = none
            rw [upd_ne (fun e => by have := rep.inj m l (by omega) hlt e; omega)]
            exact (rep.ob m (S2[m]'(by omega)) (by simp)).1) (fun a o q => by
            by_cases ha : a = g2.ρ l
            · exact .inr ⟨l, hlt, ha⟩
            · rw [show (g2.laid (g2.ρ l) (.lst vs)).G a = g2.G a from upd_ne ha] at q
              exact .inl q)
          exact h _ H2 _ e3 r3 (RV.lst_mk (.of laid_at) (RVs.other (g' := g2.laid (g2.ρ l) (.lst vs)) (k := n) hs (fun _ _ => rfl) (by omega) (Ob.unders hf.2) r1))
      · exact h g2 H2 _ ex rep rv
  · exact h g2 H2 u ex rep rv
theorem back_post {al : Bool} {n : Nat} {g : Gs} {H : Hp} {r : Res PV} {Q : VK} (h : Post ⟨K, cls⟩ W (RVc ⟨K, cls⟩) n n g H (r.bind fun v S2 => back al n v S2) Q) : Post ⟨K, cls⟩ W (RVc ⟨K, cls⟩) n n g H r Q := by
  cases r with
  | ok v S2 => exact fun g2 H2 u ex rep rv => back_ok h ex rep rv
  | err c as S' => exact h
  | stuck => exact h
end

/-! ### loops -/
/-- the iterator J goes over the items of w as long as w's object stays -/
def Wk (K : PySem.W.Frag) (w : Walked) (J : It) (g1 : Gs) (n1 : Nat) : Prop := ∀ g S H, Up n1 g1 S.length g → Rep K g S H → w.same S → ∀ i : Nat,
  (∀ y, w.items[i]? = some y → J.go i H ∧ ∀ x H', J.yld i H x H' → ∃ g', Ext S.length S.length g H S.length g' H' ∧ Rep K g' S H' ∧ RV K g' S.length x y) ∧ (w.items[i]? = none → J.stop i H)
section
variable {K : PySem.W.Frag}
theorem wk_str (x : Str) (g1 : Gs) (n1 : Nat) : Wk K ⟨chars x, none⟩ (Its x) g1 n1 := fun g S H u rep _ i => by
  refine ⟨fun y e => ?_, fun e => ?_⟩
  · have e : (x.cps.toList.map fun c => PV.d (.str ⟨#[c]⟩))[i]? = some y := e
    rw [List.getElem?_map] at e
    obtain ⟨c, hc, rfl⟩ := Option.map_eq_some_iff.mp e
    rw [Array.getElem?_toList] at hc
    refine ⟨(Array.getElem?_eq_some_iff.mp hc).1, fun v H' hy => ?_⟩
    obtain ⟨rfl, c', hc', rfl⟩ := hy
    rw [hc] at hc'
    cases hc'
    exact ⟨g, Ext.refl (Nat.le_refl _), rep, .d (.str _)⟩
  · have e : (x.cps.toList.map fun c => PV.d (.str ⟨#[c]⟩))[i]? = none := e
    rw [List.getElem?_map, Option.map_eq_none_iff, Array.getElem?_toList] at e
    exact Array.getElem?_eq_none_iff.mp e
theorem wk_range (lo : Int) (n : Nat) (g1 : Gs) (n1 : Nat) : Wk K ⟨intsP lo n, none⟩ (Itr lo n) g1 n1 := fun g S H u rep _ i => by
  refine ⟨fun y e => ?_, fun e => ?_⟩
  · have e : ((List.range n).map fun (i : Nat) => PV.d (.int (lo + i)))[i]? = some y := e
    rw [List.getElem?_map] at e
    obtain ⟨c, hc, rfl⟩ := Option.map_eq_some_iff.mp e
    obtain ⟨h1, h2⟩ := List.getElem?_eq_some_iff.mp hc
    have h3 : i < n := by simpa using h1
    have h4 : c = i := by rw [← h2]; simp
    subst h4
    refine ⟨h3, fun v H' hy => ?_⟩
    obtain ⟨rfl, rfl⟩ := hy
    exact ⟨g, Ext.refl (Nat.le_refl _), rep, .d (.int _)⟩
  · have e : ((List.range n).map fun (i : Nat) => PV.d (.int (lo + i)))[i]? = none := e
    rw [List.getElem?_map, Option.map_eq_none_iff, List.getElem?_eq_none_iff] at e
    show n ≤ i
    simpa using e
theorem wk_list {a : Addr} {ws : List V} {xs : List PV} {g1 : Gs} {n1 : Nat} (h : SqL K g1.G a ws) (r : RVs K g1 n1 ws xs) : Wk K ⟨xs, none⟩ (Itl K a) g1 n1 := fun g S H u rep _ i => by
  have hL : SqL K H a ws := rep.sub.seq (u.sub.seq h)
  refine ⟨fun y e => ?_, fun e => ⟨ws, hL, ?_⟩⟩
  · obtain ⟨v, hv, rv⟩ := r.get e
    refine ⟨⟨ws, v, hL, hv⟩, fun x H' hy => ?_⟩
    obtain ⟨rfl, hy⟩ := hy
    have := hy ws hL
    rw [hv] at this
    cases this
    exact ⟨g, Ext.refl (Nat.le_refl _), rep, rv.up u⟩
  · rw [r.length]
    exact List.getElem?_eq_none_iff.mp e
theorem wk_tup {a : Addr} {ws : List V} {xs : List PV} {g1 : Gs} {n1 : Nat} (h : SqT K g1.G a ws) (r : RVs K g1 n1 ws xs) : Wk K ⟨xs, none⟩ (Itt K a) g1 n1 := fun g S H u rep _ i => by
  have hL : SqT K H a ws := Same.sqT rep.sub (Same.sqT u.sub h)
  refine ⟨fun y e => ?_, fun e => ⟨ws, hL, ?_⟩⟩
  · obtain ⟨v, hv, rv⟩ := r.get e
    refine ⟨⟨ws, v, hL, hv⟩, fun x H' hy => ?_⟩
    obtain ⟨rfl, hy⟩ := hy
    have := hy ws hL
    rw [hv] at this
    cases this
    exact ⟨g, Ext.refl (Nat.le_refl _), rep, rv.up u⟩
  · rw [r.length]
    exact List.getElem?_eq_none_iff.mp e
theorem wk_loc {l : Nat} {o : Ob} {g1 : Gs} {n1 : Nat} (hl : l < n1) (ho : o.isL = true) : Wk K ⟨o.items, some (l, o)⟩ (Itl K (g1.ρ l)) g1 n1 := fun g S H u rep same i => by
  have e0 : S[l]? = some o := same
  obtain ⟨ws, hH, r, _⟩ := rep.lst (lk_of e0 ho)
  rw [u.agr l hl] at hH
  have hL : SqL K H (g1.ρ l) ws := .of hH
  refine ⟨fun y e => ?_, fun e => ⟨ws, hL, ?_⟩⟩
  · obtain ⟨v, hv, rv⟩ := r.get e
    refine ⟨⟨ws, v, hL, hv⟩, fun x H' hy => ?_⟩
    obtain ⟨rfl, hy⟩ := hy
    have := hy ws hL
    rw [hv] at this
    cases this
    exact ⟨g, Ext.refl (Nat.le_refl _), rep, rv⟩
  · rw [r.length]
    exact List.getElem?_eq_none_iff.mp e
end
end PW

set_option maxHeartbeats 1000000
namespace PW
open PySem PySem.Spec PyProof.Rows L2
/-! PW4b: the checker (the text against the core text) -/
mutual
def pdEq : PyData → PyData → Bool
  | .none, .none => true
  | .bool a, .bool b => a == b
  | .int a, .int b => a == b
  | .str a, .str b => decide (a = b)
  | .list a, .list b => pdEqs a b
  | .tuple a, .tuple b => pdEqs a b
  | _, _ => false
def pdEqs : List PyData → List PyData → Bool
  | [], [] => true
  | x :: r, y :: t => pdEq x y && pdEqs r t
  | _, _ => false
end
mutual
theorem pdEq_eq : ∀ {x y : PyData}, pdEq x y = true → x = y
  | .none, .none, _ => rfl
  | .bool a, .bool b, h => by simp [pdEq] at h; rw [h]
  | .int a, .int b, h => by simp [pdEq] at h; rw [h]
  | .str a, .str b, h => by simp [pdEq] at h; rw [h]
  | .list a, .list b, h => by rw [pdEqs_eq (x := a) (y := b) (by simpa [pdEq] using h)]
  | .tuple a, .tuple b, h => by rw [pdEqs_eq (x := a) (y := b) (by simpa [pdEq] using h)]
  | .dict _, y, h => by cases y <;> simp [pdEq] at h
  | .none, .bool _, h | .none, .int _, h | .none, .str _, h | .none, .list _, h | .none, .tuple _, h | .none, .dict _, h => by simp [pdEq] at h
  | .bool _, .none, h | .bool _, .int _, h | .bool _, .str _, h | .bool _, .list _, h | .bool _, .tuple _, h | .bool _, .dict _, h => by simp [pdEq] at h
  | .int _, .none, h | .int _, .bool _, h | .int _, .str _, h | .int _, .list _, h | .int _, .tuple _, h | .int _, .dict _, h => by simp [pdEq] at h
  | .str _, .none, h | .str _, .bool _, h | .str _, .int _, h | .str _, .list _, h | .str _, .tuple _, h | .str _, .dict _, h => by simp [pdEq] at h
  | .list _, .none, h | .list _, .bool _, h | .list _, .int _, h | .list _, .str _, h | .list _, .tuple _, h | .list _, .dict _, h => by simp [pdEq] at h
  | .tuple _, .none, h | .tuple _, .bool _, h | .tuple _, .int _, h | .tuple _, .str _, h | .tuple _, .list _, h | .tuple _, .dict _, h => by simp [pdEq] at h
theorem pdEqs_eq : ∀ {x y : List PyData}, pdEqs x y = true → x = y
  | [], [], _ => rfl
  | a :: r, b :: t, h => by
    simp only [pdEqs, Bool.and_eq_true] at h
    rw [pdEq_eq h.1, pdEqs_eq h.2]
  | [], _ :: _, h => by simp [pdEqs] at h
  | _ :: _, [], h => by simp [pdEqs] at h
end

structure Info where
  /-- the defs; none: a method -/
  fns : List (Option Str)
  globs : List (Str × PyData)
  /-- a def by its place, how many values are written, the defaults behind -/
  dfs : List (Nat × Nat × List PyData)
  /-- the classes: name, attributes, the place of __init__, the methods with their places -/
  cls : List (Str × List Str × Nat × List (Str × Nat))
  /-- the classes of errors: name, the numbers of those that belong to it -/
  exs : List (Str × List Nat × Bool) -- true: it may be raised

def vis (sc : Scope) (x : Str) : Bool := match sc.names.lookup x with
  | some .local => true
  | some .cell => true
  | some .free => true
  | _ => false
def gl (sc : Scope) (x : Str) : Bool := match sc.names.lookup x with
  | some .globalImplicit => true
  | _ => false
def okName (x : Str) : Bool := !(x == ("__debug__" : Str)) && !(x == ("__classdict__" : Str))
def isStar : Expr → Bool
  | .Starred _ _ => true
  | _ => false
def isSlice : Expr → Bool
  | .Slice _ _ _ _ => true
  | _ => false
def isSetE : Expr → Bool
  | .Set _ _ _ => true
  | _ => false
def isComp : Expr → Bool
  | .ListComp _ _ _ _ => true
  | .SetComp _ _ _ _ => true
  | .DictComp _ _ _ _ _ => true
  | _ => false
def plainTest : Expr → Bool
  | .UnaryOp .Not _ _ => false
  | .BoolOp _ _ _ => false
  | .IfExp _ _ _ _ => false
  | .Compare _ _ _ _ => false
  | _ => true
def plainObj : Expr → Bool
  | .Name _ _ => true
  | .Subscript _ _ _ => true
  | .Attribute _ _ _ => true
  | .Constant _ _ _ => true
  | _ => false
def Bn.name : Bn → Str
  | .len => "len"
  | .int => "int"
  | .abs => "abs"
  | .max => "max"
  | .min => "min"
  | .str => "str"
  | .tuple => "tuple"
  | .all => "all"
  | .any => "any"
  | .sum => "sum"
def Fop.name : Fop → Str
  | .disp => "?"
  | .list => "list"
  | .sorted => "sorted"
  | .sset => "?"
def Mt.name : Mt → Str
  | .append => "append"
  | .pop => "pop"
  | .popAt => "pop"
  | .insert => "insert"
  | .reverse => "reverse"
  | .index => "index"
  | .clear => "clear"
  | .extend => "extend"
def Dm.name : Dm → Str
  | .sindex => "index"
  | .join => "join"
def Ty.name : Ty → String
  | .bool => "bool"
  | .int => "int"
  | .str => "str"
  | .tuple => "tuple"
  | .list => "list"
def slotTg (sc : Scope) (N : List Str) (top : Bool) (i : Nat) : Expr → Bool
  | .Name x _ => decide (N[i]? = some x) && (match sc.names.lookup x with
    | some .local => true
    | some .cell => top
    | _ => false)
  | _ => false
def chkTg (sc : Scope) (N : List Str) (top : Bool) : Tg → Expr → Bool
  | .slot i, e => slotTg sc N top i e
  | .tup is, .Tuple es _ _ => es.length == is.length && (is.zip es).all fun p => slotTg sc N top p.1 p.2
  | _, _ => false
def Tg.inB : Tg → List Nat → Bool
  | .slot i, vs => vs.contains i
  | .tup is, vs => is.all vs.contains
def pairs (N : List Str) (own : List Nat) : List (Str × Nat) := own.filterMap fun i => (N[i]?).map fun x => (x, i)
def litEq : PyData → PySem.Const → Bool
  | .int i, .int j => i == j
  | .bool b, .bool c => b == c
  | .none, .none => true
  | .str x, .str y => decide (x = y)
  | _, _ => false
def callTo (sc : Scope) (y : Str) (n : Nat) (e : Expr) : Option (List Expr) := match e with
  | .Call (.Name x _) es [] _ => if (decide (x = y) && gl sc x && es.length == n) = true then some es else none
  | _ => none
def iterOf (k : Ik) (sc : Scope) (e : Expr) : Option (List Expr) := match k with
  | .of => some [e]
  | .rng1 => callTo sc (Str.ofString "range") 1 e
  | .rng2 => callTo sc (Str.ofString "range") 2 e
  | _ => none
/-- jc tells a class with this attribute -/
def clsHas (T : Info) (jc : Nat) (f : Str) : Bool := match T.cls[jc - T.fns.length]? with
  | some p => decide (T.fns.length ≤ jc) && decide (f ∈ p.2.1)
  | none => false
def metHas (T : Info) (jc : Nat) (m : Str) (j : Nat) : Bool := match T.cls[jc - T.fns.length]? with
  | some p => decide (T.fns.length ≤ jc) && decide ((m, j) ∈ p.2.2.2)
  | none => false
def mkHas (T : Info) (jc : Nat) (x : Str) (j : Nat) : Bool := match T.cls[jc - T.fns.length]? with
  | some p => decide (T.fns.length ≤ jc) && decide (x = p.1) && decide (j = p.2.2.1)
  | none => false
/-- the defaults behind n values of the def j -/
def dfsHas (T : Info) (j n : Nat) (ds : List PyData) : Bool := (ds.isEmpty) || T.dfs.any fun p => decide (p.1 = j) && decide (p.2.1 = n) && pdEq (.list p.2.2) (.list ds)
mutual
def chk (T : Info) : CE → Bool → Scope → List Str → Expr → Bool
  | .var i, _, sc, N, e => (match e with
    | .Name x _ => decide (N[i]? = some x) && vis sc x && okName x
    | _ => false)
  | .glob x d, _, sc, _, e => (match e with
    | .Name y _ => decide (x = y) && gl sc y && okName y && T.globs.any fun p => decide (p.1 = x) && pdEq p.2 d
    | _ => false)
  | .lit d, _, _, _, e => (match e with
    | .Constant c _ _ => litEq d c
    | _ => false)
  | .tup es, _, sc, N, e => (match e with
    | .Tuple es' _ _ => chks T es sc N es'
    | _ => false)
  | .fr _ o es, _, sc, N, e => (match o with
    | .disp => (match e with
      | .List es' _ => chks T es sc N es'
      | _ => false)
    | .sset => (match callTo sc (Str.ofString "sorted") 1 e with
      | some [e1] => (match callTo sc (Str.ofString "set") 1 e1 with
        | some es' => chks T es sc N es'
        | none => false)
      | _ => false)
    | o => (match callTo sc o.name 1 e with
      | some es' => chks T es sc N es'
      | none => false))
  | .bin o a b, _, sc, N, e => (match e with
    | .BinOp a' op b' _ => decide (op = o.op) && chk T a false sc N a' && chk T b false sc N b'
    | _ => false)
  | .neg a, _, sc, N, e => (match e with
    | .UnaryOp .USub a' _ => chk T a false sc N a'
    | _ => false)
  | .cmp o a b, _, sc, N, e => (match e with
    | .Compare a' [op] [b'] _ => decide (op = o.op) && chk T a false sc N a' && chk T b false sc N b' && !isSetE b'
    | _ => false)
  | .chain o p a b c, _, sc, N, e => (match e with
    | .Compare a' [op, op'] [b', c'] _ => decide (op = o.op) && decide (op' = p.op) && chk T a false sc N a' && chk T b false sc N b' && chk T c false sc N c' && !isSetE c'
    | _ => false)
  | .not a, t, sc, N, e => (match e with
    | .UnaryOp .Not a' _ => chk T a t sc N a'
    | _ => false)
  | .and a b, t, sc, N, e => (match e with
    | .BoolOp .And [a', b'] _ => chk T a t sc N a' && chk T b t sc N b'
    | .BoolOp .And (a' :: b' :: c' :: r) pos => chk T a t sc N a' && chk T b t sc N (.BoolOp .And (b' :: c' :: r) pos)
    | _ => false)
  | .or a b, t, sc, N, e => (match e with
    | .BoolOp .Or [a', b'] _ => chk T a t sc N a' && chk T b t sc N b'
    | .BoolOp .Or (a' :: b' :: c' :: r) pos => chk T a t sc N a' && chk T b t sc N (.BoolOp .Or (b' :: c' :: r) pos)
    | _ => false)
  | .ite c a b, t, sc, N, e => (match e with
    | .IfExp c' a' b' _ => !t && chk T c true sc N c' && chk T a false sc N a' && chk T b false sc N b'
    | _ => false)
  | .call _ f es, _, sc, N, e => (match e with
    | .Call (.Name x _) (e1 :: r) [] _ => decide (T.fns[f]? = some (some x)) && gl sc x && okName x && chks T es sc N (e1 :: r)
    | _ => false)
  | .bn b es, _, sc, N, e => (match e with
    | .Call (.Name x _) (e1 :: r) [] _ => decide (x = b.name) && gl sc x && chks T es sc N (e1 :: r)
    | _ => false)
  | .mt m o es, _, sc, N, e => (match e with
    | .Call (.Attribute o' name apos) es' [] cpos => decide (name = m.name) && plainObj o' && chk T o false sc N o' && chks T es sc N es' && (apos.endLine == cpos.line) && decide (es'.length < 3)
    | _ => false)
  | .dm m o es, _, sc, N, e => (match e with
    | .Call (.Attribute o' name apos) (e1 :: r) [] cpos => decide (name = m.name) && plainObj o' && chk T o false sc N o' && chks T es sc N (e1 :: r) && (apos.endLine == cpos.line) && decide ((e1 :: r).length < 3)
    | _ => false)
  | .idx a i, _, sc, N, e => (match e with
    | .Subscript a' i' _ => chk T a false sc N a' && chk T i false sc N i' && !isSlice i'
    | _ => false)
  | .slice a lo hi, _, sc, N, e => (match e with
    | .Subscript a' (.Slice lo' hi' none _) _ => chk T a false sc N a' && chks T lo sc N lo'.toList && chks T hi sc N hi'.toList
    | _ => false)
  | .isi a t, _, sc, N, e => (match e with
    | .Call (.Name x _) [e', .Name y _] [] _ => decide (x = Str.ofString "isinstance") && gl sc x && decide (y = Str.ofString t.name) && gl sc y && chk T a false sc N e' && !isStar e'
    | _ => false)
  | .comp _ own tg k src cnd elt, _, sc, N, e => (match e with
    | .ListComp elt' [⟨tg', iter, ifs, 0⟩] scope _ => (match iterOf k sc iter with
        | some es => chks T src sc N es
        | none => false) && !isSetE iter && blkC N sc scope (pairs N own) && decide ((pairs N own).map (·.2) = own) && chkTg (relS scope sc) N false tg tg' && tg.inB own &&
        chkc T cnd (relS scope sc) N ifs && chk T elt false (relS scope sc) N elt'
    | _ => false)
  | .callD _ f es ds, _, sc, N, e => (match e with
    | .Call (.Name x _) (e1 :: r) [] _ => decide (T.fns[f]? = some (some x)) && gl sc x && okName x && chks T es sc N (e1 :: r) && T.dfs.any fun p => decide (p.1 = f) && decide (p.2.1 = es.length) && pdEq (.list p.2.2) (.list ds)
    | _ => false)
  | .minK f a, _, sc, N, e => (match e with
    | .Call (.Name x _) [a'] [⟨some key, .Name y _, _⟩] _ => decide (x = Bn.min.name) && gl sc x && decide (key = Str.ofString "key") && decide (T.fns[f]? = some (some y)) && gl sc y && okName y && !isStar a' && chk T a false sc N a'
    | _ => false)
  | .fld jc e f, _, sc, N, e' => (match e' with
    | .Attribute o' f' _ => decide (f' = f) && plainObj o' && chk T e false sc N o' && clsHas T jc f
    | _ => false)
  | .mcall _ jc j m o es ds, _, sc, N, e' => (match e' with
    | .Call (.Attribute o' m' apos) es' [] cpos => decide (m' = m) && plainObj o' && (apos.endLine == cpos.line) && decide (es'.length < 20) && chk T o false sc N o' && chks T es sc N es' && metHas T jc m j && dfsHas T j (es.length + 1) ds
    | _ => false)
  | .make jc j es ds, _, sc, N, e' => (match e' with
    | .Call (.Name x _) es' [] _ => gl sc x && okName x && chks T es sc N es' && mkHas T jc x j && dfsHas T j (es.length + 1) ds
    | _ => false)
  | .catL _ a b, _, sc, N, e => (match e with
    | .BinOp a' op b' _ => decide (op = Bop.add.op) && chk T a false sc N a' && chk T b false sc N b'
    | _ => false)
  | .lrange _ a b, _, sc, N, e => (match e with
    | .Call (.Name x _) [.Call (.Name y _) [a', b'] [] _] [] _ => decide (x = Str.ofString "list") && decide (y = Str.ofString "range") && gl sc x && gl sc y && chk T a false sc N a' && chk T b false sc N b' && !isStar a' && !isStar b'
    | _ => false)
  | .stuckE, _, _, _, e => (match e with
    | .ListComp _ _ _ _ => false
    | .Tuple _ _ _ => false
    | _ => true)
def chkc (T : Info) : List CE → Scope → List Str → List Expr → Bool
  | [], _, _, es => es.isEmpty
  | c :: _, sc, N, es => (match es with
    | [c'] => chk T c true sc N c'
    | _ => false)
def chks (T : Info) : List CE → Scope → List Str → List Expr → Bool
  | [], _, _, es => es.isEmpty
  | c :: cs, sc, N, es => (match es with
    | e :: r => chk T c false sc N e && !isStar e && chks T cs sc N r
    | [] => false)
end

/-! ### the text's forms -/
theorem star_cons {e : Expr} {es : List Expr} {env : PySem.Env} (h : isStar e = false) : starEach (e :: es) env = (false, eval e env) :: starEach es env := by
  cases e <;> first | rfl | (simp [isStar] at h)
theorem chks_star {T : Info} {sc : Scope} {N : List Str} : ∀ {cs : List CE} {es : List Expr}, chks T cs sc N es = true → ∀ e ∈ es, isStar e = false
  | [], [], _, _, h => by simp at h
  | c :: cs, e :: es, h, x, hx => by
    have h : (chk T c false sc N e && !isStar e && chks T cs sc N es) = true := h
    simp only [Bool.and_eq_true, Bool.not_eq_true'] at h
    rcases List.mem_cons.mp hx with rfl | hx
    · exact h.1.2
    · exact chks_star h.2 x hx
  | [], _ :: _, h, _, _ => by cases h
  | _ :: _, [], h, _, _ => by cases h
theorem star_plain {es : List Expr} {env : PySem.Env} : (∀ e ∈ es, isStar e = false) → ∀ pos, (backTo pos (starEach es env)).any (·.1) = false := by
  induction es with
  | nil => intro _ _; rfl
  | cons e es ih =>
    intro h pos
    rw [star_cons (h e List.mem_cons_self)]
    show (false || (backTo pos (starEach es env)).any (·.1)) = false
    rw [Bool.false_or]
    exact ih (fun x hx => h x (List.mem_cons_of_mem _ hx)) pos
theorem star_all {es : List Expr} {env : PySem.Env} : (∀ e ∈ es, isStar e = false) → ∀ pos, (backTo pos (starEach es env)).all (fun x => !x.1) = true := by
  induction es with
  | nil => intro _ _; rfl
  | cons e es ih =>
    intro h pos
    rw [star_cons (h e List.mem_cons_self)]
    show (true && (backTo pos (starEach es env)).all (fun x => !x.1)) = true
    rw [Bool.true_and]
    exact ih (fun x hx => h x (List.mem_cons_of_mem _ hx)) pos
theorem plain_ix {e : Expr} (h : isSlice e = false) : PlainIx e := by
  intro o i
  cases e <;> first | rfl | (simp [isSlice] at h)
theorem not_set_in {e : Expr} (h : isSetE e = false) (op : CmpOp) : behindInMarks op e = false := by
  cases e <;> first | rfl | (simp [isSetE] at h)
theorem not_set_last {e b : Expr} {o p : CmpOp} (h : isSetE e = false) : lastMarks [o, p] [b, e] = false := by
  show lastMarks [p] [e] = false
  exact not_set_in h p
theorem not_set_iter {e : Expr} {env : PySem.Env} (h : isSetE e = false) : ∀ x, foldedSetIterable e env x = pure x := by
  intro x
  cases e <;> first | rfl | (simp [isSetE] at h)
theorem plain_true {e : Expr} {env : PySem.Env} (h : plainTest e = true) : ∀ whole, isTrue e env whole = (do let v ← whole; standAt e.pos; holding [v] (truthy v)) := by
  intro whole
  cases e with
  | UnaryOp op a p => cases op <;> first | rfl | (simp [plainTest] at h)
  | _ => first | rfl | (simp [plainTest] at h)
theorem plain_obj {e : Expr} {env : PySem.Env} {n : Str} (h : plainObj e = true) : attributeBase e n env (eval e env) = eval e env := by
  cases e <;> first | rfl | (simp [plainObj] at h)
theorem vis_of {sc : Scope} {x : Str} (h : vis sc x = true) : Vis sc x := by
  unfold vis at h
  split at h
  · exact .inl (by assumption)
  · exact .inr (.inl (by assumption))
  · exact .inr (.inr (by assumption))
  · cases h
theorem gl_of {X : Cx} {x : Str} (h : gl X.env.scope x = true) : Gl X x := by
  unfold gl at h
  split at h
  · assumption
  · cases h
theorem name_of {x : Str} (h : okName x = true) : (x == ("__debug__" : Str)) = false ∧ (x == ("__classdict__" : Str)) = false := by
  unfold okName at h
  simp only [Bool.and_eq_true, Bool.not_eq_true'] at h
  exact h
theorem bn_boot (b : Bn) : bootBuiltins b.name = some b.val := by cases b <;> decide +kernel
theorem bn_name (b : Bn) : b.name ≠ ("__name__" : Str) ∧ (b.name == ("__debug__" : Str)) = false := by cases b <;> decide +kernel
theorem fop_boot (o : Fop) (h : o ≠ .disp ∧ o ≠ .sset) : bootBuiltins o.name = some o.val := by cases o <;> first | exact absurd rfl h.1 | exact absurd rfl h.2 | decide +kernel
theorem fop_name (o : Fop) (h : o ≠ .disp ∧ o ≠ .sset) : o.name ≠ ("__name__" : Str) ∧ (o.name == ("__debug__" : Str)) = false := by cases o <;> first | exact absurd rfl h.1 | exact absurd rfl h.2 | decide +kernel
theorem ty_boot (t : Ty) : bootBuiltins (Str.ofString t.name) = some (.type t.name) := by cases t <;> decide +kernel
theorem ty_name (t : Ty) : Str.ofString t.name ≠ ("__name__" : Str) ∧ (Str.ofString t.name == ("__debug__" : Str)) = false := by cases t <;> decide +kernel

/-- the def j stands at fa and keeps to the evaluator -/
def FnAt (X : Cx) (cls : Nat → Option Value) (T : Info) (Φ : Fns) (j : Nat) (fa : Addr) : Prop := ∃ k fd ps n, FnOk X.prog X.w X.K X.mg X.base (L2.CX X.prog X.w) k fa fd ps (spOf X.K cls n (Φ j)) ∧ Room (k + 1) X.A ∧ (∀ xs S, xs.length ≠ n → Φ j xs S = .stuck) ∧ Binds X.K fd ps [] ∧
  ∀ p, p ∈ T.dfs → p.1 = j → ∃ dv dvs, Binds X.K fd ps dv ∧ Vals dvs dv ∧ ∀ G, DpAll X.K G dvs p.2.2
/-- the class at C is the one of p -/
structure KlsAt (X : Cx) (cls : Nat → Option Value) (T : Info) (Φ : Fns) (c : Nat) (p : Str × List Str × Nat × List (Str × Nat)) (C : Addr) : Prop where
  mg : X.mg p.1 = some (.ref C)
  cl : Cls X.K C
  no : ∀ f, f ∈ p.2.1 → NoAttr X.K C f
  nr : ∀ i S', Φ (T.fns.length + c) [] [] = .ok (.d (.int i)) S' → i = (C : Nat)
  mak : ∃ fa, Mk X.K C fa ∧ FnAt X cls T Φ p.2.2.1 fa
  me : ∀ m j, (m, j) ∈ p.2.2.2 → ∃ fa, Meth X.K C m fa ∧ FnAt X cls T Φ j fa
/-- the class of errors at C is the one of p -/
structure ErrAt (X : Cx) (cls : Nat → Option Value) (T : Info) (c : Nat) (p : Str × List Nat × Bool) (C : Addr) : Prop where
  mg : X.mg p.1 = some (.ref C)
  nr : p.2.2 = true → cls c = some (.ref C)
  ex : p.2.2 = true → PySem.W.excIn X.K C [.type "ValueError", .type "Exception", .type "BaseException", .type "object"] "ValueError.__new__" = true
  kp : p.2.2 = true → PySem.W.keepIn X.K (.ref C) = true
  rs : p.2.2 = true → Raises X (.ref C)
  ec : p.2.2 = true → ExcC X.K C
  rel : ∀ c' p' C', T.exs[c']? = some p' → cls c' = some (.ref C') → PySem.W.exmOne X.K (.ref C') (.ref C) = some (decide (c' ∈ p.2.1)) ∧ PySem.W.kitOne X.K (.ref C') (.ref C) = some (decide (c' ∈ p.2.1))
/-- what is known in a context -/
structure Ctx (X : Cx) (cls : Nat → Option Value) (W : WX) (T : Info) (Φ : Fns) : Prop where
  calm : X.calm = true
  nd : X.N.Nodup
  un : X.A.units + 65 < cLine
  bl : ∀ x u, bootBuiltins x = some u → x ∈ (["len", "int", "abs", "max", "min", "str", "tuple", "list", "sorted", "all", "any", "sum", "range", "isinstance", "bool", "enumerate", "zip", "set"] : List Str) → X.mg x = none
  gb : ∀ x d, (T.globs.any fun p => decide (p.1 = x) && pdEq p.2 d) = true → ∃ u v, X.mg x = some u ∧ RelV v u ∧ ∀ G, Dp X.K G v d
  fn : ∀ f x, T.fns[f]? = some (some x) → ∃ k fa fd ps n, FnOk X.prog X.w X.K X.mg X.base (L2.CX X.prog X.w) k fa fd ps (spOf X.K cls n (Φ f)) ∧ Room k X.A ∧ X.mg x = some (.ref fa) ∧ PySem.W.keepIn X.K (.ref fa) = true ∧ Binds X.K fd ps [] ∧ ∀ xs S, xs.length ≠ n → Φ f xs S = .stuck
  tk : Takes X W
  fnK : ∀ f x, T.fns[f]? = some (some x) → ∃ k fa fd ps n, FnOk X.prog X.w X.K X.mg X.base (L2.CX X.prog X.w) k fa fd ps (spOf X.K cls n (Φ f)) ∧ Room k X.A.in1 ∧ X.mg x = some (.ref fa) ∧ Binds X.K fd ps [] ∧ ∀ xs S, xs.length ≠ n → Φ f xs S = .stuck
  fnD : ∀ f x p, T.fns[f]? = some (some x) → p ∈ T.dfs → p.1 = f → ∃ k fa fd ps n dv dvs, FnOk X.prog X.w X.K X.mg X.base (L2.CX X.prog X.w) k fa fd ps (spOf X.K cls n (Φ f)) ∧ Room k X.A ∧ X.mg x = some (.ref fa) ∧ PySem.W.keepIn X.K (.ref fa) = true ∧ (Binds X.K fd ps dv ∧ Vals dvs dv ∧ ∀ G, DpAll X.K G dvs p.2.2) ∧ ∀ xs S, xs.length ≠ n → Φ f xs S = .stuck
  ca : ∀ c p, T.cls[c]? = some p → ∃ C, KlsAt X cls T Φ c p C
  xa : ∀ c p, T.exs[c]? = some p → ∃ C, ErrAt X cls T c p C
  xn : ∀ c u, cls c = some u → ∃ p C, T.exs[c]? = some p ∧ p.2.2 = true ∧ u = .ref C
end PW

set_option maxHeartbeats 1000000
namespace PW
open PySem PySem.Spec PyProof.Rows L2
/-! PW4c: one rule a construct -/
def SE (X : Cx) (cls : Nat → Option Value) (W : WX) (e : Expr) (m : Env → Store → Res PV) : Prop := ∀ env S, PE X e (tR (cfX X cls) W (RVc (cfX X cls)) env S (m env S))
def ST (X : Cx) (cls : Nat → Option Value) (W : WX) (e : Expr) (m : Env → Store → Res PV) : Prop := ∀ env S, PT X e (tR (cfX X cls) W RB env S (asBool (m env S)))
def SA (X : Cx) (cls : Nat → Option Value) (W : WX) (es : List Expr) (m : Env → Store → Res (List PV)) : Prop := ∀ env S, PA X es (tR (cfX X cls) W (RVsc (cfX X cls)) env S (m env S))
section
variable {X : Cx} {cls : Nat → Option Value} {W : WX} {a b c e : Expr} {ma mb mc : Env → Store → Res PV} {pos : Pos}
theorem valOf_eq {α : Type} {d x : α} {r : Res α} {S : Store} (h : r = .ok x S) : valOf d r = x ∧ stOf r = S := by subst h; exact ⟨rfl, rfl⟩

theorem truth_tru {g : Gs} {S : Store} {H : Hp} {x : PV} {v : V} {k : Bool} (rep : Rep X.K g S H) (r : RV X.K g S.length v x) (h : truth S x = some k) : TruV X.K v H k := by
  have seq : ∀ {t : Bool} {xs : List PV}, seqOf S x = some (t, xs) → k = !xs.isEmpty → TruV X.K v H k := fun {t xs} e ek => by
    obtain ⟨a, vs, rfl, rs, _, hT, hL⟩ := seq_get rep r e
    have ee : xs.isEmpty = vs.isEmpty := by have := rs.length; cases xs <;> cases vs <;> simp at this ⊢
    rw [ee] at ek
    cases t with
    | true => exact .inr (.inl ⟨vs, hT rfl, ek⟩)
    | false => exact .inl ⟨vs, hL rfl, ek⟩
  unfold truth at h
  split at h
  · cases rv_none r; cases h; rfl
  · cases rv_bool r; cases h; rfl
  · cases rv_int r; cases h; rfl
  · split at h
    · rename_i hl
      cases rv_str r; cases h; exact ⟨hl, rfl⟩
    · cases h
  · obtain ⟨p, e1, e2⟩ := Option.map_eq_some_iff.mp h
    obtain ⟨t, xs⟩ := p
    exact seq e1 e2.symm
theorem post_truth {g : Gs} {S : Store} {H : Hp} {x : PV} {v : V} {Q : Bool → Hp → Prop} (rep : Rep X.K g S H) (r : RV X.K g S.length v x)
    (h : Post (cfX X cls) W RB S.length S.length g H (orStuck ((truth S x).map fun b => .d (.bool b)) S) Q) : ∃ k, TruV X.K v H k ∧ Q k H := by
  cases e : truth S x with
  | none => rw [e] at h; exact (show False from h).elim
  | some k =>
    rw [e] at h
    exact ⟨k, truth_tru rep r e, h g H k (Ext.refl (Nat.le_refl _)) rep rfl⟩
theorem st_plain (h : SE X cls W e ma) (hp : plainTest e = true) : ST X cls W e ma := fun env S => by
  refine PT.imp (pt_truth (h env S) (plain_true hp)) ?_
  rintro σ H Q ⟨g, rep, er, q⟩
  exact Post.bind rep er q fun x S1 g1 H1 v e1 ex rep1 er1 rv q1 => post_truth rep1 rv q1

theorem se_var {i : Nat} {x : Str} (hN : X.N[i]? = some x) (hv : vis X.env.scope x = true) (ho : okName x = true) : SE X cls W (.Name x pos) fun env S => orStuck (env.get i) S := fun env S => by
  refine PE.imp (pe_var hN (vis_of hv) (name_of ho).1 (name_of ho).2) ?_
  rintro σ H Q ⟨g, rep, er, q⟩
  dsimp only [Env.get] at q
  cases h : env[i]? with
  | none => rw [h] at q; exact (show False from q).elim
  | some o =>
    rw [h] at q
    cases o with
    | none => exact (show False from q).elim
    | some y =>
      obtain ⟨v, h1, h2⟩ := er.2 i y h
      exact ⟨v, h1, q g H v (Ext.refl (Nat.le_refl _)) rep h2⟩
theorem se_glob {x : Str} {d : PyData} {u : Value} {v : V} (hg : gl X.env.scope x = true) (ho : okName x = true) (hm : X.mg x = some u) (r : RelV v u) (hd : ∀ G, Dp X.K G v d) : SE X cls W (.Name x pos) fun env S => .ok (.d d) S := fun env S => by
  refine PE.imp (pe_glob (gl_of hg) hm r (name_of ho).1) ?_
  rintro σ H Q ⟨g, rep, er, q⟩
  exact q g H v (Ext.refl (Nat.le_refl _)) rep (.d (hd _))
theorem se_lit {d : PyData} {v : V} (h : PE X e (tC v)) (hd : ∀ G, Dp X.K G v d) : SE X cls W e fun env S => .ok (.d d) S := fun env S => by
  refine PE.imp h ?_
  rintro σ H Q ⟨g, rep, er, q⟩
  exact q g H v (Ext.refl (Nat.le_refl _)) rep (.d (hd _))

theorem sa_nil : SA X cls W [] fun env S => .ok [] S := fun env S => by
  refine PA.imp pa_nil ?_
  rintro σ H Q ⟨g, rep, er, q⟩
  exact q g H [] (Ext.refl (Nat.le_refl _)) rep .nil
theorem sa_cons {es : List Expr} {ms : Env → Store → Res (List PV)} (hs : isStar e = false) (ha : SE X cls W e ma) (hb : SA X cls W es ms) : SA X cls W (e :: es) fun env S => (ma env S).bind fun v S1 => (ms env S1).bind fun vs S2 => .ok (v :: vs) S2 := fun env S => by
  refine PA.imp (pa_cons (ha env S) (hb env (stOf (ma env S))) (star_cons hs)) ?_
  rintro σ H Q ⟨g, rep, er, q⟩
  refine Post.bind rep er q fun x S1 g1 H1 v e1 ex rep1 er1 rv q1 => ?_
  rw [(valOf_eq (d := pv0) e1).2]
  refine Post.bind rep1 er1 q1 fun xs S2 g2 H2 vs e2 ex2 rep2 er2 rvs q2 => ?_
  exact q2 g2 H2 (v :: vs) (Ext.refl (Nat.le_refl _)) rep2 (.cons (rv.up ex2.up) rvs)

theorem se_bin (o : Bop) (ha : SE X cls W a ma) (hb : SE X cls W b mb) : SE X cls W (.BinOp a o.op b pos) fun env S => (ma env S).bind fun x S1 => (mb env S1).bind fun y S2 => orStuck (binop o x y) S2 := fun env S => by
  refine PE.imp (pe_op (op_bin (cls := cls) (W := W) o (valOf pv0 (ma env S)) (valOf pv0 (mb env (stOf (ma env S)))) (stOf (mb env (stOf (ma env S))))) (ha env S) (hb env (stOf (ma env S)))) ?_
  rintro σ H Q ⟨g, rep, er, q⟩
  refine Post.bind rep er q fun x S1 g1 H1 v e1 ex rep1 er1 rv q1 => ?_
  obtain ⟨z1, z2⟩ := valOf_eq (d := pv0) e1
  rw [z1, z2]
  refine Post.bind rep1 er1 q1 fun y S2 g2 H2 u e2 ex2 rep2 er2 ru q2 => ?_
  obtain ⟨z3, z4⟩ := valOf_eq (d := pv0) e2
  rw [z3, z4]
  exact ⟨g2, rep2, rv.up ex2.up, ru, q2⟩
theorem se_neg (ha : SE X cls W a ma) : SE X cls W (.UnaryOp .USub a pos) fun env S => (ma env S).bind fun x S1 => match x with
    | .d (.int i) => .ok (.d (.int (-i))) S1
    | _ => .stuck := fun env S => by
  refine PE.imp (pe_un un_neg (ha env S)) ?_
  rintro σ H Q ⟨g, rep, er, q⟩
  refine Post.bind rep er q fun x S1 g1 H1 v e1 ex rep1 er1 rv q1 => ?_
  split at q1
  · cases rv_int rv
    exact ⟨_, rfl, q1 g1 H1 _ (Ext.refl (Nat.le_refl _)) rep1 (.d (.int _))⟩
  · exact (show False from q1).elim
theorem se_cmp (hu : X.A.units + 64 < cLine) (o : Cop) (ha : SE X cls W a ma) (hb : SE X cls W b mb) (hm : isSetE b = false) : SE X cls W (.Compare a [o.op] [b] pos) fun env S => (ma env S).bind fun x S1 => (mb env S1).bind fun y S2 => orStuck ((cmpop S2 o x y).map fun k => .d (.bool k)) S2 := fun env S => by
  refine PE.imp (pe_cmpR (op_cmp (cls := cls) (W := W) hu o (valOf pv0 (ma env S)) (valOf pv0 (mb env (stOf (ma env S)))) (stOf (mb env (stOf (ma env S))))) (ha env S) (hb env (stOf (ma env S))) (not_set_in hm _)) ?_
  rintro σ H Q ⟨g, rep, er, q⟩
  refine Post.bind rep er q fun x S1 g1 H1 v e1 ex rep1 er1 rv q1 => ?_
  obtain ⟨z1, z2⟩ := valOf_eq (d := pv0) e1
  rw [z1, z2]
  refine Post.bind rep1 er1 q1 fun y S2 g2 H2 u e2 ex2 rep2 er2 ru q2 => ?_
  obtain ⟨z3, z4⟩ := valOf_eq (d := pv0) e2
  rw [z3, z4]
  exact ⟨g2, rep2, rv.up ex2.up, ru, q2⟩
/-- a result that is a truth value, as a test -/
theorem asBool_bl {o : Option Bool} {S : Store} : asBool (orStuck (o.map fun k => PV.d (.bool k)) S) = orStuck (o.map fun k => PV.d (.bool k)) S := by cases o <;> rfl
theorem asBool_bind {α : Type} (r : Res α) (f : α → Store → Res PV) : asBool (r.bind f) = r.bind fun x S => asBool (f x S) := by cases r <;> rfl
theorem post_test {g : Gs} {n : Nat} {H : Hp} {o : Option Bool} {S : Store} {Q : Bool → Hp → Prop} (h : Post (cfX X cls) W RB n n g H (orStuck (o.map fun k => PV.d (.bool k)) S) Q) :
    Post (cfX X cls) W (RVc (cfX X cls)) n n g H (orStuck (o.map fun k => PV.d (.bool k)) S) (fun x H' => ∃ k, x = .bl k ∧ Q k H') := by
  cases o with
  | none => exact h
  | some k => exact fun g' H' v ex rep rv => ⟨k, rv_bool rv, h g' H' k ex rep rfl⟩
theorem st_cmp (hu : X.A.units + 64 < cLine) (o : Cop) (ha : SE X cls W a ma) (hb : SE X cls W b mb) (hm : isSetE b = false) : ST X cls W (.Compare a [o.op] [b] pos) fun env S => (ma env S).bind fun x S1 => (mb env S1).bind fun y S2 => orStuck ((cmpop S2 o x y).map fun k => .d (.bool k)) S2 := fun env S => by
  refine PT.imp (pt_cmpR (op_cmp (cls := cls) (W := W) hu o (valOf pv0 (ma env S)) (valOf pv0 (mb env (stOf (ma env S)))) (stOf (mb env (stOf (ma env S))))) (ha env S) (hb env (stOf (ma env S))) (not_set_in hm _)) ?_
  rintro σ H Q ⟨g, rep, er, q⟩
  rw [asBool_bind] at q
  refine Post.bind rep er q fun x S1 g1 H1 v e1 ex rep1 er1 rv q1 => ?_
  obtain ⟨z1, z2⟩ := valOf_eq (d := pv0) e1
  rw [z1, z2]
  rw [asBool_bind] at q1
  refine Post.bind rep1 er1 q1 fun y S2 g2 H2 u e2 ex2 rep2 er2 ru q2 => ?_
  obtain ⟨z3, z4⟩ := valOf_eq (d := pv0) e2
  rw [z3, z4]
  rw [asBool_bl] at q2
  exact ⟨g2, rep2, rv.up ex2.up, ru, post_test q2⟩
def chainM (o p : Cop) (ma mb mc : Env → Store → Res PV) (env : Env) (S : Store) : Res PV := (ma env S).bind fun x S1 => (mb env S1).bind fun y S2 => match cmpop S2 o x y with
    | some true => (mc env S2).bind fun z S3 => orStuck ((cmpop S3 p y z).map fun k => .d (.bool k)) S3
    | some false => .ok (.d (.bool false)) S2
    | none => .stuck
theorem se_chain (hu : X.A.units + 64 < cLine) (o p : Cop) (ha : SE X cls W a ma) (hb : SE X cls W b mb) (hc : SE X cls W c mc) (hm : isSetE c = false) : SE X cls W (.Compare a [o.op, p.op] [b, c] pos) (chainM o p ma mb mc) := fun env S => by
  refine PE.imp (pe_chain (op_cmp (cls := cls) (W := W) hu o (valOf pv0 (ma env S)) (valOf pv0 (mb env (stOf (ma env S)))) (stOf (mb env (stOf (ma env S)))))
    (op_cmp (cls := cls) (W := W) hu p (valOf pv0 (mb env (stOf (ma env S)))) (valOf pv0 (mc env (stOf (mb env (stOf (ma env S)))))) (stOf (mc env (stOf (mb env (stOf (ma env S))))))) (ha env S) (hb env (stOf (ma env S))) (hc env (stOf (mb env (stOf (ma env S))))) (not_set_last hm)) ?_
  rintro σ H Q ⟨g, rep, er, q⟩
  refine Post.bind rep er q fun x S1 g1 H1 v e1 ex rep1 er1 rv q1 => ?_
  obtain ⟨z1, z2⟩ := valOf_eq (d := pv0) e1
  rw [z1, z2]
  refine Post.bind rep1 er1 q1 fun y S2 g2 H2 u e2 ex2 rep2 er2 ru q2 => ?_
  obtain ⟨z3, z4⟩ := valOf_eq (d := pv0) e2
  rw [z3, z4]
  refine ⟨g2, rep2, rv.up ex2.up, ru, ?_⟩
  cases hk : cmpop S2 o x y with
  | none => rw [hk] at q2; exact (show False from q2).elim
  | some k =>
    rw [hk] at q2
    intro g3 H3 z ex3 rep3 rz
    refine ⟨k, rv_bool rz, ?_⟩
    cases k with
    | true =>
      rw [if_pos rfl]
      refine Post.bind rep3 (er2.up ex3.up) (Post.move q2 ex3) fun w S4 g4 H4 t e4 ex4 rep4 er4 rt q4 => ?_
      obtain ⟨z5, z6⟩ := valOf_eq (d := pv0) e4
      rw [z5, z6]
      exact ⟨g4, rep4, (ru.up ex3.up).up ex4.up, rt, q4⟩
    | false =>
      rw [if_neg Bool.false_ne_true]
      exact q2 g3 H3 _ ex3 rep3 (.d (.bl false))
theorem st_chain (hu : X.A.units + 64 < cLine) (o p : Cop) (ha : SE X cls W a ma) (hb : SE X cls W b mb) (hc : SE X cls W c mc) (hm : isSetE c = false) : ST X cls W (.Compare a [o.op, p.op] [b, c] pos) (chainM o p ma mb mc) := fun env S => by
  refine PT.imp (pt_chain (op_cmp (cls := cls) (W := W) hu o (valOf pv0 (ma env S)) (valOf pv0 (mb env (stOf (ma env S)))) (stOf (mb env (stOf (ma env S)))))
    (op_cmp (cls := cls) (W := W) hu p (valOf pv0 (mb env (stOf (ma env S)))) (valOf pv0 (mc env (stOf (mb env (stOf (ma env S)))))) (stOf (mc env (stOf (mb env (stOf (ma env S))))))) (ha env S) (hb env (stOf (ma env S))) (hc env (stOf (mb env (stOf (ma env S))))) (not_set_last hm)) ?_
  rintro σ H Q ⟨g, rep, er, q⟩
  unfold chainM at q
  rw [asBool_bind] at q
  refine Post.bind rep er q fun x S1 g1 H1 v e1 ex rep1 er1 rv q1 => ?_
  obtain ⟨z1, z2⟩ := valOf_eq (d := pv0) e1
  rw [z1, z2]
  rw [asBool_bind] at q1
  refine Post.bind rep1 er1 q1 fun y S2 g2 H2 u e2 ex2 rep2 er2 ru q2 => ?_
  obtain ⟨z3, z4⟩ := valOf_eq (d := pv0) e2
  rw [z3, z4]
  refine ⟨g2, rep2, rv.up ex2.up, ru, ?_⟩
  cases hk : cmpop S2 o x y with
  | none => rw [hk] at q2; exact (show False from q2).elim
  | some k =>
    rw [hk] at q2
    intro g3 H3 z ex3 rep3 rz
    refine ⟨k, rv_bool rz, ?_⟩
    cases k with
    | true =>
      rw [if_pos rfl]
      have q2 : Post (cfX X cls) W RB S2.length S2.length g2 H2 (asBool ((mc env S2).bind fun z S3 => orStuck ((cmpop S3 p y z).map fun k => .d (.bool k)) S3)) Q := q2
      rw [asBool_bind] at q2
      refine Post.bind rep3 (er2.up ex3.up) (Post.move q2 ex3) fun w S4 g4 H4 t e4 ex4 rep4 er4 rt q4 => ?_
      obtain ⟨z5, z6⟩ := valOf_eq (d := pv0) e4
      rw [z5, z6]
      rw [asBool_bl] at q4
      exact ⟨g4, rep4, (ru.up ex3.up).up ex4.up, rt, post_test q4⟩
    | false =>
      rw [if_neg Bool.false_ne_true]
      exact ⟨false, rfl, q2 g3 H3 false ex3 rep3 rfl⟩

/-! not, and, or, if -/
def notM (ma : Env → Store → Res PV) (env : Env) (S : Store) : Res PV := (asBool (ma env S)).bind fun v S1 => match v with
    | .d (.bool k) => .ok (.d (.bool (!k))) S1
    | _ => .stuck
theorem se_not (ha : SE X cls W a ma) : SE X cls W (.UnaryOp .Not a pos) (notM ma) := fun env S => by
  refine PE.imp (pe_notT (ha env S)) ?_
  rintro σ H Q ⟨g, rep, er, q⟩
  unfold notM asBool at q
  have q : Post (cfX X cls) W (RVc (cfX X cls)) S.length S.length g H ((ma env S).bind fun v S1 => (orStuck ((truth S1 v).map fun b => PV.d (.bool b)) S1).bind fun v S1 => match v with
    | .d (.bool k) => .ok (.d (.bool (!k))) S1
    | _ => .stuck) Q := by cases h : ma env S <;> rw [h] at q <;> exact q
  refine Post.bind rep er q fun x S1 g1 H1 v e1 ex rep1 er1 rv q1 => ?_
  cases hk : truth S1 x with
  | none => rw [hk] at q1; exact (show False from q1).elim
  | some k =>
    rw [hk] at q1
    exact ⟨k, truth_tru rep1 rv hk, q1 g1 H1 _ (Ext.refl (Nat.le_refl _)) rep1 (.d (.bl _))⟩
theorem asBool_ok {r : Res PV} {x : PV} {S : Store} (h : asBool r = .ok x S) : ∃ k, x = .d (.bool k) := by
  unfold asBool at h
  cases r with
  | ok v S' =>
    have h : orStuck ((truth S' v).map fun b => PV.d (.bool b)) S' = .ok x S := h
    cases hk : truth S' v with
    | none => rw [hk] at h; cases h
    | some k => rw [hk] at h; cases h; exact ⟨k, rfl⟩
  | err c as S' => cases h
  | stuck => cases h
theorem asBool_idem (r : Res PV) : asBool (asBool r) = asBool r := by
  cases h : asBool r with
  | ok x S =>
    obtain ⟨k, rfl⟩ := asBool_ok h
    rfl
  | err c as S => rfl
  | stuck => rfl
theorem st_not (ha : ST X cls W a ma) : ST X cls W (.UnaryOp .Not a pos) (notM ma) := fun env S => by
  refine PT.imp (pt_not (ha env S)) ?_
  rintro σ H Q ⟨g, rep, er, q⟩
  unfold notM at q
  rw [asBool_bind] at q
  refine Post.bind rep er q fun x S1 g1 H1 k e1 ex rep1 er1 rv q1 => ?_
  have rv : x = .d (.bool k) := rv
  subst rv
  exact q1 g1 H1 (!k) (Ext.refl (Nat.le_refl _)) rep1 rfl
def andM (ma mb : Env → Store → Res PV) (env : Env) (S : Store) : Res PV := (ma env S).bind fun v S1 => match v with
    | .d (.bool true) => mb env S1
    | .d (.bool false) => .ok (.d (.bool false)) S1
    | _ => .stuck
def orM (ma mb : Env → Store → Res PV) (env : Env) (S : Store) : Res PV := (ma env S).bind fun v S1 => match v with
    | .d (.bool false) => mb env S1
    | .d (.bool true) => .ok (.d (.bool true)) S1
    | _ => .stuck
def andT (ma mb : Env → Store → Res PV) (env : Env) (S : Store) : Res PV := (asBool (ma env S)).bind fun v S1 => match v with
    | .d (.bool true) => asBool (mb env S1)
    | v => .ok v S1
def orT (ma mb : Env → Store → Res PV) (env : Env) (S : Store) : Res PV := (asBool (ma env S)).bind fun v S1 => match v with
    | .d (.bool false) => asBool (mb env S1)
    | v => .ok v S1
theorem se_and {rest : List Expr} (ha : SE X cls W a ma) (hb : SE X cls W (.BoolOp .And (b :: rest) pos) mb) : SE X cls W (.BoolOp .And (a :: b :: rest) pos) (andM ma mb) := fun env S => by
  refine PE.imp (pe_and (ha env S) (hb env (stOf (ma env S)))) ?_
  rintro σ H Q ⟨g, rep, er, q⟩
  refine Post.bind rep er q fun x S1 g1 H1 v e1 ex rep1 er1 rv q1 => ?_
  rw [(valOf_eq (d := pv0) e1).2]
  split at q1
  · cases rv_bool rv
    exact ⟨true, rfl, by rw [if_pos rfl]; exact ⟨g1, rep1, er1, q1⟩⟩
  · cases rv_bool rv
    exact ⟨false, rfl, by rw [if_neg Bool.false_ne_true]; exact q1 g1 H1 _ (Ext.refl (Nat.le_refl _)) rep1 (.d (.bl _))⟩
  · exact (show False from q1).elim
theorem se_or {rest : List Expr} (ha : SE X cls W a ma) (hb : SE X cls W (.BoolOp .Or (b :: rest) pos) mb) : SE X cls W (.BoolOp .Or (a :: b :: rest) pos) (orM ma mb) := fun env S => by
  refine PE.imp (pe_or (ha env S) (hb env (stOf (ma env S)))) ?_
  rintro σ H Q ⟨g, rep, er, q⟩
  refine Post.bind rep er q fun x S1 g1 H1 v e1 ex rep1 er1 rv q1 => ?_
  rw [(valOf_eq (d := pv0) e1).2]
  split at q1
  · cases rv_bool rv
    exact ⟨false, rfl, by rw [if_neg Bool.false_ne_true]; exact ⟨g1, rep1, er1, q1⟩⟩
  · cases rv_bool rv
    exact ⟨true, rfl, by rw [if_pos rfl]; exact q1 g1 H1 _ (Ext.refl (Nat.le_refl _)) rep1 (.d (.bl _))⟩
  · exact (show False from q1).elim
theorem se_one {op : BoolOp} (h : SE X cls W a ma) : SE X cls W (.BoolOp op [a] pos) ma := fun env S => pe_one (h env S)
theorem pw_of_pt {op : BoolOp} {vs : List Expr} {t : TT} (h : PT X (.BoolOp op vs pos) t) : L2.PW X (.BoolOp op vs pos) t := ⟨fun wh pins s σ H Q I q => by
  have := h.run pins s σ H Q I q
  unfold PySem.isTrue at this ⊢
  exact this⟩
theorem st_one {op : BoolOp} (h : ST X cls W a ma) : ST X cls W (.BoolOp op [a] pos) ma := fun env S => by
  cases op with
  | And => exact (pw_and1 (h env S)).pt
  | Or => exact (pw_or1 (h env S)).pt
theorem st_and {rest : List Expr} (ha : ST X cls W a ma) (hb : ST X cls W (.BoolOp .And (b :: rest) pos) mb) : ST X cls W (.BoolOp .And (a :: b :: rest) pos) (andT ma mb) := fun env S => by
  refine PT.imp (pw_and (ha env S) (pw_of_pt (hb env (stOf (asBool (ma env S)))))).pt ?_
  rintro σ H Q ⟨g, rep, er, q⟩
  unfold andT at q
  rw [asBool_bind] at q
  refine Post.bind rep er q fun x S1 g1 H1 k e1 ex rep1 er1 rv q1 => ?_
  rw [(valOf_eq (d := pv0) e1).2]
  have rv : x = .d (.bool k) := rv
  subst rv
  cases k with
  | true =>
    rw [if_pos rfl]
    have q1 : Post (cfX X cls) W RB S1.length S1.length g1 H1 (asBool (asBool (mb env S1))) Q := q1
    rw [asBool_idem] at q1
    exact ⟨g1, rep1, er1, q1⟩
  | false =>
    rw [if_neg Bool.false_ne_true]
    exact q1 g1 H1 false (Ext.refl (Nat.le_refl _)) rep1 rfl
theorem st_or {rest : List Expr} (ha : ST X cls W a ma) (hb : ST X cls W (.BoolOp .Or (b :: rest) pos) mb) : ST X cls W (.BoolOp .Or (a :: b :: rest) pos) (orT ma mb) := fun env S => by
  refine PT.imp (pw_or (ha env S) (pw_of_pt (hb env (stOf (asBool (ma env S)))))).pt ?_
  rintro σ H Q ⟨g, rep, er, q⟩
  unfold orT at q
  rw [asBool_bind] at q
  refine Post.bind rep er q fun x S1 g1 H1 k e1 ex rep1 er1 rv q1 => ?_
  rw [(valOf_eq (d := pv0) e1).2]
  have rv : x = .d (.bool k) := rv
  subst rv
  cases k with
  | false =>
    rw [if_neg Bool.false_ne_true]
    have q1 : Post (cfX X cls) W RB S1.length S1.length g1 H1 (asBool (asBool (mb env S1))) Q := q1
    rw [asBool_idem] at q1
    exact ⟨g1, rep1, er1, q1⟩
  | true =>
    rw [if_pos rfl]
    exact q1 g1 H1 true (Ext.refl (Nat.le_refl _)) rep1 rfl
def iteM (mc ma mb : Env → Store → Res PV) (env : Env) (S : Store) : Res PV := (asBool (mc env S)).bind fun v S1 => match v with
    | .d (.bool true) => ma env S1
    | .d (.bool false) => mb env S1
    | _ => .stuck
theorem se_ite (hc : ST X cls W c mc) (ha : SE X cls W a ma) (hb : SE X cls W b mb) : SE X cls W (.IfExp c a b pos) (iteM mc ma mb) := fun env S => by
  refine PE.imp (pe_ifExp (hc env S) (ha env (stOf (asBool (mc env S)))) (hb env (stOf (asBool (mc env S))))) ?_
  rintro σ H Q ⟨g, rep, er, q⟩
  refine Post.bind rep er q fun x S1 g1 H1 k e1 ex rep1 er1 rv q1 => ?_
  rw [(valOf_eq (d := pv0) e1).2]
  have rv : x = .d (.bool k) := rv
  subst rv
  cases k with
  | true => rw [if_pos rfl]; exact ⟨g1, rep1, er1, q1⟩
  | false => rw [if_neg Bool.false_ne_true]; exact ⟨g1, rep1, er1, q1⟩
end
end PW

set_option maxHeartbeats 1000000
namespace PW
open PySem PySem.Spec PyProof.Rows L2
section
variable {X : Cx} {cls : Nat → Option Value} {W : WX} {a b c e : Expr} {es : List Expr} {ma mb mc : Env → Store → Res PV} {ms : Env → Store → Res (List PV)} {pos p apos : Pos}
theorem se_tup {k : Nat} (h : SA X cls W es ms) : SE X cls W (.Tuple es k pos) fun env S => (ms env S).bind fun vs S1 => if vs.length ≤ sizeLine then .ok (mkTup vs) S1 else .stuck := fun env S => by
  refine PE.imp (pe_tup (h env S)) ?_
  rintro σ H Q ⟨g, rep, er, q⟩
  refine Post.bind rep er q fun xs S1 g1 H1 vs e1 ex rep1 er1 rvs q1 => ?_
  have rvs : RVs X.K g1 S1.length vs xs := rvs
  have hl := rvs.length
  split at q1
  · rename_i hz
    exact ⟨by omega, fun p hp => post_laid q1 rep1 hp (RV.tup_mk (.of laid_at) (rvs.up (up_laid rep1 hp)))⟩
  · exact (show False from q1).elim
theorem se_disp {al : Bool} (h : SA X cls W es ms) : SE X cls W (.List es pos) fun env S => (ms env S).bind fun vs S1 => froR S1 al (frop S1 .disp vs) := fun env S => by
  refine PE.imp (pe_lst (h env S)) ?_
  rintro σ H Q ⟨g, rep, er, q⟩
  refine Post.bind rep er q fun xs S1 g1 H1 vs e1 ex rep1 er1 rvs q1 => ?_
  have rvs : RVs X.K g1 S1.length vs xs := rvs
  have hl := rvs.length
  dsimp only [frop] at q1
  split at q1
  · rename_i hz
    exact ⟨by omega, fin_ok q1 rep1 rvs⟩
  · exact (show False from q1).elim
theorem nonempty {es : List Expr} (h : es ≠ []) : ∃ e r, es = e :: r := by
  cases es with
  | nil => exact absurd rfl h
  | cons e r => exact ⟨e, r, rfl⟩
/-- a built-in called with values -/
theorem se_callR {x : Str} {v : Value} {F : List PV → Store → Res PV} (hv : (∃ id, v = .builtin id) ∨ ∃ T, v = .type T) (hc : ∀ xs S, CallR X v (tVs X cls W xs S (F xs S))) (hg : gl X.env.scope x = true) (hm : X.mg x = none) (hb : bootBuiltins x = some v)
    (hn : x ≠ ("__name__" : Str) ∧ (x == ("__debug__" : Str)) = false) (hne : es ≠ []) (hs : ∀ e ∈ es, isStar e = false) (h : SA X cls W es ms) : SE X cls W (.Call (.Name x p) es [] pos) fun env S => (ms env S).bind fun vs S1 => F vs S1 := fun env S => by
  obtain ⟨e, r, rfl⟩ := nonempty hne
  have he := star_cons (es := r) (env := X.env) (hs e List.mem_cons_self)
  have hp := star_plain (env := X.env) (fun x hx => hs x (List.mem_cons_of_mem _ hx)) pos
  have t : ∀ σ H Q, tR (cfX X cls) W (RVc (cfX X cls)) env S ((ms env S).bind fun vs S1 => F vs S1) σ H Q → tCB (tVs X cls W (valOf [] (ms env S)) (stOf (ms env S)) (F (valOf [] (ms env S)) (stOf (ms env S)))) (tR (cfX X cls) W (RVsc (cfX X cls)) env S (ms env S)) σ H Q := by
    rintro σ H Q ⟨g, rep, er, q⟩
    refine Post.bind rep er q fun xs S1 g1 H1 vs e1 ex rep1 er1 rvs q1 => ?_
    obtain ⟨z1, z2⟩ := valOf_eq (d := ([] : List PV)) e1
    rw [z1, z2]
    exact ⟨g1, rep1, rvs, q1⟩
  rcases hv with ⟨id, rfl⟩ | ⟨T, rfl⟩
  · exact PE.imp (pe_callB (hc _ _) (gl_of hg) hm hb (h env S) hn.1 hn.2 he hp) t
  · exact PE.imp (pe_callTy (hc _ _) (gl_of hg) hm hb (h env S) hn.1 hn.2 he hp) t
theorem bn_kind (b : Bn) : (∃ id, b.val = .builtin id) ∨ ∃ T, b.val = .type T := by cases b <;> first | exact .inl ⟨_, rfl⟩ | exact .inr ⟨_, rfl⟩
theorem fop_kind (o : Fop) (h : o ≠ .disp ∧ o ≠ .sset) : (∃ id, o.val = .builtin id) ∨ ∃ T, o.val = .type T := by cases o <;> first | exact absurd rfl h.1 | exact absurd rfl h.2 | exact .inl ⟨_, rfl⟩ | exact .inr ⟨_, rfl⟩

/-- a def called -/
theorem se_call {x : Str} {al : Bool} {k n : Nat} {fa : Addr} {fd : FuncData} {ps : List Str} {F : List PV → Store → Res PV} (tk : Takes X W) (G : FnOk X.prog X.w X.K X.mg X.base (L2.CX X.prog X.w) k fa fd ps (spOf X.K cls n F)) (hr : Room k X.A) (hm : X.mg x = some (.ref fa))
    (hk : PySem.W.keepIn X.K (.ref fa) = true) (hb : Binds X.K fd ps []) (hg : gl X.env.scope x = true) (ho : okName x = true) (hne : es ≠ []) (hs : ∀ e ∈ es, isStar e = false) (hF : ∀ xs S, xs.length ≠ n → F xs S = .stuck) (h : SA X cls W es ms) :
    SE X cls W (.Call (.Name x p) es [] pos) fun env S => (ms env S).bind fun vs S1 => (F vs S1).bind fun v S2 => back al S1.length v S2 := fun env S => by
  obtain ⟨e, r, rfl⟩ := nonempty hne
  have he := star_cons (es := r) (env := X.env) (hs e List.mem_cons_self)
  have hp := star_plain (env := X.env) (fun x hx => hs x (List.mem_cons_of_mem _ hx)) pos
  refine PE.imp (pe_callS (E := WE W) G hr (gl_of hg) hm hk hb (fun σ => passAt tk σ) (h env S) (name_of ho).1 he hp) ?_
  rintro σ H Q ⟨g, rep, er, q⟩
  refine Post.bind rep er q fun xs S1 g1 H1 vs e1 ex rep1 er1 rvs q1 => ?_
  have rvs : RVs X.K g1 S1.length vs xs := rvs
  refine ⟨?_, g1, S1, xs, rep1, rvs, ?_⟩
  · rw [rvs.length]
    by_cases hn : xs.length = n
    · exact hn
    · rw [hF _ _ hn] at q1
      exact (show False from q1).elim
  · have q2 := back_post (K := X.K) q1
    cases hr' : F xs S1 with
    | ok v S2 => rw [hr'] at q2; exact q2
    | err c as S2 =>
      rw [hr'] at q2
      exact fun g' H' σ' u d ex' rep' er' => q2 g' H' σ u d ex' rep' er'
    | stuck => rw [hr'] at q2; exact q2

/-- a def called, its last parameters left to their defaults -/
theorem se_callD {x : Str} {al : Bool} {k n : Nat} {fa : Addr} {fd : FuncData} {ps : List Str} {F : List PV → Store → Res PV} {ds : List PyData} {dv : List Value} {dvs : List V} (tk : Takes X W) (G : FnOk X.prog X.w X.K X.mg X.base (L2.CX X.prog X.w) k fa fd ps (spOf X.K cls n F)) (hr : Room k X.A) (hm : X.mg x = some (.ref fa))
    (hk : PySem.W.keepIn X.K (.ref fa) = true) (hb : Binds X.K fd ps dv) (hv : Vals dvs dv) (hds : ∀ G, DpAll X.K G dvs ds) (hg : gl X.env.scope x = true) (ho : okName x = true) (hne : es ≠ []) (hs : ∀ e ∈ es, isStar e = false) (hF : ∀ xs S, xs.length ≠ n → F xs S = .stuck) (h : SA X cls W es ms) :
    SE X cls W (.Call (.Name x p) es [] pos) fun env S => (ms env S).bind fun vs S1 => (F (vs ++ ds.map PV.d) S1).bind fun v S2 => back al S1.length v S2 := fun env S => by
  obtain ⟨e, r, rfl⟩ := nonempty hne
  have he := star_cons (es := r) (env := X.env) (hs e List.mem_cons_self)
  have hp := star_plain (env := X.env) (fun x hx => hs x (List.mem_cons_of_mem _ hx)) pos
  refine PE.imp (pe_callSD (E := WE W) G hr (gl_of hg) hm hk hb hv (fun σ => passAt tk σ) (h env S) (name_of ho).1 he hp) ?_
  rintro σ H Q ⟨g, rep, er, q⟩
  refine Post.bind rep er q fun xs S1 g1 H1 vs e1 ex rep1 er1 rvs q1 => ?_
  have rvs : RVs X.K g1 S1.length vs xs := rvs
  have rvs2 : RVs X.K g1 S1.length (vs ++ dvs) (xs ++ ds.map .d) := RVs.append rvs (RVs.of_dp (hds _))
  refine ⟨?_, g1, S1, xs ++ ds.map .d, rep1, rvs2, ?_⟩
  · rw [rvs2.length]
    by_cases hn : (xs ++ ds.map PV.d).length = n
    · exact hn
    · rw [hF _ _ hn] at q1
      exact (show False from q1).elim
  · have q2 := back_post (K := X.K) q1
    cases hr' : F (xs ++ ds.map .d) S1 with
    | ok v S2 => rw [hr'] at q2; exact q2
    | err c as S2 =>
      rw [hr'] at q2
      exact fun g' H' σ' u d ex' rep' er' => q2 g' H' σ u d ex' rep' er'
    | stuck => rw [hr'] at q2; exact q2

/-! methods of the store's lists -/
structure MtD (m : Mt) : Prop where
  slot : Slot "list" m.name m.id
  ty : typeOf (.builtin m.id) = pure (.type "method_descriptor")
theorem mt_append_d : MtD .append := ⟨PySem.F.slot_list_append, PySem.F.type_list_append⟩
theorem mt_pop_d : MtD .pop := ⟨PySem.F.slot_list_pop, PySem.F.type_list_pop⟩
theorem mt_popAt_d : MtD .popAt := ⟨PySem.F.slot_list_pop, PySem.F.type_list_pop⟩
theorem mt_insert_d : MtD .insert := ⟨PySem.F.slot_list_insert, PySem.F.type_list_insert⟩
theorem mt_reverse_d : MtD .reverse := ⟨PySem.F.slot_list_reverse, PySem.F.type_list_reverse⟩
theorem mt_index_d : MtD .index := ⟨PySem.F.slot_list_index, PySem.F.type_list_index⟩
theorem mt_clear_d : MtD .clear := ⟨PySem.F.slot_list_clear, PySem.F.type_list_clear⟩
theorem mt_extend_d : MtD .extend := ⟨PySem.F.slot_list_extend, PySem.F.type_list_extend⟩
theorem mt_d (m : Mt) : MtD m := by
  cases m with
  | append => exact mt_append_d
  | pop => exact mt_pop_d
  | popAt => exact mt_popAt_d
  | insert => exact mt_insert_d
  | reverse => exact mt_reverse_d
  | index => exact mt_index_d
  | clear => exact mt_clear_d
  | extend => exact mt_extend_d
def mtM (m : Mt) (ma : Env → Store → Res PV) (ms : Env → Store → Res (List PV)) (env : Env) (S : Store) : Res PV := (ma env S).bind fun x S1 => match x with
    | .loc l => if (lk S1 l).isSome = true then (ms env S1).bind fun vs S2 => mtoR (mtop S2 m l vs) else .stuck
    | _ => .stuck
def locOf : PV → Nat
  | .loc l => l
  | _ => 0
theorem se_mt (m : Mt) (ha : SE X cls W a ma) (h : SA X cls W es ms) (hs : ∀ e ∈ es, isStar e = false) (h0 : es = [] → ∀ env S, ms env S = .ok [] S) (hb : plainObj a = true) (hline : (apos.endLine == pos.line) = true) (hf : es.length < 3) :
    SE X cls W (.Call (.Attribute a m.name apos) es [] pos) (mtM m ma ms) := fun env S => by
  have M := mt_d m
  have ty : ∀ {g1 : Gs} {S1 : Store} {H1 : Hp} {l : Nat} {v : V}, Rep X.K g1 S1 H1 → RV X.K g1 S1.length v (.loc l) → (lk S1 l).isSome = true → tyV X.K "list" v H1 := fun {g1 S1 H1 l v} rep rv hlk => by
    obtain ⟨rfl, hlt⟩ := rv_loc rv
    obtain ⟨o, ho⟩ := Option.isSome_iff_exists.mp hlk
    obtain ⟨ws, hH, _⟩ := rep.lst ho
    exact .inl ⟨rfl, ws, .of hH⟩
  cases es with
  | nil =>
    have he := h env (stOf (ma env S))
    refine PE.imp (pe_bm0 PySem.F.plainAttrs_list M.slot M.ty (mt_ok (cls := cls) (W := W) m (locOf (valOf pv0 (ma env S))) [] (stOf (ma env S))) (ha env S) (plain_obj hb) hline) ?_
    rintro σ H Q ⟨g, rep, er, q⟩
    refine Post.bind rep er q fun x S1 g1 H1 v e1 ex rep1 er1 rv q1 => ?_
    obtain ⟨z1, z2⟩ := valOf_eq (d := pv0) e1
    rw [z1, z2]
    cases x with
    | loc l =>
      have q1 : Post (cfX X cls) W (RVc (cfX X cls)) S1.length S1.length g1 H1 (if (lk S1 l).isSome = true then (ms env S1).bind fun vs S2 => mtoR (mtop S2 m l vs) else .stuck) Q := q1
      by_cases hlk : (lk S1 l).isSome = true
      case neg => rw [if_neg hlk] at q1; exact (show False from q1).elim
      rw [if_pos hlk] at q1
      refine ⟨ty rep1 rv hlk, ?_⟩
      rw [h0 rfl] at q1
      exact ⟨g1, rep1, rv, .nil, q1⟩
    | d x => exact (show False from q1).elim
    | mix t x => exact (show False from q1).elim
  | cons e r =>
    have hse := star_cons (es := r) (env := X.env) (hs e List.mem_cons_self)
    have hsp := star_plain (env := X.env) (fun x hx => hs x (List.mem_cons_of_mem _ hx)) pos
    have hfew : ((backTo pos (starEach (e :: r) X.env)).all (fun x => !x.1) && (backToKw pos (keywordEach [] X.env)).all (fun x => x.1.isSome)
      && decide ((e :: r).length + ([] : List Keyword).length + (if ([] : List Keyword).isEmpty then 0 else 1) < 30)) = true := by
      rw [star_all hs pos]
      have : (e :: r).length + 0 + 0 < 30 := by omega
      show (true && true && decide ((e :: r).length + 0 + 0 < 30)) = true
      rw [decide_eq_true this]
      rfl
    refine PE.imp (pe_bm PySem.F.plainAttrs_list M.slot M.ty (mt_ok (cls := cls) (W := W) m (locOf (valOf pv0 (ma env S))) (valOf [] (ms env (stOf (ma env S)))) (stOf (ms env (stOf (ma env S))))) (ha env S) (h env (stOf (ma env S))) (plain_obj hb) hfew hline hse hsp) ?_
    rintro σ H Q ⟨g, rep, er, q⟩
    refine Post.bind rep er q fun x S1 g1 H1 v e1 ex rep1 er1 rv q1 => ?_
    obtain ⟨z1, z2⟩ := valOf_eq (d := pv0) e1
    rw [z1, z2]
    cases x with
    | loc l =>
      have q1 : Post (cfX X cls) W (RVc (cfX X cls)) S1.length S1.length g1 H1 (if (lk S1 l).isSome = true then (ms env S1).bind fun vs S2 => mtoR (mtop S2 m l vs) else .stuck) Q := q1
      by_cases hlk : (lk S1 l).isSome = true
      case neg => rw [if_neg hlk] at q1; exact (show False from q1).elim
      rw [if_pos hlk] at q1
      refine ⟨ty rep1 rv hlk, ?_⟩
      refine Post.bind rep1 er1 q1 fun xs S2 g2 H2 vs e2 ex2 rep2 er2 rvs q2 => ?_
      obtain ⟨z3, z4⟩ := valOf_eq (d := ([] : List PV)) e2
      rw [z3, z4]
      exact ⟨g2, rep2, RV.up ex2.up rv, rvs, q2⟩
    | d x => exact (show False from q1).elim
    | mix t x => exact (show False from q1).elim

theorem dp_strs {K : PySem.W.Frag} {H : Hp} : ∀ {ws : List V} {ss : List Str}, DpAll K H ws (ss.map .str) → ws = ss.map V.str
  | _, [], h => by cases h; rfl
  | _, x :: r, h => by
    cases h with
    | cons a t =>
      cases a
      rw [List.map_cons, ← dp_strs t]
theorem dp_of_strs {K : PySem.W.Frag} {H : Hp} : ∀ ss : List Str, DpAll K H (ss.map V.str) (ss.map .str)
  | [] => .nil
  | x :: r => .cons (.str x) (dp_of_strs r)
theorem se_sset {al : Bool} {p p2 q : Pos} {x1 x2 : Str} (e1 : x1 = "sorted") (e2 : x2 = "set") (hc : X.calm = true) (hu : X.A.units + 64 < cLine) (hg : gl X.env.scope x1 = true) (hm : X.mg "sorted" = none) (hg2 : gl X.env.scope x2 = true) (hm2 : X.mg "set" = none) (hs : isStar a = false) (h : SE X cls W a ma) :
    SE X cls W (.Call (.Name x1 p) [.Call (.Name x2 p2) [a] [] q] [] pos) fun env S => ((ma env S).bind fun v S1 => (Res.ok [] S1).bind fun vs S2 => .ok (v :: vs) S2).bind fun vs S1 => froR S1 al (frop S1 .sset vs) := fun env S => by
  subst e1 e2
  refine PE.imp (pe_sset hc hu (gl_of hg) hm (gl_of hg2) hm2 (h env S) (star_cons hs)) ?_
  rintro σ H Q ⟨g, rep, er, q⟩
  have e0 : (((ma env S).bind fun v S1 => (Res.ok ([] : List PV) S1).bind fun vs S2 => .ok (v :: vs) S2).bind fun vs S1 => froR S1 al (frop S1 .sset vs)) = (ma env S).bind fun v S1 => froR S1 al (frop S1 .sset [v]) := by
    cases ma env S <;> rfl
  have q := e0 ▸ (show Post (cfX X cls) W (RVc (cfX X cls)) S.length S.length g H (((ma env S).bind fun v S1 => (Res.ok ([] : List PV) S1).bind fun vs S2 => .ok (v :: vs) S2).bind fun vs S1 => froR S1 al (frop S1 .sset vs)) Q from q)
  refine Post.bind rep er q fun x S1 g1 H1 v _ ex rep1 er1 rv q1 => ?_
  cases ho : frop S1 .sset [x] with
  | none => rw [ho] at q1; exact (show False from q1).elim
  | some ys =>
    rw [ho] at q1
    have q1 : Post (cfX X cls) W (RVc (cfX X cls)) S1.length S1.length g1 H1 (fin al ys S1) Q := q1
    have ho : (match seqOf S1 x with
      | some (false, xs) => match allD xs with
        | some ds => match allStr ds with
          | some ss => if ss.length ≤ 1000 then some ((ssetD ss).map fun x => PV.d (.str x)) else none
          | none => none
        | none => none
      | _ => none) = some ys := ho
    split at ho
    · rename_i xs e
      split at ho
      · rename_i ds e3
        split at ho
        · rename_i ss e4
          split at ho
          · rename_i hl
            cases ho
            obtain ⟨l, ws, rfl, rws, _, _, hL⟩ := seq_get rep1 rv e
            have hd := allD_get e3 rws
            rw [allStr_eq e4] at hd
            have hw := dp_strs hd
            subst hw
            refine ⟨l, ss, rfl, hL rfl, hl, fun p hp => fin_ok q1 rep1 ?_ p hp⟩
            have hy := RVs.of_dp (K := X.K) (g := g1) (n := S1.length) (dp_of_strs (ssetD ss))
            rw [List.map_map] at hy
            exact hy
          · cases ho
        · cases ho
      · cases ho
    · cases ho
structure DmD (m : Dm) : Prop where
  pa : PlainAttrs m.T
  slot : Slot m.T m.name m.id
  ty : typeOf (.builtin m.id) = pure (.type "method_descriptor")
theorem dm_d (m : Dm) : DmD m := by
  cases m with
  | sindex => exact ⟨PySem.F.plainAttrs_str, PySem.F.slot_str_index, PySem.F.type_str_index⟩
  | join => exact ⟨PySem.F.plainAttrs_str, PySem.F.slot_str_join, PySem.F.type_str_join⟩
theorem dm_ty {m : Dm} {x : PV} {g : Gs} {n : Nat} {v : V} {H : Hp} (h : dmRecv m x = true) (rv : RV X.K g n v x) : tyV X.K m.T v H := by
  cases m with
  | sindex =>
    unfold dmRecv at h
    split at h
    · cases rv_str rv
      rfl
    · cases rv_str rv
      rfl
    · cases h
  | join =>
    unfold dmRecv at h
    split at h
    · cases rv_str rv
      rfl
    · cases rv_str rv
      rfl
    · cases h
theorem se_dm (m : Dm) (ha : SE X cls W a ma) (h : SA X cls W es ms) (hs : ∀ e ∈ es, isStar e = false) (hne : es ≠ []) (hb : plainObj a = true) (hline : (apos.endLine == pos.line) = true) (hf : es.length < 3) :
    SE X cls W (.Call (.Attribute a m.name apos) es [] pos) fun env S => (ma env S).bind fun x S1 => if dmRecv m x = true then (ms env S1).bind fun vs S2 => orStuck (dmop m x vs) S2 else .stuck := fun env S => by
  have M := dm_d m
  obtain ⟨e, r, rfl⟩ := nonempty hne
  have hse := star_cons (es := r) (env := X.env) (hs e List.mem_cons_self)
  have hsp := star_plain (env := X.env) (fun x hx => hs x (List.mem_cons_of_mem _ hx)) pos
  have hfew : ((backTo pos (starEach (e :: r) X.env)).all (fun x => !x.1) && (backToKw pos (keywordEach [] X.env)).all (fun x => x.1.isSome)
    && decide ((e :: r).length + ([] : List Keyword).length + (if ([] : List Keyword).isEmpty then 0 else 1) < 30)) = true := by
    rw [star_all hs pos]
    have : (e :: r).length + 0 + 0 < 30 := by omega
    show (true && true && decide ((e :: r).length + 0 + 0 < 30)) = true
    rw [decide_eq_true this]
    rfl
  refine PE.imp (pe_bm M.pa M.slot M.ty (dm_ok (cls := cls) (W := W) m (valOf pv0 (ma env S)) (valOf [] (ms env (stOf (ma env S)))) (stOf (ms env (stOf (ma env S))))) (ha env S) (h env (stOf (ma env S))) (plain_obj hb) hfew hline hse hsp) ?_
  rintro σ H Q ⟨g, rep, er, q⟩
  refine Post.bind rep er q fun x S1 g1 H1 v e1 ex rep1 er1 rv q1 => ?_
  obtain ⟨z1, z2⟩ := valOf_eq (d := pv0) e1
  rw [z1, z2]
  split at q1
  · rename_i hr
    refine ⟨dm_ty hr rv, ?_⟩
    refine Post.bind rep1 er1 q1 fun xs S2 g2 H2 vs e2 ex2 rep2 er2 rvs q2 => ?_
    obtain ⟨z3, z4⟩ := valOf_eq (d := ([] : List PV)) e2
    rw [z3, z4]
    exact ⟨g2, rep2, RV.up ex2.up rv, rvs, q2⟩
  · exact (show False from q1).elim

theorem se_idx (ha : SE X cls W a ma) (hb : SE X cls W b mb) (hs : isSlice b = false) : SE X cls W (.Subscript a b pos) fun env S => (ma env S).bind fun x S1 => (mb env S1).bind fun y S2 => orStuck (idxop S2 x y) S2 := fun env S => by
  refine PE.imp (pe_ix (ix_ok (cls := cls) (W := W) (valOf pv0 (ma env S)) (valOf pv0 (mb env (stOf (ma env S)))) (stOf (mb env (stOf (ma env S))))) (ha env S) (hb env (stOf (ma env S))) (plain_ix hs)) ?_
  rintro σ H Q ⟨g, rep, er, q⟩
  refine Post.bind rep er q fun x S1 g1 H1 v e1 ex rep1 er1 rv q1 => ?_
  obtain ⟨z1, z2⟩ := valOf_eq (d := pv0) e1
  rw [z1, z2]
  refine Post.bind rep1 er1 q1 fun y S2 g2 H2 u e2 ex2 rep2 er2 ru q2 => ?_
  obtain ⟨z3, z4⟩ := valOf_eq (d := pv0) e2
  rw [z3, z4]
  exact ⟨g2, rep2, rv.up ex2.up, ru, q2⟩

/-! slices -/
abbrev RI : Gs → Nat → Option Int → Option Int → Prop := fun _ _ o o' => o = o'
theorem PO.imp {o : Option Expr} {t t' : TO} (h : PO X o t) (k : ∀ σ H Q, t' σ H Q → t σ H Q) : PO X o t' := ⟨fun pins s σ H Q I q => h.run pins s σ H Q I (k σ H Q q)⟩
/-- a part: left out, or one expression -/
def SO (X : Cx) (cls : Nat → Option Value) (W : WX) (o : Option Expr) (m : Env → Store → Res (List PV)) : Prop := ∀ env S, PO X o (tR (cfX X cls) W RI env S (partM (m env S)))
theorem so_none : SO X cls W none fun env S => .ok [] S := fun env S => by
  refine PO.imp po_none ?_
  rintro σ H Q ⟨g, rep, er, q⟩
  exact q g H none (Ext.refl (Nat.le_refl _)) rep rfl
theorem so_some (h : SE X cls W e ma) : SO X cls W (some e) fun env S => (ma env S).bind fun v S1 => (Res.ok [] S1).bind fun vs S2 => .ok (v :: vs) S2 := fun env S => by
  refine PO.imp (po_some (h env S)) ?_
  rintro σ H Q ⟨g, rep, er, q⟩
  have e0 : ∀ r : Res PV, partM (r.bind fun v S1 => (Res.ok [] S1).bind fun vs S2 => .ok (v :: vs) S2) = r.bind fun v S1 => match partOf [v] with
    | some l => .ok l S1
    | none => .stuck := fun r => by cases r <;> rfl
  dsimp only at q
  rw [e0] at q
  refine Post.bind rep er q fun x S1 g1 H1 v e1 ex rep1 er1 rv q1 => ?_
  cases hx : partOf [x] with
  | none => rw [hx] at q1; exact (show False from q1).elim
  | some o =>
    rw [hx] at q1
    unfold partOf at hx
    split at hx
    · rename_i h0; cases h0
    · rename_i i h0
      cases h0
      cases hx
      cases rv_int rv
      exact ⟨i, rfl, q1 g1 H1 (some i) (Ext.refl (Nat.le_refl _)) rep1 rfl⟩
    · cases hx
theorem se_slice {lo hi : Option Expr} {ml mh : Env → Store → Res (List PV)} {p2 : Pos} (ha : SE X cls W a ma) (hl : SO X cls W lo ml) (hh : SO X cls W hi mh) : SE X cls W (.Subscript a (.Slice lo hi none p2) pos) fun env S =>
    (ma env S).bind fun x S1 => (partM (ml env S1)).bind fun l S2 => (partM (mh env S2)).bind fun h S3 => orStuck (sliceV S3 x l h) S3 := fun env S => by
  refine PE.imp (pe_slice (slice_ok (cls := cls) (W := W) (valOf pv0 (ma env S)) (valOf none (partM (ml env (stOf (ma env S))))) (valOf none (partM (mh env (stOf (partM (ml env (stOf (ma env S)))))))) (stOf (partM (mh env (stOf (partM (ml env (stOf (ma env S))))))))) (ha env S) (hl env (stOf (ma env S))) (hh env (stOf (partM (ml env (stOf (ma env S))))))) ?_
  rintro σ H Q ⟨g, rep, er, q⟩
  refine Post.bind rep er q fun x S1 g1 H1 v e1 ex rep1 er1 rv q1 => ?_
  obtain ⟨z1, z2⟩ := valOf_eq (d := pv0) e1
  rw [z1, z2]
  refine Post.bind rep1 er1 q1 fun l S2 g2 H2 l' e2 ex2 rep2 er2 rl q2 => ?_
  obtain ⟨z3, z4⟩ := valOf_eq (d := (none : Option Int)) e2
  rw [z3, z4]
  refine Post.bind rep2 er2 q2 fun h S3 g3 H3 h' e3 ex3 rep3 er3 rh q3 => ?_
  obtain ⟨z5, z6⟩ := valOf_eq (d := (none : Option Int)) e3
  rw [z5, z6]
  exact ⟨rl, rh, g3, rep3, (RV.up ex2.up rv).up ex3.up, q3⟩

/-! isinstance -/
theorem ty_of {g : Gs} {S : Store} {H : Hp} {x : PV} {v : V} {t : Ty} {k : Bool} (rep : Rep X.K g S H) (r : RV X.K g S.length v x) (h : isTy S t x = some k) : ∃ T : String, TyX X.K H v (.type T) ∧ PySem.W.kitOne X.K (.type T) (.type t.name) = some k := by
  have sl : ∀ {a : Addr} {vs : List V}, SqL X.K H a vs → TyX X.K H (.ref a) (.type "list") := fun {a vs} hs => by
    rcases hs with (hs | ⟨o, hs⟩) | ⟨o, its, n, h1, h2, _⟩
    · exact .base (.lst hs)
    · exact .base (.frz hs)
    · exact .kList h1 h2
  have stp : ∀ {a : Addr} {vs : List V}, SqT X.K H a vs → TyX X.K H (.ref a) (.type "tuple") := fun {a vs} hs => by
    rcases hs with (hs | ⟨o, hs⟩) | ⟨o, its, n, h1, h2, _⟩
    · exact .base (.tup hs)
    · exact .fTuple hs
    · exact .kTuple h1 h2
  have tab : ∀ (T : String), T ∈ ["NoneType", "bool", "int", "str", "tuple", "list"] → ∀ t : Ty, PySem.W.kitOne X.K (.type T) (.type t.name) = some (decide (T = t.name) || (decide (T = "bool") && decide (t.name = "int"))) := by
    intro T hT t
    simp only [List.mem_cons, List.mem_nil_iff, or_false] at hT
    rcases hT with rfl | rfl | rfl | rfl | rfl | rfl <;> cases t <;> exact kit_ty (by decide +kernel)
  cases r with
  | d q =>
    cases q with
    | non => exact ⟨"NoneType", .base .non, by rw [tab _ (by simp)]; cases t <;> cases h <;> rfl⟩
    | bl b => exact ⟨"bool", .base (.bl b), by rw [tab _ (by simp)]; cases t <;> cases h <;> rfl⟩
    | int i => exact ⟨"int", .base (.int i), by rw [tab _ (by simp)]; cases t <;> cases h <;> rfl⟩
    | str i => exact ⟨"str", .base (.str i), by rw [tab _ (by simp)]; cases t <;> cases h <;> rfl⟩
    | lst hs _ => exact ⟨"list", sl (rep.sub.seq hs), by rw [tab _ (by simp)]; cases t <;> cases h <;> rfl⟩
    | tup hs _ => exact ⟨"tuple", stp (Same.sqT rep.sub hs), by rw [tab _ (by simp)]; cases t <;> cases h <;> rfl⟩
  | loc hl =>
    rename_i l
    cases e : lk S l with
    | none =>
      have h : (match lk S l with
        | some _ => some (decide (t = .list))
        | none => none) = some k := by cases t <;> exact h
      rw [e] at h; cases h
    | some o =>
      have h : (match lk S l with
        | some _ => some (decide (t = .list))
        | none => none) = some k := by cases t <;> exact h
      rw [e] at h
      obtain ⟨ws, hH, _⟩ := rep.lst e
      exact ⟨"list", sl (.of hH), by rw [tab _ (by simp)]; cases t <;> cases h <;> rfl⟩
  | tup hs _ => cases t <;> cases h
  | lst hs _ => cases t <;> cases h
theorem se_isi {t : Ty} {px py : Pos} (ha : SE X cls W a ma) (hs : isStar a = false) (hg : gl X.env.scope (Str.ofString "isinstance") = true) (hm : X.mg (Str.ofString "isinstance") = none) (hg2 : gl X.env.scope (Str.ofString t.name) = true) (hm2 : X.mg (Str.ofString t.name) = none) :
    SE X cls W (.Call (.Name (Str.ofString "isinstance") px) [a, .Name (Str.ofString t.name) py] [] pos) fun env S => (ma env S).bind fun x S1 => orStuck ((isTy S1 t x).map fun k => .d (.bool k)) S1 := fun env S => by
  have hb : bootBuiltins (Str.ofString "isinstance") = some (.builtin "isinstance") := by decide +kernel
  have he := star_cons (es := [.Name (Str.ofString t.name) py]) (env := X.env) hs
  have hp : (backTo pos (starEach [.Name (Str.ofString t.name) py] X.env)).any (·.1) = false := rfl
  have hty : PE X (.Name (Str.ofString t.name) py) (tC (.ty t.name)) := pe_bltn (gl_of hg2) hm2 (ty_boot t) rfl (ty_name t).1 (ty_name t).2
  refine PE.imp (pe_callB call_isi (gl_of hg) hm hb (pa_cons (ha env S) (pa_cons hty pa_nil) he) (by decide +kernel) (by decide +kernel) he hp) ?_
  rintro σ H Q ⟨g, rep, er, q⟩
  refine Post.bind rep er q fun x S1 g1 H1 v e1 ex rep1 er1 rv q1 => ?_
  rw [orStuck_map] at q1
  cases hk : isTy S1 t x with
  | none => rw [hk] at q1; exact (show False from q1).elim
  | some k =>
    rw [hk] at q1
    obtain ⟨T, h1, h2⟩ := ty_of rep1 rv hk
    exact ⟨v, .ty t.name, .type T, .type t.name, k, rfl, .ty _, h1, h2, bl_here q1 rep1 rfl⟩
end
end PW

set_option maxHeartbeats 1000000
namespace PW
open PySem PySem.Spec PyProof.Rows L2
/-! PW4k: instances: attributes, methods, C(..) -/
theorem meth_eval {o : Expr} {m : Str} {apos pos : Pos} {es : List Expr} {env : PySem.Env} (h : plainObj o = true) (hline : (apos.endLine == pos.line) = true) (hf : methodCallForm (es.length + 0) (backTo pos (starEach es env)) (backToKw pos (keywordEach [] env)) = true) : ∃ pl : Sem Bool, eval (.Call (.Attribute o m apos) es [] pos) env = (do
      let ov ← eval o env
      standAt apos.atName
      let (f, first) ← holding [ov] (getMethod ov m pl)
      callWith pos f first (backTo pos (starEach es env)) (backToKw pos (keywordEach [] env))) := by
  refine ⟨(do return (← importBound o env).getD true), ?_⟩
  show (do
    let ov ← attributeBase o m env (eval o env)
    standAt apos.atName
    methodCall o m apos pos env ov (es.length + 0) (backTo pos (starEach es env)) (backToKw pos (keywordEach [] env))) = _
  rw [plain_obj h]
  unfold methodCall methodCallPos calleeOf
  rw [hf, hline]
  rfl
theorem form_ok {es : List Expr} {env : PySem.Env} {pos : Pos} (hs : ∀ e ∈ es, isStar e = false) (hl : es.length < 20) : methodCallForm (es.length + 0) (backTo pos (starEach es env)) (backToKw pos (keywordEach [] env)) = true := by
  unfold methodCallForm
  rw [star_all hs pos]
  have : es.length + 0 + 0 < 30 := by omega
  show (true && true && decide (es.length + 0 + 0 < 30)) = true
  rw [decide_eq_true this]
  rfl
section
variable {X : Cx} {CX : CXT} {k : Nat} {C f : Addr} {fd : FuncData} {ps : List Str} {sp : Sp} {dvs : List V} {ds : List Value} {E : L2.St → XK} {x m : Str} {p pos apos : Pos} {e o : Expr} {es : List Expr} {ta : TE} {t : TA}
/-- o.m(..): what the object must be, then the arguments, then the def -/
def tMethS (sp : Sp) (m : Str) (dvs : List V) (E : L2.St → XK) (C : Addr) (ta : TE) (t : TA) : TE := fun σ H Q => ta σ H fun x H1 => ∃ a dx fs, x = .ref a ∧ H1 a = some (.ins C dx fs) ∧ fs.lookup m = none ∧ t σ H1 fun vs H2 => sp (x :: (vs ++ dvs)) H2 Q (E σ)
theorem pe_methS (he : PE X o ta) (c : Cls X.K C) (hm : Meth X.K C m f) (F : FnOk X.prog X.w X.K X.mg X.base CX k f fd ps sp) (hr : Room k X.A) (hb : Binds X.K fd ps ds) (hd : Vals dvs ds) (hx : ∀ σ, PassesAt CX X σ (E σ)) (ha : PA X (e :: es) t) (hs : ∀ x ∈ e :: es, isStar x = false) (hl : (e :: es).length < 20) (hline : (apos.endLine == pos.line) = true) (ho : plainObj o = true) :
    PE X (.Call (.Attribute o m apos) (e :: es) [] pos) (tMethS sp m dvs E C ta t) := by
  obtain ⟨pl, ht⟩ := meth_eval (m := m) (apos := apos) (pos := pos) (es := e :: es) (env := X.env) ho hline (form_ok hs hl)
  have hse := star_cons (es := es) (env := X.env) (hs e List.mem_cons_self)
  have hsp := star_plain (env := X.env) (fun x hx => hs x (List.mem_cons_of_mem _ hx)) pos
  refine ⟨fun pins s σ H Q I h => ?_⟩
  refine PySem.W.methodCall_KW (pl := pl) (thn (he.run pins s σ H _ I h) fun u s1 ⟨x, H1, I1, rx, a, dx, fs, ex, ea, l, q⟩ => ?_) ht
  subst ex
  obtain rfl : u = Value.ref a := rx
  refine getmeth_ok I1 ea c hm l ?_
  refine PySem.W.callWith_K (first := [.ref a]) (h₀ := X.base) I.ok.mod.kin hm.kp (thn (ha.run pos pins s1 σ H1 _ I1 q) fun us s2 ⟨vs, H2, I2, r, q2⟩ => ⟨I2.kIn, ?_⟩) hse hsp
  exact run_fnSD (us := .ref a :: us) (vs := .ref a :: vs) F hr hb hd (hx σ) I2 (.cons rfl r) q2
theorem pe_meth0S (he : PE X o ta) (c : Cls X.K C) (hm : Meth X.K C m f) (F : FnOk X.prog X.w X.K X.mg X.base CX k f fd ps sp) (hr : Room k X.A) (hb : Binds X.K fd ps ds) (hd : Vals dvs ds) (hx : ∀ σ, PassesAt CX X σ (E σ)) (hline : (apos.endLine == pos.line) = true) (ho : plainObj o = true) :
    PE X (.Call (.Attribute o m apos) [] [] pos) (tMethS sp m dvs E C ta tNil) := by
  obtain ⟨pl, ht⟩ := meth_eval (m := m) (apos := apos) (pos := pos) (es := []) (env := X.env) ho hline (form_ok (fun _ h => nomatch h) (by decide))
  refine ⟨fun pins s σ H Q I h => ?_⟩
  refine PySem.W.methodCall_KW (pl := pl) (thn (he.run pins s σ H _ I h) fun u s1 ⟨x, H1, I1, rx, a, dx, fs, ex, ea, l, q⟩ => ?_) ht
  subst ex
  obtain rfl : u = Value.ref a := rx
  refine getmeth_ok I1 ea c hm l ?_
  exact PySem.W.callWith_K0 (first := [.ref a]) I1.kIn hm.kp (run_fnSD (us := [.ref a]) (vs := [.ref a]) F hr hb hd (hx σ) I1 (.cons rfl .nil) q)
/-- C(..) -/
def tMakeS (C : Addr) (sp : Sp) (dvs : List V) (E : L2.St → XK) (t : TA) : TE := fun σ H Q => t σ H fun vs H1 => ∀ x dx, H1 x = none → H1 dx = none → dx ≠ x →
  sp (.ref x :: (vs ++ dvs)) (L2.upd (L2.upd H1 dx (.own x)) x (.ins C dx [])) (fun v H2 => v = .non ∧ Q (.ref x) H2) (E σ)
theorem run_makeS {pins : List (Addr × Obj)} {σ : L2.St} {H : Hp} {s : Shared} {Q : VK} {us : List Value} {vs : List V} (M : Mk X.K C f) (F : FnOk X.prog X.w X.K X.mg X.base CX k f fd ps sp) (hr : Room (k + 1) X.A) (hb : Binds X.K fd ps ds) (hd : Vals dvs ds)
    (hx : PassesAt CX X σ (E σ)) (I : Inv X pins σ H s) (r : Vals vs us)
    (h : ∀ x dx, H x = none → H dx = none → dx ≠ x → sp (.ref x :: (vs ++ dvs)) (L2.upd (L2.upd H dx (.own x)) x (.ins C dx [])) (fun v H2 => v = .non ∧ Q (.ref x) H2) (E σ)) :
    wpAny (model X.prog X.w) X.A (call (.ref C) us) (EP X pins σ Q) X.xe s := by
  have hq := h (s.heap.objs.size + 1) s.heap.objs.size (I.hok.fresh (Nat.le_succ _)) (I.hok.fresh (Nat.le_refl _)) (Nat.ne_of_lt (Nat.lt_succ_self _))
  have I2 := Inv.made (C := C) I
  have r2 : Vals (V.ref (s.heap.objs.size + 1) :: (vs ++ dvs)) (Value.ref (s.heap.objs.size + 1) :: (us ++ ds)) := .cons rfl (r.append hd)
  have hl : (Value.ref (s.heap.objs.size + 1) :: us ++ ds).length = ps.length := by
    have e := r2.length
    rw [F.len _ _ _ _ hq] at e
    exact e.symm
  refine wpAny_call (make_map (f := f) I.kIn M.makes M.init (beq_iff_eq.mp M.fn) (codeAny_mono (F.run _ X.stack _ _ ⟨Value.ref (s.heap.objs.size + 1) :: us, []⟩ (Value.ref (s.heap.objs.size + 1) :: (us ++ ds)) _ _ (E σ) (hr.make C us [])
    (I2.env0.make C us []) (hb _ (Value.ref (s.heap.objs.size + 1) :: us) I2.kIn hl) r2 hq) fun r s' hq' => ?_))
  cases r with
  | error e => exact hx pins _ _ e s' I2 hq'
  | ok fl =>
    cases fl with
    | ret u =>
      obtain ⟨v, H', I3, rv, ev, q3⟩ := I2.after hq'
      subst ev
      exact ⟨rv, ⟨V.ref (s.heap.objs.size + 1), H', I3, rfl, q3⟩⟩
    | next => exact False.elim hq'
    | brk => exact False.elim hq'
    | cont => exact False.elim hq'
theorem pe_makeS (M : Mk X.K C f) (F : FnOk X.prog X.w X.K X.mg X.base CX k f fd ps sp) (hr : Room (k + 1) X.A) (hg : Gl X x) (hm : X.mg x = some (.ref C)) (hb : Binds X.K fd ps ds) (hd : Vals dvs ds) (hx : ∀ σ, PassesAt CX X σ (E σ))
    (ha : PA X (e :: es) t) (hdb : (x == ("__debug__" : Str)) = false) (hs : ∀ y ∈ e :: es, isStar y = false) :
    PE X (.Call (.Name x p) (e :: es) [] pos) (tMakeS C sp dvs E t) := by
  have hse := star_cons (es := es) (env := X.env) (hs e List.mem_cons_self)
  have hsp := star_plain (env := X.env) (fun x hx => hs x (List.mem_cons_of_mem _ hx)) pos
  refine ⟨fun pins s σ H Q I h => ?_⟩
  refine wpAny_Call_Name_kw (ld_glob I hg hm ?_ hdb)
  refine PySem.W.callWith_K (h₀ := X.base) I.ok.mod.kin M.kp (thn (ha.run pos pins s σ H _ I h) fun us s1 ⟨vs, H1, I1, r, q⟩ => ⟨I1.kIn, ?_⟩) hse hsp
  exact run_makeS M F hr hb hd (hx σ) I1 r q
theorem pe_make0S (M : Mk X.K C f) (F : FnOk X.prog X.w X.K X.mg X.base CX k f fd ps sp) (hr : Room (k + 1) X.A) (hg : Gl X x) (hm : X.mg x = some (.ref C)) (hb : Binds X.K fd ps ds) (hd : Vals dvs ds) (hx : ∀ σ, PassesAt CX X σ (E σ))
    (hdb : (x == ("__debug__" : Str)) = false) : PE X (.Call (.Name x p) [] [] pos) (tMakeS C sp dvs E tNil) := by
  refine ⟨fun pins s σ H Q I h => ?_⟩
  refine wpAny_Call_Name_kw (ld_glob I hg hm ?_ hdb)
  exact PySem.W.callWith_K0 I.kIn M.kp (run_makeS (us := []) M F hr hb hd (hx σ) I .nil h)
end
/-! as the evaluator has them -/
section
variable {X : Cx} {cls : Nat → Option Value} {W : WX} {T : Info} {Φ : Fns} {e o : Expr} {es : List Expr} {ma : Env → Store → Res PV} {ms : Env → Store → Res (List PV)} {pos apos p : Pos}
theorem no_of {c : Nat} {pp : Str × List Str × Nat × List (Str × Nat)} {C D : Addr} (k : KlsAt X cls T Φ c pp C) (h : clsNo Φ (T.fns.length + c) = some D) : D = C := by
  unfold clsNo at h
  split at h
  · rename_i i S' e
    cases h
    rw [k.nr _ _ e]
    rfl
  · cases h
theorem ins_of {g : Gs} {S : Store} {H : Hp} (rep : Rep X.K g S H) {l : Nat} {C : Nat} {fs : List (Str × PV)} (h : S[l]? = some (.inst C fs)) : ∃ dx vs, H (g.ρ l) = some (.ins C dx vs) ∧ FsR X.K g S.length vs fs := (rep.ob l _ h).2
theorem se_fld {f : Str} {c : Nat} {pp : Str × List Str × Nat × List (Str × Nat)} {C : Addr} (k : KlsAt X cls T Φ c pp C) (hf : f ∈ pp.2.1) (ha : SE X cls W e ma) (hb : plainObj e = true) : SE X cls W (.Attribute e f pos) fun env S => (ma env S).bind fun x S1 => fldR Φ (T.fns.length + c) f x S1 := fun env S => by
  refine PE.imp (pe_fld (ha env S) (plain_obj hb)) ?_
  rintro σ H Q ⟨g, rep, er, q⟩
  refine Post.bind rep er q fun x S1 g1 H1 v e1 ex rep1 er1 rv q1 => ?_
  unfold fldR at q1
  split at q1
  · rename_i l
    split at q1
    · rename_i D fs eS
      split at q1
      · rename_i hc
        split at q1
        · rename_i y ey
          obtain rfl := no_of k hc
          obtain ⟨rfl, _⟩ := rv_loc rv
          obtain ⟨dx, vs, hH, hfs⟩ := ins_of rep1 eS
          obtain ⟨w, hw, rw1⟩ := hfs.lookup.1 y ey
          exact ⟨_, _, dx, vs, w, rfl, hH, k.cl, k.no f hf, hw, q1 g1 H1 w (Ext.refl (Nat.le_refl _)) rep1 rw1⟩
        · exact (show False from q1).elim
      · exact (show False from q1).elim
    · exact (show False from q1).elim
  · exact (show False from q1).elim
theorem dv_of {j n : Nat} {fd : FuncData} {ps : List Str} {ds : List PyData} (hb : Binds X.K fd ps []) (hd : ∀ p, p ∈ T.dfs → p.1 = j → ∃ dv dvs, Binds X.K fd ps dv ∧ Vals dvs dv ∧ ∀ G, DpAll X.K G dvs p.2.2) (h : dfsHas T j n ds = true) : ∃ dv dvs, Binds X.K fd ps dv ∧ Vals dvs dv ∧ ∀ G, DpAll X.K G dvs ds := by
  unfold dfsHas at h
  rw [Bool.or_eq_true] at h
  rcases h with h | h
  · cases ds with
    | nil => exact ⟨[], [], hb, .nil, fun _ => .nil⟩
    | cons _ _ => cases h
  · obtain ⟨p, hp, h⟩ := List.any_eq_true.mp h
    simp only [Bool.and_eq_true, decide_eq_true_eq] at h
    obtain ⟨⟨h1, _⟩, h3⟩ := h
    have h3 := pdEq_eq h3
    injection h3 with h3
    subst h3
    exact hd p hp h1
theorem post_fn {j n : Nat} {al : Bool} {g1 : Gs} {S1 : Store} {H1 : Hp} {σ : L2.St} {xs : List PV} {vs : List V} {Q : VK} (hF : ∀ xs S, xs.length ≠ n → Φ j xs S = .stuck) (rep1 : Rep X.K g1 S1 H1) (rvs : RVs X.K g1 S1.length vs xs)
    (q1 : Post (cfX X cls) W (RVc (cfX X cls)) S1.length S1.length g1 H1 ((Φ j xs S1).bind fun v S2 => back al S1.length v S2) Q) : spOf X.K cls n (Φ j) vs H1 Q (WE W σ) := by
  refine ⟨?_, g1, S1, xs, rep1, rvs, ?_⟩
  · rw [rvs.length]
    by_cases hn : xs.length = n
    · exact hn
    · rw [hF _ _ hn] at q1
      exact (show False from q1).elim
  · have q2 := back_post (K := X.K) q1
    cases hr' : Φ j xs S1 with
    | ok v S2 => rw [hr'] at q2; exact q2
    | err c as S2 =>
      rw [hr'] at q2
      exact fun g' H' σ' u d ex' rep' er' => q2 g' H' σ u d ex' rep' er'
    | stuck => rw [hr'] at q2; exact q2
theorem se_mcall {al : Bool} {m : Str} {c j nd : Nat} {ds : List PyData} {pp : Str × List Str × Nat × List (Str × Nat)} {C : Addr} (tk : Takes X W) (k : KlsAt X cls T Φ c pp C) (hm : (m, j) ∈ pp.2.2.2) (hds : dfsHas T j nd ds = true) (ha : SE X cls W o ma) (h : SA X cls W es ms) (hs : ∀ e ∈ es, isStar e = false) (h0 : es = [] → ∀ env S, ms env S = .ok [] S)
    (hl : es.length < 20) (hline : (apos.endLine == pos.line) = true) (ho : plainObj o = true) : SE X cls W (.Call (.Attribute o m apos) es [] pos) fun env S => (ma env S).bind fun x S1 => (instR Φ (T.fns.length + c) m x S1).bind fun x S1 => (ms env S1).bind fun vs S2 => (Φ j (x :: (vs ++ ds.map PV.d)) S2).bind fun v S3 => back al S2.length v S3 := fun env S => by
  obtain ⟨fa, hmt, kk, fd, ps, n, F, hr, hF, hb, hd⟩ := k.me m j hm
  obtain ⟨dv, dvs, hb2, hv2, hG⟩ := dv_of hb hd hds
  have inst : ∀ {g1 : Gs} {S1 : Store} {H1 : Hp} {v : V} {x : PV} {Q : VK} {kk : PV → Store → Res PV}, Rep X.K g1 S1 H1 → RV X.K g1 S1.length v x → Post (cfX X cls) W (RVc (cfX X cls)) S1.length S1.length g1 H1 ((instR Φ (T.fns.length + c) m x S1).bind kk) Q →
      ∃ a dx fs, v = .ref a ∧ H1 a = some (.ins C dx fs) ∧ fs.lookup m = none ∧ Post (cfX X cls) W (RVc (cfX X cls)) S1.length S1.length g1 H1 (kk x S1) Q := by
    intro g1 S1 H1 v x Q kk rep1 rv q1
    unfold instR at q1
    split at q1
    · rename_i l
      split at q1
      · rename_i D fs eS
        split at q1
        · rename_i hc
          obtain rfl := no_of k hc.1
          obtain ⟨rfl, _⟩ := rv_loc rv
          obtain ⟨dx, vs, hH, hfs⟩ := ins_of rep1 eS
          exact ⟨_, dx, vs, rfl, hH, hfs.lookup.2 hc.2, q1⟩
        · exact (show False from q1).elim
      · exact (show False from q1).elim
    · exact (show False from q1).elim
  have hr' : Room kk X.A := hr.mono (Nat.le_succ _)
  cases es with
  | nil =>
    refine PE.imp (pe_meth0S (E := WE W) (ha env S) k.cl hmt F hr' hb2 hv2 (fun σ => passAt tk σ) hline ho) ?_
    rintro σ H Q ⟨g, rep, er, q⟩
    refine Post.bind rep er q fun x S1 g1 H1 v e1 ex rep1 er1 rv q1 => ?_
    obtain ⟨a, dx, fs, e2, hH, hn, q2⟩ := inst rep1 rv q1
    refine ⟨a, dx, fs, e2, hH, hn, ?_⟩
    rw [h0 rfl] at q2
    exact post_fn hF rep1 (.cons rv (RVs.append .nil (RVs.of_dp (hG _)))) q2
  | cons e r =>
    refine PE.imp (pe_methS (E := WE W) (ha env S) k.cl hmt F hr' hb2 hv2 (fun σ => passAt tk σ) (h env (stOf (ma env S))) hs hl hline ho) ?_
    rintro σ H Q ⟨g, rep, er, q⟩
    refine Post.bind rep er q fun x S1 g1 H1 v e1 ex rep1 er1 rv q1 => ?_
    obtain ⟨a, dx, fs, e2, hH, hn, q2⟩ := inst rep1 rv q1
    refine ⟨a, dx, fs, e2, hH, hn, ?_⟩
    rw [(valOf_eq (d := pv0) e1).2]
    refine Post.bind rep1 er1 q2 fun xs S2 g2 H2 vs e3 ex2 rep2 er2 rvs q3 => ?_
    exact post_fn hF rep2 (.cons (RV.up ex2.up rv) (RVs.append rvs (RVs.of_dp (hG _)))) q3
theorem Rep.made {K : PySem.W.Frag} {g : Gs} {S : Store} {H : Hp} (rep : Rep K g S H) {C x dx : Addr} (hx : H x = none) (hd : H dx = none) (hne : dx ≠ x) :
    Rep K (g.grow S.length x) (S ++ [Ob.inst C []]) (L2.upd (L2.upd H dx (.own x)) x (.ins C dx [])) := by
  have sd : Side g S.length dx := ⟨rep.gnew hd, fun l hl => rep.ne_of_new hd hl⟩
  have r1 := rep.side (o := .own x) sd
  refine r1.growO ?_ fun g' n' u => ⟨dx, [], rfl, .nil⟩
  rw [upd_ne (Ne.symm hne)]
  exact hx
theorem Ext.made {K : PySem.W.Frag} {g : Gs} {S : Store} {H : Hp} (rep : Rep K g S H) {C x dx : Addr} (hx : H x = none) (hd : H dx = none) (hne : dx ≠ x) :
    Ext S.length S.length g H (S ++ [Ob.inst C []]).length (g.grow S.length x) (L2.upd (L2.upd H dx (.own x)) x (.ins C dx [])) := by
  have sd : Side g S.length dx := ⟨rep.gnew hd, fun l hl => rep.ne_of_new hd hl⟩
  have e1 : Ext S.length S.length g H S.length g (L2.upd H dx (.own x)) := Ext.side (Ext.refl (Nat.le_refl _)) hd
  refine e1.trans (Ext.grow (o := .inst C []) ?_ (Nat.le_refl _)) (Nat.le_refl _)
  rw [upd_ne (Ne.symm hne)]
  exact hx
theorem se_make {x : Str} {c j nd : Nat} {ds : List PyData} {pp : Str × List Str × Nat × List (Str × Nat)} {C : Addr} (tk : Takes X W) (k : KlsAt X cls T Φ c pp C) (hx : x = pp.1) (hj : j = pp.2.2.1) (hds : dfsHas T j nd ds = true) (h : SA X cls W es ms) (hs : ∀ e ∈ es, isStar e = false) (h0 : es = [] → ∀ env S, ms env S = .ok [] S)
    (hg : gl X.env.scope x = true) (hok : okName x = true) : SE X cls W (.Call (.Name x p) es [] pos) fun env S => (ms env S).bind fun vs S1 => makeR Φ (T.fns.length + c) (fun S2 => Φ j (.loc S1.length :: (vs ++ ds.map PV.d)) S2) S1 := fun env S => by
  subst hx hj
  obtain ⟨fa, M, kk, fd, ps, n, F, hr, hF, hb, hd⟩ := k.mak
  obtain ⟨dv, dvs, hb2, hv2, hG⟩ := dv_of hb hd hds
  have fin : ∀ {σ : L2.St} {g1 : Gs} {S1 : Store} {H1 : Hp} {xs : List PV} {vs : List V} {Q : VK}, Rep X.K g1 S1 H1 → RVs X.K g1 S1.length vs xs →
      Post (cfX X cls) W (RVc (cfX X cls)) S1.length S1.length g1 H1 (makeR Φ (T.fns.length + c) (fun S2 => Φ pp.2.2.1 (.loc S1.length :: (xs ++ ds.map PV.d)) S2) S1) Q →
      ∀ a dx, H1 a = none → H1 dx = none → dx ≠ a → spOf X.K cls n (Φ pp.2.2.1) (.ref a :: (vs ++ dvs)) (L2.upd (L2.upd H1 dx (.own a)) a (.ins C dx [])) (fun v H2 => v = .non ∧ Q (.ref a) H2) (WE W σ) := by
    intro σ g1 S1 H1 xs vs Q rep1 rvs q1 a dx h1 h2 h3
    unfold makeR at q1
    cases hc : clsNo Φ (T.fns.length + c) with
    | none => rw [hc] at q1; exact (show False from q1).elim
    | some D =>
      rw [hc] at q1
      obtain rfl := no_of k hc
      have rep2 := rep1.made (C := D) h1 h2 h3
      have ex2 := Ext.made (C := D) rep1 h1 h2 h3
      have q2 := Post.move q1 ex2
      have hlen : (S1 ++ [Ob.inst D []]).length = S1.length + 1 := by simp
      have hlt : S1.length < (S1 ++ [Ob.inst D []]).length := by omega
      have rvs2 : RVs X.K (g1.grow S1.length a) (S1 ++ [Ob.inst D []]).length (.ref a :: (vs ++ dvs)) (.loc S1.length :: (xs ++ ds.map PV.d)) := by
        refine .cons ?_ (RVs.append (rvs.up ⟨by omega, ex2.sub, ex2.agr⟩) (RVs.of_dp (hG _)))
        have := RV.loc (K := X.K) (g := g1.grow S1.length a) hlt
        rwa [Gs.grow_at] at this
      refine ⟨?_, g1.grow S1.length a, S1 ++ [Ob.inst D []], _, rep2, rvs2, ?_⟩
      · rw [rvs2.length]
        by_cases hn : (PV.loc S1.length :: (xs ++ ds.map PV.d)).length = n
        · exact hn
        · have q2 : Post (cfX X cls) W (RVc (cfX X cls)) (S1 ++ [Ob.inst D []]).length (S1 ++ [Ob.inst D []]).length _ _ ((Φ pp.2.2.1 (.loc S1.length :: (xs ++ ds.map PV.d)) (S1 ++ [Ob.inst D []])).bind fun v S2 => match v with
            | .d .none => .ok (.loc S1.length) S2
            | _ => .stuck) Q := q2
          rw [hF _ _ hn] at q2
          exact (show False from q2).elim
      · have q2 : Post (cfX X cls) W (RVc (cfX X cls)) (S1 ++ [Ob.inst D []]).length (S1 ++ [Ob.inst D []]).length _ _ ((Φ pp.2.2.1 (.loc S1.length :: (xs ++ ds.map PV.d)) (S1 ++ [Ob.inst D []])).bind fun v S2 => match v with
            | .d .none => .ok (.loc S1.length) S2
            | _ => .stuck) Q := q2
        cases hr' : Φ pp.2.2.1 (.loc S1.length :: (xs ++ ds.map PV.d)) (S1 ++ [Ob.inst D []]) with
        | ok v S2 =>
          rw [hr'] at q2
          have q2 : Post (cfX X cls) W (RVc (cfX X cls)) (S1 ++ [Ob.inst D []]).length (S1 ++ [Ob.inst D []]).length _ _ (match (generalizing := false) v with
            | .d .none => .ok (.loc S1.length) S2
            | _ => .stuck) Q := q2
          split at q2
          · intro g' H' v' ex' rep' rv'
            refine ⟨rv_none rv', ?_⟩
            refine q2 g' H' (.ref a) ex' rep' ?_
            have h9 := ex'.agr S1.length hlt
            rw [Gs.grow_at] at h9
            have := RV.loc (K := X.K) (g := g') (n := S2.length) (l := S1.length) (Nat.lt_of_lt_of_le hlt ex'.le)
            rwa [h9] at this
          · exact (show False from q2).elim
        | err c as S2 =>
          rw [hr'] at q2
          exact fun g' H' σ' u d ex' rep' er' => q2 g' H' σ u d ex' rep' er'
        | stuck => rw [hr'] at q2; exact q2
  cases es with
  | nil =>
    refine PE.imp (pe_make0S (E := WE W) M F hr (gl_of hg) k.mg hb2 hv2 (fun σ => passAt tk σ) (name_of hok).1) ?_
    rintro σ H Q ⟨g, rep, er, q⟩
    have q : Post (cfX X cls) W (RVc (cfX X cls)) S.length S.length g H ((ms env S).bind fun vs S1 => makeR Φ (T.fns.length + c) (fun S2 => Φ pp.2.2.1 (.loc S1.length :: (vs ++ ds.map PV.d)) S2) S1) Q := q
    rw [h0 rfl] at q
    exact fin rep .nil q
  | cons e r =>
    refine PE.imp (pe_makeS (E := WE W) M F hr (gl_of hg) k.mg hb2 hv2 (fun σ => passAt tk σ) (h env S) (name_of hok).1 hs) ?_
    rintro σ H Q ⟨g, rep, er, q⟩
    refine Post.bind rep er q fun xs S1 g1 H1 vs e1 ex rep1 er1 rvs q1 => ?_
    exact fin rep1 rvs q1
theorem op_catR (al : Bool) (x y : PV) (S : Store) : OpR X (binaryOp Bop.add.op) (tV2 X cls W x y S (catR al x y S)) := by
  intro pins s σ H v u vv uu Q I rv ru h
  obtain ⟨g, rep, r1, r2, h⟩ := h
  unfold catR at h
  split at h
  · rename_i xs hx
    split at h
    · rename_i ys hy
      split at h
      · rename_i hz
        obtain ⟨a, vs, e1, rs, hg, _, hL⟩ := seq_get rep r1 hx
        obtain ⟨b, ws, e2, rs2, hg2, _, hL2⟩ := seq_get rep r2 hy
        subst e1; subst e2
        have l1 := rs.length
        have l2 := rs2.length
        exact op_catL pins s σ H _ _ _ _ Q I rv ru ⟨a, b, vs, ws, rfl, rfl, hL rfl, hL2 rfl, by omega, fun p hp => fin_ok h rep (rs.append rs2) p hp⟩
      · exact (stuckE h).elim
    · exact (stuckE h).elim
  · exact (stuckE h).elim
theorem se_catL (al : Bool) {a b : Expr} {ma mb : Env → Store → Res PV} (ha : SE X cls W a ma) (hb : SE X cls W b mb) : SE X cls W (.BinOp a Bop.add.op b pos) fun env S => (ma env S).bind fun x S1 => (mb env S1).bind fun y S2 => catR al x y S2 := fun env S => by
  refine PE.imp (pe_op (op_catR (cls := cls) (W := W) al (valOf pv0 (ma env S)) (valOf pv0 (mb env (stOf (ma env S)))) (stOf (mb env (stOf (ma env S))))) (ha env S) (hb env (stOf (ma env S)))) ?_
  rintro σ H Q ⟨g, rep, er, q⟩
  refine Post.bind rep er q fun x S1 g1 H1 v e1 ex rep1 er1 rv q1 => ?_
  obtain ⟨z1, z2⟩ := valOf_eq (d := pv0) e1
  rw [z1, z2]
  refine Post.bind rep1 er1 q1 fun y S2 g2 H2 u e2 ex2 rep2 er2 ru q2 => ?_
  obtain ⟨z3, z4⟩ := valOf_eq (d := pv0) e2
  rw [z3, z4]
  exact ⟨g2, rep2, rv.up ex2.up, ru, q2⟩
theorem rvs_rg {K : PySem.W.Frag} {g : Gs} {n : Nat} (i j : Int) : RVs K g n (rgV i j) (intsP i (j - i).toNat) := by
  unfold rgV intsP
  induction (List.range (j - i).toNat) with
  | nil => exact .nil
  | cons k r ih => exact .cons (.d (.int _)) ih
theorem se_lrange (al : Bool) {a b : Expr} {ma mb : Env → Store → Res PV} {px py pos2 : Pos} (hc : X.calm = true) (ha : SE X cls W a ma) (hb : SE X cls W b mb) (hs1 : isStar a = false) (hs2 : isStar b = false) (hg1 : gl X.env.scope (Str.ofString "list") = true) (hg2 : gl X.env.scope (Str.ofString "range") = true) (hm1 : X.mg (Str.ofString "list") = none) (hm2 : X.mg (Str.ofString "range") = none) :
    SE X cls W (.Call (.Name (Str.ofString "list") px) [.Call (.Name (Str.ofString "range") py) [a, b] [] pos2] [] pos) fun env S => (ma env S).bind fun x S1 => (mb env S1).bind fun y S2 => lrangeR al x y S2 := fun env S => by
  have n1 := star_cons (es := [b]) (env := X.env) hs1
  have n2 := star_cons (es := []) (env := X.env) hs2
  have hp : (backTo pos2 (starEach [b] X.env)).any (·.1) = false := star_plain (fun x hx => by rw [List.mem_singleton.mp hx]; exact hs2) pos2
  refine PE.imp (pe_listRg hc (gl_of hg1) hm1 (prg_2 (gl_of hg2) hm2 (ha env S) (hb env (stOf (ma env S))) n1 n2 hp) rfl) ?_
  rintro σ H Q ⟨g, rep, er, q⟩
  refine Post.bind rep er q fun x S1 g1 H1 v e1 ex rep1 er1 rv q1 => ?_
  rw [(valOf_eq (d := pv0) e1).2]
  refine Post.bind rep1 er1 q1 fun y S2 g2 H2 u e2 ex2 rep2 er2 ru q2 => ?_
  unfold lrangeR at q2
  split at q2
  · rename_i i j
    split at q2
    · rename_i hz
      simp only [Bool.and_eq_true, decide_eq_true_eq, small62] at hz
      obtain ⟨⟨⟨h1, h2⟩, h3, h4⟩, h5⟩ := hz
      have rv : RV X.K g1 S1.length v (.d (.int i)) := rv
      have ru : RV X.K g2 S2.length u (.d (.int j)) := ru
      exact ⟨i, j, rv_int rv, rv_int ru, ⟨h1, h2, h3, h4, by omega⟩, fin_ok q2 rep2 (rvs_rg i j)⟩
    · exact (stuckE q2).elim
  · exact (stuckE q2).elim
end
end PW

set_option maxHeartbeats 1000000
namespace PW
open PySem PySem.Spec PyProof.Rows L2
/-! PW4m: min(l, key=f), f a def of the program -/
section
variable {X : Cx} {cls : Nat → Option Value} {W : WX} {a e : Expr} {ma : Env → Store → Res PV} {pos p p2 kp : Pos}
theorem no_exc0 {P : Program} {w : World} {outer : List PySem.Env} {H : Hp} {s s' : Shared} {e : Value} (h : L2.CX P w outer H s (fun _ _ _ => False) e s') : False := by
  obtain ⟨_, _, _, _, _, _, _, _, _, _, _, _, z⟩ := h
  exact z
/-- a list that is walked while defs run -/
theorem walks_vals {prog : Program} {w : World} {A : Around} (hh : A.handled = none) (I l : Addr) (hne : l ≠ I) (vs : List V) :
    Walks prog w A I [I, l] [I] vs.length (fun i v => ∃ x, vs[i]? = some x ∧ RelV x v) (fun i h => h.IsListIter I l i ∧ ∃ items : Array Value, h.IsList l items ∧ Vals vs items.toList) where
  sub := fun b hb => by simp at hb; simp [hb]
  frame := fun _ _ _ st hk => ⟨st.1.at fun o e => hk I (by simp) o e, let ⟨items, h1, h2⟩ := st.2; ⟨items, h1.at fun o e => hk l (by simp) o e, h2⟩⟩
  item := fun i s Q E hi st hQ => by
    obtain ⟨st1, items, hl, hv⟩ := st
    obtain ⟨v, hx, hr⟩ := hv.get (List.getElem?_eq_getElem hi)
    refine wpAny_pyNext_list_item st1 hl (x := v) (by rw [← Array.getElem?_toList]; exact hx) fun h' hit' hs' => ?_
    exact hQ _ h' s.toks ⟨vs[i], List.getElem?_eq_getElem hi, hr⟩ ⟨hit', items, hl.extBut hs'.extBut hne, hv⟩ fun b o hb e => hs'.extBut b o (fun h => hb (by simp [h])) e
  done := fun s Q E st hQ => by
    obtain ⟨st1, items, hl, hv⟩ := st
    refine wpAny_pyNext_list_end hh st1 hl (by have h0 : vs.length = items.toList.length := hv.length; rw [Array.getElem?_eq_none_iff, ← Array.length_toList, ← h0]; exact Nat.le_refl _) fun h' he' => hQ h' s.toks fun b o hb e => he' b o (fun h => hb (by simp [h])) e
  self := fun _ _ _ _ st hQ => wpAny_pyIter_listiter st.1 hQ
theorem keys_get {F : List PV → Store → Res PV} {S : Store} : ∀ {ds : List PyData} {ks : List Int} {i : Nat} {x : PyData}, keysK F S ds = some ks → ds[i]? = some x → F [.d x] S = .ok (.d (.int (ks.getD i 0))) S
  | [], _, i, x, _, h => by simp at h
  | y :: r, ks, i, x, h, hx => by
    unfold keysK at h
    split at h
    · rename_i k S' e
      split at h
      · rename_i hS
        subst hS
        cases hk : keysK F S' r with
        | none => rw [hk] at h; cases h
        | some ks' =>
          rw [hk] at h
          cases h
          cases i with
          | zero =>
            simp at hx
            subst hx
            exact e
          | succ i =>
            have := keys_get (i := i) (x := x) hk (by simpa using hx)
            simpa using this
      · cases h
    · cases h
/-- behind a change of records that are not ours -/
theorem inv_moved {pins : List (Addr × Obj)} {σ : L2.St} {H : Hp} {s s' : Shared} {ch : List Addr} (I : Inv X pins σ H s) (hm : Moved ch (fun a b => b = a) s s')
    (hch : ∀ b ∈ ch, (b ∈ X.ex ∨ X.s_0.heap.objs.size ≤ b) ∧ b ≠ X.env.locals ∧ (∀ x c, X.env.cells.lookup x = some c → c ≠ b) ∧ ∀ p ∈ X.pn ++ pins, p.1 ≠ b) (hn : ∀ b ∈ ch, H b = none) : Inv X pins σ H s' := by
  refine I.call' (ch := ch) hm.os ⟨fun b o e _ _ hb => hm.heap b o hb e, fun b o e _ _ hb => ⟨o.slots, hm.heap b o hb e⟩, fun _ _ _ n _ => n, fun b o e hb => ⟨o, hm.heap b o hb e⟩, fun _ _ q => q, fun _ _ _ q => q, fun _ ps q => ⟨#[], by rw [q]; simp⟩⟩ (fun b u e => ?_) (by rw [hm.gens]; exact I.bare) hch
  refine (I.hok b u e).stay (fun c v hc q => hm.heap c v (fun z => ?_) q) (fun _ q => q) fun _ _ q => q
  have := hn c z
  rcases hc with rfl | hc
  · rw [e] at this; cases this
  · rw [hc] at this; cases this
theorem minRun {x : Str} {k n : Nat} {fa : Addr} {fd : FuncData} {ps : List Str} {F : List PV → Store → Res PV} (G : FnOk X.prog X.w X.K X.mg X.base (L2.CX X.prog X.w) k fa fd ps (spOf X.K cls n F)) (hr : Room k X.A.in1) (hb : Binds X.K fd ps [])
    (hF : ∀ xs S, xs.length ≠ n → F xs S = .stuck) {pins : List (Addr × Obj)} {σ : L2.St} {H : Hp} {s : Shared} {Q : VK} (I : Inv X pins σ H s) {g : Gs} {S : Store} {l : Addr} {vs : List V} {ds : List PyData} {ks : List Int} {y : PyData} (rep : Rep X.K g S H)
    (hl : SqL X.K g.G l vs) (hd : DpAll X.K g.G vs ds) (hk : keysK F S ds = some ks) (hy : minAt ds ks = some y) (hQ : ∀ g' H' v, Ext S.length S.length g H S.length g' H' → Rep X.K g' S H' → RV X.K g' S.length v (.d y) → Q v H') :
    wpAny (model X.prog X.w) X.A (call (.builtin "min") [.ref l] [(Str.ofString "key", .ref fa)]) (EP X pins σ Q) X.xe s := by
  have hlen : vs.length = ds.length := by have := (RVs.of_dp (n := S.length) hd).length; simpa using this
  have hpos : 0 < ds.length := by
    cases ds with
    | nil => simp [minAt] at hy
    | cons _ _ => simp
  have toList : ∀ {g' : Gs} {H' : Hp} {s' : Shared}, Inv X pins σ H' s' → Same g.G g'.G → Rep X.K g' S H' → ∃ items : Array Value, s'.heap.IsList l items ∧ Vals vs items.toList := fun {g' H' s'} I' sm rep' => by
    obtain ⟨its, rv, pl, _⟩ := I'.list (rep'.sub.seq (sm.seq hl))
    exact ⟨its.toArray, pl.isList, by simpa using rv⟩
  obtain ⟨items, hil, hvi⟩ := toList I (.refl _) rep
  refine call_min_walkK (wpAny_pyIter_list hil ?_)
  have hlt : l < s.heap.objs.size := by
    obtain ⟨o, ho, _⟩ := hil
    exact Heap.lt_size ho
  have hh : X.A.in1.handled = none := hr.hd
  -- the iterator and min's own list
  have hN : ∀ b, s.heap.objs.size ≤ b → (b ∈ X.ex ∨ X.s_0.heap.objs.size ≤ b) ∧ b ≠ X.env.locals ∧ (∀ x c, X.env.cells.lookup x = some c → c ≠ b) ∧ ∀ p ∈ X.pn ++ pins, p.1 ≠ b := fun b hb => by
    refine ⟨.inr (Nat.le_trans I.sz hb), fun z => ?_, fun x c e z => ?_, fun p hp z => ?_⟩
    · exact Nat.lt_irrefl _ (Nat.lt_of_lt_of_le (z ▸ I.lt) hb)
    · obtain ⟨v, o, ho, _⟩ := I.cell x c e
      exact Nat.lt_irrefl _ (Nat.lt_of_lt_of_le (z ▸ Heap.lt_size ho) hb)
    · exact Nat.lt_irrefl _ (Nat.lt_of_lt_of_le (z ▸ Heap.lt_size (I.pin p hp).1) hb)
  have hge : ∀ b ∈ [s.heap.objs.size + 1, s.heap.objs.size], s.heap.objs.size ≤ b := fun b hb => by
    rcases List.mem_cons.mp hb with rfl | hb
    · exact Nat.le_succ _
    · rw [List.mem_singleton.mp hb]; exact Nat.le_refl _
  have hsz2 : (s.heap.push { cls := .type "list_iterator", data := .fields #[.ref l, .int 0 0] }).objs.size = s.heap.objs.size + 1 := size_push' _ _
  have I2 : Inv X pins σ H { s with heap := s.heap.push { cls := .type "list_iterator", data := .fields #[.ref l, .int 0 0] } } := I.kept (t' := s.toks) fun b u e => Heap.get?_push_of_some _ e
  refine ⟨s.heap.objs.size, [s.heap.objs.size, l], [s.heap.objs.size], fun a b => b = a, vs.length, _, _,
    fun s' => ∃ g' H', Inv X pins σ H' s' ∧ Rep X.K g' S H' ∧ Ext S.length S.length g H S.length g' H' ∧ ∀ b ∈ [s.heap.objs.size + 1, s.heap.objs.size], H' b = none,
    fun i k _ => ∃ t, k = .int (ks.getD i 0) t, fun i j => decide (ks.getD i 0 < ks.getD j 0), rfl, (walks_vals hh s.heap.objs.size l (Nat.ne_of_lt hlt) vs).toS, ⟨⟨_, Heap.get?_push_size _ rfl, rfl, rfl⟩, items, hil.push _, hvi⟩, fun b hb => ?_, by omega, ?_,
    ⟨g, H, I2, rep, .refl (Nat.le_refl _), fun b hb => ?_⟩, fun v s' hv hJ => ?_⟩
  · show b < _
    rw [hsz2]
    rcases List.mem_cons.mp hb with rfl | hb
    · exact Nat.lt_succ_self _
    · rw [List.mem_singleton.mp hb]; exact Nat.lt_succ_of_lt hlt
  · rw [show (({ s with heap := s.heap.push { cls := .type "list_iterator", data := .fields #[.ref l, .int 0 0] } } : Shared)).heap.objs.size = s.heap.objs.size + 1 from hsz2]
    refine ⟨fun s1 s2 ⟨g', H', J, r', ex, hn⟩ hm => ⟨g', H', inv_moved J hm (fun b hb => hN b ?_) hn, r', ex, hn⟩, fun i k s1 s2 h _ => h, fun i v s1 o Q' E' hi hP hJ hst hS hQ' => ?_, fun i j ki kj s1 Q' E' hJ hi hj hQ' => ?_⟩
    · exact hge b hb
    · obtain ⟨g', H', J, r', ex, hn⟩ := hJ
      obtain ⟨x, hx, rx⟩ := hP
      have hids : i < ds.length := by omega
      have hdi : ds[i]? = some ds[i] := List.getElem?_eq_getElem hids
      have hF1 := keys_get hk hdi
      have hn1 : n = 1 := by
        by_cases h : n = 1
        · exact h
        · rw [hF _ _ (by simp; omega)] at hF1; cases hF1
      obtain ⟨x', hx', rvx⟩ := (RVs.of_dp (n := S.length) hd).getV hx
      rw [List.getElem?_map, hdi] at hx'
      cases hx'
      have hsp : spOf X.K cls n F [x] H' (fun v H2 => v = .int (ks.getD i 0) ∧ ∃ g2, Rep X.K g2 S H2 ∧ Ext S.length S.length g H S.length g2 H2) fun _ _ _ => False := by
        refine ⟨by simp [hn1], g', S, [.d ds[i]], r', .cons (rvx.up ex.up) .nil, ?_⟩
        rw [hF1]
        intro g2 H2 v2 ex2 rep2 rv2
        exact ⟨rv_int rv2, g2, rep2, ex.trans ex2 (Nat.le_refl _)⟩
      have hlp : ([v] ++ ([] : List Value)).length = ps.length := by
        have := G.len _ _ _ _ hsp
        simpa using this
      refine wpAny_call (codeAny_mono (G.run X.A.in1 X.stack s1 H' ⟨[v], []⟩ [v] [x] _ _ hr J.env0.in1 (by simpa using hb s1 [v] J.kIn hlp) (.cons rx .nil) hsp) fun r s' hq => ?_)
      cases r with
      | error e => exact (no_exc0 hq).elim
      | ok fl =>
        cases fl with
        | ret u =>
          obtain ⟨v2, H2, os, bare, un, hok, rv, ⟨hv2, g2, rep2, ex2⟩⟩ := hq
          subst hv2
          have J2 : Inv X pins σ H2 s' := J.call' os un hok bare fun b hb => (nomatch hb)
          have notfs : ∀ b, s.heap.objs.size ≤ b → b ∉ frs X.stack := fun b hb z => by
            rcases List.mem_cons.mp (J.stkSub b z) with z | z
            · exact (hN b hb).2.1 z
            · exact I.nofs hb z
          have kp : ∀ b o, b ∈ [s.heap.objs.size + 1, s.heap.objs.size] → s1.heap.get? b = some o → s'.heap.get? b = some o := fun b o hb e => un.keep b o e (hn b hb) (notfs b (hge b hb)) (by simp)
          have fr : ∀ b o, b ∈ [s.heap.objs.size + 1, s.heap.objs.size] → s1.heap.get? b = some o → H2 b = none := fun b o hb e => un.free b o e (hn b hb) (by simp)
          obtain ⟨hit, _⟩ := hst
          obtain ⟨oI, hoI, _⟩ := id hit
          refine hQ' u s' ⟨g2, H2, J2, rep2, ex2, fun b hb => ?_⟩ ⟨hit.at fun o e => kp _ o (by simp) e, toList J2 ex2.sub rep2⟩ (kp _ _ (by simp) hS) rv fun _ _ h => h
          simp at hb
          rcases hb with rfl | rfl
          · exact fr _ _ (by simp) hS
          · exact fr _ _ (by simp) hoI
        | next => exact False.elim hq
        | brk => exact False.elim hq
        | cont => exact False.elim hq
    · obtain ⟨t, rfl⟩ := hi
      obtain ⟨u, rfl⟩ := hj
      exact (CmpOf.ints_lt (P := fun i v => ∃ t, v = .int (ks.getD i 0) t) (fun i => ks.getD i 0) fun _ _ h => h) i j _ _ s1 Q' E' ⟨t, rfl⟩ ⟨u, rfl⟩ hQ'
  · exact I.hok.fresh (hge b hb)
  · obtain ⟨g', H', J, r', ex, hn⟩ := hJ
    obtain ⟨x, hx, rx⟩ := hv
    rw [hlen] at hx
    obtain ⟨x', hx', rvx⟩ := (RVs.of_dp (n := S.length) hd).getV hx
    have hy' : (ds.map PV.d)[argBest (fun i j => decide (ks.getD i 0 < ks.getD j 0)) (ds.length - 1)]? = some (.d y) := by
      rw [List.getElem?_map, show ds[argBest (fun i j => decide (ks.getD i 0 < ks.getD j 0)) (ds.length - 1)]? = some y from hy]
      rfl
    rw [hy'] at hx'
    cases hx'
    exact ⟨x, H', J, rx, hQ g' H' x ex r' (rvx.up ex.up)⟩
theorem se_minK {y : Str} {k n : Nat} {fa : Addr} {fd : FuncData} {ps : List Str} {F : List PV → Store → Res PV} (G : FnOk X.prog X.w X.K X.mg X.base (L2.CX X.prog X.w) k fa fd ps (spOf X.K cls n F)) (hr : Room k X.A.in1) (hm : X.mg y = some (.ref fa)) (hb : Binds X.K fd ps [])
    (hg : gl X.env.scope Bn.min.name = true) (hmn : X.mg Bn.min.name = none) (hgy : gl X.env.scope y = true) (hoy : okName y = true) (hs : isStar a = false) (hF : ∀ xs S, xs.length ≠ n → F xs S = .stuck) (h : SE X cls W a ma) :
    SE X cls W (.Call (.Name Bn.min.name p) [a] [⟨some (Str.ofString "key"), .Name y p2, kp⟩] pos) fun env S => (ma env S).bind fun v S1 => minR F v S1 := fun env S => by
  have pk : PK X [⟨some (Str.ofString "key"), .Name y p2, kp⟩] (tCons (tC (.ref fa)) tNil) := pk_cons (pe_glob (gl_of hgy) hm rfl (name_of hoy).1) pk_nil
  have cr : CallRK X (.builtin "min") [Str.ofString "key"] (fun xs zs H Q => ∃ g S l vs ds ks y, xs = [.ref l] ∧ zs = [.ref fa] ∧ Rep X.K g S H ∧ SqL X.K g.G l vs ∧ DpAll X.K g.G vs ds ∧ keysK F S ds = some ks ∧ minAt ds ks = some y ∧
      ∀ g' H' v, Ext S.length S.length g H S.length g' H' → Rep X.K g' S H' → RV X.K g' S.length v (.d y) → Q v H') := by
    rintro pins s σ H xs zs us ws Q I r rz ⟨g, S, l, vs, ds, ks, y, rfl, rfl, rep, hl, hd, hk, hy, hQ⟩
    obtain rfl := Vals.ref1 r
    obtain rfl := Vals.ref1 rz
    exact minRun (x := Bn.min.name) G hr hb hF I rep hl hd hk hy hQ
  have pa : PA X [a] (tCons _ tNil) := pa_cons (h env S) pa_nil (star_cons hs)
  refine PE.imp (pe_callBK cr (gl_of hg) hmn (bn_boot .min) pa pk (bn_name .min).1 (bn_name .min).2 (by rw [star_cons hs]; rfl) (by rw [star_cons hs]; rfl)) ?_
  rintro σ H Q ⟨g, rep, er, q⟩
  refine Post.bind rep er q fun x S1 g1 H1 v e1 ex rep1 er1 rv q1 => ?_
  have rv : RV X.K g1 S1.length v x := rv
  show ∃ g S l vs ds ks y, _
  cases x with
  | d z =>
    cases z with
    | list ds =>
      dsimp only [minR] at q1
      split at q1
      · rename_i ks hk
        split at q1
        · rename_i y hy
          cases rv with
          | d hd =>
            cases hd with
            | lst hl hd => exact ⟨g1, S1, _, _, ds, ks, y, rfl, rfl, rep1, hl, hd, hk, hy, q1⟩
        · exact (show False from q1).elim
      · exact (show False from q1).elim
    | _ => exact (show False from q1).elim
  | _ => exact (show False from q1).elim
end
end PW

set_option maxHeartbeats 1000000
namespace PW
open PySem PySem.Spec PyProof.Rows L2
/-! PW4e: what is walked, targets, comprehensions -/
section
variable {α β : Type}
/-- the reading of a step, over whatever state it is met in -/
def tRx (cf : Cfg) (W : WX) (R : Gs → Nat → β → α → Prop) (m : Env → Store → Res α) : L2.St → Hp → (β → Hp → Prop) → Prop := fun σ H Q => ∃ env S, tR cf W R env S (m env S) σ H Q
end
abbrev RW (X : Cx) : Gs → Nat → It → Walked → Prop := fun g n J w => Wk X.K w J g n
def walkM (k : Ik) (ms : Env → Store → Res (List PV)) (env : Env) (S : Store) : Res Walked := (ms env S).bind fun vs S1 => match walkOf S1 k vs with
  | some w => .ok w S1
  | none => .stuck
theorem walk_same {S : Store} {k : Ik} {vs : List PV} {w : Walked} (h : walkOf S k vs = some w) : w.same S := by
  cases k with
  | of =>
    have h : walkV S vs = some w := h
    unfold walkV at h
    split at h
    · cases h; trivial
    · split at h
      · rename_i o e
        cases h
        exact (lk_some e).1
      · cases h
    · split at h
      · cases h; trivial
      · cases h
    · cases h
  | rng1 =>
    have h : walkR1 vs = some w := h
    unfold walkR1 at h
    split at h
    · split at h
      · cases h; trivial
      · cases h
    · cases h
  | rng2 =>
    have h : walkR2 vs = some w := h
    unfold walkR2 at h
    split at h
    · split at h
      · cases h; trivial
      · cases h
    · cases h
  | enum => cases h
  | zip => cases h
def SI (X : Cx) (cls : Nat → Option Value) (W : WX) (tg iter : Expr) (m : Env → Store → Res Walked) : Prop := ∀ env S, ∃ wi, PI X tg iter wi ∧ ∀ σ H R, tR (cfX X cls) W (RW X) env S (m env S) σ H R → wi σ H R
section
variable {X : Cx} {cls : Nat → Option Value} {W : WX} {e tg : Expr} {es : List Expr} {ma : Env → Store → Res PV} {ms : Env → Store → Res (List PV)} {pos p : Pos}
theorem pex (h : SE X cls W e ma) : PE X e (tRx (cfX X cls) W (RVc (cfX X cls)) ma) := ⟨fun pins s σ H Q I ⟨env, S, q⟩ => (h env S).run pins s σ H Q I q⟩
theorem ptx (h : ST X cls W e ma) : PT X e (tRx (cfX X cls) W RB fun env S => asBool (ma env S)) := ⟨fun pins s σ H Q I ⟨env, S, q⟩ => (h env S).run pins s σ H Q I q⟩
/-- a walk over a value -/
theorem si_of (h : SE X cls W e ma) : SI X cls W tg e (walkM .of fun env S => (ma env S).bind fun v S1 => (Res.ok [] S1).bind fun vs S2 => .ok (v :: vs) S2) := fun env S => by
  have e0 : walkM .of (fun env S => (ma env S).bind fun v S1 => (Res.ok [] S1).bind fun vs S2 => .ok (v :: vs) S2) env S = (ma env S).bind fun v S1 => match walkOf S1 .of [v] with
    | some w => .ok w S1
    | none => .stuck := by unfold walkM; dsimp only; cases ma env S <;> rfl
  rw [e0]
  have bad : (∀ x S1, ma env S = .ok x S1 → walkOf S1 .of [x] = none) → ∀ σ H R, tR (cfX X cls) W (RW X) env S ((ma env S).bind fun v S1 => match walkOf S1 .of [v] with
      | some w => .ok w S1
      | none => .stuck) σ H R → iList X.K (tR (cfX X cls) W (RVc (cfX X cls)) env S (ma env S)) σ H R := by
    rintro hb σ H R ⟨g, rep, er, q⟩
    refine Post.bind rep er q fun x S1 g1 H1 v e1 ex rep1 er1 rv q1 => ?_
    rw [hb x S1 e1] at q1
    exact (show False from q1).elim
  cases hm : ma env S with
  | err c as S' => rw [hm] at bad; exact ⟨_, pi_list (by have := h env S; rw [hm] at this; exact this), bad (by intro _ _ z; cases z)⟩
  | stuck => rw [hm] at bad; exact ⟨_, pi_list (by have := h env S; rw [hm] at this; exact this), bad (by intro _ _ z; cases z)⟩
  | ok x S0 =>
    have hp := h env S
    rw [hm] at hp bad
    have here : ∀ {g g1 : Gs} {H H1 : Hp} {w : Walked} {R : It → Hp → Prop} {J : It}, walkOf S0 .of [x] = some w → Post (cfX X cls) W (RW X) S0.length S0.length g1 H1 (match walkOf S0 .of [x] with
      | some w => .ok w S0
      | none => .stuck) R → Rep X.K g1 S0 H1 → Wk X.K w J g1 S0.length → R J H1 := fun {g g1 H H1 w R J} ew q rep wk => by
        rw [ew] at q
        exact q g1 H1 J (Ext.refl (Nat.le_refl _)) rep wk
    have lst : ∀ {xs : List PV}, walkOf S0 .of [x] = some ⟨xs, none⟩ → seqOf S0 x = some (false, xs) → (∀ l, x ≠ .loc l) → ∃ wi, PI X tg e wi ∧ ∀ σ H R, tR (cfX X cls) W (RW X) env S ((Res.ok x S0).bind fun v S1 => match walkOf S1 .of [v] with
      | some w => .ok w S1
      | none => .stuck) σ H R → wi σ H R := fun {xs} ew es hl => by
        refine ⟨_, pi_list hp, ?_⟩
        rintro σ H R ⟨g, rep, er, q⟩
        refine Post.bind rep er q fun x' S1 g1 H1 v e1 ex rep1 er1 rv q1 => ?_
        cases e1
        have rv0 := rv
        obtain ⟨a, vs, rfl, rs, _, _, hL⟩ := seq_get rep1 rv es
        refine ⟨a, rfl, ⟨vs, hL rfl⟩, here (g := g) (H := H) ew q1 rep1 ?_⟩
        cases rv with
        | d z =>
          cases z with
          | lst hs ha =>
            cases es
            exact wk_list hs (.of_dp ha)
          | tup hs ha => cases es
        | loc _ => exact absurd rfl (hl _)
        | tup hs ha => cases es
        | lst hs ha =>
          cases es
          exact wk_list hs ha
    have tup : ∀ {xs : List PV}, walkOf S0 .of [x] = some ⟨xs, none⟩ → seqOf S0 x = some (true, xs) → ∃ wi, PI X tg e wi ∧ ∀ σ H R, tR (cfX X cls) W (RW X) env S ((Res.ok x S0).bind fun v S1 => match walkOf S1 .of [v] with
      | some w => .ok w S1
      | none => .stuck) σ H R → wi σ H R := fun {xs} ew es => by
        refine ⟨_, pi_tup hp, ?_⟩
        rintro σ H R ⟨g, rep, er, q⟩
        refine Post.bind rep er q fun x' S1 g1 H1 v e1 ex rep1 er1 rv q1 => ?_
        cases e1
        obtain ⟨a, vs, rfl, rs, hg, hT, _⟩ := seq_get rep1 rv es
        exact ⟨a, rfl, ⟨vs, hT rfl⟩, here (g := g) (H := H) ew q1 rep1 (wk_tup (hg rfl) rs)⟩
    cases x with
    | loc l =>
      cases hS : lk S0 l with
      | none => exact ⟨_, pi_list hp, bad (by intro x' S' z; cases z; simp [walkOf, walkV, hS])⟩
      | some o =>
        refine ⟨_, pi_list hp, ?_⟩
        rintro σ H R ⟨g, rep, er, q⟩
        refine Post.bind rep er q fun x' S1 g1 H1 v e1 ex rep1 er1 rv q1 => ?_
        cases e1
        obtain ⟨rfl, hlt⟩ := rv_loc rv
        obtain ⟨ws, hH, _⟩ := rep1.lst hS
        exact ⟨_, rfl, ⟨ws, .of hH⟩, here (g := g) (H := H) (w := ⟨o.items, some (l, o)⟩) (by simp [walkOf, walkV, hS]) q1 rep1 (wk_loc hlt (lk_some hS).2)⟩
    | mix t xs =>
      cases t with
      | true => exact tup (xs := xs) rfl rfl
      | false => exact lst (xs := xs) rfl rfl (fun _ z => nomatch z)
    | d y =>
      cases y with
      | str z =>
        refine ⟨_, pi_str hp, ?_⟩
        rintro σ H R ⟨g, rep, er, q⟩
        refine Post.bind rep er q fun x' S1 g1 H1 v e1 ex rep1 er1 rv q1 => ?_
        cases e1
        cases rv_str rv
        exact ⟨z, rfl, here (g := g) (H := H) (w := ⟨chars z, none⟩) rfl q1 rep1 (wk_str z _ _)⟩
      | list ds => exact lst (xs := ds.map .d) rfl rfl (fun _ z => nomatch z)
      | tuple ds => exact tup (xs := ds.map .d) rfl rfl
      | none => exact ⟨_, pi_list hp, bad (by intro x' S' z; cases z; rfl)⟩
      | bool b => exact ⟨_, pi_list hp, bad (by intro x' S' z; cases z; rfl)⟩
      | int b => exact ⟨_, pi_list hp, bad (by intro x' S' z; cases z; rfl)⟩
      | dict b => exact ⟨_, pi_list hp, bad (by intro x' S' z; cases z; rfl)⟩
theorem small62_of {i : Int} (h : small62 i = true) : -(2 ^ 62) ≤ i ∧ i < 2 ^ 62 := by
  unfold small62 at h
  simpa using h
theorem si_rng1 (hg : gl X.env.scope (Str.ofString "range") = true) (hm : X.mg (Str.ofString "range") = none) (hs : isStar e = false) (h : SA X cls W [e] ms) : SI X cls W tg (.Call (.Name (Str.ofString "range") p) [e] [] pos) (walkM .rng1 ms) := fun env S => by
  refine ⟨_, pi_range1 (gl_of hg) hm (h env S) (by rw [star_cons hs]; rfl), ?_⟩
  rintro σ H R ⟨g, rep, er, q⟩
  refine Post.bind rep er q fun xs S1 g1 H1 vs e1 ex rep1 er1 rvs q1 => ?_
  have rvs : RVs X.K g1 S1.length vs xs := rvs
  cases hw : walkOf S1 .rng1 xs with
  | none => rw [hw] at q1; exact (show False from q1).elim
  | some w =>
    rw [hw] at q1
    replace hw : walkR1 xs = some w := hw
    unfold walkR1 at hw
    split at hw
    · rename_i n
      split at hw
      · rename_i hb
        cases hw
        obtain ⟨v, rfl, rv⟩ := rvs1 rvs
        cases rv_int rv
        obtain ⟨b1, b2⟩ := small62_of hb
        exact ⟨_, rfl, b1, b2, q1 g1 H1 _ (Ext.refl (Nat.le_refl _)) rep1 (wk_range _ _ _ _)⟩
      · cases hw
    · cases hw
theorem si_rng2 {e2 : Expr} (hg : gl X.env.scope (Str.ofString "range") = true) (hm : X.mg (Str.ofString "range") = none) (hs : isStar e = false) (hs2 : isStar e2 = false) (h : SA X cls W [e, e2] ms) : SI X cls W tg (.Call (.Name (Str.ofString "range") p) [e, e2] [] pos) (walkM .rng2 ms) := fun env S => by
  refine ⟨_, pi_range2 (gl_of hg) hm (h env S) (by rw [star_cons hs, star_cons hs2]; rfl) (by rw [star_cons hs2]; rfl), ?_⟩
  rintro σ H R ⟨g, rep, er, q⟩
  refine Post.bind rep er q fun xs S1 g1 H1 vs e1 ex rep1 er1 rvs q1 => ?_
  have rvs : RVs X.K g1 S1.length vs xs := rvs
  cases hw : walkOf S1 .rng2 xs with
  | none => rw [hw] at q1; exact (show False from q1).elim
  | some w =>
    rw [hw] at q1
    replace hw : walkR2 xs = some w := hw
    unfold walkR2 at hw
    split at hw
    · rename_i i j
      split at hw
      · rename_i hb
        rw [Bool.and_eq_true] at hb
        cases hw
        obtain ⟨v, u, rfl, rv, ru⟩ := rvs2 rvs
        cases rv_int rv
        cases rv_int ru
        obtain ⟨b1, b2⟩ := small62_of hb.1
        obtain ⟨b3, b4⟩ := small62_of hb.2
        exact ⟨_, _, rfl, ⟨b1, b2, b3, b4⟩, q1 g1 H1 _ (Ext.refl (Nat.le_refl _)) rep1 (wk_range _ _ _ _)⟩
      · cases hw
    · cases hw
end
end PW

set_option maxHeartbeats 1000000
namespace PW
open PySem PySem.Spec PyProof.Rows L2
/-! PW4f: targets, comprehensions -/
theorem wipe_get (σ : L2.St) (j : Nat) : ∀ vs : List Nat, (wipe σ vs)[j]? = if j ∈ vs then (if j < List.length σ then some none else none) else σ[j]?
  | [] => by simp [wipe]
  | v :: vs => by
    have ih := wipe_get σ j vs
    unfold wipe
    rw [List.getElem?_set]
    by_cases h : v = j
    · subst h
      rw [if_pos rfl, wipe_length]
      simp
    · rw [if_neg h, ih]
      have : j ≠ v := fun e => h e.symm
      simp [this]
theorem wipe_ext {σ τ : L2.St} {vs : List Nat} (hl : List.length σ = List.length τ) (h : ∀ j, j ∉ vs → σ[j]? = τ[j]?) : wipe σ vs = wipe τ vs := by
  apply List.ext_getElem?
  intro j
  rw [wipe_get, wipe_get, hl]
  by_cases hj : j ∈ vs
  · simp [hj]
  · simp [hj, h j hj]
/-- a target takes a value -/
def tTg (X : Cx) (tg : Tg) : TG := fun v σ H Q => ∃ g S env x env1, Rep X.K g S H ∧ EnvR X.K g S.length env σ ∧ RV X.K g S.length v x ∧ putTg tg x env = some env1 ∧
  ∀ σ', EnvR X.K g S.length env1 σ' → List.length σ' = List.length σ → (∀ vs, tg.inB vs = true → ∀ j, j ∉ vs → σ'[j]? = σ[j]?) → Q σ' H
section
variable {X : Cx} {e : Expr} {es : List Expr} {pos : Pos}
theorem pg_slot {sc : Scope} {N : List Str} {top : Bool} {i : Nat} (hN : X.N.Nodup) (eN : X.N = N) (es : X.env.scope = sc) (ht : top = true → ∀ x, X.fn x = true) (h : slotTg sc N top i e = true) : PG X e (gName i) ∧ ∃ x p, e = .Name x p := by
  unfold slotTg at h
  split at h
  · rename_i x p
    rw [Bool.and_eq_true, decide_eq_true_eq] at h
    obtain ⟨h1, h2⟩ := h
    refine ⟨?_, x, p, rfl⟩
    subst eN
    subst es
    split at h2
    · rename_i hl
      exact pg_name hN h1 (.inl hl) (.inr hl)
    · rename_i hl
      exact pg_name hN h1 (.inr hl) (.inl (ht h2 x))
    · cases h2
  · cases h
def tTgs (X : Cx) (is : List Nat) : TGs := fun vs σ H Q => ∃ g S env xs, Rep X.K g S H ∧ EnvR X.K g S.length env σ ∧ RVs X.K g S.length vs xs ∧ xs.length = is.length ∧
  ∀ σ', EnvR X.K g S.length ((is.zip xs).foldl (fun e p => e.set p.1 (some p.2)) env) σ' → List.length σ' = List.length σ → (∀ vs : List Nat, is.all vs.contains = true → ∀ j, j ∉ vs → σ'[j]? = σ[j]?) → Q σ' H
theorem PGs.imp {t t' : TGs} (h : PGs X es t) (k : ∀ vs σ H Q, t' vs σ H Q → t vs σ H Q) : PGs X es t' := ⟨fun pins s σ H vs us Q I r q => h.run pins s σ H vs us Q I r (k vs σ H Q q)⟩
theorem PG.imp {t t' : TG} (h : PG X e t) (k : ∀ v σ H Q, t' v σ H Q → t v σ H Q) : PG X e t' := ⟨fun pins s σ H v u Q I r q => h.run pins s σ H v u Q I r (k v σ H Q q)⟩
theorem pgs_slots {sc : Scope} {N : List Str} {top : Bool} (hN : X.N.Nodup) (eN : X.N = N) (esc : X.env.scope = sc) (ht : top = true → ∀ x, X.fn x = true) : ∀ (is : List Nat) (es : List Expr), (es.length == is.length) = true → ((is.zip es).all fun p => slotTg sc N top p.1 p.2) = true →
    PGs X es (tTgs X is) ∧ (assignEach es X.env).length = is.length ∧ (assignEach es X.env).findIdx? (·.1) = none
  | [], [], _, _ => by
    refine ⟨PGs.imp pgs_nil ?_, rfl, rfl⟩
    rintro vs σ H Q ⟨g, S, env, xs, rep, er, rvs, hl, q⟩
    have : xs = [] := by cases xs; rfl; simp at hl
    subst this
    cases rvs
    exact ⟨rfl, q σ er rfl (fun _ _ _ _ => rfl)⟩
  | i :: is, e :: es, hl, h => by
    simp only [List.zip_cons_cons, List.all_cons, Bool.and_eq_true] at h
    obtain ⟨h1, x, p, rfl⟩ := pg_slot hN eN esc ht h.1
    obtain ⟨h2, h3, h4⟩ := pgs_slots hN eN esc ht is es (by simpa using hl) h.2
    refine ⟨PGs.imp (pgs_cons h1 h2 rfl) ?_, ?_, ?_⟩
    · rintro vs σ H Q ⟨g, S, env, xs, rep, er, rvs, hl, q⟩
      cases rvs with
      | nil => simp at hl
      | cons a t =>
        rename_i v x vs xs
        refine ⟨v, vs, rfl, ?_⟩
        refine ⟨g, S, env.set i (some x), xs, rep, er.set a, t, by simpa using hl, fun σ' er' hlen hfar => ?_⟩
        refine q σ' er' (by simpa using hlen) fun vs hv j hj => ?_
        simp only [List.all_cons, Bool.and_eq_true] at hv
        rw [hfar vs hv.2 j hj]
        have : i ≠ j := by
          rintro rfl
          exact hj (by simpa using hv.1)
        rw [List.getElem?_set_ne this]
    · show (assignEach es X.env).length + 1 = is.length + 1
      rw [h3]
    · show List.findIdx? (·.1) ((false, _) :: assignEach es X.env) = none
      rw [List.findIdx?_cons]
      simp [h4]
  | [], _ :: _, h, _ => by simp at h
  | _ :: _, [], h, _ => by simp at h
theorem tup_items {S : Store} {x : PV} {xs : List PV} (h : tupItems x = some xs) : seqOf S x = some (true, xs) := by
  unfold tupItems at h
  split at h
  · cases h; rfl
  · cases h; rfl
  · cases h
theorem pg_ok {sc : Scope} {N : List Str} {top : Bool} {tg : Tg} (hc : X.calm = true) (hN : X.N.Nodup) (eN : X.N = N) (esc : X.env.scope = sc) (ht : top = true → ∀ x, X.fn x = true) (h : chkTg sc N top tg e = true) : PG X e (tTg X tg) := by
  cases tg with
  | slot i =>
    have h : slotTg sc N top i e = true := by cases e <;> exact h
    obtain ⟨h1, _⟩ := pg_slot hN eN esc ht h
    refine PG.imp h1 ?_
    rintro v σ H Q ⟨g, S, env, x, env1, rep, er, rv, hp, q⟩
    cases hp
    refine q _ (er.set rv) (by simp [gName]) fun vs hv j hj => ?_
    have : i ≠ j := by
      rintro rfl
      exact hj (by simpa [Tg.inB] using hv)
    rw [List.getElem?_set_ne this]
  | tup is =>
    cases e with
    | Tuple es k p =>
      have h : (es.length == is.length && (is.zip es).all fun p => slotTg sc N top p.1 p.2) = true := h
      rw [Bool.and_eq_true] at h
      obtain ⟨h1, h2, h3⟩ := pgs_slots hN eN esc ht is es h.1 h.2
      refine PG.imp (pg_tup (n := is.length) hc h1 h2 h3) ?_
      rintro v σ H Q ⟨g, S, env, x, env1, rep, er, rv, hp, q⟩
      dsimp only [putTg] at hp
      split at hp
      · rename_i xs e0
        split at hp
        · rename_i hl
          cases hp
          obtain ⟨a, vs, rfl, rvs, _, hT, _⟩ := seq_get rep rv (tup_items e0)
          exact ⟨a, vs, rfl, hT rfl, by rw [rvs.length, hl], g, S, env, xs, rep, er, rvs, hl, fun σ' er' hlen hfar => q σ' er' hlen hfar⟩
        · cases hp
      · cases hp
    | _ => exact absurd h (by simp [chkTg])
end

/-! the end of a comprehension: the new list stands at D -/
section
variable {X : Cx} {cls : Nat → Option Value} {W : WX}
theorem fin_at {g g1 : Gs} {S : Store} {H H1 : Hp} {n1 : Nat} {al : Bool} {xs : List PV} {vs : List V} {Q : VK} {D : Addr} (h : Post (cfX X cls) W (RVc (cfX X cls)) n1 n1 g1 H1 (fin al xs S) Q) (ex : Ext n1 n1 g1 H1 S.length g H) (h1 : H1 D = none)
    (rep : Rep X.K g S H) (rs : RVs X.K g S.length vs xs) (d : Side g S.length D) (hD : H D = some (.lst vs)) : Q (.ref D) H := by
  cases al with
  | false =>
    have hs : Same g.G (g.laid D (.lst vs)).G := same_upd d.gr
    have u : Up S.length g S.length (g.laid D (.lst vs)) := ⟨Nat.le_refl _, hs, fun _ _ => rfl⟩
    refine h (g.laid D (.lst vs)) H _ ⟨ex.le, ex.sub.trans hs, ex.agr, ex.new, ex.fr, fun a o e => ?_⟩ ⟨fun a o e => ?_, fun l o hl => ?_, rep.inj⟩ (RV.lst_mk (.of laid_at) (rs.up u))
    · by_cases ha : a = D
      · subst ha; exact .inr (.inl h1)
      · rw [show (g.laid D (.lst vs)).G a = g.G a from upd_ne ha] at e
        exact ex.gn a o e
    · by_cases ha : a = D
      · subst ha
        rw [show (g.laid a (.lst vs)).G a = some (.lst vs) from upd_same] at e
        rw [hD]
        exact e
      · rw [show (g.laid D (.lst vs)).G a = g.G a from upd_ne ha] at e
        exact rep.sub _ _ e
    · obtain ⟨a, b⟩ := rep.ob l o hl
      exact ⟨(upd_ne (d.st l (List.getElem?_eq_some_iff.mp hl).1)).trans a, b.up u⟩
  | true =>
    have hL : (S ++ [mkOb xs]).length = S.length + 1 := by simp
    have u : Up S.length g (S ++ [mkOb xs]).length (g.grow S.length D) := ⟨by simp, .refl _, fun l hl => Gs.grow_lt hl⟩
    have h : ∀ g' H' v, Ext n1 n1 g1 H1 (S ++ [mkOb xs]).length g' H' → Rep X.K g' (S ++ [mkOb xs]) H' → RV X.K g' (S ++ [mkOb xs]).length v (.loc S.length) → Q v H' := h
    have hle := ex.le
    refine h (g.grow S.length D) H (.ref D) ⟨by omega, ex.sub, fun l hl => (Gs.grow_lt (by omega)).trans (ex.agr l hl), fun l hl => ?_, ex.fr, ex.gn⟩ ⟨rep.sub, fun l o hl => ?_, fun a b ha hb e => ?_⟩ ?_
    · rw [hL] at hl
      by_cases hl' : l = S.length
      · subst hl'
        rw [Gs.grow_at]
        exact .inl h1
      · rw [Gs.grow_lt (by omega)]
        exact ex.new l (by omega)
    · have hlt : l < (S ++ [mkOb xs]).length := (List.getElem?_eq_some_iff.mp hl).1
      rw [hL] at hlt
      by_cases hl' : l = S.length
      · subst hl'
        rw [List.getElem?_append_right (Nat.le_refl _)] at hl
        simp at hl
        subst hl
        rw [Gs.grow_at]
        exact ⟨d.gr, .of hD (by rw [items_mkOb]; exact rs.up u) (isL_mkOb _)⟩
      · rw [List.getElem?_append_left (by omega)] at hl
        obtain ⟨a, b⟩ := rep.ob l o hl
        rw [Gs.grow_lt (by omega)]
        exact ⟨a, b.up u⟩
    · rw [hL] at ha hb
      by_cases h1 : a = S.length
      · by_cases h2 : b = S.length
        · rw [h1, h2]
        · subst h1
          rw [Gs.grow_at, Gs.grow_lt (by omega)] at e
          exact absurd e.symm (d.st b (by omega))
      · by_cases h2 : b = S.length
        · subst h2
          rw [Gs.grow_at, Gs.grow_lt (by omega)] at e
          exact absurd e (d.st a (by omega))
        · rw [Gs.grow_lt (by omega), Gs.grow_lt (by omega)] at e
          exact rep.inj a b (by omega) (by omega) e
    · have := RV.loc (K := X.K) (g := g.grow S.length D) (n := (S ++ [mkOb xs]).length) (l := S.length) (by omega)
      rw [Gs.grow_at] at this
      exact this

/-! comprehensions -/
abbrev W0 : WX := fun _ _ _ _ => False
noncomputable def compM (al : Bool) (own : List Nat) (tg : Tg) (mw : Env → Store → Res Walked) (cnd : Option (Env → Store → Res PV)) (elt : Env → Store → Res PV) (env : Env) (S : Store) : Res PV :=
  (mw env S).bind fun w S1 => (noErr (compLoop w (compStep (killE env own) tg cnd elt) w.items S1)).bind fun ys S2 => if ys.length ≤ sizeLine then fin al ys S2 else .stuck
theorem compLoop_cons {w : Walked} {step : PV → Store → Res (List PV)} {x : PV} {r : List PV} {S S' : Store} {zs : List PV} (h : compLoop w step (x :: r) S = .ok zs S') :
    ∃ ys S1 zs', step x S = .ok ys S1 ∧ w.same S1 ∧ compLoop w step r S1 = .ok zs' S' ∧ zs = ys ++ zs' := by
  unfold compLoop at h
  cases e : step x S with
  | ok ys S1 =>
    rw [e] at h
    dsimp only [Res.bind] at h
    split at h
    · rename_i hs
      cases e2 : compLoop w step r S1 with
      | ok zs' S2 =>
        rw [e2] at h
        cases h
        exact ⟨ys, S1, zs', rfl, hs, e2, rfl⟩
      | err c as S2 => rw [e2] at h; cases h
      | stuck => rw [e2] at h; cases h
    · cases h
  | err c as S1 => rw [e] at h; cases h
  | stuck => rw [e] at h; cases h
theorem compStep_ok {env : Env} {tg : Tg} {cnd : Option (Env → Store → Res PV)} {elt : Env → Store → Res PV} {x : PV} {S S' : Store} {ys : List PV} (h : compStep env tg cnd elt x S = .ok ys S') :
    ∃ env1, putTg tg x env = some env1 ∧ (match cnd with
      | none => ∃ y, elt env1 S = .ok y S' ∧ ys = [y]
      | some c => ∃ b S3, asBool (c env1 S) = .ok (.d (.bool b)) S3 ∧ if b = true then ∃ y, elt env1 S3 = .ok y S' ∧ ys = [y] else ys = [] ∧ S' = S3) := by
  unfold compStep at h
  split at h
  · rename_i env1 e
    refine ⟨env1, e, ?_⟩
    cases cnd with
    | none =>
      dsimp only at h ⊢
      cases e2 : elt env1 S with
      | ok y S1 => rw [e2] at h; cases h; exact ⟨y, rfl, rfl⟩
      | err c as S1 => rw [e2] at h; cases h
      | stuck => rw [e2] at h; cases h
    | some c =>
      dsimp only at h ⊢
      cases e2 : asBool (c env1 S) with
      | ok v S1 =>
        obtain ⟨b, rfl⟩ := asBool_ok e2
        rw [e2] at h
        refine ⟨b, S1, rfl, ?_⟩
        cases b with
        | true =>
          rw [if_pos rfl]
          dsimp only [Res.bind] at h
          cases e3 : elt env1 S1 with
          | ok y S2 => rw [e3] at h; cases h; exact ⟨y, rfl, rfl⟩
          | err c as S1 => rw [e3] at h; cases h
          | stuck => rw [e3] at h; cases h
        | false =>
          rw [if_neg Bool.false_ne_true]
          cases h
          exact ⟨rfl, rfl⟩
      | err c as S1 => rw [e2] at h; cases h
      | stuck => rw [e2] at h; cases h
  · cases h

theorem killE_wipe_env {K : PySem.W.Frag} {g : Gs} {n : Nat} {env : Env} {σ : L2.St} (h : EnvR K g n env σ) (vs : List Nat) : EnvR K g n (killE env vs) (wipe σ vs) := h.wipe vs
theorem se_comp {elt' tg' iter : Expr} {ifs : List Expr} {scope : Scope} {own' : List (Str × Nat)} {own : List Nat} {pos : Pos} {al : Bool} {tg : Tg} {mw : Env → Store → Res Walked} {cnd : Option (Env → Store → Res PV)} {me : Env → Store → Res PV}
    (hc : X.calm = true) (hN : X.N.Nodup) (hi : SI X cls W tg' iter mw) (hsame : ∀ env S w S1, mw env S = .ok w S1 → w.same S1) (ok : BlkOk X.N X.env.scope scope own') (ho : own'.map (·.2) = own) (hin : tg.inB own = true)
    (hg : ∀ (s : Shared) (H : Hp) (C : Addr) (cl : List (Str × Addr)) (fp : List Addr), PG (X.blk s H scope (compEnvC scope cl C X.env) fp) tg' (tTg X tg))
    (ht : match cnd with
      | none => ifs = []
      | some c => ∃ c', ifs = [c'] ∧ ∀ (s : Shared) (H : Hp) (C : Addr) (cl : List (Str × Addr)) (fp : List Addr), PT (X.blk s H scope (compEnvC scope cl C X.env) fp) c' (tRx (cfX X cls) W0 RB fun env S => asBool (c env S)))
    (he : ∀ (s : Shared) (H : Hp) (C : Addr) (cl : List (Str × Addr)) (fp : List Addr), PE (X.blk s H scope (compEnvC scope cl C X.env) fp) elt' (tRx (cfX X cls) W0 (RVc (cfX X cls)) me)) (hs : ∀ x, foldedSetIterable iter X.env x = pure x) :
    SE X cls W (.ListComp elt' [⟨tg', iter, ifs, 0⟩] scope pos) (compM al own tg mw cnd me) ∧
      ∀ env S, ∃ wi tt, (∀ σ H R, tR (cfX X cls) W (RW X) env S (mw env S) σ H R → wi σ H R) ∧ PI X tg' iter wi ∧ (∀ (s : Shared) (H : Hp) (C : Addr) (cl : List (Str × Addr)) (fp : List Addr), PTs (X.blk s H scope (compEnvC scope cl C X.env) fp) ifs tt) ∧
        ∀ σ H Q, tR (cfX X cls) W (RVc (cfX X cls)) env S (compM al own tg mw cnd me env S) σ H Q → tLc wi (tTg X tg) tt (tRx (cfX X cls) W0 (RVc (cfX X cls)) me) (own'.map (·.2)) σ H Q := by
  have main : ∀ env S, ∃ wi tt, (∀ σ H R, tR (cfX X cls) W (RW X) env S (mw env S) σ H R → wi σ H R) ∧ PI X tg' iter wi ∧ (∀ (s : Shared) (H : Hp) (C : Addr) (cl : List (Str × Addr)) (fp : List Addr), PTs (X.blk s H scope (compEnvC scope cl C X.env) fp) ifs tt) ∧
        ∀ σ H Q, tR (cfX X cls) W (RVc (cfX X cls)) env S (compM al own tg mw cnd me env S) σ H Q → tLc wi (tTg X tg) tt (tRx (cfX X cls) W0 (RVc (cfX X cls)) me) (own'.map (·.2)) σ H Q := by
    intro env S
    obtain ⟨wi, hpi, hwi⟩ := hi env S
    let tt : TT := match cnd with
      | none => tYes
      | some c => tRx (cfX X cls) W0 RB fun env S => asBool (c env S)
    have hpts : ∀ (s : Shared) (H : Hp) (C : Addr) (cl : List (Str × Addr)) (fp : List Addr), PTs (X.blk s H scope (compEnvC scope cl C X.env) fp) ifs tt := by
      intro s H C cl fp
      cases cnd with
      | none =>
        have ht : ifs = [] := ht
        subst ht
        exact pts_nil
      | some c =>
        obtain ⟨c', rfl, h⟩ := ht
        exact pts_one (h s H C cl fp)
    refine ⟨wi, tt, hwi, hpi, hpts, ?_⟩
    rintro σ H Q ⟨g, rep, er, q⟩
    refine hwi σ H _ ?_
    unfold compM at q
    refine Post.bind rep er q fun w S1 g1 H1 J e1 ex rep1 er1 wk q1 => ?_
    have wk : Wk X.K w J g1 S1.length := wk
    have same1 := hsame env S w S1 e1
    intro D hD
    cases hcl : compLoop w (compStep (killE env own) tg cnd me) w.items S1 with
    | err c as S' => rw [hcl] at q1; exact (show False from q1).elim
    | stuck => rw [hcl] at q1; exact (show False from q1).elim
    | ok ys S2 =>
      rw [hcl] at q1
      dsimp only [noErr, Res.bind] at q1
      split at q1
      · rename_i hz
        refine ⟨fun i m H' => m = w.items.length - i ∧ i ≤ w.items.length ∧ ∃ g' S' acc ys1 zs, Rep X.K g' S' H' ∧ Side g' S'.length D ∧ H' D = some (.lst acc) ∧ RVs X.K g' S'.length acc ys1 ∧ Ext S1.length S1.length g1 H1 S'.length g' H' ∧ w.same S' ∧
          compLoop w (compStep (killE env own) tg cnd me) (w.items.drop i) S' = .ok zs S2 ∧ ys1 ++ zs = ys, ⟨w.items.length, by simp, Nat.zero_le _, g1, S1, [], [], ys, ?_⟩, ?_⟩
        · have sd : Side g1 S1.length D := ⟨rep1.gnew hD, fun l hl => rep1.ne_of_new hD hl⟩
          exact ⟨rep1.side sd, sd, upd_same, .nil, (Ext.refl (Nat.le_refl _)).side hD, same1, by rw [List.drop_zero]; exact hcl, rfl⟩
        · rintro i m H' ⟨rfl, hile, g', S', acc, ys1, zs, rep', sd, hHD, rvs, ex', same', hrun, hys⟩
          have hwk := wk g' S' H' ex'.up rep' same' i
          cases hit : w.items[i]? with
          | none =>
            refine .inl ⟨hwk.2 hit, ?_⟩
            have hi' : w.items.drop i = [] := by
              rw [List.getElem?_eq_none_iff] at hit
              exact List.drop_eq_nil_of_le hit
            rw [hi'] at hrun
            cases hrun
            rw [List.append_nil] at hys
            subst hys
            exact fin_at q1 ex' hD rep' rvs sd hHD
          | some y =>
            obtain ⟨hgo, hyld⟩ := hwk.1 y hit
            have hilt : i < w.items.length := (List.getElem?_eq_some_iff.mp hit).1
            have hdr : w.items.drop i = y :: w.items.drop (i + 1) := by
              rw [List.drop_eq_getElem_cons hilt]
              congr 1
              rw [List.getElem?_eq_getElem hilt] at hit
              exact Option.some.inj hit
            rw [hdr] at hrun
            obtain ⟨ys', S3, zs', hst, hsame3, hrest, rfl⟩ := compLoop_cons hrun
            obtain ⟨env1, hput, hres⟩ := compStep_ok hst
            refine .inr ⟨hgo, fun H'' => ∃ m', m' < w.items.length - i ∧ (m' = w.items.length - (i + 1) ∧ i + 1 ≤ w.items.length ∧ ∃ g' S' acc ys1 zs, Rep X.K g' S' H'' ∧ Side g' S'.length D ∧ H'' D = some (.lst acc) ∧ RVs X.K g' S'.length acc ys1 ∧ Ext S1.length S1.length g1 H1 S'.length g' H'' ∧ w.same S' ∧
          compLoop w (compStep (killE env own) tg cnd me) (w.items.drop (i + 1)) S' = .ok zs S2 ∧ ys1 ++ zs = ys), fun H'' h => h, fun x H'' hy => ?_⟩
            obtain ⟨g'', ext2, rep2, rvx⟩ := hyld x H'' hy
            obtain ⟨sd2, hHD2⟩ := sd.ext ext2 hHD
            have er2 : EnvR X.K g'' S'.length (killE env own) (wipe σ own) := ((er1.up ex'.up).up ext2.up).wipe own
            have rvs2 := rvs.up ext2.up
            have ex2 := ex'.trans ext2 ex'.le
            rw [ho]
            refine ⟨g'', S', killE env own, y, env1, rep2, er2, rvx, hput, fun σ' er' hlen hfar => ?_⟩
            have hw : wipe σ' own = wipe σ own := wipe_ext (by rw [hlen, wipe_length]) (fun j hj => by rw [hfar own hin j hj, wipe_get, if_neg hj])
            refine ⟨hw, ?_⟩
            -- the item is kept
            have keep : ∀ (g3 : Gs) (S4 : Store) (H3 : Hp), Ext S1.length S1.length g1 H1 S4.length g3 H3 → Up S'.length g'' S4.length g3 → Rep X.K g3 S4 H3 → Side g3 S4.length D → H3 D = some (.lst acc) → EnvR X.K g3 S4.length env1 σ' → (∃ z, me env1 S4 = .ok z S3 ∧ ys' = [z]) →
                tRx (cfX X cls) W0 (RVc (cfX X cls)) me σ' H3 fun y H4 => ∃ acc, H4 D = some (.lst acc) ∧ acc.length < sizeLine ∧ (fun H'' => ∃ m', m' < w.items.length - i ∧ (m' = w.items.length - (i + 1) ∧ i + 1 ≤ w.items.length ∧ ∃ g' S' acc ys1 zs, Rep X.K g' S' H'' ∧ Side g' S'.length D ∧ H'' D = some (.lst acc) ∧ RVs X.K g' S'.length acc ys1 ∧ Ext S1.length S1.length g1 H1 S'.length g' H'' ∧ w.same S' ∧
          compLoop w (compStep (killE env own) tg cnd me) (w.items.drop (i + 1)) S' = .ok zs S2 ∧ ys1 ++ zs = ys)) (L2.upd H4 D (.lst (acc ++ [y]))) := by
              rintro g3 S4 H3 ex3 up3 rep3 sd3 hHD3 er3 ⟨z, hz1, rfl⟩
              refine ⟨env1, S4, g3, rep3, er3, ?_⟩
              rw [hz1]
              intro g4 H4 v ext4 rep4 rv4
              obtain ⟨sd4, hHD4⟩ := sd3.ext ext4 hHD3
              have rvs4 := (rvs2.up up3).up ext4.up
              refine ⟨acc, hHD4, ?_, w.items.length - (i + 1), by omega, rfl, hilt, g4, S3, acc ++ [v], ys1 ++ [z], zs', rep4.side sd4, sd4, upd_same, rvs4.append (.cons rv4 .nil), (ex3.trans ext4 ex3.le).side hD, hsame3, hrest, by rw [← hys, List.append_assoc]⟩
              have l1 := rvs4.length
              have l2 : ys.length = ys1.length + (1 + zs'.length) := by rw [← hys]; simp; omega
              omega
            cases cnd with
            | none =>
              change tYes σ' H'' _
              dsimp only [tYes]
              rw [if_pos rfl]
              exact keep g'' S' H'' ex2 ⟨Nat.le_refl _, .refl _, fun _ _ => rfl⟩ rep2 sd2 hHD2 er' hres
            | some c =>
              obtain ⟨b, S4, hb1, hb2⟩ := hres
              show tRx (cfX X cls) W0 RB (fun env S => asBool (c env S)) σ' H'' _
              refine ⟨env1, S', g'', rep2, er', ?_⟩
              dsimp only
              rw [hb1]
              intro g3 H3 b' ext3 rep3 hb'
              have hb' : PV.d (.bool b) = PV.d (.bool b') := hb'
              cases hb'
              obtain ⟨sd3, hHD3⟩ := sd2.ext ext3 hHD2
              cases b with
              | true =>
                rw [if_pos rfl]
                rw [if_pos rfl] at hb2
                exact keep g3 S4 H3 (ex2.trans ext3 ex2.le) ext3.up rep3 sd3 hHD3 (er'.up ext3.up) hb2
              | false =>
                rw [if_neg Bool.false_ne_true]
                rw [if_neg Bool.false_ne_true] at hb2
                obtain ⟨rfl, rfl⟩ := hb2
                exact ⟨w.items.length - (i + 1), by omega, rfl, hilt, g3, S3, acc, ys1, zs', rep3, sd3, hHD3, rvs2.up ext3.up, ex2.trans ext3 ex2.le, hsame3, hrest, by simpa using hys⟩
      · exact (show False from q1).elim
  refine ⟨fun env S => ?_, main⟩
  obtain ⟨wi, tt, _, hpi, hpts, hm⟩ := main env S
  exact PE.imp (pe_lc hc hN hpi ok hg hpts he hs) hm
end
end PW

set_option maxHeartbeats 2000000
namespace PW
open PySem PySem.Spec PyProof.Rows L2
/-! PW4g: expressions keep to the evaluator -/
theorem call_to {sc : Scope} {y : Str} {n : Nat} {e : Expr} {es : List Expr} (h : callTo sc y n e = some es) : ∃ p pos, e = .Call (.Name y p) es [] pos ∧ gl sc y = true ∧ es.length = n := by
  unfold callTo at h
  split at h
  · split at h
    · rename_i hc
      cases h
      simp only [Bool.and_eq_true, decide_eq_true_eq, beq_iff_eq] at hc
      obtain ⟨⟨rfl, h2⟩, h3⟩ := hc
      exact ⟨_, _, rfl, h2, h3⟩
    · cases h
  · cases h
theorem len1 {α : Type} {l : List α} (h : l.length = 1) : ∃ a, l = [a] := by
  match l, h with
  | [a], _ => exact ⟨a, rfl⟩
theorem len2 {α : Type} {l : List α} (h : l.length = 2) : ∃ a b, l = [a, b] := by
  match l, h with
  | [a, b], _ => exact ⟨a, b, rfl⟩
theorem Ctx.blk {X : Cx} {cls : Nat → Option Value} {W : WX} {T : Info} {Φ : Fns} (C : Ctx X cls W T Φ) (s : Shared) (H : Hp) (scope : Scope) (cenv : PySem.Env) (fp : List Addr) : Ctx (X.blk s H scope cenv fp) cls W0 T Φ :=
  by
  refine ⟨C.calm, C.nd, C.un, C.bl, C.gb, C.fn, takes0, C.fnK, C.fnD, fun c p h => ?_, fun c p h => ?_, C.xn⟩
  · obtain ⟨c0, a1, a2, a3, a4, ⟨fa, a5, a6⟩, a7⟩ := C.ca c p h
    exact ⟨c0, a1, a2, a3, a4, ⟨fa, a5, a6⟩, a7⟩
  · obtain ⟨c0, a1, a2, a3, a4, a5, a6, a7⟩ := C.xa c p h
    exact ⟨c0, a1, a2, a3, a4, a5, a6, a7⟩
/-- what holds of a core expression -/
def Snd (X : Cx) (cls : Nat → Option Value) (W : WX) (Φ : Fns) (c : CE) (t : Bool) (e : Expr) : Prop := match t with
  | false => SE X cls W e (fun env S => ev Φ c false env S)
  | true => ST X cls W e (fun env S => ev Φ c true env S)
theorem snd_plain {X : Cx} {cls : Nat → Option Value} {W : WX} {Φ : Fns} {c : CE} {t : Bool} {e : Expr} (h : SE X cls W e (fun env S => ev Φ c false env S)) (ht : ∀ env S, ev Φ c true env S = ev Φ c false env S) (hp : plainTest e = true) : Snd X cls W Φ c t e := by
  cases t with
  | false => exact h
  | true =>
    have := st_plain h hp
    show ST X cls W e (fun env S => ev Φ c true env S)
    have e1 : (fun env S => ev Φ c true env S) = (fun env S => ev Φ c false env S) := by funext env S; exact ht env S
    rw [e1]
    exact this
/-- a core expression is kept to by every expression that the checker takes for it -/
def Pc (cls : Nat → Option Value) (T : Info) (Φ : Fns) (c : CE) : Prop := ∀ {X : Cx} {W : WX} (_ : Ctx X cls W T Φ) {t : Bool} {sc : Scope} {N : List Str} {e : Expr}, X.env.scope = sc → X.N = N → chk T c t sc N e = true → Snd X cls W Φ c t e
def Pl (cls : Nat → Option Value) (T : Info) (Φ : Fns) (cs : List CE) : Prop := ∀ c ∈ cs, Pc cls T Φ c
theorem Pl.all {cls : Nat → Option Value} {T : Info} {Φ : Fns} : ∀ {cs : List CE}, Pl cls T Φ cs → ∀ {X : Cx} {W : WX} (_ : Ctx X cls W T Φ) {sc : Scope} {N : List Str} {es : List Expr}, X.env.scope = sc → X.N = N → chks T cs sc N es = true → SA X cls W es (fun env S => evs Φ cs env S)
  | [], _, X, W, C, sc, N, es, esc, eN, h => by
    cases es with
    | nil => exact sa_nil
    | cons e r => cases h
  | c :: cs, ih, X, W, C, sc, N, es, esc, eN, h => by
    cases es with
    | nil => cases h
    | cons e r =>
      have h : (chk T c false sc N e && !isStar e && chks T cs sc N r) = true := h
      simp only [Bool.and_eq_true, Bool.not_eq_true'] at h
      exact sa_cons h.1.2 (ih c List.mem_cons_self C esc eN h.1.1) (Pl.all (fun d hd => ih d (List.mem_cons_of_mem _ hd)) C esc eN h.2)
section
variable {cls : Nat → Option Value} {T : Info} {Φ : Fns}
theorem snd_var (i : Nat)  : Pc cls T Φ (.var i) := fun {X W} C {t sc N e} esc eN h => by
    subst esc eN
    have h : (match (generalizing := false) e with
      | .Name x _ => decide (X.N[i]? = some x) && vis X.env.scope x && okName x
      | _ => false) = true := h
    split at h
    · simp only [Bool.and_eq_true, decide_eq_true_eq] at h
      exact snd_plain (se_var h.1.1 h.1.2 h.2) (fun _ _ => rfl) rfl
    · cases h
theorem snd_glob (x : Str) (d : PyData)  : Pc cls T Φ (.glob x d) := fun {X W} C {t sc N e} esc eN h => by
    subst esc eN
    have h : (match (generalizing := false) e with
      | .Name y _ => decide (x = y) && gl X.env.scope y && okName y && T.globs.any fun p => decide (p.1 = x) && pdEq p.2 d
      | _ => false) = true := h
    split at h
    · rename_i y p
      rw [Bool.and_eq_true, Bool.and_eq_true, Bool.and_eq_true, decide_eq_true_eq] at h
      obtain ⟨⟨⟨rfl, h2⟩, h3⟩, h4⟩ := h
      obtain ⟨u, v, hm, r, hd⟩ := C.gb x d h4
      exact snd_plain (se_glob h2 h3 hm r hd) (fun _ _ => rfl) rfl
    · cases h
theorem snd_lit (d : PyData)  : Pc cls T Φ (.lit d) := fun {X W} C {t sc N e} esc eN h => by
    have h : (match (generalizing := false) e with
      | .Constant c _ _ => litEq d c
      | _ => false) = true := h
    split at h
    · rename_i c k p
      refine snd_plain ?_ (fun _ _ => rfl) rfl
      unfold litEq at h
      split at h
      · rw [beq_iff_eq] at h; subst h; exact se_lit pe_int (fun _ => .int _)
      · rw [beq_iff_eq] at h; subst h; exact se_lit pe_bl (fun _ => .bl _)
      · exact se_lit pe_non (fun _ => .non)
      · rw [decide_eq_true_eq] at h; subst h; exact se_lit pe_str (fun _ => .str _)
      · cases h
    · cases h
theorem snd_tup (es : List CE) (ih_es : Pl cls T Φ es) : Pc cls T Φ (.tup es) := fun {X W} C {t sc N e} esc eN h => by
    have h : (match (generalizing := false) e with
      | .Tuple es' _ _ => chks T es sc N es'
      | _ => false) = true := h
    split at h
    · exact snd_plain (se_tup (ih_es.all C esc eN h)) (fun _ _ => rfl) rfl
    · cases h
theorem snd_fr (al : Bool) (o : Fop) (es : List CE) (ih_es : Pl cls T Φ es) : Pc cls T Φ (.fr al o es) := fun {X W} C {t sc N e} esc eN h => by
    have go : (o ≠ .disp ∧ o ≠ .sset) → (match (generalizing := false) callTo sc o.name 1 e with
        | some es' => chks T es sc N es'
        | none => false) = true → Snd X cls W Φ (.fr al o es) t e := fun ho hh => by
      clear h
      split at hh
      · rename_i es' e0
        obtain ⟨p, pos, rfl, hg, hl⟩ := call_to e0
        have hu := C.un
        subst esc
        have nb := fop_name o ho
        have bb := fop_boot o ho
        refine snd_plain (se_callR (F := fun vs S1 => froR S1 al (frop S1 o vs)) (fop_kind o ho) (fun xs S => call_fr (by omega) o ho al xs S) hg (C.bl _ _ bb (by cases o <;> first | exact absurd rfl ho.1 | exact absurd rfl ho.2 | decide +kernel)) bb nb (by intro z; rw [z] at hl; cases hl) (chks_star hh) (ih_es.all C rfl eN hh)) (fun _ _ => rfl) rfl
      · cases hh
    cases o with
    | disp =>
      have h : (match (generalizing := false) e with
        | .List es' _ => chks T es sc N es'
        | _ => false) = true := h
      split at h
      · exact snd_plain (se_disp (ih_es.all C esc eN h)) (fun _ _ => rfl) rfl
      · cases h
    | list => exact go ⟨by decide, by decide⟩ h
    | sorted => exact go ⟨by decide, by decide⟩ h
    | sset =>
      replace h : (match (generalizing := false) callTo sc (Str.ofString "sorted") 1 e with
        | some [e1] => (match (generalizing := false) callTo sc (Str.ofString "set") 1 e1 with
          | some es' => chks T es sc N es'
          | none => false)
        | _ => false) = true := h
      split at h
      · rename_i e1 c1
        split at h
        · rename_i es' c2
          obtain ⟨p, pos, rfl, hg, _⟩ := call_to c1
          obtain ⟨p2, pos2, rfl, hg2, hl2⟩ := call_to c2
          obtain ⟨a, rfl⟩ := len1 hl2
          subst esc
          have hu := C.un
          cases es with
          | nil => cases h
          | cons c r =>
            have h : (chk T c false X.env.scope N a && !isStar a && chks T r X.env.scope N []) = true := h
            simp only [Bool.and_eq_true, Bool.not_eq_true'] at h
            cases r with
            | nil => exact snd_plain (se_sset (al := al) rfl rfl C.calm (by omega) hg (C.bl _ (.builtin "sorted") (by decide +kernel) (by decide +kernel)) hg2 (C.bl _ (.type "set") (by decide +kernel) (by decide +kernel)) h.1.2 (ih_es c List.mem_cons_self C (t := false) rfl eN h.1.1)) (fun _ _ => rfl) rfl
            | cons _ _ => cases h.2
        · cases h
      · cases h
theorem snd_bin (o : Bop) (a : CE) (b : CE) (ih_a : Pc cls T Φ a) (ih_b : Pc cls T Φ b) : Pc cls T Φ (.bin o a b) := fun {X W} C {t sc N e} esc eN h => by
    have h : (match (generalizing := false) e with
      | .BinOp a' op b' _ => decide (op = o.op) && chk T a false sc N a' && chk T b false sc N b'
      | _ => false) = true := h
    split at h
    · simp only [Bool.and_eq_true, decide_eq_true_eq] at h
      obtain ⟨⟨rfl, h2⟩, h3⟩ := h
      exact snd_plain (se_bin o (ih_a C esc eN h2) (ih_b C esc eN h3)) (fun _ _ => rfl) rfl
    · cases h
theorem snd_neg (a : CE) (ih_a : Pc cls T Φ a) : Pc cls T Φ (.neg a) := fun {X W} C {t sc N e} esc eN h => by
    have h : (match (generalizing := false) e with
      | .UnaryOp .USub a' _ => chk T a false sc N a'
      | _ => false) = true := h
    split at h
    · exact snd_plain (se_neg (ih_a C esc eN h)) (fun _ _ => rfl) rfl
    · cases h
theorem snd_cmp (o : Cop) (a : CE) (b : CE) (ih_a : Pc cls T Φ a) (ih_b : Pc cls T Φ b) : Pc cls T Φ (.cmp o a b) := fun {X W} C {t sc N e} esc eN h => by
    have hu := C.un
    have h : (match (generalizing := false) e with
      | .Compare a' [op] [b'] _ => decide (op = o.op) && chk T a false sc N a' && chk T b false sc N b' && !isSetE b'
      | _ => false) = true := h
    split at h
    · simp only [Bool.and_eq_true, decide_eq_true_eq, Bool.not_eq_true'] at h
      obtain ⟨⟨⟨rfl, h2⟩, h3⟩, h4⟩ := h
      cases t with
      | false => exact se_cmp (by omega) o (ih_a C esc eN h2) (ih_b C esc eN h3) h4
      | true => exact st_cmp (by omega) o (ih_a C esc eN h2) (ih_b C esc eN h3) h4
    · cases h
theorem snd_chain (o p : Cop) (a : CE) (b : CE) (c : CE) (ih_a : Pc cls T Φ a) (ih_b : Pc cls T Φ b) (ih_c : Pc cls T Φ c) : Pc cls T Φ (.chain o p a b c) := fun {X W} C {t sc N e} esc eN h => by
    have hu := C.un
    have h : (match (generalizing := false) e with
      | .Compare a' [op, op'] [b', c'] _ => decide (op = o.op) && decide (op' = p.op) && chk T a false sc N a' && chk T b false sc N b' && chk T c false sc N c' && !isSetE c'
      | _ => false) = true := h
    split at h
    · simp only [Bool.and_eq_true, decide_eq_true_eq, Bool.not_eq_true'] at h
      obtain ⟨⟨⟨⟨⟨rfl, rfl⟩, h2⟩, h3⟩, h5⟩, h4⟩ := h
      cases t with
      | false => exact se_chain (by omega) o p (ih_a C esc eN h2) (ih_b C esc eN h3) (ih_c C esc eN h5) h4
      | true => exact st_chain (by omega) o p (ih_a C esc eN h2) (ih_b C esc eN h3) (ih_c C esc eN h5) h4
    · cases h
theorem snd_not (a : CE) (ih_a : Pc cls T Φ a) : Pc cls T Φ (.not a) := fun {X W} C {t sc N e} esc eN h => by
    have h : (match (generalizing := false) e with
      | .UnaryOp .Not a' _ => chk T a t sc N a'
      | _ => false) = true := h
    split at h
    · cases t with
      | false => exact se_not (ih_a C esc eN h)
      | true => exact st_not (ih_a C esc eN h)
    · cases h
theorem snd_and (a : CE) (b : CE) (ih_a : Pc cls T Φ a) (ih_b : Pc cls T Φ b) : Pc cls T Φ (.and a b) := fun {X W} C {t sc N e} esc eN h => by
    have h : (match (generalizing := false) e with
      | .BoolOp .And [a', b'] _ => chk T a t sc N a' && chk T b t sc N b'
      | .BoolOp .And (a' :: b' :: c' :: r) pos => chk T a t sc N a' && chk T b t sc N (.BoolOp .And (b' :: c' :: r) pos)
      | _ => false) = true := h
    split at h
    · rw [Bool.and_eq_true] at h
      cases t with
      | false => exact se_and (ih_a C esc eN h.1) (se_one (ih_b C esc eN h.2))
      | true => exact st_and (ih_a C esc eN h.1) (st_one (ih_b C esc eN h.2))
    · rw [Bool.and_eq_true] at h
      cases t with
      | false => exact se_and (ih_a C esc eN h.1) (ih_b C esc eN h.2)
      | true => exact st_and (ih_a C esc eN h.1) (ih_b C esc eN h.2)
    · cases h
theorem snd_or (a : CE) (b : CE) (ih_a : Pc cls T Φ a) (ih_b : Pc cls T Φ b) : Pc cls T Φ (.or a b) := fun {X W} C {t sc N e} esc eN h => by
    have h : (match (generalizing := false) e with
      | .BoolOp .Or [a', b'] _ => chk T a t sc N a' && chk T b t sc N b'
      | .BoolOp .Or (a' :: b' :: c' :: r) pos => chk T a t sc N a' && chk T b t sc N (.BoolOp .Or (b' :: c' :: r) pos)
      | _ => false) = true := h
    split at h
    · rw [Bool.and_eq_true] at h
      cases t with
      | false => exact se_or (ih_a C esc eN h.1) (se_one (ih_b C esc eN h.2))
      | true => exact st_or (ih_a C esc eN h.1) (st_one (ih_b C esc eN h.2))
    · rw [Bool.and_eq_true] at h
      cases t with
      | false => exact se_or (ih_a C esc eN h.1) (ih_b C esc eN h.2)
      | true => exact st_or (ih_a C esc eN h.1) (ih_b C esc eN h.2)
    · cases h
theorem snd_ite (c : CE) (a : CE) (b : CE) (ih_c : Pc cls T Φ c) (ih_a : Pc cls T Φ a) (ih_b : Pc cls T Φ b) : Pc cls T Φ (.ite c a b) := fun {X W} C {t sc N e} esc eN h => by
    have h : (match (generalizing := false) e with
      | .IfExp c' a' b' _ => !t && chk T c true sc N c' && chk T a false sc N a' && chk T b false sc N b'
      | _ => false) = true := h
    split at h
    · simp only [Bool.and_eq_true, Bool.not_eq_true'] at h
      obtain ⟨⟨⟨rfl, h2⟩, h3⟩, h4⟩ := h
      exact se_ite (ih_c C esc eN h2) (ih_a C esc eN h3) (ih_b C esc eN h4)
    · cases h
theorem snd_call (al : Bool) (f : Nat) (es : List CE) (ih_es : Pl cls T Φ es) : Pc cls T Φ (.call al f es) := fun {X W} C {t sc N e} esc eN h => by
    have h : (match (generalizing := false) e with
      | .Call (.Name x _) (e1 :: r) [] _ => decide (T.fns[f]? = some (some x)) && gl sc x && okName x && chks T es sc N (e1 :: r)
      | _ => false) = true := h
    split at h
    · simp only [Bool.and_eq_true, decide_eq_true_eq] at h
      obtain ⟨⟨⟨h1, h2⟩, h3⟩, h4⟩ := h
      obtain ⟨k, fa, fd, ps, n, G, hr, hm, hk, hb, hF⟩ := C.fn f _ h1
      subst esc
      exact snd_plain (se_call C.tk G hr hm hk hb h2 h3 (by intro z; cases z) (chks_star h4) hF (ih_es.all C rfl eN h4)) (fun _ _ => rfl) rfl
    · cases h
theorem snd_bn (b : Bn) (es : List CE) (ih_es : Pl cls T Φ es) : Pc cls T Φ (.bn b es) := fun {X W} C {t sc N e} esc eN h => by
    have h : (match (generalizing := false) e with
      | .Call (.Name x _) (e1 :: r) [] _ => decide (x = b.name) && gl sc x && chks T es sc N (e1 :: r)
      | _ => false) = true := h
    split at h
    · simp only [Bool.and_eq_true, decide_eq_true_eq] at h
      obtain ⟨⟨rfl, h2⟩, h3⟩ := h
      subst esc
      refine snd_plain (se_callR (F := fun vs S1 => orStuck (bnop S1 b vs) S1) (bn_kind b) (fun xs S => call_bn C.calm b xs S) h2 (C.bl _ _ (bn_boot b) (by cases b <;> decide +kernel)) (bn_boot b) (bn_name b) (by intro z; cases z) (chks_star h3) (ih_es.all C rfl eN h3)) (fun _ _ => rfl) rfl
    · cases h
theorem snd_mt (m : Mt) (o : CE) (es : List CE) (ih_o : Pc cls T Φ o) (ih_es : Pl cls T Φ es) : Pc cls T Φ (.mt m o es) := fun {X W} C {t sc N e} esc eN h => by
    have h : (match (generalizing := false) e with
      | .Call (.Attribute o' name apos) es' [] cpos => decide (name = m.name) && plainObj o' && chk T o false sc N o' && chks T es sc N es' && (apos.endLine == cpos.line) && decide (es'.length < 3)
      | _ => false) = true := h
    split at h
    · simp only [Bool.and_eq_true, decide_eq_true_eq] at h
      obtain ⟨⟨⟨⟨⟨rfl, h2⟩, h3⟩, h4⟩, h5⟩, h6⟩ := h
      refine snd_plain (se_mt m (ih_o C esc eN h3) (ih_es.all C esc eN h4) (chks_star h4) ?_ h2 h5 h6) (fun _ _ => rfl) rfl
      intro z env S
      subst z
      cases es with
      | nil => rfl
      | cons a r => cases h4
    · cases h
theorem snd_dm (m : Dm) (o : CE) (es : List CE) (ih_o : Pc cls T Φ o) (ih_es : Pl cls T Φ es) : Pc cls T Φ (.dm m o es) := fun {X W} C {t sc N e} esc eN h => by
    have h : (match (generalizing := false) e with
      | .Call (.Attribute o' name apos) (e1 :: r) [] cpos => decide (name = m.name) && plainObj o' && chk T o false sc N o' && chks T es sc N (e1 :: r) && (apos.endLine == cpos.line) && decide ((e1 :: r).length < 3)
      | _ => false) = true := h
    split at h
    · simp only [Bool.and_eq_true, decide_eq_true_eq] at h
      obtain ⟨⟨⟨⟨⟨rfl, h2⟩, h3⟩, h4⟩, h5⟩, h6⟩ := h
      exact snd_plain (se_dm m (ih_o C esc eN h3) (ih_es.all C esc eN h4) (chks_star h4) (by intro z; cases z) h2 h5 h6) (fun _ _ => rfl) rfl
    · cases h
theorem snd_idx (a : CE) (i : CE) (ih_a : Pc cls T Φ a) (ih_i : Pc cls T Φ i) : Pc cls T Φ (.idx a i) := fun {X W} C {t sc N e} esc eN h => by
    have h : (match (generalizing := false) e with
      | .Subscript a' i' _ => chk T a false sc N a' && chk T i false sc N i' && !isSlice i'
      | _ => false) = true := h
    split at h
    · simp only [Bool.and_eq_true, Bool.not_eq_true'] at h
      exact snd_plain (se_idx (ih_a C esc eN h.1.1) (ih_i C esc eN h.1.2) h.2) (fun _ _ => rfl) rfl
    · cases h
theorem snd_slice (a : CE) (lo : List CE) (hi : List CE) (ih_a : Pc cls T Φ a) (ih_lo : Pl cls T Φ lo) (ih_hi : Pl cls T Φ hi) : Pc cls T Φ (.slice a lo hi) := fun {X W} C {t sc N e} esc eN h => by
    have h : (match (generalizing := false) e with
      | .Subscript a' (.Slice lo' hi' none _) _ => chk T a false sc N a' && chks T lo sc N lo'.toList && chks T hi sc N hi'.toList
      | _ => false) = true := h
    split at h
    · simp only [Bool.and_eq_true] at h
      have part : ∀ (cs : List CE) (o : Option Expr), chks T cs sc N o.toList = true → (∀ c ∈ cs, ∀ e, chk T c false sc N e = true → SE X cls W e (fun env S => ev Φ c false env S)) → SO X cls W o (fun env S => evs Φ cs env S) := fun cs o hh ih => by
        cases o with
        | none =>
          cases cs with
          | nil => exact so_none
          | cons c r => cases hh
        | some e =>
          cases cs with
          | nil => cases hh
          | cons c r =>
            have hh : (chk T c false sc N e && !isStar e && chks T r sc N []) = true := hh
            simp only [Bool.and_eq_true] at hh
            cases r with
            | nil => exact so_some (ih c List.mem_cons_self e hh.1.1)
            | cons _ _ => cases hh.2
      refine snd_plain (se_slice (ih_a C esc eN h.1.1) (part lo _ h.1.2 (fun c hc e h => ih_lo c hc C (t := false) esc eN h)) (part hi _ h.2 (fun c hc e h => ih_hi c hc C (t := false) esc eN h))) (fun _ _ => rfl) rfl
    · cases h
theorem snd_isi (ty : Ty) (a : CE) (ih_a : Pc cls T Φ a) : Pc cls T Φ (.isi a ty) := fun {X W} C {t sc N e} esc eN h => by
    have h : (match (generalizing := false) e with
      | .Call (.Name x _) [e', .Name y _] [] _ => decide (x = Str.ofString "isinstance") && gl sc x && decide (y = Str.ofString ty.name) && gl sc y && chk T a false sc N e' && !isStar e'
      | _ => false) = true := h
    split at h
    · simp only [Bool.and_eq_true, decide_eq_true_eq, Bool.not_eq_true'] at h
      obtain ⟨⟨⟨⟨⟨rfl, h2⟩, rfl⟩, h3⟩, h4⟩, h5⟩ := h
      subst esc
      refine snd_plain (se_isi (ih_a C rfl eN h4) h5 h2 (C.bl _ (.builtin "isinstance") (by decide +kernel) (by decide +kernel)) h3 (C.bl _ _ (ty_boot ty) (by cases ty <;> decide +kernel))) (fun _ _ => rfl) rfl
    · cases h
theorem si_all {X : Cx} {W : WX} (C : Ctx X cls W T Φ) {tg' iter : Expr} {k : Ik} {src : List CE} (ih_src : Pl cls T Φ src) (h1 : (match (generalizing := false) iterOf k X.env.scope iter with
    | some es => chks T src X.env.scope X.N es
    | none => false) = true) : SI X cls W tg' iter (walkM k fun env S => evs Φ src env S) := by
  cases k with
  | of =>
    have h1 : chks T src X.env.scope X.N [iter] = true := h1
    cases src with
    | nil => cases h1
    | cons c r =>
      have h1 : (chk T c false X.env.scope X.N iter && !isStar iter && chks T r X.env.scope X.N []) = true := h1
      simp only [Bool.and_eq_true] at h1
      cases r with
      | nil => exact si_of (ih_src c List.mem_cons_self C (t := false) rfl rfl h1.1.1)
      | cons _ _ => cases h1.2
  | rng1 =>
    replace h1 : (match (generalizing := false) callTo X.env.scope (Str.ofString "range") 1 iter with
      | some es => chks T src X.env.scope X.N es
      | none => false) = true := h1
    split at h1
    · rename_i es e0
      obtain ⟨p, pos', rfl, hg, hl⟩ := call_to e0
      obtain ⟨a, rfl⟩ := len1 hl
      exact si_rng1 hg (C.bl _ (.type "range") (by decide +kernel) (by decide +kernel)) (chks_star h1 a List.mem_cons_self) (ih_src.all C rfl rfl h1)
    · cases h1
  | rng2 =>
    replace h1 : (match (generalizing := false) callTo X.env.scope (Str.ofString "range") 2 iter with
      | some es => chks T src X.env.scope X.N es
      | none => false) = true := h1
    split at h1
    · rename_i es e0
      obtain ⟨p, pos', rfl, hg, hl⟩ := call_to e0
      obtain ⟨a, b, rfl⟩ := len2 hl
      exact si_rng2 hg (C.bl _ (.type "range") (by decide +kernel) (by decide +kernel)) (chks_star h1 a List.mem_cons_self) (chks_star h1 b (List.mem_cons_of_mem _ List.mem_cons_self)) (ih_src.all C rfl rfl h1)
    · cases h1
  | enum => cases h1
  | zip => cases h1
theorem walkM_same {k : Ik} {src : List CE} : ∀ env S w S1, walkM k (fun env S => evs Φ src env S) env S = .ok w S1 → w.same S1 := by
  intro env S w S1 hw
  unfold walkM at hw
  cases e1 : evs Φ src env S with
  | ok vs S' =>
    dsimp only at hw
    rw [e1] at hw
    dsimp only [Res.bind] at hw
    cases e2 : walkOf S' k vs with
    | some w' => rw [e2] at hw; cases hw; exact walk_same e2
    | none => rw [e2] at hw; cases hw
  | err c as S' => dsimp only at hw; rw [e1] at hw; cases hw
  | stuck => dsimp only at hw; rw [e1] at hw; cases hw
theorem ev_comp (al : Bool) (own : List Nat) (tg : Tg) (k : Ik) (src : List CE) (cnd : List CE) (elt : CE) (t : Bool) : (fun env S => ev Φ (.comp al own tg k src cnd elt) t env S) = compM al own tg (walkM k fun env S => evs Φ src env S) (evc Φ cnd) (fun env S => ev Φ elt false env S) := by
  funext env S
  show ((evs Φ src env S).bind fun vs S1 => match walkOf S1 k vs with
    | some w => (noErr (compLoop w (compStep (killE env own) tg (evc Φ cnd) (fun env S => ev Φ elt false env S)) w.items S1)).bind fun ys S2 => if ys.length ≤ sizeLine then fin al ys S2 else .stuck
    | none => .stuck) = ((evs Φ src env S).bind fun vs S1 => match walkOf S1 k vs with
    | some w => Res.ok w S1
    | none => .stuck).bind fun w S1 => (noErr (compLoop w (compStep (killE env own) tg (evc Φ cnd) (fun env S => ev Φ elt false env S)) w.items S1)).bind fun ys S2 => if ys.length ≤ sizeLine then fin al ys S2 else .stuck
  cases evs Φ src env S with
  | ok vs S1 =>
    dsimp only [Res.bind]
    cases walkOf S1 k vs with
    | some w => rfl
    | none => rfl
  | err c as S' => rfl
  | stuck => rfl
/-- all that a comprehension gives -/
theorem comp_all {al : Bool} {own : List Nat} {tg : Tg} {k : Ik} {src : List CE} {cnd : List CE} {elt : CE} (ih_src : Pl cls T Φ src) (ih_cnd : Pl cls T Φ cnd) (ih_elt : Pc cls T Φ elt) {X : Cx} {W : WX} (C : Ctx X cls W T Φ) {t : Bool} {e : Expr} (h : chk T (.comp al own tg k src cnd elt) t X.env.scope X.N e = true) :
    ∃ elt' tg' iter ifs scope pos own', e = .ListComp elt' [⟨tg', iter, ifs, 0⟩] scope pos ∧ BlkOk X.N X.env.scope scope own' ∧ (∀ (s : Shared) (H : Hp) (C : Addr) (cl : List (Str × Addr)) (fp : List Addr), PG (X.blk s H scope (compEnvC scope cl C X.env) fp) tg' (tTg X tg)) ∧
      (∀ (s : Shared) (H : Hp) (C : Addr) (cl : List (Str × Addr)) (fp : List Addr), PE (X.blk s H scope (compEnvC scope cl C X.env) fp) elt' (tRx (cfX X cls) W0 (RVc (cfX X cls)) fun env S => ev Φ elt false env S)) ∧ (∀ x, foldedSetIterable iter X.env x = pure x) ∧
      SE X cls W e (fun env S => ev Φ (.comp al own tg k src cnd elt) false env S) ∧
      ∀ env S, ∃ wi tt, PI X tg' iter wi ∧ (∀ (s : Shared) (H : Hp) (C : Addr) (cl : List (Str × Addr)) (fp : List Addr), PTs (X.blk s H scope (compEnvC scope cl C X.env) fp) ifs tt) ∧
        ∀ σ H Q, tR (cfX X cls) W (RVc (cfX X cls)) env S (ev Φ (.comp al own tg k src cnd elt) false env S) σ H Q → tLc wi (tTg X tg) tt (tRx (cfX X cls) W0 (RVc (cfX X cls)) fun env S => ev Φ elt false env S) (own'.map (·.2)) σ H Q := by
  have h : (match (generalizing := false) e with
    | .ListComp elt' [⟨tg', iter, ifs, 0⟩] scope _ => (match (generalizing := false) iterOf k X.env.scope iter with
      | some es => chks T src X.env.scope X.N es
      | none => false) && !isSetE iter && blkC X.N X.env.scope scope (pairs X.N own) && decide ((pairs X.N own).map (·.2) = own) && chkTg (relS scope X.env.scope) X.N false tg tg' && tg.inB own &&
      chkc T cnd (relS scope X.env.scope) X.N ifs && chk T elt false (relS scope X.env.scope) X.N elt'
    | _ => false) = true := h
  split at h
  · rename_i elt' tg' iter ifs scope pos _
    simp only [Bool.and_eq_true, decide_eq_true_eq, Bool.not_eq_true'] at h
    obtain ⟨⟨⟨⟨⟨⟨⟨h1, h2⟩, h3⟩, h4⟩, h5⟩, h6⟩, h7⟩, h8⟩ := h
    have blkS : ∀ s H C' cl fp, (X.blk s H scope (compEnvC scope cl C' X.env) fp).env.scope = relS scope X.env.scope := fun _ _ _ _ _ => rfl
    have hi : SI X cls W tg' iter (walkM k fun env S => evs Φ src env S) := si_all C ih_src h1
    have hg : ∀ (s : Shared) (H : Hp) (C : Addr) (cl : List (Str × Addr)) (fp : List Addr), PG (X.blk s H scope (compEnvC scope cl C X.env) fp) tg' (tTg X tg) :=
      fun s H C' cl fp => pg_ok (X := X.blk s H scope (compEnvC scope cl C' X.env) fp) (top := false) C.calm C.nd rfl (blkS s H C' cl fp) (by intro z; cases z) h5
    have he : ∀ (s : Shared) (H : Hp) (C : Addr) (cl : List (Str × Addr)) (fp : List Addr), PE (X.blk s H scope (compEnvC scope cl C X.env) fp) elt' (tRx (cfX X cls) W0 (RVc (cfX X cls)) fun env S => ev Φ elt false env S) :=
      fun s H C' cl fp => pex (ih_elt (C.blk s H scope (compEnvC scope cl C' X.env) fp) (t := false) (blkS s H C' cl fp) rfl h8)
    have both := se_comp (W := W) (ifs := ifs) (al := al) (pos := pos) (own := own) (cnd := evc Φ cnd) (me := fun env S => ev Φ elt false env S) C.calm C.nd hi walkM_same (blkOk_by h3) h4 h6 hg (by
      cases cnd with
      | nil =>
        have h7 : ifs.isEmpty = true := h7
        cases ifs with
        | nil => rfl
        | cons _ _ => cases h7
      | cons c r =>
        have h7 : (match (generalizing := false) ifs with
          | [c'] => chk T c true (relS scope X.env.scope) X.N c'
          | _ => false) = true := h7
        split at h7
        · exact ⟨_, rfl, fun s H C' cl fp => ptx (ih_cnd c List.mem_cons_self (C.blk s H scope (compEnvC scope cl C' X.env) fp) (t := true) (blkS s H C' cl fp) rfl h7)⟩
        · cases h7) he (not_set_iter h2)
    have e0 := ev_comp (Φ := Φ) al own tg k src cnd elt false
    refine ⟨elt', tg', iter, ifs, scope, pos, _, rfl, blkOk_by h3, hg, he, not_set_iter h2, by rw [e0]; exact both.1, fun env S => ?_⟩
    obtain ⟨wi, tt, _, a, b, c⟩ := both.2 env S
    have e1 : ev Φ (.comp al own tg k src cnd elt) false env S = _ := congrFun (congrFun e0 env) S
    exact ⟨wi, tt, a, b, by rw [e1]; exact c⟩
  · cases h
theorem snd_comp (al : Bool) (own : List Nat) (tg : Tg) (k : Ik) (src : List CE) (cnd : List CE) (elt : CE) (ih_src : Pl cls T Φ src) (ih_cnd : Pl cls T Φ cnd) (ih_elt : Pc cls T Φ elt) : Pc cls T Φ (.comp al own tg k src cnd elt) := fun {X W} C {t sc N e} esc eN h => by
  subst esc eN
  obtain ⟨elt', tg', iter, ifs, scope, pos, own', rfl, _, _, _, _, hse, _⟩ := comp_all ih_src ih_cnd ih_elt C h
  exact snd_plain hse (fun env S => (congrFun (congrFun (ev_comp al own tg k src cnd elt true) env) S).trans (congrFun (congrFun (ev_comp al own tg k src cnd elt false) env) S).symm) rfl
theorem snd_callD (al : Bool) (f : Nat) (es : List CE) (ds : List PyData) (ih_es : Pl cls T Φ es) : Pc cls T Φ (.callD al f es ds) := fun {X W} C {t sc N e} esc eN h => by
    have h : (match (generalizing := false) e with
      | .Call (.Name x _) (e1 :: r) [] _ => decide (T.fns[f]? = some (some x)) && gl sc x && okName x && chks T es sc N (e1 :: r) && T.dfs.any fun p => decide (p.1 = f) && decide (p.2.1 = es.length) && pdEq (.list p.2.2) (.list ds)
      | _ => false) = true := h
    split at h
    · simp only [Bool.and_eq_true, decide_eq_true_eq, List.any_eq_true] at h
      obtain ⟨⟨⟨⟨h1, h2⟩, h3⟩, h4⟩, p, hp, ⟨h5, _⟩, h6⟩ := h
      have h6 := pdEq_eq h6
      injection h6 with h6
      subst h6
      obtain ⟨k, fa, fd, ps, n, dv, dvs, G, hr, hm, hk, ⟨hb, hv, hd⟩, hF⟩ := C.fnD f _ p h1 hp h5
      subst esc
      exact snd_plain (se_callD C.tk G hr hm hk hb hv hd h2 h3 (by intro z; cases z) (chks_star h4) hF (ih_es.all C rfl eN h4)) (fun _ _ => rfl) rfl
    · cases h
theorem snd_minK (f : Nat) (a : CE) (ih : Pc cls T Φ a) : Pc cls T Φ (.minK f a) := fun {X W} C {t sc N e} esc eN h => by
    have h : (match (generalizing := false) e with
      | .Call (.Name x _) [a'] [⟨some key, .Name y _, _⟩] _ => decide (x = Bn.min.name) && gl sc x && decide (key = Str.ofString "key") && decide (T.fns[f]? = some (some y)) && gl sc y && okName y && !isStar a' && chk T a false sc N a'
      | _ => false) = true := h
    split at h
    · simp only [Bool.and_eq_true, decide_eq_true_eq, Bool.not_eq_true'] at h
      obtain ⟨⟨⟨⟨⟨⟨⟨h1, h2⟩, h3⟩, h4⟩, h5⟩, h6⟩, h7⟩, h8⟩ := h
      obtain ⟨k, fa, fd, ps, n, G, hr, hm, hb, hF⟩ := C.fnK f _ h4
      subst esc h1 h3
      exact snd_plain (se_minK G hr hm hb h2 (C.bl Bn.min.name _ (bn_boot .min) (by decide +kernel)) h5 h6 h7 hF (ih C (t := false) rfl eN h8)) (fun _ _ => rfl) rfl
    · cases h
theorem evs_nil_of {es : List CE} {sc : Scope} {N : List Str} (h : chks T es sc N [] = true) : ∀ env S, evs Φ es env S = .ok [] S := fun env S => by
  cases es with
  | nil => rfl
  | cons e r => cases h
theorem snd_fld (jc : Nat) (a : CE) (f : Str) (ih : Pc cls T Φ a) : Pc cls T Φ (.fld jc a f) := fun {X W} C {t sc N e} esc eN h => by
    have h : (match (generalizing := false) e with
      | .Attribute o' f' _ => decide (f' = f) && plainObj o' && chk T a false sc N o' && clsHas T jc f
      | _ => false) = true := h
    split at h
    · simp only [Bool.and_eq_true, decide_eq_true_eq] at h
      obtain ⟨⟨⟨rfl, h2⟩, h3⟩, h4⟩ := h
      unfold clsHas at h4
      split at h4
      · rename_i p hp
        simp only [Bool.and_eq_true, decide_eq_true_eq] at h4
        obtain ⟨h5, h6⟩ := h4
        obtain ⟨i, rfl⟩ : ∃ i, jc = T.fns.length + i := ⟨jc - T.fns.length, by omega⟩
        rw [Nat.add_sub_cancel_left] at hp
        obtain ⟨D, k⟩ := C.ca _ p hp
        exact snd_plain (se_fld (W := W) k h6 (ih C (t := false) esc eN h3) h2) (fun _ _ => rfl) rfl
      · cases h4
    · cases h
theorem snd_mcall (al : Bool) (jc j : Nat) (m : Str) (o : CE) (es : List CE) (ds : List PyData) (ih_o : Pc cls T Φ o) (ih_es : Pl cls T Φ es) : Pc cls T Φ (.mcall al jc j m o es ds) := fun {X W} C {t sc N e} esc eN h => by
    have h : (match (generalizing := false) e with
      | .Call (.Attribute o' m' apos) es' [] cpos => decide (m' = m) && plainObj o' && (apos.endLine == cpos.line) && decide (es'.length < 20) && chk T o false sc N o' && chks T es sc N es' && metHas T jc m j && dfsHas T j (es.length + 1) ds
      | _ => false) = true := h
    split at h
    · simp only [Bool.and_eq_true, decide_eq_true_eq] at h
      obtain ⟨⟨⟨⟨⟨⟨⟨rfl, h2⟩, h3⟩, h4⟩, h5⟩, h6⟩, h7⟩, h8⟩ := h
      unfold metHas at h7
      split at h7
      · rename_i p hp
        simp only [Bool.and_eq_true, decide_eq_true_eq] at h7
        obtain ⟨h9, h10⟩ := h7
        obtain ⟨i, rfl⟩ : ∃ i, jc = T.fns.length + i := ⟨jc - T.fns.length, by omega⟩
        rw [Nat.add_sub_cancel_left] at hp
        obtain ⟨D, k⟩ := C.ca _ p hp
        exact snd_plain (se_mcall (al := al) (W := W) C.tk k h10 h8 (ih_o C (t := false) esc eN h5) (ih_es.all C esc eN h6) (chks_star h6) (by rintro rfl; exact evs_nil_of h6) h4 h3 h2) (fun _ _ => rfl) rfl
      · cases h7
    · cases h
theorem snd_make (jc j : Nat) (es : List CE) (ds : List PyData) (ih_es : Pl cls T Φ es) : Pc cls T Φ (.make jc j es ds) := fun {X W} C {t sc N e} esc eN h => by
    have h : (match (generalizing := false) e with
      | .Call (.Name x _) es' [] _ => gl sc x && okName x && chks T es sc N es' && mkHas T jc x j && dfsHas T j (es.length + 1) ds
      | _ => false) = true := h
    split at h
    · simp only [Bool.and_eq_true] at h
      obtain ⟨⟨⟨⟨h1, h2⟩, h3⟩, h4⟩, h5⟩ := h
      unfold mkHas at h4
      split at h4
      · rename_i p hp
        simp only [Bool.and_eq_true, decide_eq_true_eq] at h4
        obtain ⟨⟨h6, h7⟩, h8⟩ := h4
        obtain ⟨i, rfl⟩ : ∃ i, jc = T.fns.length + i := ⟨jc - T.fns.length, by omega⟩
        rw [Nat.add_sub_cancel_left] at hp
        obtain ⟨D, k⟩ := C.ca _ p hp
        subst esc
        exact snd_plain (se_make (W := W) C.tk k h7 h8 h5 (ih_es.all C rfl eN h3) (chks_star h3) (by rintro rfl; exact evs_nil_of h3) h1 h2) (fun _ _ => rfl) rfl
      · cases h4
    · cases h
theorem snd_catL (al : Bool) (a b : CE) (ih_a : Pc cls T Φ a) (ih_b : Pc cls T Φ b) : Pc cls T Φ (.catL al a b) := fun {X W} C {t sc N e} esc eN h => by
    have h : (match (generalizing := false) e with
      | .BinOp a' op b' _ => decide (op = Bop.add.op) && chk T a false sc N a' && chk T b false sc N b'
      | _ => false) = true := h
    split at h
    · simp only [Bool.and_eq_true, decide_eq_true_eq] at h
      obtain ⟨⟨rfl, h2⟩, h3⟩ := h
      exact snd_plain (se_catL al (ih_a C (t := false) esc eN h2) (ih_b C (t := false) esc eN h3)) (fun _ _ => rfl) rfl
    · cases h
theorem snd_lrange (al : Bool) (a b : CE) (ih_a : Pc cls T Φ a) (ih_b : Pc cls T Φ b) : Pc cls T Φ (.lrange al a b) := fun {X W} C {t sc N e} esc eN h => by
    have h : (match (generalizing := false) e with
      | .Call (.Name x _) [.Call (.Name y _) [a', b'] [] _] [] _ => decide (x = Str.ofString "list") && decide (y = Str.ofString "range") && gl sc x && gl sc y && chk T a false sc N a' && chk T b false sc N b' && !isStar a' && !isStar b'
      | _ => false) = true := h
    split at h
    · simp only [Bool.and_eq_true, decide_eq_true_eq, Bool.not_eq_true'] at h
      obtain ⟨⟨⟨⟨⟨⟨⟨rfl, rfl⟩, h1⟩, h2⟩, h3⟩, h4⟩, h5⟩, h6⟩ := h
      subst esc
      exact snd_plain (se_lrange al C.calm (ih_a C (t := false) rfl eN h3) (ih_b C (t := false) rfl eN h4) h5 h6 h1 h2 (C.bl (Str.ofString "list") (.type "list") (by decide +kernel) (by decide +kernel)) (C.bl (Str.ofString "range") (.type "range") (by decide +kernel) (by decide +kernel))) (fun _ _ => rfl) rfl
    · cases h
theorem snd_stuck : Pc cls T Φ .stuckE := fun {X W} C {t sc N e} esc eN h => by
  cases t with
  | false => exact fun env S => ⟨fun pins s σ H Q I ⟨_, _, _, z⟩ => False.elim z⟩
  | true => exact fun env S => ⟨fun pins s σ H Q I ⟨_, _, _, z⟩ => False.elim z⟩
theorem pl_nil : Pl cls T Φ [] := fun _ h => by cases h
theorem pl_cons {c : CE} {cs : List CE} (h : Pc cls T Φ c) (h2 : Pl cls T Φ cs) : Pl cls T Φ (c :: cs) := fun d hd => by
  rcases List.mem_cons.mp hd with rfl | hd
  · exact h
  · exact h2 d hd
end
mutual
theorem sound {cls : Nat → Option Value} {T : Info} {Φ : Fns} : ∀ c : CE, Pc cls T Φ c
  | .var i => snd_var i
  | .glob x d => snd_glob x d
  | .lit d => snd_lit d
  | .tup es => snd_tup es (soundl es)
  | .fr al o es => snd_fr al o es (soundl es)
  | .bin o a b => snd_bin o a b (sound a) (sound b)
  | .neg a => snd_neg a (sound a)
  | .cmp o a b => snd_cmp o a b (sound a) (sound b)
  | .chain o p a b c => snd_chain o p a b c (sound a) (sound b) (sound c)
  | .not a => snd_not a (sound a)
  | .and a b => snd_and a b (sound a) (sound b)
  | .or a b => snd_or a b (sound a) (sound b)
  | .ite c a b => snd_ite c a b (sound c) (sound a) (sound b)
  | .call al f es => snd_call al f es (soundl es)
  | .bn b es => snd_bn b es (soundl es)
  | .mt m o es => snd_mt m o es (sound o) (soundl es)
  | .dm m o es => snd_dm m o es (sound o) (soundl es)
  | .idx a i => snd_idx a i (sound a) (sound i)
  | .slice a lo hi => snd_slice a lo hi (sound a) (soundl lo) (soundl hi)
  | .isi a ty => snd_isi ty a (sound a)
  | .comp al own tg k src cnd elt => snd_comp al own tg k src cnd elt (soundl src) (soundl cnd) (sound elt)
  | .callD al f es ds => snd_callD al f es ds (soundl es)
  | .minK f a => snd_minK f a (sound a)
  | .fld jc a f => snd_fld jc a f (sound a)
  | .mcall al jc j m o es ds => snd_mcall al jc j m o es ds (sound o) (soundl es)
  | .make jc j es ds => snd_make jc j es ds (soundl es)
  | .catL al a b => snd_catL al a b (sound a) (sound b)
  | .lrange al a b => snd_lrange al a b (sound a) (sound b)
  | .stuckE => snd_stuck
theorem soundl {cls : Nat → Option Value} {T : Info} {Φ : Fns} : ∀ cs : List CE, Pl cls T Φ cs
  | [] => pl_nil
  | c :: cs => pl_cons (sound c) (soundl cs)
end
end PW

set_option maxHeartbeats 1000000
namespace PW
open PySem PySem.Spec PyProof.Rows L2
/-! PW5a: statements, rule by rule -/
def PostS (cf : Cfg) (W : WX) (n : Nat) (g : Gs) (H : Hp) (r : Res (Env × Fl)) (D : Ends) : Prop := match r with
  | .ok (env', .next) S' => ∀ g' H' σ', Ext n n g H S'.length g' H' → Rep cf.K g' S' H' → EnvR cf.K g' S'.length env' σ' → D.nx σ' H'
  | .ok (env', .brk) S' => ∀ g' H' σ', Ext n n g H S'.length g' H' → Rep cf.K g' S' H' → EnvR cf.K g' S'.length env' σ' → D.bk σ' H'
  | .ok (env', .cont) S' => ∀ g' H' σ', Ext n n g H S'.length g' H' → Rep cf.K g' S' H' → EnvR cf.K g' S'.length env' σ' → D.ct σ' H'
  | .ok (_, .ret x) S' => ∀ g' H' v, Ext n n g H S'.length g' H' → Rep cf.K g' S' H' → RV cf.K g' S'.length v x → D.rt v H'
  | .err c as S' => ∀ g' H' σ' u d, Ext n n g H S'.length g' H' → Rep cf.K g' S' H' → ExcR cf c as u d g' → W u d σ' H'
  | .stuck => False
theorem PostS.move {cf : Cfg} {W : WX} {n n1 : Nat} {g g1 : Gs} {H H1 : Hp} {r : Res (Env × Fl)} {D : Ends} (h : PostS cf W n g H r D) (e : Ext n n g H n1 g1 H1) : PostS cf W n1 g1 H1 r D := by
  cases r with
  | ok p S' =>
    obtain ⟨env', f⟩ := p
    cases f with
    | next => exact fun g' H' v ex rep rv => h g' H' v (e.trans ex e.le) rep rv
    | brk => exact fun g' H' v ex rep rv => h g' H' v (e.trans ex e.le) rep rv
    | cont => exact fun g' H' v ex rep rv => h g' H' v (e.trans ex e.le) rep rv
    | ret x => exact fun g' H' v ex rep rv => h g' H' v (e.trans ex e.le) rep rv
  | err c as S' => exact fun g' H' σ' u d ex rep er => h g' H' σ' u d (e.trans ex e.le) rep er
  | stuck => exact h
theorem PostS.bind {α β : Type} {cf : Cfg} {W : WX} {R : Gs → Nat → β → α → Prop} {n : Nat} {g : Gs} {H : Hp} {r : Res α} {f : α → Store → Res (Env × Fl)} {D : Ends} {Q1 : β → Hp → Prop} (h : PostS cf W n g H (r.bind f) D)
    (k : ∀ x S1 g1 H1 v, r = .ok x S1 → Ext n n g H S1.length g1 H1 → Rep cf.K g1 S1 H1 → R g1 S1.length v x → PostS cf W S1.length g1 H1 (f x S1) D → Q1 v H1) : Post cf W R n n g H r Q1 := by
  cases r with
  | ok x S1 => exact fun g1 H1 v ex rep1 rv => k x S1 g1 H1 v rfl ex rep1 rv (PostS.move h ex)
  | err c as S' => exact h
  | stuck => exact h
def tSx (cf : Cfg) (W : WX) (m : Env → Store → Res (Env × Fl)) : TS := fun D σ H => ∃ env S g, Rep cf.K g S H ∧ EnvR cf.K g S.length env σ ∧ PostS cf W S.length g H (m env S) D
def SS (X : Cx) (cls : Nat → Option Value) (W : WX) (st : Stmt) (m : Env → Store → Res (Env × Fl)) : Prop := PS X st (tSx (cfX X cls) W m)
def SSs (X : Cx) (cls : Nat → Option Value) (W : WX) (st : List Stmt) (m : Env → Store → Res (Env × Fl)) : Prop := PSs X st (tSx (cfX X cls) W m)
def putM (tg : Tg) (r : Res PV) (env : Env) : Res (Env × Fl) := r.bind fun v S1 => match putTg tg v env with
  | some env1 => .ok (env1, .next) S1
  | none => .stuck
def seqM (m k : Env → Store → Res (Env × Fl)) (env : Env) (S : Store) : Res (Env × Fl) := (m env S).bind fun p S1 => match p with
  | (env1, .next) => k env1 S1
  | (env1, f) => .ok (env1, f) S1
section
variable {X : Cx} {cls : Nat → Option Value} {W : WX} {e tg' : Expr} {st : Stmt} {rest : List Stmt} {tg : Tg} {me : Env → Store → Res PV} {m k : Env → Store → Res (Env × Fl)} {pos : Pos}
theorem sss_nil : SSs X cls W [] (fun env S => .ok (env, .next) S) := PSs.imp pss_nil fun D σ H ⟨env, S, g, rep, er, q⟩ => q g H σ (Ext.refl (Nat.le_refl _)) rep er
theorem sss_cons (h1 : SS X cls W st m) (h2 : SSs X cls W rest k) : SSs X cls W (st :: rest) (seqM m k) := PSs.imp (pss_cons h1 h2) fun D σ H ⟨env, S, g, rep, er, q⟩ => by
  refine ⟨env, S, g, rep, er, ?_⟩
  unfold seqM at q
  cases hm : m env S with
  | ok p S1 =>
    rw [hm] at q
    obtain ⟨env', f⟩ := p
    cases f with
    | next => exact fun g' H' σ' ex rep' er' => ⟨env', S1, g', rep', er', PostS.move q ex⟩
    | brk => exact q
    | cont => exact q
    | ret x => exact q
  | err c as S' => rw [hm] at q; exact q
  | stuck => rw [hm] at q; exact q
theorem ss_pass : SS X cls W (.Pass pos) (fun env S => .ok (env, .next) S) := PS.imp ps_pass fun D σ H ⟨env, S, g, rep, er, q⟩ => q g H σ (Ext.refl (Nat.le_refl _)) rep er
theorem ss_brk : SS X cls W (.Break pos) (fun env S => .ok (env, .brk) S) := PS.imp ps_break fun D σ H ⟨env, S, g, rep, er, q⟩ => q g H σ (Ext.refl (Nat.le_refl _)) rep er
theorem ss_cont : SS X cls W (.Continue pos) (fun env S => .ok (env, .cont) S) := PS.imp ps_continue fun D σ H ⟨env, S, g, rep, er, q⟩ => q g H σ (Ext.refl (Nat.le_refl _)) rep er
theorem ss_retN : SS X cls W (.Return none pos) (fun env S => .ok (env, .ret (.d .none)) S) := PS.imp ps_retN fun D σ H ⟨env, S, g, rep, er, q⟩ => q g H .non (Ext.refl (Nat.le_refl _)) rep (.d .non)
theorem ss_ret (he : SE X cls W e me) : SS X cls W (.Return (some e) pos) (fun env S => (me env S).bind fun v S1 => .ok (env, .ret v) S1) := PS.imp (ps_ret (pex he)) fun D σ H ⟨env, S, g, rep, er, q⟩ => by
  refine ⟨env, S, g, rep, er, ?_⟩
  refine PostS.bind q fun x S1 g1 H1 v _ ex rep1 rv q1 => ?_
  exact q1 g1 H1 v (Ext.refl (Nat.le_refl _)) rep1 rv
theorem ss_expr (he : SE X cls W e me) (hs : swapsWith e none pos.line X.env = pure false) : SS X cls W (.Expr e pos) (fun env S => (me env S).bind fun _ S1 => .ok (env, .next) S1) := PS.imp (ps_expr (pex he) hs) fun D σ H ⟨env, S, g, rep, er, q⟩ => by
  refine ⟨env, S, g, rep, er, ?_⟩
  refine PostS.bind (R := RVc (cfX X cls)) q fun x S1 g1 H1 v _ ex rep1 rv q1 => ?_
  exact q1 g1 H1 σ (Ext.refl (Nat.le_refl _)) rep1 (er.up ex.up)
theorem put_next {v : V} {x : PV} {S1 : Store} {g1 : Gs} {H1 : Hp} {σ : L2.St} {env : Env} {D : Ends} (rep : Rep X.K g1 S1 H1) (er : EnvR X.K g1 S1.length env σ) (rv : RV X.K g1 S1.length v x) (q : PostS (cfX X cls) W S1.length g1 H1 (match putTg tg x env with
    | some env1 => .ok (env1, .next) S1
    | none => .stuck) D) : tTg X tg v σ H1 D.nx := by
  cases hp : putTg tg x env with
  | none => rw [hp] at q; exact (show False from q).elim
  | some env1 =>
    rw [hp] at q
    exact ⟨g1, S1, env, x, env1, rep, er, rv, hp, fun σ' er' _ _ => q g1 H1 σ' (Ext.refl (Nat.le_refl _)) rep er'⟩
theorem ss_asg (he : SE X cls W e me) (hg : PG X tg' (tTg X tg)) (hs : swapsWithSole [tg'] e pos.line X.env = pure false) (hw : swappedStores [tg'] e X.env = pure none) (h1 : (assignEach [tg'] X.env).map (·.2) = [assign tg' X.env]) : SS X cls W (.Assign [tg'] e pos) (fun env S => putM tg (me env S) env) := PS.imp (ps_asg (pex he) hg hs hw h1) fun D σ H ⟨env, S, g, rep, er, q⟩ => by
  refine ⟨env, S, g, rep, er, ?_⟩
  exact PostS.bind q fun x S1 g1 H1 v _ ex rep1 rv q1 => put_next rep1 (er.up ex.up) rv q1
theorem ss_if {c : Expr} {a b : List Stmt} {mc : Env → Store → Res PV} {ma mb : Env → Store → Res (Env × Fl)} (hc : ST X cls W c mc) (ha : SSs X cls W a ma) (hb : SSs X cls W b mb) : SS X cls W (.If c a b pos) (fun env S => (asBool (mc env S)).bind fun v S1 => match v with
    | .d (.bool true) => ma env S1
    | .d (.bool false) => mb env S1
    | _ => .stuck) := PS.imp (ps_if (ptx hc) ha hb) fun D σ H ⟨env, S, g, rep, er, q⟩ => by
  refine ⟨env, S, g, rep, er, ?_⟩
  refine PostS.bind q fun x S1 g1 H1 v _ ex rep1 rv q1 => ?_
  have rv : x = .d (.bool v) := rv
  subst rv
  cases v with
  | true =>
    rw [if_pos rfl]
    exact ⟨env, S1, g1, rep1, er.up ex.up, q1⟩
  | false =>
    rw [if_neg Bool.false_ne_true]
    exact ⟨env, S1, g1, rep1, er.up ex.up, q1⟩
theorem ss_while {c : Expr} {body : List Stmt} {mc : Env → Store → Res PV} {mb : Env → Store → Res (Env × Fl)} (hp : PassesOwn (model X.prog X.w) X.A X.env X.xe) (hc : ST X cls W c mc) (hb : SSs X cls W body mb) (N : Nat) : SS X cls W (.While c body [] pos) (fun env S => whileLoop mc mb N env S) := PS.imp (ps_while hp (ptx hc) hb) fun D σ H ⟨env, S, g, rep, er, q⟩ => by
  refine ⟨fun m σ H => ∃ env S g, Rep X.K g S H ∧ EnvR X.K g S.length env σ ∧ PostS (cfX X cls) W S.length g H (whileLoop mc mb m env S) D, ⟨N, env, S, g, rep, er, q⟩, ?_⟩
  rintro m σ H ⟨env, S, g, rep, er, q⟩
  cases m with
  | zero => exact (show False from q).elim
  | succ m =>
    refine ⟨env, S, g, rep, er, ?_⟩
    unfold whileLoop at q
    refine PostS.bind q fun x S1 g1 H1 v _ ex rep1 rv q1 => ?_
    have rv : x = .d (.bool v) := rv
    subst rv
    have er1 := er.up ex.up
    cases v with
    | false =>
      rw [if_neg Bool.false_ne_true]
      exact q1 g1 H1 σ (Ext.refl (Nat.le_refl _)) rep1 er1
    | true =>
      rw [if_pos rfl]
      refine ⟨fun σ' H' => ∃ env S g, Rep X.K g S H' ∧ EnvR X.K g S.length env σ' ∧ PostS (cfX X cls) W S.length g H' (whileLoop mc mb m env S) D, fun σ' H' h => ⟨m, Nat.lt_succ_self _, h⟩, ?_⟩
      refine ⟨env, S1, g1, rep1, er1, ?_⟩
      dsimp only at q1
      cases hm : mb env S1 with
      | ok p S2 =>
        rw [hm] at q1
        obtain ⟨env', f⟩ := p
        cases f with
        | next => exact fun g' H' σ' ex rep' er' => ⟨env', S2, g', rep', er', PostS.move q1 ex⟩
        | cont => exact fun g' H' σ' ex rep' er' => ⟨env', S2, g', rep', er', PostS.move q1 ex⟩
        | brk => exact q1
        | ret x => exact q1
      | err c as S' => rw [hm] at q1; exact q1
      | stuck => rw [hm] at q1; exact q1
def bodyM (tg : Tg) (mb : Env → Store → Res (Env × Fl)) (x : PV) (env1 : Env) (S2 : Store) : Res (Env × Fl) := match putTg tg x env1 with
  | some env2 => mb env2 S2
  | none => .stuck
theorem ss_for {iter : Expr} {body : List Stmt} {mw : Env → Store → Res Walked} {mb : Env → Store → Res (Env × Fl)} (hp : PassesOwn (model X.prog X.w) X.A X.env X.xe) (hc : X.calm = true) (hi : SI X cls W tg' iter mw) (hsame : ∀ env S w S1, mw env S = .ok w S1 → w.same S1) (hg : PG X tg' (tTg X tg)) (hb : SSs X cls W body mb)
    (hs : ∀ x, foldedSetIterable iter X.env x = pure x) : SS X cls W (.For tg' iter body [] pos) (fun env S => (mw env S).bind fun w S1 => forLoop w (bodyM tg mb) w.items env S1) := by
  refine ⟨fun pins s σ H D I ⟨env, S, h⟩ => ?_⟩
  obtain ⟨wi, hpi, hwi⟩ := hi env S
  refine (PS.imp (ps_for hp hc hpi hg hb hs) ?_ : PS X _ (fun D σ H => ∃ g, Rep X.K g S H ∧ EnvR X.K g S.length env σ ∧ PostS (cfX X cls) W S.length g H ((mw env S).bind fun w S1 => forLoop w (bodyM tg mb) w.items env S1) D)).run pins s σ H D I h
  clear h I
  rintro D σ H ⟨g, rep, er, q⟩
  refine hwi σ H _ ⟨g, rep, er, ?_⟩
  refine PostS.bind q fun w S1 g1 H1 J e1 ex rep1 wk q1 => ?_
  have wk : Wk X.K w J g1 S1.length := wk
  have er1 := er.up ex.up
  refine ⟨fun i m σ H' => m = w.items.length - i ∧ i ≤ w.items.length ∧ ∃ g' S' env', Rep X.K g' S' H' ∧ EnvR X.K g' S'.length env' σ ∧ Ext S1.length S1.length g1 H1 S'.length g' H' ∧ w.same S' ∧ PostS (cfX X cls) W S'.length g' H' (forLoop w (bodyM tg mb) (w.items.drop i) env' S') D,
    ⟨w.items.length, by simp, Nat.zero_le _, g1, S1, env, rep1, er1, Ext.refl (Nat.le_refl _), hsame env S w S1 e1, by rw [List.drop_zero]; exact q1⟩, ?_⟩
  rintro i m σ H' ⟨rfl, hile, g', S', env', rep', er', ex', same', q'⟩
  have hwk := wk g' S' H' ex'.up rep' same' i
  cases hit : w.items[i]? with
  | none =>
    refine .inl ⟨hwk.2 hit, ?_⟩
    have hi' : w.items.drop i = [] := by
      rw [List.getElem?_eq_none_iff] at hit
      exact List.drop_eq_nil_of_le hit
    rw [hi'] at q'
    exact q' g' H' σ (Ext.refl (Nat.le_refl _)) rep' er'
  | some y =>
    obtain ⟨hgo, hyld⟩ := hwk.1 y hit
    have hilt : i < w.items.length := (List.getElem?_eq_some_iff.mp hit).1
    have hdr : w.items.drop i = y :: w.items.drop (i + 1) := by
      rw [List.drop_eq_getElem_cons hilt]
      congr 1
      rw [List.getElem?_eq_getElem hilt] at hit
      exact Option.some.inj hit
    rw [hdr] at q'
    refine .inr ⟨hgo, fun σ' H' => ∃ m', m' < w.items.length - i ∧ (m' = w.items.length - (i + 1) ∧ i + 1 ≤ w.items.length ∧ ∃ g' S' env', Rep X.K g' S' H' ∧ EnvR X.K g' S'.length env' σ' ∧ Ext S1.length S1.length g1 H1 S'.length g' H' ∧ w.same S' ∧ PostS (cfX X cls) W S'.length g' H' (forLoop w (bodyM tg mb) (w.items.drop (i + 1)) env' S') D), fun σ' H' h => h, fun x H'' hy => ?_⟩
    obtain ⟨g'', ext2, rep2, rvx⟩ := hyld x H'' hy
    have er2 := er'.up ext2.up
    have q2 := PostS.move q' ext2
    unfold forLoop at q2
    cases hput : putTg tg y env' with
    | none =>
      have : bodyM tg mb y env' S' = .stuck := by unfold bodyM; rw [hput]
      rw [this] at q2
      exact (show False from q2).elim
    | some env2 =>
      have hbm : bodyM tg mb y env' S' = mb env2 S' := by unfold bodyM; rw [hput]
      rw [hbm] at q2
      refine ⟨g'', S', env', y, env2, rep2, er2, rvx, hput, fun σ' erσ _ _ => ?_⟩
      refine ⟨env2, S', g'', rep2, erσ, ?_⟩
      have ex2 := ex'.trans ext2 ex'.le
      cases hm : mb env2 S' with
      | ok p S2 =>
        rw [hm] at q2
        obtain ⟨env3, f⟩ := p
        have again : PostS (cfX X cls) W S'.length g'' H'' (open Classical in if w.same S2 then forLoop w (bodyM tg mb) (w.items.drop (i + 1)) env3 S2 else .stuck) D → ∀ (g3 : Gs) (H3 : Hp) (σ3 : L2.St), Ext S'.length S'.length g'' H'' S2.length g3 H3 → Rep X.K g3 S2 H3 → EnvR X.K g3 S2.length env3 σ3 → ∃ m', m' < w.items.length - i ∧ (m' = w.items.length - (i + 1) ∧ i + 1 ≤ w.items.length ∧ ∃ g' S' env', Rep X.K g' S' H3 ∧ EnvR X.K g' S'.length env' σ3 ∧ Ext S1.length S1.length g1 H1 S'.length g' H3 ∧ w.same S' ∧ PostS (cfX X cls) W S'.length g' H3 (forLoop w (bodyM tg mb) (w.items.drop (i + 1)) env' S') D) := by
          intro q3 g3 H3 σ3 ex3 rep3 er3
          split at q3
          · rename_i hs
            exact ⟨w.items.length - (i + 1), by omega, rfl, hilt, g3, S2, env3, rep3, er3, ex2.trans ex3 ex2.le, hs, PostS.move q3 ex3⟩
          · exact (show False from q3).elim
        cases f with
        | next => exact again q2
        | cont => exact again q2
        | brk => exact q2
        | ret x => exact q2
      | err c as S2 => rw [hm] at q2; exact q2
      | stuck => rw [hm] at q2; exact q2
end
end PW

set_option maxHeartbeats 1000000
namespace PW
open PySem PySem.Spec PyProof.Rows L2
/-! PW5b: more statements -/
section
variable {X : Cx} {cls : Nat → Option Value} {W : WX} {e tg' : Expr} {st : Stmt} {rest : List Stmt} {tg : Tg} {me : Env → Store → Res PV} {m k : Env → Store → Res (Env × Fl)} {pos : Pos}
theorem sss_kill (is : List Nat) (h : SSs X cls W rest k) : SSs X cls W rest (seqM (fun env S => .ok (killE env is, .next) S) k) := PSs.imp h fun D σ H ⟨env, S, g, rep, er, q⟩ => ⟨killE env is, S, g, rep, er.kill is, q⟩
theorem ss_aug {i : Nat} {x : Str} {o : Bop} {py : Pos} (ho : o = .add ∨ o = .sub ∨ o = .mul ∨ o = .fdiv) (hN : X.N.Nodup) (hi : X.N[i]? = some x) (hx : Loc X.env.scope x) (hf : X.fn x = true ∨ X.env.scope.names.lookup x = some .local) (he : SE X cls W e me) :
    SS X cls W (.AugAssign (.Name x py) o.op e pos) (fun env S => match env.get i with
    | some x => (me env S).bind fun y S1 => match augop o x y with
      | some v => .ok (env.set i (some v), .next) S1
      | none => .stuck
    | none => .stuck) := by
  have hpip : PIp X o.op (fun v u H Q => ∃ x y S, isTupP x = false ∧ tV2 X cls W x y S (orStuck (binop o x y) S) v u H Q) := by
    intro pins s σ H v u vv uu Q I rv ru h
    obtain ⟨x, y, S, hn, h⟩ := h
    exact op_aug o ho x y S hn pins s σ H v u vv uu Q I rv ru h
  refine PS.imp (ps_aug hN hi hx (pex he) hpip hf) ?_
  rintro D σ H ⟨env, S, g, rep, er, q⟩
  cases hg : env.get i with
  | none => dsimp only at q; rw [hg] at q; exact (show False from q).elim
  | some z =>
    dsimp only at q
    rw [hg] at q
    have hgi : env[i]? = some (some z) := by
      unfold Env.get at hg
      split at hg
      · rename_i o hh; rw [hh, hg]
      · cases hg
    obtain ⟨v, hv, rv⟩ := er.2 i z hgi
    refine ⟨v, hv, env, S, g, rep, er, ?_⟩
    refine PostS.bind q fun y S1 g1 H1 u _ ex rep1 ru q1 => ?_
    have rv1 := rv.up ex.up
    have er1 := er.up ex.up
    unfold augop at q1
    cases ht : isTupP z with
    | true => rw [ht] at q1; exact (show False from q1).elim
    | false =>
      rw [ht] at q1
      rw [if_neg Bool.false_ne_true] at q1
      refine ⟨z, y, S1, ht, g1, rep1, rv1, ru, ?_⟩
      cases hb : binop o z y with
      | none => rw [hb] at q1; exact (show False from q1).elim
      | some r =>
        rw [hb] at q1
        exact fun g' H' v' ex' rep' rr => q1 g' H' _ ex' rep' ((er1.up ex'.up).set rr)
theorem ss_set {o i : Expr} {mo mi : Env → Store → Res PV} {ps : Pos} (he : SE X cls W e me) (ho : SE X cls W o mo) (hi : SE X cls W i mi) (hsl : isSlice i = false) (hs : swapsWithSole [.Subscript o i ps] e pos.line X.env = pure false) (hw : swappedStores [.Subscript o i ps] e X.env = pure none) :
    SS X cls W (.Assign [.Subscript o i ps] e pos) (fun env S => (me env S).bind fun v S1 => (mo env S1).bind fun x S2 => (mi env S2).bind fun y S3 => match setop S3 x y v with
    | some S4 => .ok (env, .next) S4
    | none => .stuck) := by
  have hps : PSet X (fun ov iv vv H Q => ∃ o i v S S' g, setop S o i v = some S' ∧ Rep X.K g S H ∧ RV X.K g S.length ov o ∧ RV X.K g S.length iv i ∧ RV X.K g S.length vv v ∧ ∀ g' H', Ext S.length S.length g H S'.length g' H' → Rep X.K g' S' H' → Q H') := by
    intro pins s σ H ov iv vv ov' iv' vv' Q I ro ri rv ⟨o, i, v, S, S', g, hs, h⟩
    exact set_ok hs pins s σ H ov iv vv ov' iv' vv' Q I ro ri rv ⟨g, h⟩
  have hasg : ∀ v, assign (.Subscript o i ps) X.env v = (do
      let ov ← holding [v] (eval o X.env)
      let iv ← holding [v, ov] (eval i X.env)
      standAt ps
      holding [v, ov, iv] (setItem ov iv v)
      release [v, ov, iv] []) := by
    intro v
    cases i <;> first | rfl | (simp [isSlice] at hsl)
  refine PS.imp (ps_asg (pex he) (pg_sub (pex ho) (pex hi) hps hasg) hs hw rfl) ?_
  rintro D σ H ⟨env, S, g, rep, er, q⟩
  refine ⟨env, S, g, rep, er, ?_⟩
  refine PostS.bind q fun v S1 g1 H1 vv _ ex1 rep1 rv q1 => ?_
  have er1 := er.up ex1.up
  refine ⟨env, S1, g1, rep1, er1, ?_⟩
  refine PostS.bind q1 fun x S2 g2 H2 ov _ ex2 rep2 ro q2 => ?_
  have er2 := er1.up ex2.up
  refine ⟨env, S2, g2, rep2, er2, ?_⟩
  refine PostS.bind q2 fun y S3 g3 H3 iv _ ex3 rep3 ri q3 => ?_
  have er3 := er2.up ex3.up
  have rv : RV X.K g1 S1.length vv v := rv
  have ro : RV X.K g2 S2.length ov x := ro
  cases hset : setop S3 x y v with
  | none => rw [hset] at q3; exact (show False from q3).elim
  | some S4 =>
    rw [hset] at q3
    exact ⟨x, y, v, S3, S4, g3, hset, rep3, ro.up ex3.up, ri, (rv.up ex2.up).up ex3.up, fun g' H' ex' rep' => q3 g' H' σ ex' rep' (er3.up ex'.up)⟩
theorem tupItems_mk (xs : List PV) : tupItems (mkTup xs) = some xs := by
  unfold mkTup
  cases e : allD xs with
  | none => rfl
  | some ds => rw [allD_eq e]; rfl
theorem rvs_two {K : PySem.W.Frag} {g : Gs} {n : Nat} {vs : List V} {xs : List PV} (h : RVs K g n vs xs) (hl : xs.length = 2) : ∃ v w x y, vs = [v, w] ∧ xs = [x, y] ∧ RV K g n v x ∧ RV K g n w y := by
  match xs, hl with
  | [x, y], _ =>
    cases h with
    | cons a t => cases t with
      | cons b t => cases t; exact ⟨_, _, _, _, rfl, rfl, a, b⟩
theorem rvs_three {K : PySem.W.Frag} {g : Gs} {n : Nat} {vs : List V} {xs : List PV} (h : RVs K g n vs xs) (hl : xs.length = 3) : ∃ v w u x y z, vs = [v, w, u] ∧ xs = [x, y, z] ∧ RV K g n v x ∧ RV K g n w y ∧ RV K g n u z := by
  match xs, hl with
  | [x, y, z], _ =>
    cases h with
    | cons a t => cases t with
      | cons b t => cases t with
        | cons c t => cases t; exact ⟨_, _, _, _, _, _, rfl, rfl, a, b, c⟩
def tupM (ms : Env → Store → Res (List PV)) (env : Env) (S : Store) : Res PV := (ms env S).bind fun vs S1 => if vs.length ≤ sizeLine then .ok (mkTup vs) S1 else .stuck
theorem ss_par {i j : Nat} {x y : Str} {a b : Expr} {ms : Env → Store → Res (List PV)} {px py pt : Pos} {kt k2 pt2} (hc : X.calm = true) (hN : X.N.Nodup) (hi : X.N[i]? = some x) (hj : X.N[j]? = some y) (hij : i ≠ j)
    (hx : X.env.scope.names.lookup x = some .local) (hy : X.env.scope.names.lookup y = some .local) (ha : SA X cls W [a, b] ms)
    (hw : swappedStores [.Tuple [.Name x px, .Name y py] kt pt] (.Tuple [a, b] k2 pt2) X.env = pure (some [x, y])) :
    SS X cls W (.Assign [.Tuple [.Name x px, .Name y py] kt pt] (.Tuple [a, b] k2 pt2) pos) (fun env S => putM (.tup [i, j]) (tupM ms env S) env) := by
  refine ⟨fun pins s σ H D I ⟨env, S, h⟩ => ?_⟩
  refine (PS.imp (ps_par hc hN hi hj hij hx hy (ha env S) hw) ?_ : PS X _ (fun D σ H => ∃ g, Rep X.K g S H ∧ EnvR X.K g S.length env σ ∧ PostS (cfX X cls) W S.length g H (putM (.tup [i, j]) (tupM ms env S) env) D)).run pins s σ H D I h
  clear h I
  rintro D σ H ⟨g, rep, er, q⟩
  refine ⟨g, rep, er, ?_⟩
  have e0 : putM (.tup [i, j]) (tupM ms env S) env = (ms env S).bind fun vs S1 => putM (.tup [i, j]) (if vs.length ≤ sizeLine then .ok (mkTup vs) S1 else .stuck) env := by
    unfold tupM putM; cases ms env S <;> rfl
  rw [e0] at q
  refine PostS.bind q fun vs S1 g1 H1 us _ ex rep1 rvs q1 => ?_
  split at q1
  · dsimp only [putM, Res.bind, putTg] at q1
    rw [tupItems_mk] at q1
    dsimp only at q1
    split at q1
    · rename_i hl
      split at hl
      · rename_i hl2
        cases hl
        obtain ⟨v, w, z, t, rfl, rfl, r1, r2⟩ := rvs_two rvs (by simpa using hl2)
        exact ⟨v, w, rfl, q1 g1 H1 _ (Ext.refl (Nat.le_refl _)) rep1 (((er.up ex.up).set r1).set r2)⟩
      · cases hl
    · exact (show False from q1).elim
  · exact (show False from q1).elim
theorem ss_par3 {i j l : Nat} {x y z : Str} {a b c : Expr} {ms : Env → Store → Res (List PV)} {px py pz pt : Pos} {kt k2 pt2} (hc : X.calm = true) (hN : X.N.Nodup) (hi : X.N[i]? = some x) (hj : X.N[j]? = some y) (hl : X.N[l]? = some z) (hij : i ≠ j) (hil : i ≠ l) (hjl : j ≠ l)
    (hx : X.env.scope.names.lookup x = some .local) (hy : X.env.scope.names.lookup y = some .local) (hz : X.env.scope.names.lookup z = some .local) (ha : SA X cls W [a, b, c] ms)
    (hw : swappedStores [.Tuple [.Name x px, .Name y py, .Name z pz] kt pt] (.Tuple [a, b, c] k2 pt2) X.env = pure (some [x, y, z])) :
    SS X cls W (.Assign [.Tuple [.Name x px, .Name y py, .Name z pz] kt pt] (.Tuple [a, b, c] k2 pt2) pos) (fun env S => putM (.tup [i, j, l]) (tupM ms env S) env) := by
  refine ⟨fun pins s σ H D I ⟨env, S, h⟩ => ?_⟩
  refine (PS.imp (ps_par3 hc hN hi hj hl hij hil hjl hx hy hz (ha env S) hw) ?_ : PS X _ (fun D σ H => ∃ g, Rep X.K g S H ∧ EnvR X.K g S.length env σ ∧ PostS (cfX X cls) W S.length g H (putM (.tup [i, j, l]) (tupM ms env S) env) D)).run pins s σ H D I h
  clear h I
  rintro D σ H ⟨g, rep, er, q⟩
  refine ⟨g, rep, er, ?_⟩
  have e0 : putM (.tup [i, j, l]) (tupM ms env S) env = (ms env S).bind fun vs S1 => putM (.tup [i, j, l]) (if vs.length ≤ sizeLine then .ok (mkTup vs) S1 else .stuck) env := by
    unfold tupM putM; cases ms env S <;> rfl
  rw [e0] at q
  refine PostS.bind q fun vs S1 g1 H1 us _ ex rep1 rvs q1 => ?_
  split at q1
  · dsimp only [putM, Res.bind, putTg] at q1
    rw [tupItems_mk] at q1
    dsimp only at q1
    split at q1
    · rename_i hl
      split at hl
      · rename_i hl2
        cases hl
        obtain ⟨v, w, u, z, t, t2, rfl, rfl, r1, r2, r3⟩ := rvs_three rvs (by simpa using hl2)
        exact ⟨v, w, u, rfl, q1 g1 H1 _ (Ext.refl (Nat.le_refl _)) rep1 ((((er.up ex.up).set r1).set r2).set r3)⟩
      · cases hl
    · exact (show False from q1).elim
  · exact (show False from q1).elim
end
end PW

set_option maxHeartbeats 1000000
namespace PW
open PySem PySem.Spec PyProof.Rows L2
/-! PW5c: which swap of stores an assignment makes -/
def isLst : Expr → Bool
  | .List _ _ => true
  | _ => false
def stF (tgt e : Expr) : Bool := match tgt with
  | .Tuple ts _ _ => (match e with
    | .Tuple vs _ _ => vs.all (foldedForSure 8) || !(ts.length == 2 || ts.length == 3)
    | _ => true)
  | .List _ _ => false
  | _ => true
theorem stF_none {tgt e : Expr} {env : PySem.Env} (h : stF tgt e = true) : swappedStores [tgt] e env = pure none := by
  cases tgt with
  | Tuple ts k p =>
    cases e with
    | Tuple vs k2 p2 =>
      have h : (vs.all (foldedForSure 8) || !(ts.length == 2 || ts.length == 3)) = true := h
      unfold swappedStores
      dsimp only
      split
      · rfl
      · rename_i h1
        split
        · rfl
        · split
          · rfl
          · split
            · rfl
            · rename_i h2
              exfalso
              rw [Bool.or_eq_true] at h
              rcases h with h | h
              · exact h2 h
              · apply h1
                rw [h]
                rfl
    | _ => rfl
  | List es k => cases h
  | _ => rfl
theorem sw_name {e : Expr} {y : Str} {py : Pos} {l : Nat} {env : PySem.Env} (h : isComp e = false) (t : Option Expr) : swapsWith e t l env = pure false := by
  cases e <;> first | rfl | (simp [isComp] at h)
theorem sw_sole {e tgt : Expr} {l : Nat} {env : PySem.Env} (h : isComp e = false) : swapsWithSole [tgt] e l env = pure false := sw_name (y := "") (py := default) h (some tgt)
/-- a name that a block within reads is a cell: no swap -/
theorem sw_cell {e : Expr} {y : Str} {py : Pos} {l : Nat} {env : PySem.Env} (h : env.scope.names.lookup y = some .cell) : swapsWithSole [.Name y py] e l env = pure false := by
  have ky : env.kindOf y = some .cell := h
  show swapsWith e (some (.Name y py)) l env = _
  have k2 : (some NameKind.cell == some NameKind.local) = false := by decide
  cases e <;> first | rfl | (unfold swapsWith; simp only [ky, k2, Bool.and_false, Bool.false_and]) | (unfold swapsWith; simp only [ky, k2, Bool.and_false, Bool.false_and]; rfl)
theorem sw_sub {e o i : Expr} {p : Pos} {l : Nat} {env : PySem.Env} : swapsWithSole [.Subscript o i p] e l env = pure false := by
  show swapsWith e (some (.Subscript o i p)) l env = _
  cases e <;> rfl
def folded2 (vs : List Expr) : Bool := vs.all (foldedForSure 8) || vs.all (constantsAlone 8)
theorem isStar_any {vs : List Expr} (h : (vs.all fun v => !isStar v) = true) : (vs.any fun | .Starred .. => true | _ => false) = false := by
  rw [Bool.eq_false_iff]
  intro z
  rw [List.any_eq_true] at z
  obtain ⟨v, hv, z⟩ := z
  rw [List.all_eq_true] at h
  have := h v hv
  cases v <;> first | (simp at z; done) | (simp [isStar] at this)
theorem fold2 {vs : List Expr} (h : folded2 vs = false) : vs.all (foldedForSure 8) = false ∧ vs.all (constantsAlone 8) = false := by
  unfold folded2 at h
  rw [Bool.or_eq_false_iff] at h
  exact h
theorem sw_two {x y : Str} {a b : Expr} {px py pt : Pos} {kt k2 : Nat} {pt2 : Pos} {env : PySem.Env} (hk : env.scope.kind = .function) (hx : env.scope.names.lookup x = some .local) (hy : env.scope.names.lookup y = some .local) (hl : py.line = px.line) (hn : x ≠ y)
    (hs : ([a, b].all fun v => !isStar v) = true) (hf : folded2 [a, b] = false) : swappedStores [.Tuple [.Name x px, .Name y py] kt pt] (.Tuple [a, b] k2 pt2) env = pure (some [x, y]) := by
  have kx : env.kindOf x = some .local := hx
  have ky : env.kindOf y = some .local := hy
  have hb : env.blockKind = .function := by unfold Env.blockKind; rw [hk]; rfl
  obtain ⟨f1, f2⟩ := fold2 hf
  have h3 := isStar_any hs
  have ne1 : (y == x) = false := by simp; exact fun e => hn e.symm
  unfold swappedStores
  dsimp only
  refine (if_neg ?h1).trans ((if_neg ?h2).trans ((if_neg ?h3).trans ((if_neg ?h4).trans ((if_neg ?h5).trans ?h6))))
  case h1 => rw [hb]; simp
  case h2 => exact fun z => by cases (isStar_any hs).symm.trans z
  case h3 =>
    simp only [List.filterMap_cons, List.filterMap_nil, kx, ky, hl, Option.map_some, List.head?_cons, Option.getD_some, Expr.pos]
    simp [List.eraseDups_cons, ne1]
  case h4 => rw [f1]; exact Bool.false_ne_true
  case h5 => rw [f2]; exact Bool.false_ne_true
  case h6 =>
    simp only [List.filterMap_cons, List.filterMap_nil, kx, ky, hl, Option.map_some, List.head?_cons, Option.getD_some, Expr.pos]
    simp
theorem sw_three {x y z : Str} {a b c : Expr} {px py pz pt : Pos} {kt k2 : Nat} {pt2 : Pos} {env : PySem.Env} (hk : env.scope.kind = .function) (hx : env.scope.names.lookup x = some .local) (hy : env.scope.names.lookup y = some .local) (hz : env.scope.names.lookup z = some .local) (hl : py.line = px.line) (hl2 : pz.line = px.line) (hn : x ≠ y) (hn2 : x ≠ z) (hn3 : y ≠ z)
    (hs : ([a, b, c].all fun v => !isStar v) = true) (hf : folded2 [a, b, c] = false) : swappedStores [.Tuple [.Name x px, .Name y py, .Name z pz] kt pt] (.Tuple [a, b, c] k2 pt2) env = pure (some [x, y, z]) := by
  have kx : env.kindOf x = some .local := hx
  have ky : env.kindOf y = some .local := hy
  have kz : env.kindOf z = some .local := hz
  have hb : env.blockKind = .function := by unfold Env.blockKind; rw [hk]; rfl
  obtain ⟨f1, f2⟩ := fold2 hf
  have h3 := isStar_any hs
  have ne1 : (y == x) = false := by simp; exact fun e => hn e.symm
  have ne2 : (z == x) = false := by simp; exact fun e => hn2 e.symm
  have ne3 : (z == y) = false := by simp; exact fun e => hn3 e.symm
  unfold swappedStores
  dsimp only
  refine (if_neg ?h1).trans ((if_neg ?h2).trans ((if_neg ?h3).trans ((if_neg ?h4).trans ((if_neg ?h5).trans ?h6))))
  case h1 => rw [hb]; simp
  case h2 => exact fun z => by cases (isStar_any hs).symm.trans z
  case h3 =>
    simp only [List.filterMap_cons, List.filterMap_nil, kx, ky, kz, hl, hl2, Option.map_some, List.head?_cons, Option.getD_some, Expr.pos]
    simp [List.eraseDups_cons, ne1, ne2, ne3]
  case h4 => rw [f1]; exact Bool.false_ne_true
  case h5 => rw [f2]; exact Bool.false_ne_true
  case h6 =>
    simp only [List.filterMap_cons, List.filterMap_nil, kx, ky, kz, hl, hl2, Option.map_some, List.head?_cons, Option.getD_some, Expr.pos]
    simp
end PW

set_option maxHeartbeats 1000000
namespace PW
open PySem PySem.Spec PyProof.Rows L2
/-! PW5k: attributes written; errors raised and caught -/
section
variable {X : Cx} {cls : Nat → Option Value} {W : WX} {T : Info} {Φ : Fns} {e o : Expr} {me mo : Env → Store → Res PV} {pos ps : Pos}
theorem ss_setf {f : Str} {c : Nat} {pp : Str × List Str × Nat × List (Str × Nat)} {C : Addr} (k : KlsAt X cls T Φ c pp C) (hf : f ∈ pp.2.1) (he : SE X cls W e me) (ho : SE X cls W o mo) (hs : isComp e = false) :
    SS X cls W (.Assign [.Attribute o f ps] e pos) (fun env S => (me env S).bind fun v S1 => (mo env S1).bind fun x S2 => match setfR Φ (T.fns.length + c) f x v S2 with
      | some S3 => .ok (env, .next) S3
      | none => .stuck) := by
  refine PS.imp (ps_fld (pex ho) (pex he) (sw_name (y := "") (py := default) hs _)) ?_
  rintro D σ H ⟨env, S, g, rep, er, q⟩
  refine ⟨env, S, g, rep, er, ?_⟩
  refine PostS.bind q fun v S1 g1 H1 vv _ ex1 rep1 rv q1 => ?_
  have er1 := er.up ex1.up
  refine ⟨env, S1, g1, rep1, er1, ?_⟩
  refine PostS.bind q1 fun x S2 g2 H2 ov _ ex2 rep2 ro q2 => ?_
  have er2 := er1.up ex2.up
  have rv : RV X.K g1 S1.length vv v := rv
  have ro : RV X.K g2 S2.length ov x := ro
  cases hset : setfR Φ (T.fns.length + c) f x v S2 with
  | none => rw [hset] at q2; exact (show False from q2).elim
  | some S3 =>
    rw [hset] at q2
    unfold setfR at hset
    split at hset
    · rename_i l
      split at hset
      · rename_i E fs eS
        split at hset
        · rename_i hc
          cases hset
          obtain rfl := no_of k hc.1
          obtain ⟨rfl, hlt⟩ := rv_loc ro
          obtain ⟨dx, vs, hH, hfs⟩ := ins_of rep2 eS
          have rv2 := rv.up ex2.up
          refine ⟨_, _, dx, vs, rfl, hH, k.cl, k.no f hf, by rw [hfs.length]; exact hc.2, ?_⟩
          exact q2 g2 _ σ (Ext.write (Nat.le_refl _) hlt) (rep2.writeO eS ⟨dx, _, rfl, hfs.put rv2⟩) (by rw [List.length_set]; exact er2)
        · cases hset
      · cases hset
    · cases hset
theorem ss_raise {x : Str} {m : Str} {c : Nat} {pp : Str × List Nat × Bool} {C : Addr} {j : Nat} {p p2 pc : Pos} (hc : X.calm = true) (tk : Takes X W) (k : ErrAt X cls T c pp C) (hp : pp.2.2 = true) (hx : x = pp.1) (hg : gl X.env.scope x = true) (hok : okName x = true) :
    SS X cls W (.Raise (some (.Call (.Name x p) [.Constant (.str m) j p2] [] pc)) none pos) (fun env S => .err c [] S) := by
  subst hx
  refine PS.imp (ps_raise hc tk (pmk_own PySem.F.excBase_ValueError (k.ex hp) k.mg (k.kp hp) (k.rs hp) (gl_of hg) (name_of hok).1)) ?_
  rintro D σ H ⟨env, S, g, rep, er, q⟩
  exact q g H σ (.ref C) none (Ext.refl (Nat.le_refl _)) rep ⟨k.nr hp, rfl, rfl⟩
/-- the classes that an except's suite asks for -/
def asks (n : Str) : List Expr → Option (List Str)
  | [] => some []
  | .Call (.Name f _) [.Name y _, .Name x _] [] _ :: r => if (decide (f = Str.ofString "isinstance") && decide (y = n)) = true then (asks n r).map (x :: ·) else none
  | _ :: _ => none
/-- the answers -/
inductive Asked (K : PySem.W.Frag) (D : Addr) (mg : Str → Option Value) : List Str → List Bool → Prop
  | nil : Asked K D mg [] []
  | cons {x : Str} {xs : List Str} {b : Bool} {bs : List Bool} {C : Addr} : mg x = some (.ref C) → PySem.W.kitOne K (.ref D) (.ref C) = some b → Asked K D mg xs bs → Asked K D mg (x :: xs) (b :: bs)
theorem pa_asks {a D : Addr} {oe : Obj} {pn : List (Addr × Obj)} {n : Str} {i : Nat} (hi : X.N[i]? = some n) (hv : vis X.env.scope n = true) (hn : okName n = true) (hg : gl X.env.scope (Str.ofString "isinstance") = true) (hm : X.mg (Str.ofString "isinstance") = none) (ec : ExcC X.K D) (hz : Zc (.ref D) none oe) (hf : ∃ vs, oe.data = .fields vs) :
    ∀ {es : List Expr} {xs : List Str} {bs : List Bool}, asks n es = some xs → (∀ x ∈ xs, gl X.env.scope x = true ∧ okName x = true) → Asked X.K D X.mg xs bs →
      PA (X.suite a ((a, oe) :: pn)) es (fun σ H Q => σ[i]? = some (some (.ref a)) ∧ Q (bs.map V.bl) H) := by
  intro es
  induction es with
  | nil =>
    intro xs bs h1 h2 h3
    cases h1
    cases h3
    exact PA.imp pa_nil fun σ H Q h => h.2
  | cons e r ih =>
    intro xs bs h1 h2 h3
    unfold asks at h1
    split at h1
    · rename_i heq
      cases heq
    · rename_i f py y p1 x p2 p3 r' heq
      cases heq
      split at h1
      · rename_i hc
        rw [Bool.and_eq_true, decide_eq_true_eq, decide_eq_true_eq] at hc
        obtain ⟨rfl, rfl⟩ := hc
        obtain ⟨xs', hr, rfl⟩ := Option.map_eq_some_iff.mp h1
        cases h3 with
        | cons hmg hk ht =>
          rename_i b bs C
          have hb : bootBuiltins (Str.ofString "isinstance") = some (.builtin "isinstance") := by decide +kernel
          have h2x := h2 x List.mem_cons_self
          have e1 : PE (X.suite a ((a, oe) :: pn)) (.Name y p1) (tVar i) := pe_var (X := X.suite a ((a, oe) :: pn)) hi (vis_of hv) (name_of hn).1 (name_of hn).2
          have e2 : PE (X.suite a ((a, oe) :: pn)) (.Name x p2) (tC (.ref C)) := pe_glob (X := X.suite a ((a, oe) :: pn)) (gl_of (X := X) h2x.1) hmg rfl (name_of h2x.2).1
          have e3 := pe_callB (p := py) (pos := p3) (call_isE (X := X) (a := a) (pn := pn) ec hz hf) (gl_of (X := X) hg) hm hb (pa_cons e1 (pa_cons e2 pa_nil)) (by decide +kernel) (by decide +kernel)
          refine PA.imp (pa_cons e3 (ih hr (fun z hz => h2 z (List.mem_cons_of_mem _ hz)) ht)) ?_
          rintro σ H Q ⟨hs, q⟩
          refine ⟨.ref a, hs, .ref C, .ref C, b, rfl, fun u hu => hu, hk, ?_⟩
          exact ⟨hs, q⟩
      · cases h1
    · cases h1
theorem asked_of {c : Nat} {D : Addr} : ∀ {xs : List Str} {ds : List (List Nat)} (_ : ∀ (k : Nat) (x : Str) (d : List Nat), xs[k]? = some x → ds[k]? = some d → ∃ C, X.mg x = some (.ref C) ∧ PySem.W.kitOne X.K (.ref D) (.ref C) = some (decide (c ∈ d))) (_ : xs.length = ds.length), Asked X.K D X.mg xs (ds.map fun d => decide (c ∈ d))
  | [], [], _, _ => .nil
  | x :: xs, d :: ds, h, hl => by
    obtain ⟨C, h1, h2⟩ := h 0 x d rfl rfl
    exact .cons h1 h2 (asked_of (fun k x d a b => h (k + 1) x d (by simpa using a) (by simpa using b)) (by simpa using hl))
  | [], _ :: _, _, hl => by simp at hl
  | _ :: _, [], _, hl => by simp at hl
theorem dp_bools {H : Hp} : ∀ bs : List Bool, DpAll X.K H (bs.map V.bl) (bs.map .bool)
  | [] => .nil
  | b :: bs => .cons (.bl b) (dp_bools bs)
theorem ss_tryI {body : List Stmt} {mb : Env → Store → Res (Env × Fl)} {x n : Str} {i c : Nat} {pp : Str × List Nat × Bool} {Ct : Addr} {es : List Expr} {xs : List Str} {ds : List (List Nat)} {np hp rp lp : Pos}
    (hst : X.stack = X.env :: X.outer) (hfr : X.env.frame = some X.env.locals) (hN : X.N.Nodup) (hi : X.N[i]? = some n) (hln : X.env.scope.names.lookup n = some .local) (hnn : okName n = true)
    (tk : Takes X W) (kt : ErrAt X cls T c pp Ct) (hx : x = pp.1) (hg : gl X.env.scope x = true) (hok : okName x = true)
    (hgi : gl X.env.scope (Str.ofString "isinstance") = true) (hmi : X.mg (Str.ofString "isinstance") = none)
    (xn : ∀ c u, cls c = some u → ∃ p C, T.exs[c]? = some p ∧ p.2.2 = true ∧ u = .ref C) (xa : ∀ c p, T.exs[c]? = some p → ∃ C, ErrAt X cls T c p C)
    (ha : asks n es = some xs) (hxs : ∀ y ∈ xs, gl X.env.scope y = true ∧ okName y = true) (hlen : xs.length = ds.length) (hl1 : xs.length ≤ 1000)
    (hds : ∀ (k : Nat) (y : Str) (d : List Nat), xs[k]? = some y → ds[k]? = some d → ∃ (c' : Nat) (p' : Str × List Nat × Bool), T.exs[c']? = some p' ∧ y = p'.1 ∧ d = p'.2.1)
    (hb : ∀ (W' : WX) (pn : List (Addr × Obj)) (xe : Value → Shared → Prop), Takes (X.tr pn xe) W' → PassesOwn (model X.prog X.w) X.A X.env xe → SSs (X.tr pn xe) cls W' body mb) :
    SS X cls W (.Try body [.ExceptHandler (some (.Name x np)) (some n) [.Return (some (.List es lp)) rp] hp] [] [] pos) (fun env S => catchI (mb env S) pp.2.1 ds env) := by
  subst hx
  have hsz : xs.length ≤ sizeLine := Nat.le_trans hl1 (by decide)
  have suite : ∀ (a : Addr) (oe : Obj) (u : Value) (d : Option Addr) (pn : List (Addr × Obj)), Zc u d oe → (∃ vs, oe.data = .fields vs) → PSs (X.suite a ((a, oe) :: pn)) [.Return (some (.List es lp)) rp]
      (fun D σ H => ∃ E bs, u = .ref E ∧ d = none ∧ ExcC X.K E ∧ Asked X.K E X.mg xs bs ∧ bs.length ≤ sizeLine ∧ (∃ σ0 : L2.St, σ = σ0.set i (some (.ref a))) ∧ ∀ p, H p = none → D.rt (.ref p) (L2.upd H p (.lst (bs.map V.bl)))) := by
    intro a oe u d pn hz hf
    refine ⟨fun pins s σ H D I h => ?_⟩
    obtain ⟨E, bs, rfl, rfl, ec, hq, hbl, ⟨σ0, rfl⟩, q⟩ := h
    have hs : (σ0.set i (some (V.ref a)))[i]? = some (some (.ref a)) := by
      have hl := I.len
      have hiN : i < X.N.length := (List.getElem?_eq_some_iff.mp hi).1
      have hl : (σ0.set i (some (V.ref a))).length = X.N.length := hl
      rw [List.length_set] at hl
      exact List.getElem?_set_self (by omega)
    have pa := pa_asks (X := X) (a := a) (pn := pn) hi (by unfold vis; rw [hln]) hnn hgi hmi ec hz hf ha hxs hq
    have := pss_one (ps_ret (pos := rp) (pe_lst (pos := lp) pa))
    refine this.run pins s _ H D I ⟨hs, by rw [List.length_map]; exact hbl, fun p hp => q p hp⟩
  refine PS.imp (ps_try_as (i := i) hst hfr hN hi hln ⟨gl_of hg, (name_of hok).1, .inl kt.mg⟩ tk (tb := fun W' => tSx (cfX X cls) W' mb) (fun W' pn xe t p => hb W' pn xe t p) (fun a oe u d pn hz hf => suite a oe u d pn hz hf)) ?_
  rintro D σ H ⟨env, S, g, rep, er, q⟩
  refine ⟨env, S, g, rep, er, ?_⟩
  have q : PostS (cfX X cls) W S.length g H (catchI (mb env S) pp.2.1 ds env) D := q
  cases hr : mb env S with
  | ok p S' =>
    rw [hr] at q
    obtain ⟨e', f⟩ := p
    cases f <;> exact q
  | stuck => rw [hr] at q; exact (show False from q).elim
  | err z as S' =>
    rw [hr] at q
    cases as with
    | cons _ _ => exact (show False from q).elim
    | nil =>
      have q : PostS (cfX X cls) W S.length g H (if z ∈ pp.2.1 then .ok (env, .ret (.d (.list (ds.map fun d => .bool (decide (z ∈ d)))))) S' else .err z [] S') D := q
      rintro g' H' σ' u d ex' rep' ⟨hu, _, rfl⟩
      obtain ⟨p', E, hp', hfl, rfl⟩ := xn z u hu
      obtain ⟨E', ke⟩ := xa z p' hp'
      have hu : cls z = some (.ref E) := hu
      have hE : E' = E := by
        have := ke.nr hfl
        rw [hu] at this
        cases this
        rfl
      subst hE
      refine ⟨decide (z ∈ pp.2.1), (kt.rel z p' E' hp' hu).1, fun hb a na => ?_, fun hb => ?_⟩
      · rw [decide_eq_true_eq] at hb
        rw [if_pos hb] at q
        refine ⟨E', ds.map fun d => decide (z ∈ d), rfl, rfl, ke.ec hfl, asked_of (fun k y d h1 h2 => ?_) hlen, by rw [List.length_map, ← hlen]; exact hsz, ?_, fun p hp => ?_⟩
        · obtain ⟨c', p2, h3, rfl, rfl⟩ := hds k y d h1 h2
          obtain ⟨C2, k2⟩ := xa c' p2 h3
          exact ⟨C2, k2.mg, (k2.rel z p' E' hp' hu).2⟩
        · exact ⟨_, rfl⟩
        · have q : ∀ g' H' v, Ext S.length S.length g H S'.length g' H' → Rep X.K g' S' H' → RV X.K g' S'.length v (.d (.list (ds.map fun d => .bool (decide (z ∈ d))))) → D.rt v H' := q
          have hn : H' p = none := hp
          refine q (g'.laid p (.lst ((ds.map fun d => decide (z ∈ d)).map V.bl))) _ (.ref p) (ex'.trans (Ext.laid (n0 := S'.length) hn rep' (Nat.le_refl _)) ex'.le) (rep'.laid hn) (.d (.lst (.of laid_at) ?_))
          have e : ds.map (fun d => PyData.bool (decide (z ∈ d))) = (ds.map fun d => decide (z ∈ d)).map .bool := by rw [List.map_map]; rfl
          rw [e]
          exact dp_bools (X := X) _
      · rw [decide_eq_false_iff_not] at hb
        rw [if_neg hb] at q
        exact q g' H' σ' _ none ex' rep' ⟨hu, rfl, rfl⟩
end
end PW

set_option maxHeartbeats 1000000
namespace PW
open PySem PySem.Spec PyProof.Rows L2
/-! PW5d: the statements' checker, and that it is right -/
/-- name = [..] on one line -/
def swT (sc : Scope) (tgt e : Expr) : Bool := match tgt with
  | .Name y py => (match e with
    | .ListComp _ _ scope pos => decide (sc.kind = .function) && decide (sc.names.lookup y = some .local) && (py.line == pos.line) && !(scope.names.any fun (n, k) => n == y && (k == .local || k == .cell))
    | _ => false)
  | _ => false
def swC (sc : Scope) (tgt : Expr) : Bool := match tgt with
  | .Name y _ => decide (sc.names.lookup y = some .cell)
  | _ => false
def isName : Expr → Bool
  | .Name _ _ => true
  | _ => false
def nameOf : Expr → Str
  | .Name x _ => x
  | _ => ""
def lineOf : Expr → Nat
  | .Name _ p => p.line
  | _ => 0
def locN (sc : Scope) (N : List Str) (i : Nat) (e : Expr) : Bool := isName e && decide (N[i]? = some (nameOf e)) && decide (sc.names.lookup (nameOf e) = some .local)
theorem locN_of {sc : Scope} {N : List Str} {i : Nat} {e : Expr} (h : locN sc N i e = true) : ∃ x p, e = .Name x p ∧ N[i]? = some x ∧ sc.names.lookup x = some .local := by
  unfold locN at h
  simp only [Bool.and_eq_true, decide_eq_true_eq] at h
  obtain ⟨⟨h1, h2⟩, h3⟩ := h
  cases e <;> first | (cases h1; done) | exact ⟨_, _, rfl, h2, h3⟩
/-- a, b = x, y and a, b, c = x, y, z -/
def parT (sc : Scope) (N : List Str) (tg : Tg) (tgt e : Expr) : Bool := match tgt with
  | .Tuple ts _ _ => (match e with
    | .Tuple vs _ _ => (match tg with
      | .tup [i, j] => (match ts, vs with
        | [t1, t2], [a, b] => decide (sc.kind = .function) && locN sc N i t1 && locN sc N j t2 && decide (lineOf t2 = lineOf t1) && decide (nameOf t1 ≠ nameOf t2) && decide (i ≠ j) && ([a, b].all fun v => !isStar v) && !folded2 [a, b]
        | _, _ => false)
      | .tup [i, j, l] => (match ts, vs with
        | [t1, t2, t3], [a, b, c] => decide (sc.kind = .function) && locN sc N i t1 && locN sc N j t2 && locN sc N l t3 && decide (lineOf t2 = lineOf t1) && decide (lineOf t3 = lineOf t1) && decide (nameOf t1 ≠ nameOf t2) && decide (nameOf t1 ≠ nameOf t3) && decide (nameOf t2 ≠ nameOf t3) && decide (i ≠ j) && decide (i ≠ l) && decide (j ≠ l) && ([a, b, c].all fun v => !isStar v) && !folded2 [a, b, c]
        | _, _ => false)
      | _ => false)
    | _ => false)
  | _ => false
def augO : Bop → Bool
  | .add => true
  | .sub => true
  | .mul => true
  | .fdiv => true
  | _ => false
/-- x is the class of errors of the number c, without an own __init__ -/
def excHas (T : Info) (c : Nat) (x : Str) : Bool := match T.exs[c]? with
  | some p => decide (x = p.1) && p.2.2
  | none => false
def excSup (T : Info) (x : Str) (ds : List Nat) : Bool := T.exs.any fun q => decide (x = q.1) && decide (ds = q.2.1)
theorem excSup_of {T : Info} {x : Str} {ds : List Nat} (h : excSup T x ds = true) : ∃ (c : Nat) (q : Str × List Nat × Bool), T.exs[c]? = some q ∧ x = q.1 ∧ ds = q.2.1 := by
  obtain ⟨q, hq, h⟩ := List.any_eq_true.mp h
  simp only [Bool.and_eq_true, decide_eq_true_eq] at h
  obtain ⟨c, hc⟩ := List.mem_iff_getElem?.mp hq
  exact ⟨c, q, hc, h.1, h.2⟩
def asksOk (T : Info) (sc : Scope) (n : Str) (es : List Expr) (ds : List (List Nat)) : Bool := match asks n es with
  | some xs => decide (xs.length = ds.length) && decide (xs.length ≤ 1000) && (xs.all fun y => gl sc y && okName y) && (xs.zip ds).all fun p => excSup T p.1 p.2
  | none => false
mutual
def chkS (T : Info) : CS → Scope → List Str → Stmt → Bool
  | .asg tg e, sc, N, s => (match s with
    | .Assign [tgt] e' _ => chk T e false sc N e' && ((isComp e' && swT sc tgt e' && (match tg with
        | .slot i => locN sc N i tgt
        | _ => false)) || (!isComp e' && ((chkTg sc N true tg tgt && stF tgt e') || parT sc N tg tgt e')) || (swC sc tgt && chkTg sc N true tg tgt))
    | _ => false)
  | .set o i e, sc, N, s => (match s with
    | .Assign [.Subscript o' i' _] e' _ => chk T e false sc N e' && chk T o false sc N o' && chk T i false sc N i' && !isSlice i'
    | _ => false)
  | .aug i o e, sc, N, s => (match s with
    | .AugAssign tgt op e' _ => augO o && decide (op = o.op) && locN sc N i tgt && chk T e false sc N e'
    | _ => false)
  | .expr e, sc, N, s => (match s with
    | .Expr e' _ => chk T e false sc N e' && !isComp e'
    | _ => false)
  | .ite c a b, sc, N, s => (match s with
    | .If c' a' b' _ => chk T c true sc N c' && chkSs T a sc N a' && chkSs T b sc N b'
    | _ => false)
  | .for_ tg k src body, sc, N, s => (match s with
    | .For tgt iter body' [] _ => (match iterOf k sc iter with
        | some es => chks T src sc N es
        | none => false) && !isSetE iter && chkTg sc N true tg tgt && chkSs T body sc N body'
    | _ => false)
  | .while_ c body, sc, N, s => (match s with
    | .While c' body' [] _ => chk T c true sc N c' && chkSs T body sc N body'
    | _ => false)
  | .ret e, sc, N, s => (match s with
    | .Return (some e') _ => chk T e false sc N e'
    | _ => false)
  | .retN, _, _, s => (match s with
    | .Return none _ => true
    | _ => false)
  | .brk, _, _, s => (match s with
    | .Break _ => true
    | _ => false)
  | .cont, _, _, s => (match s with
    | .Continue _ => true
    | _ => false)
  | .pass, _, _, s => (match s with
    | .Pass _ => true
    | _ => false)
  | .kill _, _, _, _ => false
  | .setf jc o f e, sc, N, s => (match s with
    | .Assign [.Attribute o' f' _] e' _ => decide (f' = f) && chk T e false sc N e' && chk T o false sc N o' && !isComp e' && clsHas T jc f
    | _ => false)
  | .raise_ c, sc, _, s => (match s with
    | .Raise (some (.Call (.Name x _) [.Constant (.str _) _ _] [] _)) none _ => excHas T c x && gl sc x && okName x
    | _ => false)
  | .tryI body c i ds, sc, N, s => (match s with
    | .Try body' [.ExceptHandler (some (.Name x _)) (some n) [.Return (some (.List es _)) _] _] [] [] _ => chkSs T body sc N body' && decide (N[i]? = some n) && decide (sc.names.lookup n = some .local) && okName n && excSup T x c && gl sc x && okName x && gl sc (Str.ofString "isinstance") && asksOk T sc n es ds
    | _ => false)
  | .stuckS, _, _, _ => true
def chkSs (T : Info) : List CS → Scope → List Str → List Stmt → Bool
  | [], _, _, ss => ss.isEmpty
  | c :: cs, sc, N, ss => (match c with
    | .kill _ => chkSs T cs sc N ss
    | _ => (match ss with
      | s :: r => chkS T c sc N s && chkSs T cs sc N r
      | [] => false))
end
/-- what is known in a def's body -/
structure CtxS (X : Cx) (cls : Nat → Option Value) (W : WX) (T : Info) (Φ : Fns) : Prop where
  c : Ctx X cls W T Φ
  own : PassesOwn (model X.prog X.w) X.A X.env X.xe
  fns : ∀ x, X.fn x = true
  stk : X.stack = X.env :: X.outer
  frm : X.env.frame = some X.env.locals
section
variable {cls : Nat → Option Value} {T : Info} {Φ : Fns} {F : Nat}
def Qc (cls : Nat → Option Value) (T : Info) (Φ : Fns) (F : Nat) (c : CS) : Prop := ∀ {X : Cx} {W : WX} (_ : CtxS X cls W T Φ) {st : Stmt}, chkS T c X.env.scope X.N st = true → SS X cls W st (fun env S => ex Φ F c env S)
def Qs (cls : Nat → Option Value) (T : Info) (Φ : Fns) (F : Nat) (cs : List CS) : Prop := ∀ {X : Cx} {W : WX} (_ : CtxS X cls W T Φ) {st : List Stmt}, chkSs T cs X.env.scope X.N st = true → SSs X cls W st (fun env S => exs Φ F cs env S)
theorem comp_only {c : CE} {elt : Expr} {gs : List Comprehension} {scope : Scope} {pos : Pos} {sc : Scope} {N : List Str} (h : chk T c false sc N (.ListComp elt gs scope pos) = true) : ∃ al own tg k src cnd elt, c = .comp al own tg k src cnd elt := by
  cases c with
  | comp al own tg k src cnd elt => exact ⟨_, _, _, _, _, _, _, rfl⟩
  | fr al o es => cases o <;> cases h
  | _ => cases h
theorem q_asg (tg : Tg) (e : CE) : Qc cls T Φ F (.asg tg e) := fun {X W} C {st} h => by
  have h : (match (generalizing := false) st with
    | .Assign [tgt] e' _ => chk T e false X.env.scope X.N e' && ((isComp e' && swT X.env.scope tgt e' && (match (generalizing := false) tg with
        | .slot i => locN X.env.scope X.N i tgt
        | _ => false)) || (!isComp e' && ((chkTg X.env.scope X.N true tg tgt && stF tgt e') || parT X.env.scope X.N tg tgt e')) || (swC X.env.scope tgt && chkTg X.env.scope X.N true tg tgt))
    | _ => false) = true := h
  split at h
  · rename_i tgt e' pos _
    rw [Bool.and_eq_true, Bool.or_eq_true] at h
    obtain ⟨h1, h2⟩ := h
    rcases h2 with h2 | h2
    case inr =>
      rw [Bool.and_eq_true] at h2
      have se : SE X cls W e' (fun env S => ev Φ e false env S) := sound e C.c (t := false) rfl rfl h1
      cases tgt with
      | Name y py =>
        have hc : X.env.scope.names.lookup y = some .cell := of_decide_eq_true h2.1
        exact ss_asg se (pg_ok C.c.calm C.c.nd rfl rfl (fun _ => C.fns) h2.2) (sw_cell hc) (stF_none rfl) rfl
      | _ => cases h2.1
    rw [Bool.or_eq_true] at h2
    have se : SE X cls W e' (fun env S => ev Φ e false env S) := sound e C.c (t := false) rfl rfl h1
    rcases h2 with h2 | h2
    · rw [Bool.and_eq_true, Bool.and_eq_true] at h2
      obtain ⟨⟨h3, h4⟩, h5⟩ := h2
      split at h5
      · rename_i i
        obtain ⟨y, py, rfl, hi, hl⟩ := locN_of h5
        unfold swT at h4
        dsimp only at h4
        split at h4
        · rename_i elt gs scope pos'
          simp only [Bool.and_eq_true, decide_eq_true_eq, Bool.not_eq_true'] at h4
          obtain ⟨⟨⟨h6, h7⟩, h8⟩, h9⟩ := h4
          obtain ⟨al, own, tg0, k, src, cnd, elt0, rfl⟩ := comp_only h1
          obtain ⟨elt', tg', iter, ifs, scope', pos'', own', he, hok, hg, hel, hfs, _, hmain⟩ := comp_all (soundl src) (soundl cnd) (sound elt0) C.c (W := W) h1
          cases he
          refine ⟨fun pins s σ H D I ⟨env, S, hq⟩ => ?_⟩
          obtain ⟨wi, tt, hpi, hpt, hm⟩ := hmain env S
          refine (PS.imp (ps_setLc C.c.calm C.c.nd hi hl (sw_true h6 h7 h8 h9) hpi hok hg hpt hel hfs) ?_ : PS X _ (fun D σ H => ∃ g, Rep X.K g S H ∧ EnvR X.K g S.length env σ ∧ PostS (cfX X cls) W S.length g H (putM (.slot i) (ev Φ (.comp al own tg0 k src cnd elt0) false env S) env) D)).run pins s σ H D I hq
          clear hq I
          rintro D σ H ⟨g, rep, er, q⟩
          refine hm σ H (fun x H1 => D.nx (σ.set i (some x)) H1) ⟨g, rep, er, ?_⟩
          exact PostS.bind q fun x S1 g1 H1 v _ ex rep1 rv q1 => q1 g1 H1 _ (Ext.refl (Nat.le_refl _)) rep1 ((er.up ex.up).set rv)
        · cases h4
      · cases h5
    · rw [Bool.and_eq_true, Bool.not_eq_true', Bool.or_eq_true] at h2
      obtain ⟨h3, h4⟩ := h2
      rcases h4 with h4 | h4
      · rw [Bool.and_eq_true] at h4
        refine ss_asg se (pg_ok C.c.calm C.c.nd rfl rfl (fun _ => C.fns) h4.1) (sw_sole h3) (stF_none h4.2) ?_
        have h5 := h4.1
        cases tgt with
        | Name x p => rfl
        | Tuple es k p => rfl
        | _ => cases tg <;> cases h5
      · unfold parT at h4
        split at h4
        · rename_i ts kt pt
          split at h4
          · rename_i vs k2 pt2
            -- the core is a tuple
            obtain ⟨es, rfl⟩ : ∃ es, e = .tup es := by
              cases e with
              | tup es => exact ⟨es, rfl⟩
              | fr al o es => cases o <;> cases h1
              | _ => cases h1
            have hes : chks T es X.env.scope X.N vs = true := h1
            have sa := (soundl es).all C.c (W := W) rfl rfl hes
            split at h4
            · rename_i i j
              split at h4
              · rename_i t1 t2 a b
                simp only [Bool.and_eq_true, decide_eq_true_eq, Bool.not_eq_true'] at h4
                obtain ⟨⟨⟨⟨⟨⟨⟨g1, g2⟩, g3⟩, g4⟩, g5⟩, g6⟩, g7⟩, g8⟩ := h4
                obtain ⟨x, px, rfl, hx, lx⟩ := locN_of g2
                obtain ⟨y, py, rfl, hy, ly⟩ := locN_of g3
                exact ss_par C.c.calm C.c.nd hx hy g6 lx ly sa (sw_two g1 lx ly g4 g5 g7 g8)
              · cases h4
            · rename_i i j l
              split at h4
              · rename_i t1 t2 t3 a b c
                simp only [Bool.and_eq_true, decide_eq_true_eq, Bool.not_eq_true'] at h4
                obtain ⟨⟨⟨⟨⟨⟨⟨⟨⟨⟨⟨⟨⟨g1, g2⟩, g3⟩, g4⟩, g5⟩, g6⟩, g7⟩, g8⟩, g9⟩, g10⟩, g11⟩, g12⟩, g13⟩, g14⟩ := h4
                obtain ⟨x, px, rfl, hx, lx⟩ := locN_of g2
                obtain ⟨y, py, rfl, hy, ly⟩ := locN_of g3
                obtain ⟨z, pz, rfl, hz, lz⟩ := locN_of g4
                exact ss_par3 C.c.calm C.c.nd hx hy hz g10 g11 g12 lx ly lz sa (sw_three g1 lx ly lz g5 g6 g7 g8 g9 g13 g14)
              · cases h4
            · cases h4
          · cases h4
        · cases h4
  · cases h
theorem q_set (o i e : CE) : Qc cls T Φ F (.set o i e) := fun {X W} C {st} h => by
  have h : (match (generalizing := false) st with
    | .Assign [.Subscript o' i' _] e' _ => chk T e false X.env.scope X.N e' && chk T o false X.env.scope X.N o' && chk T i false X.env.scope X.N i' && !isSlice i'
    | _ => false) = true := h
  split at h
  · simp only [Bool.and_eq_true, Bool.not_eq_true'] at h
    obtain ⟨⟨⟨h1, h2⟩, h3⟩, h4⟩ := h
    exact ss_set (sound e C.c (t := false) rfl rfl h1) (sound o C.c (t := false) rfl rfl h2) (sound i C.c (t := false) rfl rfl h3) h4 sw_sub (stF_none rfl)
  · cases h
theorem q_aug (i : Nat) (o : Bop) (e : CE) : Qc cls T Φ F (.aug i o e) := fun {X W} C {st} h => by
  have h : (match (generalizing := false) st with
    | .AugAssign tgt op e' _ => augO o && decide (op = o.op) && locN X.env.scope X.N i tgt && chk T e false X.env.scope X.N e'
    | _ => false) = true := h
  split at h
  · simp only [Bool.and_eq_true, decide_eq_true_eq] at h
    obtain ⟨⟨⟨h1, rfl⟩, h3⟩, h4⟩ := h
    obtain ⟨x, px, rfl, hx, lx⟩ := locN_of h3
    exact ss_aug (by cases o <;> first | exact .inl rfl | exact .inr (.inl rfl) | exact .inr (.inr (.inl rfl)) | exact .inr (.inr (.inr rfl)) | cases h1) C.c.nd hx (.inl lx) (.inr lx) (sound e C.c (t := false) rfl rfl h4)
  · cases h
theorem q_expr (e : CE) : Qc cls T Φ F (.expr e) := fun {X W} C {st} h => by
  have h : (match (generalizing := false) st with
    | .Expr e' _ => chk T e false X.env.scope X.N e' && !isComp e'
    | _ => false) = true := h
  split at h
  · simp only [Bool.and_eq_true, Bool.not_eq_true'] at h
    exact ss_expr (sound e C.c (t := false) rfl rfl h.1) (sw_name (y := "") (py := default) h.2 none)
  · cases h
theorem q_ite (c : CE) (a b : List CS) (ha : Qs cls T Φ F a) (hb : Qs cls T Φ F b) : Qc cls T Φ F (.ite c a b) := fun {X W} C {st} h => by
  have h : (match (generalizing := false) st with
    | .If c' a' b' _ => chk T c true X.env.scope X.N c' && chkSs T a X.env.scope X.N a' && chkSs T b X.env.scope X.N b'
    | _ => false) = true := h
  split at h
  · simp only [Bool.and_eq_true] at h
    exact ss_if (sound c C.c (t := true) rfl rfl h.1.1) (ha C h.1.2) (hb C h.2)
  · cases h
theorem q_for (tg : Tg) (k : Ik) (src : List CE) (body : List CS) (hb : Qs cls T Φ F body) : Qc cls T Φ F (.for_ tg k src body) := fun {X W} C {st} h => by
  have h : (match (generalizing := false) st with
    | .For tgt iter body' [] _ => (match (generalizing := false) iterOf k X.env.scope iter with
        | some es => chks T src X.env.scope X.N es
        | none => false) && !isSetE iter && chkTg X.env.scope X.N true tg tgt && chkSs T body X.env.scope X.N body'
    | _ => false) = true := h
  split at h
  · simp only [Bool.and_eq_true, Bool.not_eq_true'] at h
    obtain ⟨⟨⟨h1, h2⟩, h3⟩, h4⟩ := h
    have e0 : (fun env S => ex Φ F (.for_ tg k src body) env S) = fun env S => (walkM k (fun env S => evs Φ src env S) env S).bind fun w S1 => forLoop w (bodyM tg fun env S => exs Φ F body env S) w.items env S1 := by
      funext env S
      show ((evs Φ src env S).bind fun vs S1 => match walkOf S1 k vs with
        | some w => forLoop w (bodyM tg fun env S => exs Φ F body env S) w.items env S1
        | none => .stuck) = ((evs Φ src env S).bind fun vs S1 => match walkOf S1 k vs with
        | some w => Res.ok w S1
        | none => .stuck).bind fun w S1 => forLoop w (bodyM tg fun env S => exs Φ F body env S) w.items env S1
      cases evs Φ src env S with
      | ok vs S1 =>
        dsimp only [Res.bind]
        cases walkOf S1 k vs with
        | some w => rfl
        | none => rfl
      | err c as S' => rfl
      | stuck => rfl
    rw [e0]
    exact ss_for C.own C.c.calm (si_all C.c (soundl src) h1) walkM_same (pg_ok C.c.calm C.c.nd rfl rfl (fun _ => C.fns) h3) (hb C h4) (not_set_iter h2)
  · cases h
theorem q_while (c : CE) (body : List CS) (hb : Qs cls T Φ F body) : Qc cls T Φ F (.while_ c body) := fun {X W} C {st} h => by
  have h : (match (generalizing := false) st with
    | .While c' body' [] _ => chk T c true X.env.scope X.N c' && chkSs T body X.env.scope X.N body'
    | _ => false) = true := h
  split at h
  · simp only [Bool.and_eq_true] at h
    exact ss_while C.own (sound c C.c (t := true) rfl rfl h.1) (hb C h.2) F
  · cases h
theorem q_ret (e : CE) : Qc cls T Φ F (.ret e) := fun {X W} C {st} h => by
  have h : (match (generalizing := false) st with
    | .Return (some e') _ => chk T e false X.env.scope X.N e'
    | _ => false) = true := h
  split at h
  · exact ss_ret (sound e C.c (t := false) rfl rfl h)
  · cases h
theorem q_retN : Qc cls T Φ F .retN := fun {X W} C {st} h => by
  have h : (match (generalizing := false) st with
    | .Return none _ => true
    | _ => false) = true := h
  split at h
  · exact ss_retN
  · cases h
theorem q_brk : Qc cls T Φ F .brk := fun {X W} C {st} h => by
  have h : (match (generalizing := false) st with
    | .Break _ => true
    | _ => false) = true := h
  split at h
  · exact ss_brk
  · cases h
theorem q_cont : Qc cls T Φ F .cont := fun {X W} C {st} h => by
  have h : (match (generalizing := false) st with
    | .Continue _ => true
    | _ => false) = true := h
  split at h
  · exact ss_cont
  · cases h
theorem q_pass : Qc cls T Φ F .pass := fun {X W} C {st} h => by
  have h : (match (generalizing := false) st with
    | .Pass _ => true
    | _ => false) = true := h
  split at h
  · exact ss_pass
  · cases h
theorem q_setf (jc : Nat) (o : CE) (f : Str) (e : CE) : Qc cls T Φ F (.setf jc o f e) := fun {X W} C {st} h => by
  have h : (match (generalizing := false) st with
    | .Assign [.Attribute o' f' _] e' _ => decide (f' = f) && chk T e false X.env.scope X.N e' && chk T o false X.env.scope X.N o' && !isComp e' && clsHas T jc f
    | _ => false) = true := h
  split at h
  · simp only [Bool.and_eq_true, decide_eq_true_eq, Bool.not_eq_true'] at h
    obtain ⟨⟨⟨⟨rfl, h2⟩, h3⟩, h4⟩, h5⟩ := h
    unfold clsHas at h5
    split at h5
    · rename_i p hp
      simp only [Bool.and_eq_true, decide_eq_true_eq] at h5
      obtain ⟨h6, h7⟩ := h5
      obtain ⟨i, rfl⟩ : ∃ i, jc = T.fns.length + i := ⟨jc - T.fns.length, by omega⟩
      rw [Nat.add_sub_cancel_left] at hp
      obtain ⟨D, k⟩ := C.c.ca _ p hp
      exact ss_setf k h7 (sound e C.c (t := false) rfl rfl h2) (sound o C.c (t := false) rfl rfl h3) h4
    · cases h5
  · cases h
theorem q_raise (c : Nat) : Qc cls T Φ F (.raise_ c) := fun {X W} C {st} h => by
  have h : (match (generalizing := false) st with
    | .Raise (some (.Call (.Name x _) [.Constant (.str _) _ _] [] _)) none _ => excHas T c x && gl X.env.scope x && okName x
    | _ => false) = true := h
  split at h
  · simp only [Bool.and_eq_true] at h
    obtain ⟨⟨h1, h2⟩, h3⟩ := h
    unfold excHas at h1
    split at h1
    · rename_i p hp
      simp only [Bool.and_eq_true, decide_eq_true_eq] at h1
      obtain ⟨D, k⟩ := C.c.xa _ p hp
      exact ss_raise C.c.calm C.c.tk k h1.2 h1.1 h2 h3
    · cases h1
  · cases h
theorem q_tryI (body : List CS) (c : List Nat) (i : Nat) (ds : List (List Nat)) (hb : Qs cls T Φ F body) : Qc cls T Φ F (.tryI body c i ds) := fun {X W} C {st} h => by
  have h : (match (generalizing := false) st with
    | .Try body' [.ExceptHandler (some (.Name x _)) (some n) [.Return (some (.List es _)) _] _] [] [] _ => chkSs T body X.env.scope X.N body' && decide (X.N[i]? = some n) && decide (X.env.scope.names.lookup n = some .local) && okName n && excSup T x c && gl X.env.scope x && okName x && gl X.env.scope (Str.ofString "isinstance") && asksOk T X.env.scope n es ds
    | _ => false) = true := h
  split at h
  · simp only [Bool.and_eq_true, decide_eq_true_eq] at h
    obtain ⟨⟨⟨⟨⟨⟨⟨⟨h1, h2⟩, h3⟩, h4⟩, h5⟩, h6⟩, h7⟩, h8⟩, h9⟩ := h
    obtain ⟨ct, q, hq, hx, rfl⟩ := excSup_of h5
    obtain ⟨D, kt⟩ := C.c.xa ct q hq
    unfold asksOk at h9
    split at h9
    · rename_i xs hxs
      simp only [Bool.and_eq_true, decide_eq_true_eq, List.all_eq_true] at h9
      obtain ⟨⟨⟨g1, g2⟩, g3⟩, g4⟩ := h9
      refine ss_tryI C.stk C.frm C.c.nd h2 h3 h4 C.c.tk kt hx h6 h7 h8 (C.c.bl (Str.ofString "isinstance") (.builtin "isinstance") (by decide +kernel) (by decide +kernel)) C.c.xn C.c.xa hxs g3 g1 g2 (fun k y d e1 e2 => ?_) (fun W' pn xe t p => ?_)
      · refine excSup_of (g4 (y, d) (List.mem_iff_getElem?.mpr ⟨k, ?_⟩))
        rw [List.getElem?_zip_eq_some]
        exact ⟨e1, e2⟩
      · refine hb (X := X.tr pn xe) (W := W') ⟨⟨C.c.calm, C.c.nd, C.c.un, C.c.bl, C.c.gb, C.c.fn, t, C.c.fnK, C.c.fnD, fun c p h => ?_, fun c p h => ?_, C.c.xn⟩, p, C.fns, C.stk, C.frm⟩ h1
        · obtain ⟨c0, a1, a2, a3, a4, ⟨fa, a5, a6⟩, a7⟩ := C.c.ca c p h
          exact ⟨c0, a1, a2, a3, a4, ⟨fa, a5, a6⟩, a7⟩
        · obtain ⟨c0, a1, a2, a3, a4, a5, a6, a7⟩ := C.c.xa c p h
          exact ⟨c0, a1, a2, a3, a4, a5, a6, a7⟩
    · cases h9
  · cases h
theorem q_kill (is : List Nat) : Qc cls T Φ F (.kill is) := fun {X W} C {st} h => by cases h
theorem q_stuck : Qc cls T Φ F .stuckS := fun {X W} C {st} h => ⟨fun pins s σ H D I ⟨_, _, _, _, _, z⟩ => False.elim z⟩
theorem qs_nil : Qs cls T Φ F [] := fun {X W} C {st} h => by
  cases st with
  | nil => exact sss_nil
  | cons _ _ => cases h
def isKill : CS → Bool
  | .kill _ => true
  | _ => false
theorem qs_cons (c : CS) (cs : List CS) (h1 : Qc cls T Φ F c) (h2 : Qs cls T Φ F cs) : Qs cls T Φ F (c :: cs) := fun {X W} C {st} h => by
  have plain : isKill c = false → (match (generalizing := false) st with
      | s :: r => chkS T c X.env.scope X.N s && chkSs T cs X.env.scope X.N r
      | [] => false) = true → SSs X cls W st (fun env S => exs Φ F (c :: cs) env S) := fun _ h => by
    cases st with
    | nil => cases h
    | cons s r =>
      have h : (chkS T c X.env.scope X.N s && chkSs T cs X.env.scope X.N r) = true := h
      rw [Bool.and_eq_true] at h
      exact sss_cons (h1 C h.1) (h2 C h.2)
  cases c with
  | kill is => exact sss_kill is (h2 C h)
  | _ => exact plain rfl h
end
mutual
theorem soundS {cls : Nat → Option Value} {T : Info} {Φ : Fns} {F : Nat} : ∀ c : CS, Qc cls T Φ F c
  | .asg tg e => q_asg tg e
  | .set o i e => q_set o i e
  | .aug i o e => q_aug i o e
  | .expr e => q_expr e
  | .ite c a b => q_ite c a b (soundSs a) (soundSs b)
  | .for_ tg k src body => q_for tg k src body (soundSs body)
  | .while_ c body => q_while c body (soundSs body)
  | .ret e => q_ret e
  | .retN => q_retN
  | .brk => q_brk
  | .cont => q_cont
  | .pass => q_pass
  | .kill is => q_kill is
  | .setf jc o f e => q_setf jc o f e
  | .raise_ c => q_raise c
  | .tryI body c i ds => q_tryI body c i ds (soundSs body)
  | .stuckS => q_stuck
theorem soundSs {cls : Nat → Option Value} {T : Info} {Φ : Fns} {F : Nat} : ∀ cs : List CS, Qs cls T Φ F cs
  | [] => qs_nil
  | c :: cs => qs_cons c cs (soundS c) (soundSs cs)
end
end PW

set_option maxHeartbeats 1000000
namespace PW
open PySem PySem.Spec PyProof.Rows L2
/-! PW6: defs, and the law -/
structure DefT where
  x : Str
  st : Stmt
  N : List Str
  ps : List Str
  body : List CS
  ds : List PyData
  /-- a method: the qualified name -/
  meth : Option Str
def DefT.q (d : DefT) : Str := d.meth.getD d.x
abbrev ClsT := Str × List Str × Nat × List (Str × Nat)
abbrev ErrT := Str × List Nat × Bool
def DefT.fd (d : DefT) : FD := ⟨d.N.length, d.ps.length, d.body⟩
abbrev bltNames : List Str := ["len", "int", "abs", "max", "min", "str", "tuple", "list", "sorted", "all", "any", "sum", "range", "isinstance", "bool", "enumerate", "zip", "set"]
/-- a def as it stands behind the top, with or without defaults -/
structure FunA (K : PySem.W.Frag) (x qual : Str) (st : Stmt) (f : Addr) (fd : FuncData) : Prop where
  ex : ∃ (oc : Value) (od : Option Addr) (dV kV doc pm : Value) (an : Option Addr) (cdv ct : Value) (osl : Array (Option Value)),
    fd = PySem.W.fnOf x qual (defArgs st) (defBody st) (defScope st) dV kV doc pm an cdv ct ∧ K.lookup f = some ⟨oc, od, .func fd, osl⟩ ∧ PySem.W.codeIn K cdv qual = true
  kp : PySem.W.keepIn K (.ref f) = true
theorem _root_.L2.Fun.toA {K : PySem.W.Frag} {x qual : Str} {st : Stmt} {f : Addr} {fd : FuncData} (F : Fun K x qual st f fd) : FunA K x qual st f fd := by
  obtain ⟨⟨oc, od, kV, doc, pm, an, cdv, ct, osl, h1, h2, h3⟩, h4⟩ := F
  exact ⟨⟨oc, od, _, kV, doc, pm, an, cdv, ct, osl, h1, h2, h3⟩, h4⟩
theorem _root_.L2.FunD.toA {K : PySem.W.Frag} {x qual : Str} {st : Stmt} {dvs : List V} {kws : List (Str × V)} {f : Addr} {fd : FuncData} (F : FunD K x qual (defArgs st) (defBody st) (defScope st) dvs kws f fd) : FunA K x qual st f fd := by
  obtain ⟨⟨oc, od, dV, kV, doc, pm, an, cdv, ct, osl, h1, h2, h3, _, _⟩, h4⟩ := F
  exact ⟨⟨oc, od, dV, kV, doc, pm, an, cdv, ct, osl, h1, h2, h3⟩, h4⟩
theorem FunA.okX {P : Program} {w : World} {K : PySem.W.Frag} {mg : Str → Option Value} {base : Heap} {x qual : Str} {st : Stmt} {f : Addr} {fd : FuncData} {N ps : List Str} {k : Nat} {sp : Sp} (F : FunA K x qual st f fd) (S : FnScope N ps (defScope st)) (len : ∀ vs H Q E, sp vs H Q E → vs.length = ps.length)
    (hbody : ∀ (cdv : Value) (A : Around) (outer : List PySem.Env) (s : Shared) (H : Hp) (vs : List V) (Q : VK) (E : XK), Room k (A.deeper (envOfC qual (defScope st) s.heap.objs.size f cdv)) → sp vs H Q E →
      ∃ t, PSs (cxOf (L2.CX P w) P w K mg base N qual (defScope st) f cdv A outer s H E) (defBody st) t ∧ t { nx := fun _ H' => Q .non H', rt := Q } (L2.start N vs) H) : FnOk P w K mg base (L2.CX P w) (k + 1) f fd ps sp := by
  obtain ⟨oc, od, dV, kV, doc, pm, an, cdv, ct, osl, rfl, lk, hcd⟩ := F.ex
  exact fn_of lk hcd S len fun A outer s H vs Q E hr hsp => hbody cdv A outer s H vs Q E hr hsp
/-- the defaults of the defs, by how many values are written -/
def dfsOf : Nat → List DefT → List (Nat × Nat × List PyData)
  | _, [] => []
  | i, d :: r => ((List.range d.ds.length).map fun k => (i, d.ps.length - d.ds.length + k, d.ds.drop k)) ++ dfsOf (i + 1) r
theorem dfs_get : ∀ {ds : List DefT} {i : Nat} {p : Nat × Nat × List PyData}, p ∈ dfsOf i ds → ∃ d k, ds[p.1 - i]? = some d ∧ i ≤ p.1 ∧ k < d.ds.length ∧ p.2.2 = d.ds.drop k
  | [], _, _, h => by cases h
  | d :: r, i, p, h => by
    rcases List.mem_append.mp h with h | h
    · obtain ⟨k, hk, rfl⟩ := List.mem_map.mp h
      exact ⟨d, k, by simp, Nat.le_refl _, List.mem_range.mp hk, rfl⟩
    · obtain ⟨d', k, h1, h2, h3, h4⟩ := dfs_get h
      refine ⟨d', k, ?_, by omega, h3, h4⟩
      rw [show p.1 - i = (p.1 - (i + 1)) + 1 by omega]
      exact h1
/-- a def with its defaults -/
def DefAt (K : PySem.W.Frag) (d : DefT) (fa : Addr) : Prop := ∃ fd, FunA K d.x d.q d.st fa fd ∧ Binds K fd d.ps [] ∧ ∀ k, k < d.ds.length → ∃ dv dvs, Binds K fd d.ps dv ∧ Vals dvs dv ∧ ∀ G, DpAll K G dvs (d.ds.drop k)
/-- what stands behind the top -/
structure Top (K : PySem.W.Frag) (mg : Str → Option Value) (ds : List DefT) (gs : List (Str × PyData)) (cs : List ClsT) (es : List ErrT) (cl : List Addr) (el : List (Option Addr)) : Prop where
  fn : ∀ (j : Nat) (d : DefT), ds[j]? = some d → d.meth = none → ∃ fa, DefAt K d fa ∧ mg d.x = some (.ref fa)
  bl : ∀ x u, bootBuiltins x = some u → x ∈ bltNames → mg x = none
  gb : ∀ x d, (gs.any fun p => decide (p.1 = x) && pdEq p.2 d) = true → ∃ u v, mg x = some u ∧ RelV v u ∧ ∀ G, Dp K G v d
  ca : ∀ (c : Nat) (p : ClsT), cs[c]? = some p → ∃ C, cl[c]? = some C ∧ mg p.1 = some (.ref C) ∧ Cls K C ∧ (∀ f, f ∈ p.2.1 → NoAttr K C f) ∧ (∃ fa d, ds[p.2.2.1]? = some d ∧ Mk K C fa ∧ DefAt K d fa) ∧ ∀ m j, (m, j) ∈ p.2.2.2 → ∃ fa d, ds[j]? = some d ∧ Meth K C m fa ∧ DefAt K d fa
  xa : ∀ (c : Nat) (p : ErrT), es[c]? = some p → ∃ C, mg p.1 = some (.ref C) ∧ (p.2.2 = true → el[c]? = some (some C) ∧ PySem.W.excIn K C [.type "ValueError", .type "Exception", .type "BaseException", .type "object"] "ValueError.__new__" = true ∧ PySem.W.keepIn K (.ref C) = true ∧
    PySem.W.subIn K (.ref C) (.type "BaseException") = some true ∧ PySem.W.typeIn K (.ref C) = some (.type "type") ∧ ExcC K C) ∧
    ∀ (c' : Nat) (C' : Addr), el[c']? = some (some C') → PySem.W.exmOne K (.ref C') (.ref C) = some (decide (c' ∈ p.2.1)) ∧ PySem.W.kitOne K (.ref C') (.ref C) = some (decide (c' ∈ p.2.1))
  xn : ∀ (c : Nat) (C : Addr), el[c]? = some (some C) → ∃ p, es[c]? = some p ∧ p.2.2 = true
  ln : cl.length = cs.length
/-- the classes of errors by their numbers -/
def clsE (el : List (Option Addr)) (c : Nat) : Option Value := match el[c]? with
  | some (some C) => some (.ref C)
  | _ => none
theorem clsE_some {el : List (Option Addr)} {c : Nat} {u : Value} (h : clsE el c = some u) : ∃ C, el[c]? = some (some C) ∧ u = .ref C := by
  unfold clsE at h
  split at h
  · rename_i C e
    cases h
    exact ⟨C, e, rfl⟩
  · cases h
theorem clsE_of {el : List (Option Addr)} {c : Nat} {C : Addr} (h : el[c]? = some (some C)) : clsE el c = some (.ref C) := by
  unfold clsE
  rw [h]
def infoOf (ds : List DefT) (gs : List (Str × PyData)) (cs : List ClsT) (es : List ErrT) : Info := ⟨ds.map fun d => if d.meth = none then some d.x else none, gs, dfsOf 0 ds, cs, es⟩
/-- the text agrees with the core text -/
def scOk (d : DefT) : Bool := decide ((defScope d.st).kind = .function) && !(defScope d.st).isCoroutine && !(defScope d.st).isGenerator && decide d.N.Nodup && decide (d.N.take d.ps.length = d.ps) &&
  (d.ps.all fun x => decide ((defScope d.st).names.lookup x = some .local) || decide ((defScope d.st).names.lookup x = some .cell)) && (defScope d.st).names.all fun y => decide (y.2 ≠ .free)
theorem scOk_of {d : DefT} (h : scOk d = true) : FnScope d.N d.ps (defScope d.st) := by
  unfold scOk at h
  simp only [Bool.and_eq_true, decide_eq_true_eq, Bool.not_eq_true', List.all_eq_true, Bool.or_eq_true] at h
  obtain ⟨⟨⟨⟨⟨⟨h1, h2⟩, h3⟩, h4⟩, h5⟩, h6⟩, h7⟩ := h
  exact ⟨h1, h2, h3, h4, h5, h6, h7⟩
def defOk (T : Info) (d : DefT) : Bool := scOk d && decide (d.ps.length ≤ d.N.length) && chkSs T d.body (defScope d.st) d.N (defBody d.st)
def fdsOf (ds : List DefT) : List FD := ds.map (·.fd)
/-- the defs, and behind them the classes -/
def fdsC (ds : List DefT) (cl : List Addr) : List FD := fdsOf ds ++ cl.map fun (C : Nat) => ⟨0, 0, [.ret (.lit (.int C))]⟩
theorem fdsC_at {ds : List DefT} {cl : List Addr} {j : Nat} {d : DefT} (h : ds[j]? = some d) : (fdsC ds cl)[j]? = some d.fd := by
  unfold fdsC fdsOf
  have hl : j < (ds.map (·.fd)).length := by rw [List.length_map]; exact (List.getElem?_eq_some_iff.mp h).1
  rw [List.getElem?_append_left hl, List.getElem?_map, h]
  rfl
theorem fdsC_cl {ds : List DefT} {cl : List Addr} {c : Nat} {C : Addr} (h : cl[c]? = some C) : (fdsC ds cl)[ds.length + c]? = some ⟨0, 0, [.ret (.lit (.int (C : Nat)))]⟩ := by
  unfold fdsC fdsOf
  rw [List.getElem?_append_right (by rw [List.length_map]; omega), List.length_map, Nat.add_sub_cancel_left, List.getElem?_map, h]
  rfl
theorem post_run {cf : Cfg} {W W' : WX} {n : Nat} {g : Gs} {H : Hp} {r : Res (Env × Fl)} {Q : VK} (hW : ∀ u d σ H, W u d σ H → W' u d σ H) (h : Post cf W (RVc cf) n n g H (r.bind fun p S1 => match p.2 with
    | .ret v => .ok v S1
    | .next => .ok (.d .none) S1
    | _ => .stuck) Q) : PostS cf W' n g H r { nx := fun _ H' => Q .non H', rt := Q } := by
  cases r with
  | ok p S1 =>
    obtain ⟨env', f⟩ := p
    cases f with
    | next => exact fun g' H' _ ex rep _ => h g' H' .non ex rep (.d .non)
    | ret x => exact fun g' H' v ex rep rv => h g' H' v ex rep rv
    | brk => exact False.elim h
    | cont => exact False.elim h
  | err c as S' => exact fun g' H' σ' u d ex rep er => hW _ _ _ _ (h g' H' σ' u d ex rep er)
  | stuck => exact False.elim h
theorem start_rel {K : PySem.W.Frag} {g : Gs} {n : Nat} {N : List Str} {d : FD} {vs : List V} {args : List PV} (r : RVs K g n vs args) (hN : d.names = N.length) : EnvR K g n (start d args) (L2.start N vs) := by
  have hl := r.length
  refine ⟨?_, fun i x e => ?_⟩
  · unfold start L2.start
    simp [hN, hl]
  · unfold start at e
    by_cases hi : i < args.length
    · rw [List.getElem?_append_left (by simpa using hi), List.getElem?_map] at e
      cases ha : args[i]? with
      | none => rw [ha] at e; cases e
      | some a =>
        rw [ha] at e
        cases e
        obtain ⟨v, hv, rv⟩ := r.get ha
        refine ⟨v, ?_, rv⟩
        unfold L2.start
        rw [List.getElem?_append_left (by simpa [hl] using hi), List.getElem?_map, hv]
        rfl
    · rw [List.getElem?_append_right (by simpa using hi), List.getElem?_replicate] at e
      split at e <;> cases e
section
variable {P : Program} {w : World} {K : PySem.W.Frag} {mg : Str → Option Value} {base : Heap} {ds : List DefT} {gs : List (Str × PyData)} {cs : List ClsT} {es : List ErrT} {cl : List Addr} {el : List (Option Addr)}
theorem callN_len {T : List FD} {F : Nat} (k j : Nat) {d : FD} (hd : T[j]? = some d) : ∀ xs S, xs.length ≠ d.params → callN T F k j xs S = .stuck := by
  intro xs S h
  cases k with
  | zero => rfl
  | succ k =>
    show (match T[j]? with
      | some d => run1 (callN T F k) F d xs S
      | none => .stuck) = .stuck
    rw [hd]
    show run1 (callN T F k) F d xs S = .stuck
    unfold run1
    rw [if_neg h]
theorem callN_cl {F k c : Nat} {C : Addr} (h : cl[c]? = some C) {i : Int} {S' : Store} (e : callN (fdsC ds cl) F k (ds.length + c) [] [] = .ok (.d (.int i)) S') : i = (C : Nat) := by
  cases k with
  | zero => cases e
  | succ k =>
    have e0 : callN (fdsC ds cl) F (k + 1) (ds.length + c) [] [] = run1 (callN (fdsC ds cl) F k) F ⟨0, 0, [.ret (.lit (.int (C : Nat)))]⟩ [] [] := by
      show (match (fdsC ds cl)[ds.length + c]? with
        | some d => run1 (callN (fdsC ds cl) F k) F d [] []
        | none => .stuck) = _
      rw [fdsC_cl h]
    rw [e0] at e
    cases e
    rfl
/-- each def keeps to the evaluator -/
theorem fn_ok (top : Top K mg ds gs cs es cl el) (hc : ∀ d ∈ ds, defOk (infoOf ds gs cs es) d = true) (F : Nat) : ∀ (k j : Nat) (d : DefT) (fa : Addr) (fd : FuncData), ds[j]? = some d → FunA K d.x d.q d.st fa fd → FnOk P w K mg base (L2.CX P w) (2 * k) fa fd d.ps (spOf K (clsE el) d.ps.length (callN (fdsC ds cl) F k j))
  | 0, j, d, fa, fd, hd, hF => ⟨fun vs H Q E h => h.1, fun A outer s H args us vs Q E _ _ _ _ h => by
      obtain ⟨_, g, S, as, _, _, z⟩ := h
      exact False.elim z⟩
  | k + 1, j, d, fa, fd, hd, hF => by
    have hdm : d ∈ ds := List.mem_of_getElem? hd
    have hok := hc d hdm
    unfold defOk at hok
    rw [Bool.and_eq_true, Bool.and_eq_true, decide_eq_true_eq] at hok
    obtain ⟨⟨h1, h2⟩, h3⟩ := hok
    refine hF.okX (k := 2 * k + 1) (scOk_of h1) (fun vs H Q E h => h.1) fun cdv A outer s H vs Q E hr2 h => ?_
    have hr := hr2.mono (Nat.le_succ (2 * k))
    have hri := hr2.in1
    obtain ⟨hl, g, S, args, rep, rvs, q⟩ := h
    have hT : (fdsC ds cl)[j]? = some d.fd := fdsC_at hd
    have e0 : callN (fdsC ds cl) F (k + 1) j args S = run1 (callN (fdsC ds cl) F k) F d.fd args S := by
      show (match (fdsC ds cl)[j]? with
        | some d => run1 (callN (fdsC ds cl) F k) F d args S
        | none => .stuck) = _
      rw [hT]
    rw [e0] at q
    unfold run1 at q
    rw [if_pos (show args.length = d.fd.params from rvs.length.symm.trans hl)] at q
    let X : Cx := cxOf (L2.CX P w) P w K mg base d.N d.q (defScope d.st) fa cdv A outer s H E
    have tk : Takes X (fun c u _ H => E c u H) := takes_of rfl rfl rfl rfl
    have dfs : ∀ {f : Nat} {d' : DefT}, ds[f]? = some d' → ∀ {fd' : FuncData}, (∀ k, k < d'.ds.length → ∃ dv dvs, Binds K fd' d'.ps dv ∧ Vals dvs dv ∧ ∀ G, DpAll K G dvs (d'.ds.drop k)) → ∀ p, p ∈ (infoOf ds gs cs es).dfs → p.1 = f → ∃ dv dvs, Binds K fd' d'.ps dv ∧ Vals dvs dv ∧ ∀ G, DpAll K G dvs p.2.2 := by
      intro f d' hd' fd' hD p hp hpf
      subst hpf
      obtain ⟨d'', k', hd'', _, hk', he⟩ := dfs_get hp
      rw [Nat.sub_zero] at hd''
      rw [hd''] at hd'
      cases hd'
      obtain ⟨dv, dvs, hB, hV, hG⟩ := hD k' hk'
      exact ⟨dv, dvs, hB, hV, fun G => by rw [he]; exact hG G⟩
    have name : ∀ {f : Nat} {x : Str}, (infoOf ds gs cs es).fns[f]? = some (some x) → ∃ d', ds[f]? = some d' ∧ d'.meth = none ∧ d'.x = x := by
      intro f x hf
      unfold infoOf at hf
      rw [List.getElem?_map] at hf
      cases hd' : ds[f]? with
      | none => rw [hd'] at hf; cases hf
      | some d' =>
        rw [hd'] at hf
        have hf : (if d'.meth = none then some d'.x else none) = some x := Option.some.inj hf
        by_cases hm : d'.meth = none
        · rw [if_pos hm] at hf
          exact ⟨d', rfl, hm, Option.some.inj hf⟩
        · rw [if_neg hm] at hf; cases hf
    have atj : ∀ {f : Nat} {d' : DefT} {fa' : Addr}, ds[f]? = some d' → DefAt K d' fa' → FnAt X (clsE el) (infoOf ds gs cs es) (callN (fdsC ds cl) F k) f fa' := by
      intro f d' fa' hd' hA
      obtain ⟨fd', hF', hB', hD'⟩ := hA
      exact ⟨2 * k, fd', d'.ps, d'.ps.length, fn_ok top hc F k f d' fa' fd' hd' hF', hr2, callN_len (d := d'.fd) k f (fdsC_at hd'), hB', dfs hd' hD'⟩
    have hnl : (infoOf ds gs cs es).fns.length = ds.length := by unfold infoOf; rw [List.length_map]
    have C : CtxS X (clsE el) (fun c u _ H => E c u H) (infoOf ds gs cs es) (callN (fdsC ds cl) F k) := by
      refine ⟨⟨rfl, (scOk_of h1).nd, ?_, top.bl, top.gb, ?_, tk, ?_, ?_, ?_, ?_, ?_⟩, passes_of rfl, fun _ => rfl, rfl, rfl⟩
      · have := hr.un
        show (A.deeper _).units + 65 < cLine
        omega
      · intro f x hf
        obtain ⟨d', hd', hm, rfl⟩ := name hf
        obtain ⟨fa', ⟨fd', hF', hB', _⟩, hm'⟩ := top.fn f d' hd' hm
        exact ⟨2 * k, fa', fd', d'.ps, d'.ps.length, fn_ok top hc F k f d' fa' fd' hd' hF', hr, hm', hF'.kp, hB', callN_len (d := d'.fd) k f (fdsC_at hd')⟩
      · intro f x hf
        obtain ⟨d', hd', hm, rfl⟩ := name hf
        obtain ⟨fa', ⟨fd', hF', hB', _⟩, hm'⟩ := top.fn f d' hd' hm
        exact ⟨2 * k, fa', fd', d'.ps, d'.ps.length, fn_ok top hc F k f d' fa' fd' hd' hF', hri, hm', hB', callN_len (d := d'.fd) k f (fdsC_at hd')⟩
      · intro f x p hf hp hpf
        obtain ⟨d', hd', hm, rfl⟩ := name hf
        obtain ⟨fa', ⟨fd', hF', _, hD⟩, hm'⟩ := top.fn f d' hd' hm
        obtain ⟨dv, dvs, hB, hV, hG⟩ := dfs hd' hD p hp hpf
        exact ⟨2 * k, fa', fd', d'.ps, d'.ps.length, dv, dvs, fn_ok top hc F k f d' fa' fd' hd' hF', hr, hm', hF'.kp, ⟨hB, hV, hG⟩, callN_len (d := d'.fd) k f (fdsC_at hd')⟩
      · intro c p hp
        obtain ⟨C, h1, h2, h3, h4, ⟨fa', d', h5, h6, h7⟩, h8⟩ := top.ca c p hp
        refine ⟨C, h2, h3, h4, fun i S' e => ?_, ⟨fa', h6, atj h5 h7⟩, fun m j hm => ?_⟩
        · rw [hnl] at e
          exact callN_cl h1 e
        · obtain ⟨fa', d', h5, h6, h7⟩ := h8 m j hm
          exact ⟨fa', h6, atj h5 h7⟩
      · intro c p hp
        obtain ⟨C, h1, h2, h3⟩ := top.xa c p hp
        refine ⟨C, h1, fun hf => clsE_of (h2 hf).1, fun hf => (h2 hf).2.1, fun hf => (h2 hf).2.2.1, fun hf => raises_own (h2 hf).2.2.2.1 (h2 hf).2.2.2.2.1, fun hf => (h2 hf).2.2.2.2.2, fun c' p' C' _ hc' => ?_⟩
        obtain ⟨C'', e1, e2⟩ := clsE_some hc'
        cases e2
        exact h3 c' _ e1
      · intro c u hu
        obtain ⟨C, e1, rfl⟩ := clsE_some hu
        obtain ⟨p, hp, hf⟩ := top.xn c C e1
        exact ⟨p, C, hp, hf, rfl⟩
    have := soundSs (F := F) d.body C h3
    refine ⟨_, this, start d.fd args, S, g, rep, start_rel rvs rfl, ?_⟩
    exact post_run (fun _ _ _ _ h => h) q
/-- the law's promise -/
def spLaw (K : PySem.W.Frag) (ds : List DefT) (m k j : Nat) : Sp := fun vs H Q E => ∀ cl cls, cl.length = m → ∃ F, spOf K cls 1 (callN (fdsC ds cl) F k j) vs H Q E
theorem law_ok (top : Top K mg ds gs cs es cl el) (hc : ∀ d ∈ ds, defOk (infoOf ds gs cs es) d = true) (k j : Nat) (d : DefT) (fa : Addr) (fd : FuncData) (hd : ds[j]? = some d) (hp : d.ps.length = 1) (hF : FunA K d.x d.q d.st fa fd) : FnOk P w K mg base (L2.CX P w) (2 * k) fa fd d.ps (spLaw K ds cs.length k j) :=
  ⟨fun vs H Q E h => by
    obtain ⟨F, h⟩ := h cl (clsE el) top.ln
    exact h.1.trans hp.symm, fun A outer s H args us vs Q E hr he hb hv h => by
    obtain ⟨F, h⟩ := h cl (clsE el) top.ln
    exact (fn_ok (P := P) (w := w) (base := base) top hc F k j d fa fd hd hF).run A outer s H args us vs Q E hr he hb hv (by rw [hp]; exact h)⟩
theorem dp_ints {H : Hp} : ∀ ns : List Int, DpAll K H (ns.map V.int) (ns.map .int)
  | [] => .nil
  | n :: ns => .cons (.int n) (dp_ints ns)
/-- from a run of the evaluator to the law's promise -/
theorem law_spC {m k j n : Nat} (h : ∀ (cl : List Addr) (ns : List Int), cl.length = m → ns.length ≤ n → ∃ F S, callN (fdsC ds cl) F k j [.d (.list (ns.map .int))] [] = .ok (.d (.bool true)) S) (H : Hp) (a : Addr) (ns : List Int) (hl : ns.length ≤ n) (hS : SqL K H a (ns.map V.int)) :
    spLaw K ds m k j [.ref a] H (fun v _ => v = .bl true) fun _ _ _ => False := by
  intro cl cls hcl
  obtain ⟨F, S', e⟩ := h cl ns hcl hl
  refine ⟨F, rfl, ⟨H, fun _ => 0⟩, [], [.d (.list (ns.map .int))], ⟨.refl _, fun l o e => by simp at e, fun l m hl => by simp at hl⟩, .cons (.d (.lst hS (dp_ints ns))) .nil, ?_⟩
  rw [e]
  intro g' H' v _ _ rv
  exact rv_bool rv
/-- a table with more behind: the same answers -/
theorem callN_more {T U : List FD} {F : Nat} : True := trivial
end
theorem kit_ref {K : PySem.W.Frag} {t : Value} {C : Addr} {b : Bool} (hd : PySem.W.hasDictIn K C = true) (ht : PySem.W.typeIn K (.ref C) = some (.type "type")) (hr : PySem.W.subIn K (.ref C) (.ref C) = some true) (h : PySem.W.subIn K t (.ref C) = some b) : PySem.W.kitOne K t (.ref C) = some b := by
  unfold PySem.W.kitOne
  by_cases q : (t == .ref C) = true
  · rw [if_pos q]
    have e : t = .ref C := beq_iff_eq.mp q
    subst e
    rw [hr] at h
    exact h
  · rw [if_neg q]
    obtain ⟨cd, hc, _⟩ := PySem.W.any_some hd
    show (if ((PySem.W.clsIn K C).isSome && PySem.W.typeIn K (.ref C) == some (.type "type")) = true then PySem.W.subIn K t (.ref C) else none) = some b
    rw [if_pos (by rw [hc, ht] <;> rfl)]
    exact h
theorem no_exc {P : Program} {w : World} {outer : List PySem.Env} {H : Hp} {s s' : Shared} {e : Value} (h : L2.CX P w outer H s (fun _ _ _ => False) e s') : False := by
  obtain ⟨_, _, _, _, _, _, _, _, _, _, _, _, z⟩ := h
  exact z
end PW

set_option maxHeartbeats 1000000
namespace PW
open PySem PySem.Spec PyProof.Rows L2
/-! PW7: runs of the evaluator, step by step -/
theorem callN_at {T : List FD} {F n j : Nat} {d : FD} (h : T[j]? = some d) (args : List PV) (S : Store) : callN T F (n + 1) j args S = run1 (callN T F n) F d args S := by
  show (match T[j]? with
    | some d => run1 (callN T F n) F d args S
    | none => .stuck) = _
  rw [h]
section
variable {α β : Type} {Φ : Fns} {N : Nat} {env : Env} {S : Store} {t : Bool}
@[simp] theorem rb_ok (a : α) (S : Store) (f : α → Store → Res β) : (Res.ok a S).bind f = f a S := Eq.trans rfl rfl
@[simp] theorem rb_err (c : Nat) (as : List PyData) (S : Store) (f : α → Store → Res β) : (Res.err c as S : Res α).bind f = .err c as S := Eq.trans rfl rfl
@[simp] theorem rb_stuck (f : α → Store → Res β) : (Res.stuck : Res α).bind f = .stuck := Eq.trans rfl rfl
theorem rb_ite (c : Prop) [Decidable c] (x y : Res α) (f : α → Store → Res β) : (if c then x else y).bind f = if c then x.bind f else y.bind f := by split <;> rfl
@[simp] theorem orStuck_some (v : PV) (S : Store) : orStuck (some v) S = .ok v S := Eq.trans rfl rfl
@[simp] theorem orStuck_none (S : Store) : orStuck none S = .stuck := Eq.trans rfl rfl
@[simp] theorem mtoR_some (v : PV) (S : Store) : mtoR (some (v, S)) = .ok v S := Eq.trans rfl rfl
@[simp] theorem froR_some (S : Store) (al : Bool) (xs : List PV) : froR S al (some xs) = fin al xs S := Eq.trans rfl rfl
@[simp] theorem fin_false (xs : List PV) (S : Store) : fin false xs S = .ok (mkLst xs) S := Eq.trans rfl rfl
@[simp] theorem fin_true (xs : List PV) (S : Store) : fin true xs S = .ok (.loc S.length) (S ++ [mkOb xs]) := Eq.trans rfl rfl
@[simp] theorem asBool_bool (b : Bool) (S : Store) : asBool (.ok (.d (.bool b)) S) = .ok (.d (.bool b)) S := Eq.trans rfl rfl
@[simp] theorem asBool_int (i : Int) (S : Store) : asBool (.ok (.d (.int i)) S) = .ok (.d (.bool (i != 0))) S := Eq.trans rfl rfl
theorem asBool_ite (c : Prop) [Decidable c] (x y : Res PV) : asBool (if c then x else y) = if c then asBool x else asBool y := by split <;> rfl
@[simp] theorem get_nil (i : Nat) : Env.get [] i = none := Eq.trans rfl rfl
@[simp] theorem get_zero (x : Option PV) (env : Env) : Env.get (x :: env) 0 = x := Eq.trans rfl rfl
@[simp] theorem get_succ (x : Option PV) (env : Env) (i : Nat) : Env.get (x :: env) (i + 1) = Env.get env i := Eq.trans rfl rfl
/-! expressions -/
def condR (f g : Store → Res α) (v : PV) (S : Store) : Res α := match v with
  | .d (.bool true) => f S
  | .d (.bool false) => g S
  | _ => .stuck
@[simp] theorem condR_b (f g : Store → Res α) (b : Bool) (S : Store) : condR f g (.d (.bool b)) S = if b = true then f S else g S := by cases b <;> rfl
@[simp] theorem ev_var (i : Nat) : ev Φ (.var i) t env S = orStuck (env.get i) S := by cases t <;> rfl
@[simp] theorem ev_glob (x : Str) (d : PyData) : ev Φ (.glob x d) t env S = .ok (.d d) S := by cases t <;> rfl
@[simp] theorem ev_lit (d : PyData) : ev Φ (.lit d) t env S = .ok (.d d) S := by cases t <;> rfl
@[simp] theorem ev_tup (es : List CE) : ev Φ (.tup es) t env S = (evs Φ es env S).bind fun vs S1 => if vs.length ≤ sizeLine then .ok (mkTup vs) S1 else .stuck := by cases t <;> rfl
@[simp] theorem ev_fr (al : Bool) (o : Fop) (es : List CE) : ev Φ (.fr al o es) t env S = (evs Φ es env S).bind fun vs S1 => froR S1 al (frop S1 o vs) := by cases t <;> rfl
@[simp] theorem ev_bin (o : Bop) (a b : CE) : ev Φ (.bin o a b) t env S = (ev Φ a false env S).bind fun x S1 => (ev Φ b false env S1).bind fun y S2 => orStuck (binop o x y) S2 := by cases t <;> rfl
def negR (x : PV) (S : Store) : Res PV := match x with
  | .d (.int i) => .ok (.d (.int (-i))) S
  | _ => .stuck
@[simp] theorem negR_int (i : Int) (S : Store) : negR (.d (.int i)) S = .ok (.d (.int (-i))) S := Eq.trans rfl rfl
@[simp] theorem ev_neg (a : CE) : ev Φ (.neg a) t env S = (ev Φ a false env S).bind negR := by cases t <;> rfl
@[simp] theorem ev_cmp (o : Cop) (a b : CE) : ev Φ (.cmp o a b) t env S = (ev Φ a false env S).bind fun x S1 => (ev Φ b false env S1).bind fun y S2 => orStuck ((cmpop S2 o x y).map fun k => .d (.bool k)) S2 := by cases t <;> rfl
def chainR (o : Option Bool) (f : Store → Res PV) (S : Store) : Res PV := match o with
  | some true => f S
  | some false => .ok (.d (.bool false)) S
  | none => .stuck
@[simp] theorem chainR_some (b : Bool) (f : Store → Res PV) (S : Store) : chainR (some b) f S = if b = true then f S else .ok (.d (.bool false)) S := by cases b <;> rfl
@[simp] theorem ev_chain (o p : Cop) (a b c : CE) : ev Φ (.chain o p a b c) t env S = (ev Φ a false env S).bind fun x S1 => (ev Φ b false env S1).bind fun y S2 => chainR (cmpop S2 o x y) (fun S2 => (ev Φ c false env S2).bind fun z S3 => orStuck ((cmpop S3 p y z).map fun k => .d (.bool k)) S3) S2 := by cases t <;> rfl
def notR (v : PV) (S : Store) : Res PV := match v with
  | .d (.bool k) => .ok (.d (.bool (!k))) S
  | _ => .stuck
@[simp] theorem notR_b (k : Bool) (S : Store) : notR (.d (.bool k)) S = .ok (.d (.bool (!k))) S := Eq.trans rfl rfl
@[simp] theorem ev_not (a : CE) : ev Φ (.not a) t env S = (asBool (ev Φ a t env S)).bind notR := by cases t <;> rfl
def andV (f : Store → Res PV) (v : PV) (S : Store) : Res PV := match v with
  | .d (.bool true) => f S
  | v => .ok v S
@[simp] theorem andV_b (f : Store → Res PV) (b : Bool) (S : Store) : andV f (.d (.bool b)) S = if b = true then f S else .ok (.d (.bool false)) S := by cases b <;> rfl
def orV (f : Store → Res PV) (v : PV) (S : Store) : Res PV := match v with
  | .d (.bool false) => f S
  | v => .ok v S
@[simp] theorem orV_b (f : Store → Res PV) (b : Bool) (S : Store) : orV f (.d (.bool b)) S = if b = true then .ok (.d (.bool true)) S else f S := by cases b <;> rfl
@[simp] theorem ev_andT (a b : CE) : ev Φ (.and a b) true env S = (asBool (ev Φ a true env S)).bind (andV fun S1 => asBool (ev Φ b true env S1)) := Eq.trans rfl rfl
@[simp] theorem ev_andF (a b : CE) : ev Φ (.and a b) false env S = (ev Φ a false env S).bind (condR (fun S1 => ev Φ b false env S1) (fun S1 => .ok (.d (.bool false)) S1)) := Eq.trans rfl rfl
@[simp] theorem ev_orT (a b : CE) : ev Φ (.or a b) true env S = (asBool (ev Φ a true env S)).bind (orV fun S1 => asBool (ev Φ b true env S1)) := Eq.trans rfl rfl
@[simp] theorem ev_orF (a b : CE) : ev Φ (.or a b) false env S = (ev Φ a false env S).bind (condR (fun S1 => .ok (.d (.bool true)) S1) (fun S1 => ev Φ b false env S1)) := by
  show (ev Φ a false env S).bind _ = _
  congr 1
  funext v S1
  cases v with
  | d x =>
    cases x with
    | bool b => cases b <;> rfl
    | _ => rfl
  | _ => rfl
@[simp] theorem ev_ite (c a b : CE) : ev Φ (.ite c a b) t env S = (asBool (ev Φ c true env S)).bind (condR (fun S1 => ev Φ a false env S1) (fun S1 => ev Φ b false env S1)) := by cases t <;> rfl
@[simp] theorem ev_call (al : Bool) (f : Nat) (es : List CE) : ev Φ (.call al f es) t env S = (evs Φ es env S).bind fun vs S1 => (Φ f vs S1).bind fun v S2 => back al S1.length v S2 := by cases t <;> rfl
@[simp] theorem ev_minK (f : Nat) (e : CE) : ev Φ (.minK f e) t env S = (ev Φ e false env S).bind fun v S1 => minR (Φ f) v S1 := by cases t <;> rfl
@[simp] theorem ev_bn (b : Bn) (es : List CE) : ev Φ (.bn b es) t env S = (evs Φ es env S).bind fun vs S1 => orStuck (bnop S1 b vs) S1 := by cases t <;> rfl
def locR (f : Nat → Store → Res PV) (x : PV) (S : Store) : Res PV := match x with
  | .loc l => f l S
  | _ => .stuck
@[simp] theorem locR_loc (f : Nat → Store → Res PV) (l : Nat) (S : Store) : locR f (.loc l) S = f l S := Eq.trans rfl rfl
@[simp] theorem ev_mt (m : Mt) (o : CE) (es : List CE) : ev Φ (.mt m o es) t env S = (ev Φ o false env S).bind (locR fun l S1 => if (lk S1 l).isSome = true then (evs Φ es env S1).bind fun vs S2 => mtoR (mtop S2 m l vs) else .stuck) := by cases t <;> rfl
@[simp] theorem ev_dm (m : Dm) (o : CE) (es : List CE) : ev Φ (.dm m o es) t env S = (ev Φ o false env S).bind fun x S1 => if dmRecv m x = true then (evs Φ es env S1).bind fun vs S2 => orStuck (dmop m x vs) S2 else .stuck := by cases t <;> rfl
@[simp] theorem recv_s (x : Str) : dmRecv .sindex (.d (.str x)) = true := Eq.trans rfl rfl
@[simp] theorem ev_idx (a i : CE) : ev Φ (.idx a i) t env S = (ev Φ a false env S).bind fun x S1 => (ev Φ i false env S1).bind fun y S2 => orStuck (idxop S2 x y) S2 := by cases t <;> rfl
@[simp] theorem ev_slice (a : CE) (lo hi : List CE) : ev Φ (.slice a lo hi) t env S = (ev Φ a false env S).bind fun x S1 => (partM (evs Φ lo env S1)).bind fun l S2 => (partM (evs Φ hi env S2)).bind fun h S3 => orStuck (sliceV S3 x l h) S3 := by cases t <;> rfl
@[simp] theorem partM_nil (S : Store) : partM (.ok [] S) = .ok none S := Eq.trans rfl rfl
@[simp] theorem partM_int (i : Int) (S : Store) : partM (.ok [.d (.int i)] S) = .ok (some i) S := Eq.trans rfl rfl
@[simp] theorem ev_fld (jc : Nat) (e : CE) (f : Str) : ev Φ (.fld jc e f) t env S = (ev Φ e false env S).bind (fldR Φ jc f) := by cases t <;> rfl
@[simp] theorem ev_mcall (al : Bool) (jc j : Nat) (m : Str) (o : CE) (es : List CE) (ds : List PyData) : ev Φ (.mcall al jc j m o es ds) t env S = (ev Φ o false env S).bind fun x S1 => (instR Φ jc m x S1).bind fun x S1 => (evs Φ es env S1).bind fun vs S2 => (Φ j (x :: (vs ++ ds.map PV.d)) S2).bind fun v S3 => back al S2.length v S3 := by cases t <;> rfl
@[simp] theorem ev_make (jc j : Nat) (es : List CE) (ds : List PyData) : ev Φ (.make jc j es ds) t env S = (evs Φ es env S).bind fun vs S1 => makeR Φ jc (fun S2 => Φ j (.loc S1.length :: (vs ++ ds.map PV.d)) S2) S1 := by cases t <;> rfl
@[simp] theorem ev_catL (al : Bool) (a b : CE) : ev Φ (.catL al a b) t env S = (ev Φ a false env S).bind fun x S1 => (ev Φ b false env S1).bind fun y S2 => catR al x y S2 := by cases t <;> rfl
@[simp] theorem ev_lrange (al : Bool) (a b : CE) : ev Φ (.lrange al a b) t env S = (ev Φ a false env S).bind fun x S1 => (ev Φ b false env S1).bind fun y S2 => lrangeR al x y S2 := by cases t <;> rfl
@[simp] theorem lrangeR_i (al : Bool) (i j : Int) : lrangeR al (.d (.int i)) (.d (.int j)) S = if (small62 i && small62 j && decide ((j - i).toNat ≤ 1000000)) = true then fin al (intsP i (j - i).toNat) S else .stuck := Eq.trans rfl rfl
@[simp] theorem ex_setf (N jc : Nat) (o : CE) (f : Str) (e : CE) : ex Φ N (.setf jc o f e) env S = (ev Φ e false env S).bind fun v S1 => (ev Φ o false env S1).bind fun x S2 => match setfR Φ jc f x v S2 with
    | some S3 => .ok (env, .next) S3
    | none => .stuck := Eq.trans rfl rfl
@[simp] theorem ex_raise (N c : Nat) : ex Φ N (.raise_ c) env S = .err c [] S := Eq.trans rfl rfl
@[simp] theorem ex_tryI (N : Nat) (body : List CS) (c : List Nat) (i : Nat) (ds : List (List Nat)) : ex Φ N (.tryI body c i ds) env S = catchI (exs Φ N body env S) c ds env := Eq.trans rfl rfl
@[simp] theorem ev_isi (e : CE) (ty : Ty) : ev Φ (.isi e ty) t env S = (ev Φ e false env S).bind fun x S1 => orStuck ((isTy S1 ty x).map fun k => .d (.bool k)) S1 := by cases t <;> rfl
@[simp] theorem evs_nil : evs Φ [] env S = .ok [] S := Eq.trans rfl rfl
@[simp] theorem evs_cons (e : CE) (r : List CE) : evs Φ (e :: r) env S = (ev Φ e false env S).bind fun v S1 => (evs Φ r env S1).bind fun vs S2 => .ok (v :: vs) S2 := Eq.trans rfl rfl
/-! statements -/
@[simp] theorem exs_nil : exs Φ N [] env S = .ok (env, .next) S := Eq.trans rfl rfl
def nextR (f : Env → Store → Res (Env × Fl)) (p : Env × Fl) (S : Store) : Res (Env × Fl) := match p with
  | (env1, .next) => f env1 S
  | (env1, fl) => .ok (env1, fl) S
@[simp] theorem nextR_next (f : Env → Store → Res (Env × Fl)) (env : Env) (S : Store) : nextR f (env, .next) S = f env S := Eq.trans rfl rfl
@[simp] theorem nextR_ret (f : Env → Store → Res (Env × Fl)) (env : Env) (v : PV) (S : Store) : nextR f (env, .ret v) S = .ok (env, .ret v) S := Eq.trans rfl rfl
@[simp] theorem nextR_brk (f : Env → Store → Res (Env × Fl)) (env : Env) (S : Store) : nextR f (env, .brk) S = .ok (env, .brk) S := Eq.trans rfl rfl
@[simp] theorem nextR_cont (f : Env → Store → Res (Env × Fl)) (env : Env) (S : Store) : nextR f (env, .cont) S = .ok (env, .cont) S := Eq.trans rfl rfl
@[simp] theorem exs_cons (s : CS) (r : List CS) : exs Φ N (s :: r) env S = (ex Φ N s env S).bind (nextR fun env1 S1 => exs Φ N r env1 S1) := Eq.trans rfl rfl
def putR (tg : Tg) (env : Env) (v : PV) (S : Store) : Res (Env × Fl) := match putTg tg v env with
  | some env1 => .ok (env1, .next) S
  | none => .stuck
@[simp] theorem putR_slot (i : Nat) (env : Env) (v : PV) (S : Store) : putR (.slot i) env v S = .ok (env.set i (some v), .next) S := Eq.trans rfl rfl
@[simp] theorem ex_asg (tg : Tg) (e : CE) : ex Φ N (.asg tg e) env S = (ev Φ e false env S).bind (putR tg env) := Eq.trans rfl rfl
def setR (env : Env) (o : Option Store) : Res (Env × Fl) := match o with
  | some S4 => .ok (env, .next) S4
  | none => .stuck
@[simp] theorem setR_some (env : Env) (S : Store) : setR env (some S) = .ok (env, .next) S := Eq.trans rfl rfl
@[simp] theorem ex_set (o i e : CE) : ex Φ N (.set o i e) env S = (ev Φ e false env S).bind fun v S1 => (ev Φ o false env S1).bind fun x S2 => (ev Φ i false env S2).bind fun y S3 => setR env (setop S3 x y v) := Eq.trans rfl rfl
def augR (env : Env) (i : Nat) (o : Option PV) (S : Store) : Res (Env × Fl) := match o with
  | some v => .ok (env.set i (some v), .next) S
  | none => .stuck
@[simp] theorem augR_some (env : Env) (i : Nat) (v : PV) (S : Store) : augR env i (some v) S = .ok (env.set i (some v), .next) S := Eq.trans rfl rfl
theorem ex_aug {i : Nat} {x : PV} (o : Bop) (e : CE) (h : env.get i = some x) : ex Φ N (.aug i o e) env S = (ev Φ e false env S).bind fun y S1 => augR env i (augop o x y) S1 := by
  show (match env.get i with
    | some x => (ev Φ e false env S).bind fun y S1 => augR env i (augop o x y) S1
    | none => .stuck) = _
  rw [h]
@[simp] theorem ex_expr (e : CE) : ex Φ N (.expr e) env S = (ev Φ e false env S).bind fun _ S1 => .ok (env, .next) S1 := Eq.trans rfl rfl
@[simp] theorem ex_ite (c : CE) (a b : List CS) : ex Φ N (.ite c a b) env S = (asBool (ev Φ c true env S)).bind (condR (fun S1 => exs Φ N a env S1) (fun S1 => exs Φ N b env S1)) := Eq.trans rfl rfl
def forR (f : Walked → Res (Env × Fl)) (o : Option Walked) : Res (Env × Fl) := match o with
  | some w => f w
  | none => .stuck
@[simp] theorem forR_some (f : Walked → Res (Env × Fl)) (w : Walked) : forR f (some w) = f w := Eq.trans rfl rfl
@[simp] theorem ex_for (tg : Tg) (k : Ik) (src : List CE) (body : List CS) : ex Φ N (.for_ tg k src body) env S = (evs Φ src env S).bind fun vs S1 => forR (fun w => forLoop w (bodyM tg fun env S => exs Φ N body env S) w.items env S1) (walkOf S1 k vs) := Eq.trans rfl rfl
@[simp] theorem bodyM_slot (i : Nat) (mb : Env → Store → Res (Env × Fl)) (x : PV) (env : Env) (S : Store) : bodyM (.slot i) mb x env S = mb (env.set i (some x)) S := Eq.trans rfl rfl
@[simp] theorem ex_while (c : CE) (body : List CS) : ex Φ N (.while_ c body) env S = whileLoop (fun env S => ev Φ c true env S) (fun env S => exs Φ N body env S) N env S := Eq.trans rfl rfl
@[simp] theorem ex_ret (e : CE) : ex Φ N (.ret e) env S = (ev Φ e false env S).bind fun v S1 => .ok (env, .ret v) S1 := Eq.trans rfl rfl
@[simp] theorem ex_retN : ex Φ N .retN env S = .ok (env, .ret (.d .none)) S := Eq.trans rfl rfl
@[simp] theorem ex_brk : ex Φ N .brk env S = .ok (env, .brk) S := Eq.trans rfl rfl
@[simp] theorem ex_cont : ex Φ N .cont env S = .ok (env, .cont) S := Eq.trans rfl rfl
@[simp] theorem ex_pass : ex Φ N .pass env S = .ok (env, .next) S := Eq.trans rfl rfl
@[simp] theorem ex_kill (is : List Nat) : ex Φ N (.kill is) env S = .ok (killE env is, .next) S := Eq.trans rfl rfl
/-! operations -/
def retR (p : Env × Fl) (S : Store) : Res PV := match p.2 with
  | .ret v => .ok v S
  | .next => .ok (.d .none) S
  | _ => .stuck
@[simp] theorem retR_ret (env : Env) (v : PV) (S : Store) : retR (env, .ret v) S = .ok v S := Eq.trans rfl rfl
@[simp] theorem retR_next (env : Env) (S : Store) : retR (env, .next) S = .ok (.d .none) S := Eq.trans rfl rfl
theorem run1_eq {d : FD} {args : List PV} (h : args.length = d.params) : run1 Φ N d args S = (exs Φ N d.body (start d args) S).bind retR := by
  unfold run1
  rw [if_pos h]
  rfl
@[simp] theorem bin_add (i j : Int) : binop .add (.d (.int i)) (.d (.int j)) = some (.d (.int (i + j))) := Eq.trans rfl rfl
@[simp] theorem bin_sub (i j : Int) : binop .sub (.d (.int i)) (.d (.int j)) = some (.d (.int (i - j))) := Eq.trans rfl rfl
@[simp] theorem bin_mul (i j : Int) : binop .mul (.d (.int i)) (.d (.int j)) = if mulOk i j then some (.d (.int (i * j))) else none := Eq.trans rfl rfl
@[simp] theorem bin_fdiv (i j : Int) : binop .fdiv (.d (.int i)) (.d (.int j)) = if 0 < j ∧ j < 1073741824 then some (.d (.int (i / j))) else none := Eq.trans rfl rfl
@[simp] theorem bin_mod (i j : Int) : binop .mod (.d (.int i)) (.d (.int j)) = if 0 < j then some (.d (.int (i % j))) else none := Eq.trans rfl rfl
@[simp] theorem bin_pow (i j : Int) : binop .pow (.d (.int i)) (.d (.int j)) = if 0 ≤ j ∧ j ≤ 1000000 ∧ i.natAbs < 2 ^ 64 then some (.d (.int (i ^ j.toNat))) else none := Eq.trans rfl rfl
@[simp] theorem bin_str (x y : Str) : binop .add (.d (.str x)) (.d (.str y)) = if x.length + y.length ≤ sizeLine then some (.d (.str (x ++ y))) else none := Eq.trans rfl rfl
@[simp] theorem aug_int (o : Bop) (i : Int) (y : PV) : augop o (.d (.int i)) y = binop o (.d (.int i)) y := Eq.trans rfl rfl
@[simp] theorem aug_str (o : Bop) (i : Str) (y : PV) : augop o (.d (.str i)) y = binop o (.d (.str i)) y := Eq.trans rfl rfl
theorem cmp_eqD {x y : PyData} (h : eqOk x y = true) : cmpop S .eq (.d x) (.d y) = some (PyData.eqv x y) := by
  show (if eqOk x y = true then some (PyData.eqv x y) else none) = _
  rw [if_pos h]
theorem cmp_neD {x y : PyData} (h : eqOk x y = true) : cmpop S .ne (.d x) (.d y) = some (!PyData.eqv x y) := by
  show (if eqOk x y = true then some (!PyData.eqv x y) else none) = _
  rw [if_pos h]
@[simp] theorem cmp_eqI (i j : Int) : cmpop S .eq (.d (.int i)) (.d (.int j)) = some (decide (i = j)) := by
  exact (cmp_eqD rfl).trans rfl
@[simp] theorem cmp_neI (i j : Int) : cmpop S .ne (.d (.int i)) (.d (.int j)) = some (!decide (i = j)) := by
  exact (cmp_neD rfl).trans rfl
@[simp] theorem cmp_eqS (i j : Str) : cmpop S .eq (.d (.str i)) (.d (.str j)) = some (decide (i = j)) := by
  exact (cmp_eqD rfl).trans rfl
@[simp] theorem cmp_neS (i j : Str) : cmpop S .ne (.d (.str i)) (.d (.str j)) = some (!decide (i = j)) := by
  exact (cmp_neD rfl).trans rfl
@[simp] theorem cmp_eqB (i j : Bool) : cmpop S .eq (.d (.bool i)) (.d (.bool j)) = some (i == j) := by
  exact (cmp_eqD rfl).trans rfl
@[simp] theorem cmp_neB (i j : Bool) : cmpop S .ne (.d (.bool i)) (.d (.bool j)) = some (!(i == j)) := by
  exact (cmp_neD rfl).trans rfl
@[simp] theorem cmp_lt (i j : Int) : cmpop S .lt (.d (.int i)) (.d (.int j)) = some (decide (i < j)) := Eq.trans rfl rfl
@[simp] theorem cmp_le (i j : Int) : cmpop S .le (.d (.int i)) (.d (.int j)) = some (decide (i ≤ j)) := Eq.trans rfl rfl
@[simp] theorem cmp_gt (i j : Int) : cmpop S .gt (.d (.int i)) (.d (.int j)) = some (decide (j < i)) := Eq.trans rfl rfl
@[simp] theorem cmp_ge (i j : Int) : cmpop S .ge (.d (.int i)) (.d (.int j)) = some (decide (j ≤ i)) := Eq.trans rfl rfl
@[simp] theorem cmp_ltS (x y : Str) : cmpop S .lt (.d (.str x)) (.d (.str y)) = some (decide (x.cps.toList < y.cps.toList)) := Eq.trans rfl rfl
@[simp] theorem cmp_inC (c : Nat) (z : Str) : cmpop S .in_ (.d (.str ⟨#[c]⟩)) (.d (.str z)) = some (decide (c ∈ z.cps.toList)) := Eq.trans rfl rfl
@[simp] theorem cmp_notinC (c : Nat) (z : Str) : cmpop S .notin (.d (.str ⟨#[c]⟩)) (.d (.str z)) = some (!decide (c ∈ z.cps.toList)) := Eq.trans rfl rfl
@[simp] theorem bn_int (i : Int) : bnop S .int [.d (.int i)] = some (.d (.int i)) := Eq.trans rfl rfl
@[simp] theorem bn_intB (k : Bool) : bnop S .int [.d (.bool k)] = some (.d (.int (if k then 1 else 0))) := Eq.trans rfl rfl
@[simp] theorem bn_abs (i : Int) : bnop S .abs [.d (.int i)] = some (.d (.int (if i < 0 then -i else i))) := Eq.trans rfl rfl
@[simp] theorem bn_max (i j : Int) : bnop S .max [.d (.int i), .d (.int j)] = some (.d (.int (if j > i then j else i))) := Eq.trans rfl rfl
@[simp] theorem bn_min (i j : Int) : bnop S .min [.d (.int i), .d (.int j)] = some (.d (.int (if j < i then j else i))) := Eq.trans rfl rfl
@[simp] theorem bn_lenS (x : Str) : bnop S .len [.d (.str x)] = if x.length ≤ sizeLine then some (.d (.int x.length)) else none := Eq.trans rfl rfl
@[simp] theorem bn_lenT (ds : List PyData) : bnop S .len [.d (.tuple ds)] = some (.d (.int ds.length)) := by simp [bnop, seqOf]
@[simp] theorem bn_lenL (ds : List PyData) : bnop S .len [.d (.list ds)] = some (.d (.int ds.length)) := by simp [bnop, seqOf]
@[simp] theorem bn_lenO (l : Nat) : bnop S .len [.loc l] = (lk S l).map fun o => PV.d (.int o.items.length) := by simp [bnop, seqOf]; rfl
@[simp] theorem bn_tupL (ds : List PyData) : bnop S .tuple [.d (.list ds)] = some (.d (.tuple ds)) := by simp [bnop, seqOf]
@[simp] theorem bn_tupT (ds : List PyData) : bnop S .tuple [.d (.tuple ds)] = some (.d (.tuple ds)) := by simp [bnop, seqOf]
@[simp] theorem fr_disp (vs : List PV) : frop S .disp vs = if vs.length ≤ sizeLine then some vs else none := Eq.trans rfl rfl
@[simp] theorem isTy_bool (b : Bool) : isTy S .bool (.d (.bool b)) = some true := Eq.trans rfl rfl
@[simp] theorem isTy_intB (b : Bool) : isTy S .int (.d (.bool b)) = some true := Eq.trans rfl rfl
@[simp] theorem isTy_int (i : Int) : isTy S .int (.d (.int i)) = some true := Eq.trans rfl rfl
@[simp] theorem isTy_boolI (i : Int) : isTy S .bool (.d (.int i)) = some false := Eq.trans rfl rfl
@[simp] theorem isTy_str (x : Str) : isTy S .str (.d (.str x)) = some true := Eq.trans rfl rfl
@[simp] theorem items_lst (ds : List PyData) : (Ob.lst ds).items = ds.map .d := Eq.trans rfl rfl
@[simp] theorem like_lst (ds : List PyData) (xs : List PV) : (Ob.lst ds).like xs = mkOb xs := Eq.trans rfl rfl
@[simp] theorem push_lst (ds : List PyData) (x : PyData) : (Ob.lst ds).push (.d x) = .lst (ds ++ [x]) := Eq.trans rfl rfl
theorem mt_append {l : Nat} {o : Ob} (v : PV) (h : S[l]? = some o) (hl : o.items.length < sizeLine) (ho : o.isL = true := by rfl) : mtop S .append l [v] = some (.d .none, S.set l (o.push v)) := by
  show (match lk S l with
    | some o => if o.items.length < sizeLine then some (PV.d .none, S.set l (o.push v)) else none
    | none => none) = _
  rw [lk_of h ho]
  show (if o.items.length < sizeLine then _ else _) = _
  rw [if_pos hl]
theorem mt_pop {l : Nat} {ds : List PyData} {x : PyData} (h : S[l]? = some (.lst (ds ++ [x]))) : mtop S .pop l [] = some (.d x, S.set l (.lst ds)) := by
  show (match lk S l with
    | some o => (match o.items[o.items.length - 1]? with
      | some v => some (v, S.set l (o.like o.items.dropLast))
      | none => none)
    | none => none) = _
  rw [lk_of h rfl]
  simp
theorem mt_reverse {l : Nat} {ds : List PyData} (h : S[l]? = some (.lst ds)) : mtop S .reverse l [] = some (.d .none, S.set l (.lst ds.reverse)) := by
  show (match lk S l with
    | some o => some (PV.d .none, S.set l (o.like o.items.reverse))
    | none => none) = _
  rw [lk_of h rfl]
  simp [← List.map_reverse]
theorem idx_list {l : Nat} {ds : List PyData} {i : Nat} {x : PyData} (h : S[l]? = some (.lst ds)) (hx : ds[i]? = some x) : idxop S (.loc l) (.d (.int i)) = some (.d x) := by
  show (match seqOf S (.loc l) with
    | some (_, xs) => L2.atI xs i
    | none => none) = _
  simp only [seqOf, lk_of h rfl, Option.map_some, items_lst]
  exact atI_nat (by rw [List.getElem?_map, hx]; rfl)
theorem set_list {l : Nat} {ds : List PyData} {i : Nat} (x : PyData) (h : S[l]? = some (.lst ds)) (hx : i < ds.length) : setop S (.loc l) (.d (.int i)) (.d x) = some (S.set l (.lst (ds.set i x))) := by
  show (match lk S l with
    | some o => (match L2.ixN o.items.length i with
      | some j => some (S.set l (o.like (o.items.set j (.d x))))
      | none => none)
    | none => none) = _
  rw [lk_of h rfl]
  have : L2.ixN (Ob.lst ds).items.length (i : Int) = some i := by
    simp only [items_lst, List.length_map]
    unfold L2.ixN
    simp [hx]
  simp only [this]
  simp [← List.map_set]
@[simp] theorem mkOb_mm {γ : Type} (f : γ → PyData) (l : List γ) : mkOb (l.map (PV.d ∘ f)) = .lst (l.map f) := by rw [← List.map_map]; exact mkOb_map _
@[simp] theorem mkLst_mm {γ : Type} (f : γ → PyData) (l : List γ) : mkLst (l.map (PV.d ∘ f)) = .d (.list (l.map f)) := by rw [← List.map_map]; exact mkLst_map _
@[simp] theorem mkTup_mm {γ : Type} (f : γ → PyData) (l : List γ) : mkTup (l.map (PV.d ∘ f)) = .d (.tuple (l.map f)) := by rw [← List.map_map]; exact mkTup_map _
/-! loops -/
@[simp] theorem same_none (xs : List PV) (S : Store) : (Walked.mk xs none).same S = True := Eq.trans rfl rfl
theorem sameN (xs : List PV) (S : Store) : (Walked.mk xs none).same S := by exact True.intro
theorem for_step {w : Walked} {step : PV → Env → Store → Res (Env × Fl)} {x : PV} {r : List PV} {env1 : Env} {S1 : Store} (h : step x env S = .ok (env1, .next) S1) (hw : w.same S1) : forLoop w step (x :: r) env S = forLoop w step r env1 S1 := by
  rw [forLoop, h]
  simp only [rb_ok]
  rw [if_pos hw]
theorem for_brk {w : Walked} {step : PV → Env → Store → Res (Env × Fl)} {x : PV} {r : List PV} {env1 : Env} {S1 : Store} (h : step x env S = .ok (env1, .brk) S1) : forLoop w step (x :: r) env S = .ok (env1, .next) S1 := by
  rw [forLoop, h]
  rfl
theorem for_ret {w : Walked} {step : PV → Env → Store → Res (Env × Fl)} {x : PV} {r : List PV} {env1 : Env} {v : PV} {S1 : Store} (h : step x env S = .ok (env1, .ret v) S1) : forLoop w step (x :: r) env S = .ok (env1, .ret v) S1 := by
  rw [forLoop, h]
  rfl
theorem same_at {w : Walked} (hw : w.at_ = none) (S : Store) : w.same S := by
  obtain ⟨items, at_⟩ := w
  have hw : at_ = none := hw
  subst hw
  exact sameN _ _
theorem while_step {c : Env → Store → Res PV} {body : Env → Store → Res (Env × Fl)} {F : Nat} {env1 : Env} {S1 S2 : Store} (hc : asBool (c env S) = .ok (.d (.bool true)) S1) (h : body env S1 = .ok (env1, .next) S2) : whileLoop c body (F + 1) env S = whileLoop c body F env1 S2 := by
  rw [whileLoop, hc]
  simp only [rb_ok, h]
theorem while_end {c : Env → Store → Res PV} {body : Env → Store → Res (Env × Fl)} {F : Nat} {S1 : Store} (hc : asBool (c env S) = .ok (.d (.bool false)) S1) : whileLoop c body (F + 1) env S = .ok (env, .next) S1 := by
  rw [whileLoop, hc]
  rfl
@[simp] theorem back_self (al : Bool) (x : PyData) : back al S.length (.d x) S = .ok (.d x) S := by
  unfold back
  simp
theorem for_nil (w : Walked) (step : PV → Env → Store → Res (Env × Fl)) : forLoop w step [] env S = .ok (env, .next) S := rfl
/-- through the walk, or out of it: by break (J), by return (R) -/
theorem for_ind {w : Walked} {step : PV → Env → Store → Res (Env × Fl)} (I : List PV → Env → Store → Prop) (J : Env → Store → Prop) (R : PV → Store → Prop) (hn : ∀ env S, I [] env S → J env S)
    (hs : ∀ x r env S, I (x :: r) env S → (∃ env' S', (step x env S = .ok (env', .next) S' ∨ step x env S = .ok (env', .cont) S') ∧ w.same S' ∧ I r env' S') ∨ (∃ env' S', step x env S = .ok (env', .brk) S' ∧ J env' S') ∨ ∃ env' v S', step x env S = .ok (env', .ret v) S' ∧ R v S') :
    ∀ (xs : List PV) (env : Env) (S : Store), I xs env S → (∃ env' S', forLoop w step xs env S = .ok (env', .next) S' ∧ J env' S') ∨ ∃ env' v S', forLoop w step xs env S = .ok (env', .ret v) S' ∧ R v S'
  | [], env, S, h => .inl ⟨env, S, rfl, hn _ _ h⟩
  | x :: r, env, S, h => by
    unfold forLoop
    rcases hs x r env S h with ⟨env', S', h1, h2, h3⟩ | ⟨env', S', h1, h2⟩ | ⟨env', v, S', h1, h2⟩
    · have ih := for_ind I J R hn hs r env' S' h3
      rcases h1 with h1 | h1 <;> rw [h1] <;> simp only [rb_ok] <;> rw [if_pos h2] <;> exact ih
    · rw [h1]
      exact .inl ⟨env', S', rfl, h2⟩
    · rw [h1]
      exact .inr ⟨env', v, S', rfl, h2⟩
/-- a walk that always goes to its end -/
theorem for_all {w : Walked} {step : PV → Env → Store → Res (Env × Fl)} (I : List PV → Env → Store → Prop)
    (hs : ∀ x r env S, I (x :: r) env S → ∃ env' S', (step x env S = .ok (env', .next) S' ∨ step x env S = .ok (env', .cont) S') ∧ w.same S' ∧ I r env' S') (xs : List PV) (env : Env) (S : Store) (h : I xs env S) :
    ∃ env' S', forLoop w step xs env S = .ok (env', .next) S' ∧ I [] env' S' := by
  rcases for_ind I (I []) (fun _ _ => False) (fun _ _ h => h) (fun x r env S h => .inl (hs x r env S h)) xs env S h with h | ⟨_, _, _, _, h⟩
  · exact h
  · exact h.elim
theorem while_ind {c : Env → Store → Res PV} {body : Env → Store → Res (Env × Fl)} (I : Nat → Env → Store → Prop) (J : Env → Store → Prop) (R : PV → Store → Prop)
    (hs : ∀ m env S, I m env S → ∃ b S1, asBool (c env S) = .ok (.d (.bool b)) S1 ∧ if b = true then (∃ m' env' S', (body env S1 = .ok (env', .next) S' ∨ body env S1 = .ok (env', .cont) S') ∧ m' < m ∧ I m' env' S') ∨ (∃ env' S', body env S1 = .ok (env', .brk) S' ∧ J env' S') ∨ (∃ env' v S', body env S1 = .ok (env', .ret v) S' ∧ R v S') else J env S1) :
    ∀ (F m : Nat) (env : Env) (S : Store), m < F → I m env S → (∃ env' S', whileLoop c body F env S = .ok (env', .next) S' ∧ J env' S') ∨ ∃ env' v S', whileLoop c body F env S = .ok (env', .ret v) S' ∧ R v S'
  | 0, m, env, S, h, _ => absurd h (Nat.not_lt_zero _)
  | F + 1, m, env, S, hm, h => by
    unfold whileLoop
    obtain ⟨b, S1, h1, h2⟩ := hs m env S h
    rw [h1]
    cases b with
    | false => exact .inl ⟨env, S1, rfl, h2⟩
    | true =>
      rw [if_pos rfl] at h2
      simp only [rb_ok]
      rcases h2 with ⟨m', env', S', h3, h4, h5⟩ | ⟨env', S', h3, h4⟩ | ⟨env', v, S', h3, h4⟩
      · have ih := while_ind I J R hs F m' env' S' (by omega) h5
        rcases h3 with h3 | h3 <;> rw [h3] <;> exact ih
      · rw [h3]
        exact .inl ⟨env', S', rfl, h4⟩
      · rw [h3]
        exact .inr ⟨env', v, S', rfl, h4⟩
/-! comprehensions -/
@[simp] theorem ev_comp' (al : Bool) (own : List Nat) (tg : Tg) (k : Ik) (src : List CE) (cnd : List CE) (elt : CE) : ev Φ (.comp al own tg k src cnd elt) t env S = (walkM k (fun env S => evs Φ src env S) env S).bind fun w S1 => (noErr (compLoop w (compStep (killE env own) tg (evc Φ cnd) (fun env S => ev Φ elt false env S)) w.items S1)).bind fun ys S2 => if ys.length ≤ sizeLine then fin al ys S2 else .stuck :=
  congrFun (congrFun (ev_comp al own tg k src cnd elt t) env) S
theorem comp_ind {w : Walked} {step : PV → Store → Res (List PV)} (I : List PV → List PV → Store → Prop) (hs : ∀ x r acc S, I (x :: r) acc S → ∃ ys S', step x S = .ok ys S' ∧ w.same S' ∧ I r (acc ++ ys) S') :
    ∀ (xs acc : List PV) (S : Store), I xs acc S → ∃ zs S', compLoop w step xs S = .ok zs S' ∧ I [] (acc ++ zs) S'
  | [], acc, S, h => ⟨[], S, rfl, by simpa using h⟩
  | x :: r, acc, S, h => by
    obtain ⟨ys, S1, h1, h2, h3⟩ := hs x r acc S h
    obtain ⟨zs, S2, h4, h5⟩ := comp_ind I hs r (acc ++ ys) S1 h3
    refine ⟨ys ++ zs, S2, ?_, by rw [← List.append_assoc]; exact h5⟩
    unfold compLoop
    rw [h1]
    simp only [rb_ok]
    rw [if_pos h2, h4]
    rfl
theorem comp_pure {xs : List PV} {o : Option (Nat × Ob)} {step : PV → Store → Res (List PV)} {f : PV → List PV} {S : Store} (hw : (Walked.mk xs o).same S) (hs : ∀ x ∈ xs, step x S = .ok (f x) S) : compLoop ⟨xs, o⟩ step xs S = .ok (xs.flatMap f) S := by
  have go : ∀ ws : List PV, (∀ x ∈ ws, step x S = .ok (f x) S) → compLoop ⟨xs, o⟩ step ws S = .ok (ws.flatMap f) S := by
    intro ws
    induction ws with
    | nil => intro _; rfl
    | cons x r ih =>
      intro h
      unfold compLoop
      rw [h x List.mem_cons_self]
      simp only [rb_ok]
      rw [if_pos hw, ih fun y hy => h y (List.mem_cons_of_mem _ hy)]
      simp
  exact go xs hs
@[simp] theorem step_slot (i : Nat) (elt : Env → Store → Res PV) (x : PV) : compStep env (.slot i) none elt x S = (elt (env.set i (some x)) S).bind fun y S3 => .ok [y] S3 := Eq.trans rfl rfl
theorem walkM_eq {k : Ik} {ms : Env → Store → Res (List PV)} {vs : List PV} {S1 : Store} {w : Walked} (h : ms env S = .ok vs S1) (hw : walkOf S1 k vs = some w) : walkM k ms env S = .ok w S1 := by
  unfold walkM
  rw [h]
  simp only [rb_ok]
  rw [hw]
theorem exs_step {s : CS} {r : List CS} {env1 : Env} {S1 : Store} (h : ex Φ N s env S = .ok (env1, .next) S1) : exs Φ N (s :: r) env S = exs Φ N r env1 S1 := by
  rw [exs_cons, h]
  rfl
theorem exs_ret {s : CS} {r : List CS} {env1 : Env} {v : PV} {S1 : Store} (h : ex Φ N s env S = .ok (env1, .ret v) S1) : exs Φ N (s :: r) env S = .ok (env1, .ret v) S1 := by
  rw [exs_cons, h]
  rfl
/-! calls -/
@[simp] theorem back_bool (al : Bool) (n : Nat) (b : PyData) : back al n (.d b) S = if (S.take n).all (Ob.under n) = true then .ok (.d b) (S.take n) else .ok (.d b) S := Eq.trans rfl rfl
@[simp] theorem lk_eqS (S : Store) (l : Nat) : lk S l = (S[l]?).bind Ob.asL := lk_eq S l
@[simp] theorem under_lst (n : Nat) (ds : List PyData) : (Ob.lst ds).under n = true := Eq.trans rfl rfl
@[simp] theorem free_lst (ds : List PyData) : (Ob.lst ds).free = true := Eq.trans rfl rfl
end
/-! ### the draws -/
def dr (r : List Int) : Ob := .lst (r.reverse.map .int)
def tk (r : List Int) (m : Int) : Int := match r with
  | [] => 0
  | x :: _ => x % m
theorem tk_range {r : List Int} {m : Int} (h : 0 < m) : 0 ≤ tk r m ∧ tk r m < m := by
  unfold tk
  split
  · omega
  · exact ⟨Int.emod_nonneg _ (by omega), Int.emod_lt_of_pos _ h⟩
@[simp] theorem dr_len (r : List Int) : (dr r).items.length = r.length := by simp [dr]
@[simp] theorem dr_under (n : Nat) (r : List Int) : (dr r).under n = true := Eq.trans rfl rfl
@[simp] theorem dr_asL (r : List Int) : (dr r).asL = some (dr r) := Eq.trans rfl rfl
@[simp] theorem dr_isL (r : List Int) : (dr r).isL = true := Eq.trans rfl rfl
@[simp] theorem dr_free (r : List Int) : (dr r).free = true := Eq.trans rfl rfl
@[simp] theorem mt_popdr (x : Int) (r : List Int) (S : Store) : mtop (dr (x :: r) :: S) .pop 0 [] = some (.d (.int x), dr r :: S) :=
  mt_pop (ds := r.reverse.map .int) (by simp [dr])
def takeB : List CS := [
  .ite (.cmp .eq (.bn .len [(.var 0)]) (.lit (.int 0))) [
    .ret (.lit (.int 0))] [],
  .ret (.bin .mod (.bn .int [(.mt .pop (.var 0) [])]) (.var 1))]
theorem take_ok {T : List FD} {F n j : Nat} (hT : T[j]? = some ⟨2, 2, takeB⟩) (r : List Int) (S : Store) (m : Int) (hm : 0 < m) : callN T F (n + 1) j [.loc 0, .d (.int m)] (dr r :: S) = .ok (.d (.int (tk r m))) (dr r.tail :: S) := by
  rw [callN_at hT, run1_eq rfl]
  unfold takeB start
  cases r with
  | nil => simp [tk]
  | cons x r =>
    have h0 : ¬ ((r.length : Int) + 1 = 0) := by omega
    simp [tk, hm, h0]
end PW

set_option maxHeartbeats 1000000
namespace PW
open PySem PySem.Spec PyProof.Rows L2
/-! PW8: the draws -/
def drawsB : List CS := [
  .asg (.slot 2) (.comp true [3] (.slot 3) .of [(.var 0)] [] (.bn .int [(.var 3)])),
  .ite (.cmp .eq (.bn .len [(.var 2)]) (.lit (.int 0))) [
    .expr (.mt .append (.var 2) [(.lit (.int 0))])] [],
  .asg (.slot 4) (.fr true .list [(.var 2)]),
  .asg (.slot 5) (.fr true .disp []),
  .for_ (.slot 6) .rng1 [(.var 1)] [
    .asg (.slot 7) (.bin .mod (.var 6) (.bn .len [(.var 2)])),
    .ite (.cmp .ge (.idx (.var 2) (.var 7)) (.bin .pow (.lit (.int 10)) (.lit (.int 18)))) [
      .expr (.mt .append (.var 5) [(.bin .mod (.bn .int [(.idx (.var 4) (.var 7))]) (.lit (.int 1000)))]),
      .set (.var 4) (.var 7) (.bin .fdiv (.idx (.var 4) (.var 7)) (.lit (.int 1000)))] [
      .asg (.slot 8) (.bin .mod (.bn .int [(.bin .add (.bin .add (.bin .mul (.idx (.var 2) (.var 7)) (.lit (.int 48271))) (.bin .mul (.var 6) (.lit (.int 69621)))) (.lit (.int 11)))]) (.lit (.int 2147483647))),
      .expr (.mt .append (.var 5) [(.bin .mod (.bn .int [(.bin .add (.bin .add (.bin .mul (.var 8) (.var 8)) (.bin .mul (.lit (.int 3)) (.var 8))) (.var 6))]) (.lit (.int 1000003)))])]],
  .expr (.mt .reverse (.var 5) []),
  .ret (.var 5)]
theorem mulOk_r (i j : Int) (h1 : -(2 ^ 64) < j) (h2 : j < 2 ^ 64) : mulOk i j = true := by
  unfold mulOk
  rw [Bool.or_eq_true]
  right
  simp only [Bool.and_eq_true, decide_eq_true_eq]
  exact ⟨h1, h2⟩
theorem mulOk_l (i j : Int) (h1 : -(2 ^ 64) < i) (h2 : i < 2 ^ 64) : mulOk i j = true := by
  unfold mulOk
  rw [Bool.or_eq_true]
  left
  simp only [Bool.and_eq_true, decide_eq_true_eq]
  exact ⟨h1, h2⟩
theorem walk_lst (S : Store) (ds : List PyData) : walkOf S .of [.d (.list ds)] = some ⟨ds.map .d, none⟩ := rfl
theorem walk_rng (S : Store) (m : Int) (h : small62 m = true) : walkOf S .rng1 [.d (.int m)] = some ⟨intsP 0 m.toNat, none⟩ := by
  show (if small62 m then some (Walked.mk (intsP 0 m.toNat) none) else none) = _
  rw [if_pos h]
theorem ex_rng1 {Φ : Fns} {N : Nat} {env : Env} {S S1 : Store} {tg : Tg} {src : List CE} {body : List CS} {m : Int} (h : evs Φ src env S = .ok [.d (.int m)] S1) (hm : small62 m = true) : ex Φ N (.for_ tg .rng1 src body) env S = forLoop ⟨intsP 0 m.toNat, none⟩ (bodyM tg fun env S => exs Φ N body env S) (intsP 0 m.toNat) env S1 := by
  rw [ex_for, h, rb_ok, walk_rng _ _ hm, forR_some]
theorem ex_of {Φ : Fns} {N : Nat} {env : Env} {S S1 : Store} {tg : Tg} {src : List CE} {body : List CS} {v : PV} {w : Walked} (h : evs Φ src env S = .ok [v] S1) (hw : walkV S1 [v] = some w) : ex Φ N (.for_ tg .of src body) env S = forLoop w (bodyM tg fun env S => exs Φ N body env S) w.items env S1 := by
  rw [ex_for, h, rb_ok, show walkOf S1 .of [v] = some w from hw, forR_some]
/-- all items are whole numbers -/
def AllI (xs : List PV) : Prop := ∀ x ∈ xs, ∃ i : Int, x = .d (.int i)
theorem intsP_all (lo : Int) (n : Nat) : AllI (intsP lo n) := by
  intro x hx
  unfold intsP at hx
  rw [List.mem_map] at hx
  obtain ⟨i, _, rfl⟩ := hx
  exact ⟨_, rfl⟩
theorem intsP_len (lo : Int) (n : Nat) : (intsP lo n).length = n := by simp [intsP]
theorem sizeLine_big : (1000000 : Nat) ≤ sizeLine := by decide +kernel
theorem cells_ok {Φ : Fns} {N : Nat} (ns : List Int) (hn : ns.length ≤ 63) (x : Option PV) : ex Φ N (.asg (.slot 2) (.comp true [3] (.slot 3) .of [(.var 0)] [] (.bn .int [(.var 3)]))) [some (.d (.list (ns.map .int))), x, none, none, none, none, none, none, none] [] = .ok ([some (.d (.list (ns.map .int))), x, some (.loc 0), none, none, none, none, none, none], .next) [.lst (ns.map .int)] := by
  have hsz := sizeLine_big
  rw [ex_asg, ev_comp', walkM_eq (vs := [.d (.list (ns.map .int))]) (S1 := []) (w := ⟨(ns.map .int).map .d, none⟩) (by simp) (walk_lst _ _)]
  simp only [rb_ok]
  rw [comp_pure (f := fun x => [x]) (by exact True.intro) (by
    intro x hx
    simp only [List.map_map, List.mem_map] at hx
    obtain ⟨i, _, rfl⟩ := hx
    simp [evc, killE])]
  simp only [noErr_ok, rb_ok]
  rw [if_pos (by simp; omega)]
  have : ∀ l : List PV, l.flatMap (fun x => [x]) = l := fun l => by simp
  rw [this]
  simp
theorem draws_ok {T : List FD} {F n j : Nat} (hT : T[j]? = some ⟨9, 2, drawsB⟩) (ns : List Int) (m : Nat) (hm : m ≤ 1000) (hn : ns.length ≤ 63) :
    ∃ (ds : List Int) (c r : List PyData), ds.length = m ∧ callN T F (n + 1) j [.d (.list (ns.map .int)), .d (.int m)] [] = .ok (.loc 2) [.lst c, .lst r, dr ds] := by
  have hsz := sizeLine_big
  rw [callN_at hT, run1_eq rfl]
  show ∃ (ds : List Int) (c r : List PyData), ds.length = m ∧ (exs _ _ drawsB [some (.d (.list (ns.map .int))), some (.d (.int m)), none, none, none, none, none, none, none] []).bind retR = _
  unfold drawsB
  rw [exs_step (cells_ok ns hn _)]
  -- the cells, at least one
  obtain ⟨cs, hcs, hpos, hlen⟩ : ∃ cs : List Int, ex (callN T F n) F (.ite (.cmp .eq (.bn .len [(.var 2)]) (.lit (.int 0))) [.expr (.mt .append (.var 2) [(.lit (.int 0))])] []) [some (.d (.list (ns.map .int))), some (.d (.int m)), some (.loc 0), none, none, none, none, none, none] [.lst (ns.map .int)] =
      .ok ([some (.d (.list (ns.map .int))), some (.d (.int m)), some (.loc 0), none, none, none, none, none, none], .next) [.lst (cs.map .int)] ∧ 0 < cs.length ∧ cs.length ≤ 63 := by
    cases ns with
    | nil =>
      refine ⟨[0], ?_, by simp, by simp⟩
      have h : mtop [Ob.lst []] .append 0 [.d (.int 0)] = some (.d .none, [Ob.lst [.int 0]]) := mt_append (S := [Ob.lst []]) (l := 0) (o := .lst []) (.d (.int 0)) rfl (by simp; omega)
      simp [h]
    | cons x r =>
      refine ⟨x :: r, ?_, by simp, hn⟩
      have h0 : ¬ ((r.length : Int) + 1 = 0) := by omega
      simp [h0]
  rw [exs_step hcs]
  rw [exs_step (env1 := [some (.d (.list (ns.map .int))), some (.d (.int m)), some (.loc 0), none, some (.loc 1), none, none, none, none]) (S1 := [.lst (cs.map .int), .lst (cs.map .int)]) (by simp [frop, seqOf])]
  rw [exs_step (env1 := [some (.d (.list (ns.map .int))), some (.d (.int m)), some (.loc 0), none, some (.loc 1), some (.loc 2), none, none, none]) (S1 := [.lst (cs.map .int), .lst (cs.map .int), .lst []]) (by simp [mkOb, allD])]
  -- the loop
  obtain ⟨env', S', h1, ⟨_, r, ds, x6, x7, x8, rfl, rfl, _, hds⟩⟩ := for_all (w := ⟨intsP 0 m, none⟩) (step := bodyM (.slot 6) fun env S => exs (callN T F n) F [
    .asg (.slot 7) (.bin .mod (.var 6) (.bn .len [(.var 2)])),
    .ite (.cmp .ge (.idx (.var 2) (.var 7)) (.bin .pow (.lit (.int 10)) (.lit (.int 18)))) [
      .expr (.mt .append (.var 5) [(.bin .mod (.bn .int [(.idx (.var 4) (.var 7))]) (.lit (.int 1000)))]),
      .set (.var 4) (.var 7) (.bin .fdiv (.idx (.var 4) (.var 7)) (.lit (.int 1000)))] [
      .asg (.slot 8) (.bin .mod (.bn .int [(.bin .add (.bin .add (.bin .mul (.idx (.var 2) (.var 7)) (.lit (.int 48271))) (.bin .mul (.var 6) (.lit (.int 69621)))) (.lit (.int 11)))]) (.lit (.int 2147483647))),
      .expr (.mt .append (.var 5) [(.bin .mod (.bn .int [(.bin .add (.bin .add (.bin .mul (.var 8) (.var 8)) (.bin .mul (.lit (.int 3)) (.var 8))) (.var 6))]) (.lit (.int 1000003)))])]] env S)
    (fun xs env S => AllI xs ∧ ∃ (rs ds : List Int) (x6 x7 x8 : Option PV), env = [some (.d (.list (ns.map .int))), some (.d (.int m)), some (.loc 0), none, some (.loc 1), some (.loc 2), x6, x7, x8] ∧ S = [.lst (cs.map .int), .lst (rs.map .int), .lst (ds.map .int)] ∧ rs.length = cs.length ∧ ds.length + xs.length = m) (by
      rintro x rr env S ⟨hall, rs, ds, x6, x7, x8, rfl, rfl, hrs, hds⟩
      obtain ⟨k, rfl⟩ := hall x List.mem_cons_self
      obtain ⟨a, ha, hlt⟩ : ∃ a : Nat, k % (cs.length : Int) = a ∧ a < cs.length := by
        have h1 := Int.emod_nonneg k (show (cs.length : Int) ≠ 0 by omega)
        have h2 := Int.emod_lt_of_pos k (show (0 : Int) < cs.length by omega)
        exact ⟨(k % (cs.length : Int)).toNat, by omega, by omega⟩
      have hltr : a < rs.length := by omega
      have hl' : AllI rr := fun y hy => hall y (List.mem_cons_of_mem _ hy)
      have hds' : ds.length < 1000 := by simp at hds; omega
      have i1 : ∀ D : Ob, idxop [.lst (cs.map .int), .lst (rs.map .int), D] (.loc 0) (.d (.int a)) = some (.d (.int cs[a])) := fun D => idx_list (ds := cs.map .int) (i := a) rfl (by simp [hlt])
      have i2 : ∀ D : Ob, idxop [.lst (cs.map .int), .lst (rs.map .int), D] (.loc 1) (.d (.int a)) = some (.d (.int rs[a])) := fun D => idx_list (ds := rs.map .int) (i := a) rfl (by simp [hltr])
      have i3 : ∀ (D : Ob) (v : Int), setop [.lst (cs.map .int), .lst (rs.map .int), D] (.loc 1) (.d (.int a)) (.d (.int v)) = some [.lst (cs.map .int), .lst ((rs.set a v).map .int), D] := fun D v => by
        rw [set_list (ds := rs.map .int) (i := a) (.int v) rfl (by simp [hltr])]
        simp
      have app : ∀ v : Int, mtop [.lst (cs.map .int), .lst (rs.map .int), .lst (ds.map .int)] .append 2 [.d (.int v)] = some (.d .none, [.lst (cs.map .int), .lst (rs.map .int), .lst ((ds ++ [v]).map .int)]) := fun v => by
        rw [mt_append (o := .lst (ds.map .int)) (.d (.int v)) rfl (by simp; omega)]
        simp
      have hc' : 0 < cs.length := by omega
      simp only [bodyM_slot]
      rw [List.set_cons_succ, List.set_cons_succ, List.set_cons_succ, List.set_cons_succ, List.set_cons_succ, List.set_cons_succ, List.set_cons_zero]
      rw [exs_step (env1 := [some (.d (.list (ns.map .int))), some (.d (.int m)), some (.loc 0), none, some (.loc 1), some (.loc 2), some (.d (.int k)), some (.d (.int a)), x8]) (S1 := [.lst (cs.map .int), .lst (rs.map .int), .lst (ds.map .int)]) (by simp [hc', ha])]
      have hc : 0 < (cs.length : Int) := by omega
      by_cases hge : (1000000000000000000 : Int) ≤ cs[a]
      · refine ⟨_, _, .inl (exs_step (env1 := [some (.d (.list (ns.map .int))), some (.d (.int m)), some (.loc 0), none, some (.loc 1), some (.loc 2), some (.d (.int k)), some (.d (.int a)), x8]) (S1 := [.lst (cs.map .int), .lst ((rs.set a (rs[a] / 1000)).map .int), .lst ((ds ++ [rs[a] % 1000]).map .int)]) ?_), sameN _ _, hl', rs.set a (rs[a] / 1000), ds ++ [rs[a] % 1000], _, _, _, rfl, rfl, by simpa using hrs, by simp at hds ⊢; omega⟩
        have h1 := app (rs[a] % 1000)
        simp only [List.map_append, List.map_cons, List.map_nil] at h1
        simp [i1, i2, i3, hge, h1]
      · refine ⟨_, _, .inl (exs_step (env1 := [some (.d (.list (ns.map .int))), some (.d (.int m)), some (.loc 0), none, some (.loc 1), some (.loc 2), some (.d (.int k)), some (.d (.int a)), some (.d (.int ((cs[a] * 48271 + k * 69621 + 11) % 2147483647)))]) (S1 := [.lst (cs.map .int), .lst (rs.map .int), .lst ((ds ++ [(((cs[a] * 48271 + k * 69621 + 11) % 2147483647) * ((cs[a] * 48271 + k * 69621 + 11) % 2147483647) + 3 * ((cs[a] * 48271 + k * 69621 + 11) % 2147483647) + k) % 1000003]).map .int)]) ?_), sameN _ _, hl', rs, ds ++ [_], _, _, _, rfl, rfl, hrs, by simp at hds ⊢; omega⟩
        have hm1 := mulOk_r cs[a] 48271 (by decide) (by decide)
        have hm2 := mulOk_r k 69621 (by decide) (by decide)
        generalize hu : (cs[a] * 48271 + k * 69621 + 11) % 2147483647 = u
        have u1 : 0 ≤ u := by rw [← hu]; exact Int.emod_nonneg _ (by decide)
        have u2 : u < 2147483647 := by rw [← hu]; exact Int.emod_lt_of_pos _ (by decide)
        have hm3 := mulOk_r u u (by omega) (by omega)
        have hm4 := mulOk_l 3 u (by decide) (by decide)
        have h1 := app ((u * u + 3 * u + k) % 1000003)
        simp only [List.map_append, List.map_cons, List.map_nil] at h1
        simp [i1, i2, i3, hge, h1, hm1, hm2, hm3, hm4, hu]) (intsP 0 m) _ _ ⟨intsP_all 0 m, cs, [], none, none, none, rfl, rfl, rfl, by simp [intsP_len]⟩
  refine ⟨ds, cs.map .int, r.map .int, by simpa using hds, ?_⟩
  have hsm : small62 (m : Int) = true := by unfold small62; simp; omega
  rw [exs_step ((ex_rng1 (m := m) (by simp) hsm).trans h1)]
  have hr : mtop [.lst (cs.map .int), .lst (r.map .int), .lst (ds.map .int)] .reverse 2 [] = some (.d .none, [.lst (cs.map .int), .lst (r.map .int), .lst (ds.map .int).reverse]) := mt_reverse (S := [.lst (cs.map .int), .lst (r.map .int), .lst (ds.map .int)]) (l := 2) (ds := ds.map .int) rfl
  rw [exs_step (env1 := [some (.d (.list (ns.map .int))), some (.d (.int m)), some (.loc 0), none, some (.loc 1), some (.loc 2), x6, x7, x8]) (S1 := [.lst (cs.map .int), .lst (r.map .int), .lst (ds.map .int).reverse]) (by simp [hr])]
  simp [dr]
end PW

set_option maxHeartbeats 1000000
namespace PW
open PySem PySem.Spec PyProof.Rows L2
/-! PW9: texts, items -/
@[simp] theorem len_app (x y : Str) : (x ++ y).length = x.length + y.length := by
  show (x.cps ++ y.cps).size = _
  rw [Array.size_append]
  rfl
@[simp] theorem len_one (c : Nat) : (Str.mk #[c]).length = 1 := Eq.trans rfl rfl
theorem len_list (x : Str) : x.cps.toList.length = x.length := rfl
theorem len_cut (z : Str) (lo hi : Option Int) : (L2.cutS z lo hi).length ≤ z.length := by
  show (List.toArray _).size ≤ _
  rw [List.size_toArray, List.length_take, List.length_drop, len_list]
  omega
theorem atI_in {α : Type} {xs : List α} {i : Int} (h0 : 0 ≤ i) (h1 : i < xs.length) : ∃ x, x ∈ xs ∧ L2.atI xs i = some x ∧ xs[i.toNat]? = some x := by
  have hl : i.toNat < xs.length := by omega
  have e : ((i.toNat : Nat) : Int) = i := by omega
  refine ⟨xs[i.toNat], List.getElem_mem hl, ?_, List.getElem?_eq_getElem hl⟩
  have := atI_nat (List.getElem?_eq_getElem hl)
  rw [e] at this
  exact this
theorem idx_str {S : Store} {z : Str} {i : Int} (h0 : 0 ≤ i) (h1 : i < z.length) (hz : z.length ≤ sizeLine) : ∃ c, c ∈ z.cps.toList ∧ idxop S (.d (.str z)) (.d (.int i)) = some (.d (.str ⟨#[c]⟩)) := by
  obtain ⟨c, hc, e, _⟩ := atI_in (xs := z.cps.toList) h0 (by rw [len_list]; exact h1)
  refine ⟨c, hc, ?_⟩
  show (if z.length ≤ sizeLine then (L2.atI z.cps.toList i).map fun c => PV.d (.str ⟨#[c]⟩) else none) = _
  rw [if_pos hz, e]
  rfl
theorem idx_lst {S : Store} {ds : List PyData} {i : Int} (h0 : 0 ≤ i) (h1 : i < ds.length) : ∃ x, x ∈ ds ∧ idxop S (.d (.list ds)) (.d (.int i)) = some (.d x) ∧ ds[i.toNat]? = some x := by
  obtain ⟨c, hc, e, e2⟩ := atI_in (xs := ds.map PV.d) h0 (by simpa using h1)
  rw [List.mem_map] at hc
  obtain ⟨x, hx, rfl⟩ := hc
  refine ⟨x, hx, e, ?_⟩
  rw [List.getElem?_map] at e2
  cases h : ds[i.toNat]? with
  | none => rw [h] at e2; cases e2
  | some y => rw [h] at e2; cases e2; rfl
theorem slice_str {S : Store} {z : Str} {l h : Option Int} (hz : z.length ≤ sizeLine) : sliceV S (.d (.str z)) l h = some (.d (.str (L2.cutS z l h))) := by
  show (if z.length ≤ sizeLine then some (PV.d (.str (L2.cutS z l h))) else none) = _
  rw [if_pos hz]
theorem sizeL {n : Nat} (h : n ≤ 1000000) : n ≤ sizeLine := Nat.le_trans h sizeLine_big
def chr (c : Nat) : PV := .d (.str ⟨#[c]⟩)
theorem walk_str {S : Store} (x : Str) : walkV S [.d (.str x)] = some ⟨x.cps.toList.map chr, none⟩ := rfl
/-- for letter in text: if letter not in L: return False -/
theorem letters_loop {Φ : Fns} {N : Nat} {e : CE} {L : Str} (he : ∀ env S, ev Φ e false env S = .ok (.d (.str L)) S) (t : Option PV) (S : Store) (cs0 : List Nat) (y : Option PV) (w : Walked) (hw : w.at_ = none) :
    (∃ y', forLoop w (bodyM (.slot 1) fun env S => exs Φ N [.ite (.cmp .notin (.var 1) e) [.ret (.lit (.bool false))] []] env S) (cs0.map chr) [t, y] S = .ok ([t, y'], .next) S ∧ (cs0.all fun c => decide (c ∈ L.cps.toList)) = true) ∨
    (∃ env', forLoop w (bodyM (.slot 1) fun env S => exs Φ N [.ite (.cmp .notin (.var 1) e) [.ret (.lit (.bool false))] []] env S) (cs0.map chr) [t, y] S = .ok (env', .ret (.d (.bool false))) S ∧ (cs0.all fun c => decide (c ∈ L.cps.toList)) = false) := by
  induction cs0 generalizing y with
  | nil => exact .inl ⟨y, rfl, rfl⟩
  | cons c cs ih =>
    have hstep : (bodyM (.slot 1) fun env S => exs Φ N [.ite (.cmp .notin (.var 1) e) [.ret (.lit (.bool false))] []] env S) (chr c) [t, y] S = if c ∈ L.cps.toList then .ok ([t, some (chr c)], .next) S else .ok ([t, some (chr c)], .ret (.d (.bool false))) S := by
      by_cases h : c ∈ L.cps.toList
      · simp [he, chr, h]
      · simp [he, chr, h]
    rw [List.map_cons]
    unfold forLoop
    rw [hstep]
    by_cases h : c ∈ L.cps.toList
    · rw [if_pos h, rb_ok]
      dsimp only
      have hs : w.same S := by
        obtain ⟨items, at_⟩ := w
        have hw : at_ = none := hw
        subst hw
        exact sameN _ _
      rw [if_pos hs]
      rcases ih (some (chr c)) with ⟨y', h1, h2⟩ | ⟨env', h1, h2⟩
      · exact .inl ⟨y', h1, by simp only [List.all_cons, h2, h, decide_true, Bool.and_self]⟩
      · exact .inr ⟨env', h1, by simp only [List.all_cons, h2, Bool.and_false]⟩
    · rw [if_neg h, rb_ok]
      exact .inr ⟨_, rfl, by simp only [List.all_cons, h, decide_false, Bool.false_and]⟩
end PW

set_option maxHeartbeats 4000000
namespace PW
open PySem PySem.Spec PyProof.Rows L2
/-! PW10: helpers that the laws share: words -/
@[simp] theorem low_str (x : Str) : lowOk (.str x) = true := Eq.trans rfl rfl
theorem cmp_notinT {S : Store} (x : Str) (ss : List Str) : cmpop S .notin (.d (.str x)) (.d (.tuple (ss.map .str))) = some (!decide (x ∈ ss)) := by
  show (match seqOf S (.d (.tuple (ss.map .str))) with
    | some (_, xs) => match allD xs with
      | some ds => if lowOk (.str x) && ds.all lowOk then some (!(ds.any fun y => PyData.eqv y (.str x))) else none
      | none => none
    | none => none) = _
  simp only [seqOf, allD_map]
  have h1 : (lowOk (.str x) && (ss.map PyData.str).all lowOk) = true := by
    rw [Bool.and_eq_true, List.all_eq_true]
    refine ⟨low_str x, fun z hz => ?_⟩
    obtain ⟨y, _, rfl⟩ := List.mem_map.mp hz
    exact low_str y
  rw [if_pos h1]
  clear h1
  congr 2
  induction ss with
  | nil => rfl
  | cons y r ih =>
    simp only [List.map_cons, List.any_cons, ih, List.mem_cons, Bool.decide_or]
    congr 1
    show (y == x) = decide (x = y)
    by_cases h : x = y
    · subst h; simp
    · have h2 : ¬ y = x := fun e => h e.symm
      simp [h, h2]
@[simp] theorem cmp_inT {S : Store} (x : Str) (ss : List Str) : cmpop S .in_ (.d (.str x)) (.d (.tuple (ss.map .str))) = some (decide (x ∈ ss)) := by
  have h := cmp_notinT (S := S) x ss
  have e : cmpop S .notin (.d (.str x)) (.d (.tuple (ss.map .str))) = (cmpop S .in_ (.d (.str x)) (.d (.tuple (ss.map .str)))).map (!·) := by
    show (match seqOf S (.d (.tuple (ss.map .str))) with
      | some (_, xs) => match allD xs with
        | some ds => if lowOk (.str x) && ds.all lowOk then some (!(ds.any fun y => PyData.eqv y (.str x))) else none
        | none => none
      | none => none) = (match seqOf S (.d (.tuple (ss.map .str))) with
      | some (_, xs) => match allD xs with
        | some ds => if lowOk (.str x) && ds.all lowOk then some (ds.any fun y => PyData.eqv y (.str x)) else none
        | none => none
      | none => none).map (!·)
    simp only [seqOf, allD_map]
    split <;> rfl
  rw [e] at h
  cases hc : cmpop S .in_ (.d (.str x)) (.d (.tuple (ss.map .str))) with
  | none => rw [hc] at h; cases h
  | some b =>
    rw [hc] at h
    simp only [Option.map_some, Option.some.injEq] at h
    rw [Bool.not_inj h]
abbrev abc : Str := "abcdefghijklmnopqrstuvwxyz"
theorem abc_len : abc.length = 26 := by decide +kernel
theorem abc_at : ∀ i : Fin 26, abc.cps.toList[i.val]? = some (97 + i.val) := by decide +kernel
theorem idx_abc {S : Store} {i : Nat} (h : i < 26) : idxop S (.d (.str abc)) (.d (.int i)) = some (.d (.str ⟨#[97 + i]⟩)) := by
  show (if abc.length ≤ sizeLine then (L2.atI abc.cps.toList i).map fun c => PV.d (.str ⟨#[c]⟩) else none) = _
  rw [if_pos (sizeL (by rw [abc_len]; decide)), atI_nat (abc_at ⟨i, h⟩)]
  rfl
def wAux : Nat → Nat → Str → Str
  | 0, _, acc => acc
  | f + 1, n, acc => if n = 0 then acc else wAux f ((n - 1) / 26) (⟨#[97 + (n - 1) % 26]⟩ ++ acc)
def wAt (n : Nat) : Str := wAux 60 n ""
theorem wAux_zero (f : Nat) (acc : Str) : wAux f 0 acc = acc := by cases f <;> rfl
theorem wAux_len : ∀ (f n : Nat) (acc : Str), (wAux f n acc).length ≤ f + acc.length
  | 0, _, acc => by unfold wAux; omega
  | f + 1, n, acc => by
    unfold wAux
    split
    · omega
    · have := wAux_len f ((n - 1) / 26) (⟨#[97 + (n - 1) % 26]⟩ ++ acc)
      rw [len_app, len_one] at this
      omega
theorem wAux_more : ∀ (f n : Nat) (acc : Str), n < 26 ^ f → wAux (f + 1) n acc = wAux f n acc
  | 0, n, acc, h => by
    have : n = 0 := by simpa using h
    subst this
    rfl
  | f + 1, n, acc, h => by
    rw [wAux]
    conv => rhs; rw [wAux]
    split
    · rfl
    · refine wAux_more f _ _ ?_
      rw [Nat.pow_succ] at h
      exact Nat.div_lt_of_lt_mul (by omega)
theorem wAt_len (n : Nat) : (wAt n).length ≤ 60 := wAux_len 60 n ""
def wordB : List CS := [
  .asg (.slot 1) (.lit (.str "")),
  .for_ (.slot 2) .rng1 [(.lit (.int 60))] [
    .ite (.cmp .lt (.var 0) (.lit (.int 1))) [
      .brk] [],
    .asg (.slot 1) (.bin .add (.idx (.lit (.str "abcdefghijklmnopqrstuvwxyz")) (.bin .mod (.bn .int [(.bin .sub (.var 0) (.lit (.int 1)))]) (.lit (.int 26)))) (.var 1)),
    .asg (.slot 0) (.bin .fdiv (.bin .sub (.var 0) (.lit (.int 1))) (.lit (.int 26)))],
  .ret (.var 1)]
theorem word_loop {Φ : Fns} {N : Nat} {S : Store} {w : Walked} (hw : w.at_ = none) : ∀ (xs : List PV) (i : Int) (acc : Str) (k : Option PV), acc.length + xs.length ≤ 1000 → ∃ i' k', forLoop w (bodyM (.slot 2) fun env S => exs Φ N [
    .ite (.cmp .lt (.var 0) (.lit (.int 1))) [
      .brk] [],
    .asg (.slot 1) (.bin .add (.idx (.lit (.str "abcdefghijklmnopqrstuvwxyz")) (.bin .mod (.bn .int [(.bin .sub (.var 0) (.lit (.int 1)))]) (.lit (.int 26)))) (.var 1)),
    .asg (.slot 0) (.bin .fdiv (.bin .sub (.var 0) (.lit (.int 1))) (.lit (.int 26)))] env S) xs [some (.d (.int i)), some (.d (.str acc)), k] S = .ok ([some (.d (.int i')), some (.d (.str (wAux xs.length i.toNat acc))), k'], .next) S := by
  intro xs
  induction xs with
  | nil => exact fun i acc k _ => ⟨i, k, rfl⟩
  | cons v vs ih =>
    intro i acc k hl
    rw [List.length_cons] at hl
    by_cases h : i < 1
    · have h0 : i.toNat = 0 := by omega
      refine ⟨i, some v, ?_⟩
      rw [h0, wAux_zero]
      exact for_brk (by simp [h])
    · have hn : i.toNat ≠ 0 := by omega
      obtain ⟨d, hd⟩ : ∃ d, d = (i.toNat - 1) % 26 := ⟨_, rfl⟩
      obtain ⟨q, hq⟩ : ∃ q, q = (i.toNat - 1) / 26 := ⟨_, rfl⟩
      have e1 : (i - 1) % 26 = (d : Int) := by omega
      have e2 : (i - 1) / 26 = (q : Int) := by omega
      obtain ⟨i', k', ih⟩ := ih (q : Int) (⟨#[97 + d]⟩ ++ acc) (some v) (by rw [len_app, len_one]; omega)
      refine ⟨i', k', ?_⟩
      have hx := idx_abc (S := S) (show d < 26 by omega)
      have hz := sizeL (show 1 + acc.length ≤ 1000000 by omega)
      rw [List.length_cons, wAux, if_neg hn, ← hd, ← hq]
      rw [for_step (env1 := [some (.d (.int (q : Int))), some (.d (.str (⟨#[97 + d]⟩ ++ acc))), some v]) (S1 := S) ?_ (same_at hw S)]
      · exact ih
      · simp [h, e1, e2, hx, hz]
theorem word_ok {T : List FD} {F n j : Nat} {S : Store} (hT : T[j]? = some ⟨3, 1, wordB⟩) (i : Int) : callN T F (n + 1) j [.d (.int i)] S = .ok (.d (.str (wAt i.toNat))) S := by
  rw [callN_at hT, run1_eq rfl]
  show (exs _ _ wordB [some (.d (.int i)), none, none] S).bind retR = _
  unfold wordB
  rw [exs_step (env1 := [some (.d (.int i)), some (.d (.str "")), none]) (S1 := S) (by simp)]
  obtain ⟨i', k', h⟩ := word_loop (Φ := callN T F n) (N := F) (S := S) (w := ⟨intsP 0 60, none⟩) rfl (intsP 0 60) i "" none (by rw [intsP_len]; decide)
  rw [intsP_len] at h
  rw [exs_step ((ex_rng1 (m := 60) (S1 := S) (by simp) (by decide)).trans h)]
  simp [wAt]
end PW

set_option maxHeartbeats 4000000
namespace PW
open PySem PySem.Spec PyProof.Rows L2
/-! PW11: helpers that the laws share: any word, is it the same -/
def someB (jt jw : Nat) : List CS := [
  .asg (.slot 1) (.call false jt [(.var 0), (.lit (.int 1000))]),
  .ite (.cmp .lt (.var 1) (.lit (.int 600))) [
    .ret (.call false jw [(.bin .add (.bin .add (.lit (.int 1)) (.bin .mod (.var 1) (.lit (.int 6)))) (.bin .mul (.lit (.int 26)) (.bin .mod (.bin .fdiv (.var 1) (.lit (.int 6))) (.lit (.int 2)))))])] [],
  .ite (.cmp .lt (.var 1) (.lit (.int 850))) [
    .ret (.call false jw [(.bin .add (.lit (.int 1)) (.call false jt [(.var 0), (.lit (.int 1000))]))])] [],
  .asg (.slot 2) (.bin .add (.bin .mul (.lit (.int 1000000)) (.call false jt [(.var 0), (.lit (.int 1000))])) (.bin .mul (.lit (.int 1000)) (.call false jt [(.var 0), (.lit (.int 1000))]))),
  .ite (.cmp .ge (.var 1) (.lit (.int 950))) [
    .asg (.slot 2) (.bin .mul (.var 2) (.bin .pow (.lit (.int 10)) (.lit (.int 15))))] [],
  .ret (.call false jw [(.bin .add (.bin .add (.lit (.int 1)) (.var 2)) (.call false jt [(.var 0), (.lit (.int 1000))]))])]
@[simp] theorem back_two (al : Bool) (x : PyData) (o o' : Ob) (S : Store) : back al (S.length + 1) (.d x) (o :: S) = .ok (.d x) (o :: S) := by
  unfold back
  simp
theorem some_at {T : List FD} {F n j jt jw : Nat} (S : Store) (hT : T[j]? = some ⟨3, 1, someB jt jw⟩) (ht : T[jt]? = some ⟨2, 2, takeB⟩) (hw : T[jw]? = some ⟨3, 1, wordB⟩) (r : List Int) :
    ∃ (i : Nat) (r' : List Int), 1 ≤ i ∧ callN T F (n + 2) j [.loc 0] (dr r :: S) = .ok (.d (.str (wAt i))) (dr r' :: S) := by
  have tk1 := fun (r : List Int) (m : Int) (hm : 0 < m) => take_ok (F := F) (n := n) ht r S m hm
  have wd := fun (i : Int) (S : Store) => word_ok (F := F) (n := n) (S := S) hw i
  rw [callN_at hT, run1_eq rfl]
  show ∃ (i : Nat) (r' : List Int), _ ∧ (exs _ _ (someB jt jw) [some (.loc 0), none, none] (dr r :: S)).bind retR = _
  unfold someB
  have tkp : ∀ r : List Int, 0 ≤ tk r 1000 := fun r => (tk_range (r := r) (m := 1000) (by decide)).1
  obtain ⟨v, hv⟩ : ∃ v, v = tk r 1000 := ⟨_, rfl⟩
  rw [exs_step (env1 := [some (.loc 0), some (.d (.int v)), none]) (S1 := dr r.tail :: S) (by simp [tk1, hv])]
  by_cases h1 : v < 600
  · have hm := mulOk_l 26 (v / 6 % 2) (by decide) (by decide)
    refine ⟨(1 + v % 6 + 26 * (v / 6 % 2)).toNat, r.tail, by
      have := tkp r
      have := tkp r.tail
      have := tkp r.tail.tail
      have := tkp r.tail.tail.tail
      omega, ?_⟩
    simp [h1, hm, wd]
  · by_cases h2 : v < 850
    · refine ⟨(1 + tk r.tail 1000).toNat, r.tail.tail, by
      have := tkp r
      have := tkp r.tail
      have := tkp r.tail.tail
      have := tkp r.tail.tail.tail
      omega, ?_⟩
      simp [h1, h2, wd, tk1]
    · have m1 := fun x => mulOk_l 1000000 x (by decide) (by decide)
      have m2 := fun x => mulOk_l 1000 x (by decide) (by decide)
      have m3 := fun x => mulOk_r x 1000000000000000 (by decide) (by decide)
      by_cases h3 : 950 ≤ v
      · refine ⟨(1 + (1000000 * tk r.tail 1000 + 1000 * tk r.tail.tail 1000) * 1000000000000000 + tk r.tail.tail.tail 1000).toNat, r.tail.tail.tail.tail, by
      have := tkp r
      have := tkp r.tail
      have := tkp r.tail.tail
      have := tkp r.tail.tail.tail
      omega, ?_⟩
        simp [h1, h2, h3, wd, tk1, m1, m2, m3]
      · refine ⟨(1 + (1000000 * tk r.tail 1000 + 1000 * tk r.tail.tail 1000) + tk r.tail.tail.tail 1000).toNat, r.tail.tail.tail.tail, by
      have := tkp r
      have := tkp r.tail
      have := tkp r.tail.tail
      have := tkp r.tail.tail.tail
      omega, ?_⟩
        simp [h1, h2, h3, wd, tk1, m1, m2, m3]
theorem some_ok {T : List FD} {F n j jt jw : Nat} (S : Store) (hT : T[j]? = some ⟨3, 1, someB jt jw⟩) (ht : T[jt]? = some ⟨2, 2, takeB⟩) (hw : T[jw]? = some ⟨3, 1, wordB⟩) (r : List Int) :
    ∃ (x : Str) (r' : List Int), x.length ≤ 60 ∧ callN T F (n + 2) j [.loc 0] (dr r :: S) = .ok (.d (.str x)) (dr r' :: S) := by
  obtain ⟨i, r', _, h⟩ := some_at (F := F) (n := n) S hT ht hw r
  exact ⟨wAt i, r', wAt_len i, h⟩
/-! the same, kind by kind -/
def sameB (js : Nat) : List CS := [
  .ite (.or (.isi (.var 1) .tuple) (.isi (.var 1) .list)) [
    .ite (.and (.isi (.var 1) .tuple) (.not (.isi (.var 0) .tuple))) [
      .ret (.lit (.bool false))] [],
    .ite (.and (.isi (.var 1) .list) (.not (.isi (.var 0) .list))) [
      .ret (.lit (.bool false))] [],
    .ite (.cmp .ne (.bn .len [(.var 0)]) (.bn .len [(.var 1)])) [
      .ret (.lit (.bool false))] [],
    .for_ (.slot 2) .rng1 [(.bn .len [(.var 1)])] [
      .ite (.not (.call false js [(.idx (.var 0) (.var 2)), (.idx (.var 1) (.var 2))])) [
        .ret (.lit (.bool false))] []],
    .ret (.lit (.bool true))] [],
  .ite (.isi (.var 1) .str) [
    .ret (.and (.isi (.var 0) .str) (.cmp .eq (.var 0) (.var 1)))] [],
  .ite (.isi (.var 1) .bool) [
    .ret (.and (.isi (.var 0) .bool) (.cmp .eq (.var 0) (.var 1)))] [],
  .ret (.and (.isi (.var 0) .int) (.and (.not (.isi (.var 0) .bool)) (.cmp .eq (.var 0) (.var 1))))]
@[simp] theorem isTy_tupS {S : Store} (x : Str) : isTy S .tuple (.d (.str x)) = some false := Eq.trans rfl rfl
@[simp] theorem isTy_lstS {S : Store} (x : Str) : isTy S .list (.d (.str x)) = some false := Eq.trans rfl rfl
@[simp] theorem isTy_lstL {S : Store} (ds : List PyData) : isTy S .list (.d (.list ds)) = some true := Eq.trans rfl rfl
@[simp] theorem isTy_tupL {S : Store} (ds : List PyData) : isTy S .tuple (.d (.list ds)) = some false := Eq.trans rfl rfl
@[simp] theorem isTy_loc {S : Store} (t : Ty) (l : Nat) : isTy S t (.loc l) = (lk S l).map fun _ => decide (t = .list) := by
  have : isTy S t (.loc l) = (match lk S l with
    | some _ => some (decide (t = .list))
    | none => none) := by cases t <;> rfl
  rw [this]
  cases lk S l <;> rfl
theorem same_str {T : List FD} {F n js : Nat} {S : Store} (hT : T[js]? = some ⟨3, 2, sameB js⟩) (x : Str) : callN T F (n + 1) js [.d (.str x), .d (.str x)] S = .ok (.d (.bool true)) S := by
  rw [callN_at hT, run1_eq rfl]
  show (exs _ _ (sameB js) [some (.d (.str x)), some (.d (.str x)), none] S).bind retR = _
  unfold sameB
  simp
theorem idx_seq {S : Store} {v : PV} {xs : List PV} {b : Bool} {i : Nat} {x : PV} (h : seqOf S v = some (b, xs)) (hx : xs[i]? = some x) : idxop S v (.d (.int i)) = some x := by
  have h0 : (match seqOf S v with
    | some (_, xs) => L2.atI xs (i : Int)
    | none => none) = some x := by
    rw [h]
    exact atI_nat hx
  cases v with
  | d y => cases y <;> first | (cases h; done) | exact h0
  | loc l => exact h0
  | mix t ys => exact h0
theorem len_seq {S : Store} {v : PV} {xs : List PV} {b : Bool} (h : seqOf S v = some (b, xs)) : bnop S .len [v] = some (.d (.int xs.length)) := by
  have h0 : (seqOf S v).map (fun p => PV.d (.int p.2.length)) = some (.d (.int xs.length)) := by
    rw [h]
    rfl
  cases v with
  | d y => cases y <;> first | (cases h; done) | exact h0
  | loc l => exact h0
  | mix t ys => exact h0
/-- two lists of the same texts -/
theorem same_list {T : List FD} {F n js : Nat} {S : Store} (hT : T[js]? = some ⟨3, 2, sameB js⟩) (v : PV) (hv : (∃ l, v = .loc l) ∨ ∃ ds, v = .d (.list ds)) (ss : List Str) (hs : seqOf S v = some (false, (ss.map PyData.str).map .d)) (hl : ss.length ≤ 1000000) :
    callN T F (n + 2) js [v, .d (.list (ss.map .str))] S = .ok (.d (.bool true)) S := by
  rw [callN_at hT, run1_eq rfl]
  show (exs _ _ (sameB js) [some v, some (.d (.list (ss.map .str))), none] S).bind retR = _
  unfold sameB
  have hln := len_seq hs
  have hi : isTy S .list v = some true := by
    rcases hv with ⟨l, rfl⟩ | ⟨ds, rfl⟩
    · rw [isTy_loc]
      have h0 : (lk S l).map (fun o => (false, o.items)) = some (false, (ss.map .str).map .d) := hs
      cases e : lk S l with
      | none => rw [e] at h0; cases h0
      | some o => rfl
    · rfl
  have loop : ∀ (xs : List PV) (k : Option PV) (w : Walked), w.at_ = none → (∀ x ∈ xs, ∃ i : Nat, i < ss.length ∧ x = .d (.int i)) → ∃ k', forLoop w (bodyM (.slot 2) fun env S => exs (callN T F (n + 1)) F [
      .ite (.not (.call false js [(.idx (.var 0) (.var 2)), (.idx (.var 1) (.var 2))])) [
        .ret (.lit (.bool false))] []] env S) xs [some v, some (.d (.list (ss.map .str))), k] S = .ok ([some v, some (.d (.list (ss.map .str))), k'], .next) S := by
    intro xs
    induction xs with
    | nil => exact fun k w _ _ => ⟨k, rfl⟩
    | cons x r ih =>
      intro k w hw hx
      obtain ⟨i, hi, rfl⟩ := hx x List.mem_cons_self
      obtain ⟨k', h⟩ := ih (some (.d (.int i))) w hw fun y hy => hx y (List.mem_cons_of_mem _ hy)
      refine ⟨k', ?_⟩
      have i1 := idx_seq (i := i) (x := .d (.str ss[i])) hs (by simp [hi])
      have i2 := idx_seq (S := S) (v := .d (.list (ss.map .str))) (i := i) (x := .d (.str ss[i])) rfl (by simp [hi])
      rw [for_step (env1 := [some v, some (.d (.list (ss.map .str))), some (.d (.int i))]) (S1 := S) ?_ (same_at hw S)]
      · exact h
      · simp [i1, i2, same_str hT]
  have hsm : small62 (ss.length : Int) = true := by unfold small62; simp; omega
  obtain ⟨k', h1⟩ := loop (intsP 0 ss.length) none ⟨intsP 0 ss.length, none⟩ rfl (fun x hx => by
    unfold intsP at hx
    obtain ⟨i, hi, rfl⟩ := List.mem_map.mp hx
    exact ⟨i, List.mem_range.mp hi, by simp⟩)
  have h2 := (ex_rng1 (Φ := callN T F (n + 1)) (N := F) (tg := .slot 2) (src := [(.bn .len [(.var 1)])]) (env := [some v, some (.d (.list (ss.map .str))), none]) (m := ss.length) (S := S) (S1 := S) (by simp) hsm).trans h1
  rw [exs_cons]
  simp only [ex_ite, ev_orT, ev_isi, ev_var, get_succ, get_zero, orStuck_some, rb_ok, isTy_tupL, isTy_lstL, Option.map_some, asBool_bool, orV_b, condR_b, Bool.false_eq_true, if_false, if_true]
  have s1 : ex (callN T F (n + 1)) F (.ite (.and (.isi (.var 1) .tuple) (.not (.isi (.var 0) .tuple))) [.ret (.lit (.bool false))] []) [some v, some (.d (.list (ss.map .str))), none] S = .ok ([some v, some (.d (.list (ss.map .str))), none], .next) S := by simp
  have s2 : ex (callN T F (n + 1)) F (.ite (.and (.isi (.var 1) .list) (.not (.isi (.var 0) .list))) [.ret (.lit (.bool false))] []) [some v, some (.d (.list (ss.map .str))), none] S = .ok ([some v, some (.d (.list (ss.map .str))), none], .next) S := by simp [hi]
  have s3 : ex (callN T F (n + 1)) F (.ite (.cmp .ne (.bn .len [(.var 0)]) (.bn .len [(.var 1)])) [.ret (.lit (.bool false))] []) [some v, some (.d (.list (ss.map .str))), none] S = .ok ([some v, some (.d (.list (ss.map .str))), none], .next) S := by simp [hln]
  rw [exs_step s1, exs_step s2, exs_step s3, exs_step h2]
  simp
def augX (o : Option PV) (f : PV → Res (Env × Fl)) : Res (Env × Fl) := match o with
  | some x => f x
  | none => .stuck
@[simp] theorem augX_some (x : PV) (f : PV → Res (Env × Fl)) : augX (some x) f = f x := Eq.trans rfl rfl
@[simp] theorem ex_augX {Φ : Fns} {N : Nat} {env : Env} {S : Store} (i : Nat) (o : Bop) (e : CE) : ex Φ N (.aug i o e) env S = augX (env.get i) fun x => (ev Φ e false env S).bind fun y S1 => augR env i (augop o x y) S1 := Eq.trans rfl rfl
theorem ex_rng2 {Φ : Fns} {N : Nat} {env : Env} {S S1 : Store} {tg : Tg} {src : List CE} {body : List CS} {i j : Int} (h : evs Φ src env S = .ok [.d (.int i), .d (.int j)] S1) (hi : small62 i = true) (hj : small62 j = true) : ex Φ N (.for_ tg .rng2 src body) env S = forLoop ⟨intsP i (j - i).toNat, none⟩ (bodyM tg fun env S => exs Φ N body env S) (intsP i (j - i).toNat) env S1 := by
  have hw : walkOf S1 .rng2 [.d (.int i), .d (.int j)] = some ⟨intsP i (j - i).toNat, none⟩ := by
    show (if (small62 i && small62 j) = true then some (Walked.mk (intsP i (j - i).toNat) none) else none) = _
    rw [hi, hj]
    rfl
  rw [ex_for, h, rb_ok, hw, forR_some]
theorem small_of {i : Int} (h1 : -1000000 ≤ i) (h2 : i ≤ 1000000) : small62 i = true := by
  unfold small62
  simp only [Bool.and_eq_true, decide_eq_true_eq]
  constructor <;> omega
end PW

set_option maxHeartbeats 4000000
namespace PW
open PySem PySem.Spec PyProof.Rows L2
/-! PW12: helpers that the laws share: the same as itself; a cell of the script -/
def okD : Nat → PyData → Bool
  | _, .str _ => true
  | _, .bool _ => true
  | _, .int _ => true
  | k + 1, .tuple ds => decide (ds.length ≤ 1000000) && ds.all (okD k)
  | k + 1, .list ds => decide (ds.length ≤ 1000000) && ds.all (okD k)
  | _, _ => false
@[simp] theorem isTy_tupT {S : Store} (ds : List PyData) : isTy S .tuple (.d (.tuple ds)) = some true := Eq.trans rfl rfl
@[simp] theorem isTy_lstT {S : Store} (ds : List PyData) : isTy S .list (.d (.tuple ds)) = some false := Eq.trans rfl rfl
@[simp] theorem isTy_tupI {S : Store} (i : Int) : isTy S .tuple (.d (.int i)) = some false := Eq.trans rfl rfl
@[simp] theorem isTy_lstI {S : Store} (i : Int) : isTy S .list (.d (.int i)) = some false := Eq.trans rfl rfl
@[simp] theorem isTy_strI {S : Store} (i : Int) : isTy S .str (.d (.int i)) = some false := Eq.trans rfl rfl
@[simp] theorem isTy_tupB {S : Store} (i : Bool) : isTy S .tuple (.d (.bool i)) = some false := Eq.trans rfl rfl
@[simp] theorem isTy_lstB {S : Store} (i : Bool) : isTy S .list (.d (.bool i)) = some false := Eq.trans rfl rfl
@[simp] theorem isTy_strB {S : Store} (i : Bool) : isTy S .str (.d (.bool i)) = some false := Eq.trans rfl rfl
theorem same_int {T : List FD} {F n js : Nat} {S : Store} (hT : T[js]? = some ⟨3, 2, sameB js⟩) (i : Int) : callN T F (n + 1) js [.d (.int i), .d (.int i)] S = .ok (.d (.bool true)) S := by
  rw [callN_at hT, run1_eq rfl]
  show (exs _ _ (sameB js) [some (.d (.int i)), some (.d (.int i)), none] S).bind retR = _
  unfold sameB
  simp
theorem same_bool {T : List FD} {F n js : Nat} {S : Store} (hT : T[js]? = some ⟨3, 2, sameB js⟩) (i : Bool) : callN T F (n + 1) js [.d (.bool i), .d (.bool i)] S = .ok (.d (.bool true)) S := by
  rw [callN_at hT, run1_eq rfl]
  show (exs _ _ (sameB js) [some (.d (.bool i)), some (.d (.bool i)), none] S).bind retR = _
  unfold sameB
  simp
theorem same_seq {T : List FD} {F n js : Nat} {S : Store} (hT : T[js]? = some ⟨3, 2, sameB js⟩) (x : PyData) (ds : List PyData) (hx : x = .tuple ds ∨ x = .list ds) (hl : ds.length ≤ 1000000) (ih : ∀ y ∈ ds, callN T F n js [.d y, .d y] S = .ok (.d (.bool true)) S) :
    callN T F (n + 1) js [.d x, .d x] S = .ok (.d (.bool true)) S := by
  rw [callN_at hT, run1_eq rfl]
  show (exs _ _ (sameB js) [some (.d x), some (.d x), none] S).bind retR = _
  unfold sameB
  obtain ⟨b, hs⟩ : ∃ b, seqOf S (.d x) = some (b, ds.map .d) := by
    rcases hx with rfl | rfl
    · exact ⟨true, rfl⟩
    · exact ⟨false, rfl⟩
  have hln := len_seq hs
  rw [List.length_map] at hln
  have loop : ∀ (xs : List PV) (k : Option PV) (w : Walked), w.at_ = none → (∀ x ∈ xs, ∃ i : Nat, i < ds.length ∧ x = .d (.int i)) → ∃ k', forLoop w (bodyM (.slot 2) fun env S => exs (callN T F n) F [
      .ite (.not (.call false js [(.idx (.var 0) (.var 2)), (.idx (.var 1) (.var 2))])) [
        .ret (.lit (.bool false))] []] env S) xs [some (.d x), some (.d x), k] S = .ok ([some (.d x), some (.d x), k'], .next) S := by
    intro xs
    induction xs with
    | nil => exact fun k w _ _ => ⟨k, rfl⟩
    | cons y r ih2 =>
      intro k w hw hy
      obtain ⟨i, hi, rfl⟩ := hy y List.mem_cons_self
      obtain ⟨k', h⟩ := ih2 (some (.d (.int i))) w hw fun y hy2 => hy y (List.mem_cons_of_mem _ hy2)
      refine ⟨k', ?_⟩
      have i1 := idx_seq (i := i) (x := .d ds[i]) hs (by simp [hi])
      have i2 := ih ds[i] (List.getElem_mem hi)
      rw [for_step (env1 := [some (.d x), some (.d x), some (.d (.int i))]) (S1 := S) ?_ (same_at hw S)]
      · exact h
      · simp [i1, i2]
  have hsm : small62 (ds.length : Int) = true := small_of (by omega) (by omega)
  obtain ⟨k', h1⟩ := loop (intsP 0 ds.length) none ⟨intsP 0 ds.length, none⟩ rfl (fun x hx => by
    unfold intsP at hx
    obtain ⟨i, hi, rfl⟩ := List.mem_map.mp hx
    exact ⟨i, List.mem_range.mp hi, by simp⟩)
  have h2 := (ex_rng1 (Φ := callN T F n) (N := F) (tg := .slot 2) (src := [(.bn .len [(.var 1)])]) (env := [some (.d x), some (.d x), none]) (m := ds.length) (S := S) (S1 := S) (by simp [hln]) hsm).trans h1
  have s1 : ex (callN T F n) F (.ite (.and (.isi (.var 1) .tuple) (.not (.isi (.var 0) .tuple))) [.ret (.lit (.bool false))] []) [some (.d x), some (.d x), none] S = .ok ([some (.d x), some (.d x), none], .next) S := by
    rcases hx with rfl | rfl <;> simp
  have s2 : ex (callN T F n) F (.ite (.and (.isi (.var 1) .list) (.not (.isi (.var 0) .list))) [.ret (.lit (.bool false))] []) [some (.d x), some (.d x), none] S = .ok ([some (.d x), some (.d x), none], .next) S := by
    rcases hx with rfl | rfl <;> simp
  have s3 : ex (callN T F n) F (.ite (.cmp .ne (.bn .len [(.var 0)]) (.bn .len [(.var 1)])) [.ret (.lit (.bool false))] []) [some (.d x), some (.d x), none] S = .ok ([some (.d x), some (.d x), none], .next) S := by simp [hln]
  have s0 : asBool (ev (callN T F n) (.or (.isi (.var 1) .tuple) (.isi (.var 1) .list)) true [some (.d x), some (.d x), none] S) = .ok (.d (.bool true)) S := by
    rcases hx with rfl | rfl <;> simp
  rw [exs_cons, ex_ite, s0, rb_ok, condR_b, if_pos rfl, exs_step s1, exs_step s2, exs_step s3, exs_step h2]
  simp
theorem same_refl {T : List FD} {F n js : Nat} {S : Store} (hT : T[js]? = some ⟨3, 2, sameB js⟩) : ∀ (k : Nat) (x : PyData), okD k x = true → callN T F (n + k + 1) js [.d x, .d x] S = .ok (.d (.bool true)) S := by
  intro k
  induction k with
  | zero =>
    intro x h
    cases x with
    | str x => exact same_str hT x
    | int x => exact same_int hT x
    | bool x => exact same_bool hT x
    | _ => cases h
  | succ k ih =>
    intro x h
    cases x with
    | str x => exact same_str hT x
    | int x => exact same_int hT x
    | bool x => exact same_bool hT x
    | tuple ds =>
      have h : (decide (ds.length ≤ 1000000) && ds.all (okD k)) = true := h
      rw [Bool.and_eq_true, decide_eq_true_eq, List.all_eq_true] at h
      exact same_seq hT _ ds (.inl rfl) h.1 fun y hy => ih y (h.2 y hy)
    | list ds =>
      have h : (decide (ds.length ≤ 1000000) && ds.all (okD k)) = true := h
      rw [Bool.and_eq_true, decide_eq_true_eq, List.all_eq_true] at h
      exact same_seq hT _ ds (.inr rfl) h.1 fun y hy => ih y (h.2 y hy)
    | _ => cases h
def cellB (jt : Nat) : List CS := [
  .ite (.cmp .eq (.bn .len [(.var 0)]) (.lit (.int 0))) [
    .ret (.lit (.int 0))] [],
  .ret (.bn .int [(.idx (.var 0) (.call false jt [(.var 1), (.bn .len [(.var 0)])]))])]
theorem cell_ok {T : List FD} {F n j jt : Nat} (S : Store) (hT : T[j]? = some ⟨2, 2, cellB jt⟩) (ht : T[jt]? = some ⟨2, 2, takeB⟩) (ns : List Int) (r : List Int) :
    ∃ (i : Int) (r' : List Int), callN T F (n + 2) j [.d (.list (ns.map .int)), .loc 0] (dr r :: S) = .ok (.d (.int i)) (dr r' :: S) := by
  rw [callN_at hT, run1_eq rfl]
  show ∃ (i : Int) (r' : List Int), (exs _ _ (cellB jt) [some (.d (.list (ns.map .int))), some (.loc 0)] (dr r :: S)).bind retR = _
  unfold cellB
  cases ns with
  | nil => exact ⟨0, r, by simp⟩
  | cons x0 ns =>
    have hp : (0 : Int) < ((x0 :: ns).length : Int) := by simp
    obtain ⟨b1, b2⟩ := tk_range (r := r) hp
    have t1 := take_ok (F := F) (n := n) ht r S _ hp
    obtain ⟨v, hv, hi, _⟩ := idx_lst (S := dr r.tail :: S) (ds := (x0 :: ns).map .int) b1 (by rw [List.length_map]; exact b2)
    obtain ⟨i, _, rfl⟩ := List.mem_map.mp hv
    refine ⟨i, r.tail, ?_⟩
    have h0 : ¬ (((x0 :: ns).length : Int) = 0) := by omega
    generalize (x0 :: ns) = l at *
    have h0' : ¬ l = [] := by rintro rfl; exact h0 rfl
    simp [h0', t1, hi]
end PW

set_option maxHeartbeats 1000000
namespace PW
open PySem PySem.Spec PyProof.Rows L2
/-! PW13: runs told by what they end in; simp evaluates what comes first and leaves what comes later -/
/-- r ends well, with Q -/
def Wp {α : Type} (r : Res α) (Q : α → Store → Prop) : Prop := ∃ a S, r = .ok a S ∧ Q a S
section
variable {α β γ : Type}
@[simp] theorem wp_ok {a : α} {S : Store} {Q : α → Store → Prop} : Wp (.ok a S) Q ↔ Q a S :=
  ⟨fun ⟨_, _, e, h⟩ => by cases e; exact h, fun h => ⟨a, S, rfl, h⟩⟩
theorem wp_bind {r : Res α} {f : α → Store → Res β} {Q : β → Store → Prop} (h : Wp r fun a S => Wp (f a S) Q) : Wp (r.bind f) Q := by
  obtain ⟨a, S, rfl, h⟩ := h
  exact h
theorem wp_mono {r : Res α} {P Q : α → Store → Prop} (h : Wp r P) (hp : ∀ a S, P a S → Q a S) : Wp r Q := by
  obtain ⟨a, S, e, h⟩ := h
  exact ⟨a, S, e, hp _ _ h⟩
/-- a call, then the rest -/
theorem wp_call {r : Res α} {f : α → Store → Res β} {P : α → Store → Prop} {Q : β → Store → Prop} (h : Wp r P) (hp : ∀ a S, P a S → Wp (f a S) Q) : Wp (r.bind f) Q :=
  wp_bind (wp_mono h hp)
theorem wp_eq {r : Res α} {a : α} {S : Store} (h : r = .ok a S) : Wp r fun b T => b = a ∧ T = S := ⟨a, S, h, rfl, rfl⟩
@[simp] theorem rb_assoc (r : Res α) (f : α → Store → Res β) (g : β → Store → Res γ) : (r.bind f).bind g = r.bind fun a S => (f a S).bind g := by cases r <;> rfl


/-- loops -/
theorem wp_for {w : Walked} {step : PV → Env → Store → Res (Env × Fl)} {Q : Env × Fl → Store → Prop} (I : List PV → Env → Store → Prop) {xs : List PV} {env : Env} {S : Store} (h0 : I xs env S)
    (hs : ∀ x r env S, I (x :: r) env S → Wp (step x env S) fun p S' => match p.2 with
      | .next => w.same S' ∧ I r p.1 S'
      | .cont => w.same S' ∧ I r p.1 S'
      | .brk => Q (p.1, .next) S'
      | .ret v => Q (p.1, .ret v) S')
    (hn : ∀ env S, I [] env S → Q (env, .next) S) : Wp (forLoop w step xs env S) Q := by
  induction xs generalizing env S with
  | nil => exact ⟨_, _, rfl, hn _ _ h0⟩
  | cons x r ih =>
    obtain ⟨⟨env1, f⟩, S1, e, h⟩ := hs x r env S h0
    unfold forLoop
    rw [e]
    cases f with
    | next =>
      simp only [rb_ok]
      rw [if_pos h.1]
      exact ih h.2
    | cont =>
      simp only [rb_ok]
      rw [if_pos h.1]
      exact ih h.2
    | brk => exact ⟨_, _, rfl, h⟩
    | ret v => exact ⟨_, _, rfl, h⟩
theorem wp_comp {w : Walked} {step : PV → Store → Res (List PV)} {Q : List PV → Store → Prop} (I : List PV → List PV → Store → Prop) {xs : List PV} {S : Store} (h0 : I xs [] S)
    (hs : ∀ x r acc S, I (x :: r) acc S → Wp (step x S) fun ys S' => w.same S' ∧ I r (acc ++ ys) S') (hn : ∀ acc S, I [] acc S → Q acc S) : Wp (compLoop w step xs S) Q := by
  obtain ⟨zs, S', h1, h2⟩ := comp_ind I (fun x r acc S h => by
    obtain ⟨ys, S', e, h⟩ := hs x r acc S h
    exact ⟨ys, S', e, h.1, h.2⟩) xs [] S h0
  exact ⟨zs, S', h1, hn _ _ (by simpa using h2)⟩
/-- the same, with an end that simp leaves alone -/
theorem wp_forQ {w : Walked} {step : PV → Env → Store → Res (Env × Fl)} {Q : Env × Fl → Store → Prop} (I : List PV → Env → Store → Prop) {xs : List PV} {env : Env} {S : Store} (h0 : I xs env S)
    (hs : ∀ (x : PV) (r : List PV) (env : Env) (S : Store) (Q' : Env × Fl → Store → Prop), I (x :: r) env S → (∀ env' S', w.same S' → I r env' S' → Q' (env', .next) S') → (∀ env' S', w.same S' → I r env' S' → Q' (env', .cont) S') →
      (∀ env' S', Q (env', .next) S' → Q' (env', .brk) S') → (∀ env' v S', Q (env', .ret v) S' → Q' (env', .ret v) S') → Wp (step x env S) Q')
    (hn : ∀ env S, I [] env S → Q (env, .next) S) : Wp (forLoop w step xs env S) Q :=
  wp_for I h0 (fun x r env S h => hs x r env S _ h (fun _ _ h1 h2 => ⟨h1, h2⟩) (fun _ _ h1 h2 => ⟨h1, h2⟩) (fun _ _ h => h) (fun _ _ _ h => h)) hn
theorem wp_compQ {w : Walked} {step : PV → Store → Res (List PV)} {Q : List PV → Store → Prop} (I : List PV → List PV → Store → Prop) {xs : List PV} {S : Store} (h0 : I xs [] S)
    (hs : ∀ (x : PV) (r acc : List PV) (S : Store) (Q' : List PV → Store → Prop), I (x :: r) acc S → (∀ ys S', w.same S' → I r (acc ++ ys) S' → Q' ys S') → Wp (step x S) Q') (hn : ∀ acc S, I [] acc S → Q acc S) : Wp (compLoop w step xs S) Q :=
  wp_comp I h0 (fun x r acc S h => hs x r acc S _ h fun _ _ h1 h2 => ⟨h1, h2⟩) hn
/-- noErr before a bind -/
def stepC (elt : Env → Store → Res PV) (env : Env) (v : PV) (S : Store) : Res (List PV) := match v with
  | .d (.bool true) => (elt env S).bind fun y S4 => .ok [y] S4
  | .d (.bool false) => .ok [] S
  | _ => .stuck
@[simp] theorem stepC_b (elt : Env → Store → Res PV) (env : Env) (b : Bool) (S : Store) : stepC elt env (.d (.bool b)) S = if b = true then (elt env S).bind fun y S4 => .ok [y] S4 else .ok [] S := by cases b <;> rfl
theorem step_slot' (i : Nat) (env : Env) (c elt : Env → Store → Res PV) (x : PV) (S : Store) : compStep env (.slot i) (some c) elt x S = (asBool (c (env.set i (some x)) S)).bind (stepC elt (env.set i (some x))) := Eq.trans rfl rfl
theorem wp_noErr {r : Res α} {Q : α → Store → Prop} (h : Wp r Q) : Wp (noErr r) Q := by
  obtain ⟨a, S, rfl, h⟩ := h
  exact ⟨a, S, rfl, h⟩
end
def optW (o : Option Walked) (S : Store) : Res Walked := match o with
  | some w => .ok w S
  | none => .stuck
@[simp] theorem optW_some (w : Walked) (S : Store) : optW (some w) S = .ok w S := Eq.trans rfl rfl
@[simp] theorem walkM_opt (k : Ik) (ms : Env → Store → Res (List PV)) (env : Env) (S : Store) : walkM k ms env S = (ms env S).bind fun vs S1 => optW (walkOf S1 k vs) S1 := by
  unfold walkM
  congr 1
@[simp] theorem evc_nil (Φ : Fns) : evc Φ [] = none := Eq.trans rfl rfl
@[simp] theorem evc_cons (Φ : Fns) (c : CE) (r : List CE) : evc Φ (c :: r) = some fun env S => ev Φ c true env S := Eq.trans rfl rfl
/-! statement by statement -/
/-- behind a statement: the rest, or the end -/
def seqQ (Φ : Fns) (N : Nat) (r : List CS) (Q : Env × Fl → Store → Prop) (p : Env × Fl) (S : Store) : Prop := match p.2 with
  | .next => Wp (exs Φ N r p.1 S) Q
  | _ => Q p S
section
variable {Φ : Fns} {N : Nat} {r : List CS} {Q : Env × Fl → Store → Prop} {env : Env} {S : Store}
@[simp] theorem seqQ_next : seqQ Φ N r Q (env, .next) S = Wp (exs Φ N r env S) Q := Eq.trans rfl rfl
@[simp] theorem seqQ_ret (v : PV) : seqQ Φ N r Q (env, .ret v) S = Q (env, .ret v) S := Eq.trans rfl rfl
@[simp] theorem seqQ_brk : seqQ Φ N r Q (env, .brk) S = Q (env, .brk) S := Eq.trans rfl rfl
@[simp] theorem seqQ_cont : seqQ Φ N r Q (env, .cont) S = Q (env, .cont) S := Eq.trans rfl rfl
theorem wp_seq {s : CS} (h : Wp (ex Φ N s env S) (seqQ Φ N r Q)) : Wp (exs Φ N (s :: r) env S) Q := by
  obtain ⟨⟨env1, f⟩, S1, e, h⟩ := h
  rw [exs_cons, e]
  cases f with
  | next => exact h
  | ret v => exact ⟨_, _, rfl, h⟩
  | brk => exact ⟨_, _, rfl, h⟩
  | cont => exact ⟨_, _, rfl, h⟩
def retQ (Q : PV → Store → Prop) (p : Env × Fl) (S : Store) : Prop := match p.2 with
  | .ret v => Q v S
  | .next => Q (.d .none) S
  | _ => False
variable {P : PV → Store → Prop}
@[simp] theorem retQ_ret (v : PV) : retQ P (env, .ret v) S = P v S := Eq.trans rfl rfl
@[simp] theorem retQ_next : retQ P (env, .next) S = P (.d .none) S := Eq.trans rfl rfl
theorem wp_fn {T : List FD} {F n j : Nat} {d : FD} {args : List PV} (h : T[j]? = some d) (hl : args.length = d.params) (q : Wp (exs (callN T F n) F d.body (start d args) S) (retQ P)) : Wp (callN T F (n + 1) j args S) P := by
  rw [callN_at h, run1_eq hl]
  obtain ⟨⟨env1, f⟩, S1, e, h⟩ := q
  rw [e]
  cases f with
  | next => exact ⟨_, _, rfl, h⟩
  | ret v => exact ⟨_, _, rfl, h⟩
  | brk => exact h.elim
  | cont => exact h.elim
theorem wp_to {α : Type} {r : Res α} {a : α} {S : Store} (h : Wp r fun v S' => v = a ∧ S' = S) : r = .ok a S := by
  obtain ⟨_, _, e, rfl, rfl⟩ := h
  exact e
theorem wp_ite {α : Type} {c : Prop} [Decidable c] {x y : Res α} {Q : α → Store → Prop} (h1 : c → Wp x Q) (h2 : ¬ c → Wp y Q) : Wp (if c then x else y) Q := by
  split
  · exact h1 ‹_›
  · exact h2 ‹_›
@[simp] theorem putR_tup2 (i j : Nat) (env : Env) (x y : PyData) (S : Store) : putR (.tup [i, j]) env (.d (.tuple [x, y])) S = .ok ((env.set i (some (.d x))).set j (some (.d y)), .next) S := Eq.trans rfl rfl
@[simp] theorem bodyM_tup2 (i j : Nat) (mb : PW.Env → Store → Res (PW.Env × Fl)) (x y : PyData) (env : PW.Env) (S : Store) : bodyM (.tup [i, j]) mb (.d (.tuple [x, y])) env S = mb ((env.set i (some (.d x))).set j (some (.d y))) S := Eq.trans rfl rfl
end
/-! tuples that are told item by item -/
section
variable {S : Store}
@[simp] theorem ix_t0 (x : PyData) (r : List PyData) : idxop S (.d (.tuple (x :: r))) (.d (.int 0)) = some (.d x) := idx_seq (i := 0) (S := S) (v := .d (.tuple (x :: r))) rfl rfl
@[simp] theorem ix_t1 (x y : PyData) (r : List PyData) : idxop S (.d (.tuple (x :: y :: r))) (.d (.int 1)) = some (.d y) := idx_seq (i := 1) (S := S) (v := .d (.tuple (x :: y :: r))) rfl rfl
@[simp] theorem ix_t2 (x y z : PyData) (r : List PyData) : idxop S (.d (.tuple (x :: y :: z :: r))) (.d (.int 2)) = some (.d z) := idx_seq (i := 2) (S := S) (v := .d (.tuple (x :: y :: z :: r))) rfl rfl
@[simp] theorem ix_t3 (x y z u : PyData) (r : List PyData) : idxop S (.d (.tuple (x :: y :: z :: u :: r))) (.d (.int 3)) = some (.d u) := idx_seq (i := 3) (S := S) (v := .d (.tuple (x :: y :: z :: u :: r))) rfl rfl
@[simp] theorem ix_l0 (x : PyData) (r : List PyData) : idxop S (.d (.list (x :: r))) (.d (.int 0)) = some (.d x) := idx_seq (i := 0) (S := S) (v := .d (.list (x :: r))) rfl rfl
@[simp] theorem ix_l1 (x y : PyData) (r : List PyData) : idxop S (.d (.list (x :: y :: r))) (.d (.int 1)) = some (.d y) := idx_seq (i := 1) (S := S) (v := .d (.list (x :: y :: r))) rfl rfl
@[simp] theorem mkT0 : mkTup [] = .d (.tuple []) := Eq.trans rfl rfl
@[simp] theorem mkT1' (x : PyData) : mkTup [.d x] = .d (.tuple [x]) := Eq.trans rfl rfl
@[simp] theorem mkT2' (x y : PyData) : mkTup [.d x, .d y] = .d (.tuple [x, y]) := Eq.trans rfl rfl
@[simp] theorem mkT3' (x y z : PyData) : mkTup [.d x, .d y, .d z] = .d (.tuple [x, y, z]) := Eq.trans rfl rfl
@[simp] theorem mkT4' (x y z u : PyData) : mkTup [.d x, .d y, .d z, .d u] = .d (.tuple [x, y, z, u]) := Eq.trans rfl rfl
@[simp] theorem mkL0 : mkLst [] = .d (.list []) := Eq.trans rfl rfl
@[simp] theorem mkL1' (x : PyData) : mkLst [.d x] = .d (.list [x]) := Eq.trans rfl rfl
@[simp] theorem mkL2' (x y : PyData) : mkLst [.d x, .d y] = .d (.list [x, y]) := Eq.trans rfl rfl
@[simp] theorem mkL3' (x y z : PyData) : mkLst [.d x, .d y, .d z] = .d (.list [x, y, z]) := Eq.trans rfl rfl
@[simp] theorem mkL4' (x y z u : PyData) : mkLst [.d x, .d y, .d z, .d u] = .d (.list [x, y, z, u]) := Eq.trans rfl rfl
@[simp] theorem sl0 : 0 ≤ sizeLine := Nat.zero_le _
@[simp] theorem sl1 : 1 ≤ sizeLine := sizeL (by decide)
@[simp] theorem sl2 : 2 ≤ sizeLine := sizeL (by decide)
@[simp] theorem sl3 : 3 ≤ sizeLine := sizeL (by decide)
@[simp] theorem sl4 : 4 ≤ sizeLine := sizeL (by decide)
@[simp] theorem sl5 : 5 ≤ sizeLine := sizeL (by decide)
@[simp] theorem sl6 : 6 ≤ sizeLine := sizeL (by decide)
@[simp] theorem sl8 : 8 ≤ sizeLine := sizeL (by decide)
end
/-! a call, and what it leaves -/
theorem back_app {al : Bool} {S L : Store} {r : List Int} {x : PyData} (h : S.all Ob.free = true) : back al (S.length + 1) (.d x) (dr r :: (S ++ L)) = .ok (.d x) (dr r :: S) := by
  have e : (dr r :: (S ++ L)).take (S.length + 1) = dr r :: S := by simp
  rw [back_bool, e, if_pos (all_under _ (by simpa using h))]
@[simp] theorem back_dr {al : Bool} {S : Store} {r : List Int} {x : PyData} : back al (S.length + 1) (.d x) (dr r :: S) = .ok (.d x) (dr r :: S) := by
  unfold back
  simp
end PW

set_option maxHeartbeats 4000000
namespace PW
open PySem PySem.Spec PyProof.Rows L2
/-! PW14: requests: pairs looked up by a field -/
abbrev Prs := List (Str × PyData)
def pr (p : Str × PyData) : PyData := .tuple [.str p.1, p.2]
def secD (ps : Prs) : PyData := .tuple (ps.map pr)
def look : Prs → Str → PyData → PyData
  | [], _, d => d
  | p :: r, f, d => if p.1 = f then p.2 else look r f d
theorem look_ok {P : PyData → Prop} {ps : Prs} {f : Str} {d : PyData} (h : ∀ p ∈ ps, P p.2) (hd : P d) : P (look ps f d) := by
  induction ps with
  | nil => exact hd
  | cons p r ih =>
    unfold look
    split
    · exact h p List.mem_cons_self
    · exact ih fun q hq => h q (List.mem_cons_of_mem _ hq)
theorem walk_tup {S : Store} (ds : List PyData) : walkV S [.d (.tuple ds)] = some ⟨ds.map .d, none⟩ := rfl
theorem walk_list {S : Store} (ds : List PyData) : walkV S [.d (.list ds)] = some ⟨ds.map .d, none⟩ := rfl
@[simp] theorem walkOf_tup {S : Store} (ds : List PyData) : walkOf S .of [.d (.tuple ds)] = some ⟨ds.map .d, none⟩ := Eq.trans rfl rfl
@[simp] theorem walkOf_list {S : Store} (ds : List PyData) : walkOf S .of [.d (.list ds)] = some ⟨ds.map .d, none⟩ := Eq.trans rfl rfl
@[simp] theorem walkOf_sec {S : Store} (ps : Prs) : walkOf S .of [.d (secD ps)] = some ⟨(ps.map pr).map .d, none⟩ := Eq.trans rfl rfl
def valueB : List CS := [
  .for_ (.tup [3, 4]) .of [(.var 0)] [
    .ite (.cmp .eq (.var 3) (.var 1)) [
      .ret (.var 4)] []],
  .ret (.var 2)]
def atB : List CS := [
  .for_ (.slot 3) .of [(.var 0)] [
    .ite (.cmp .eq (.idx (.var 3) (.lit (.int 0))) (.var 1)) [
      .ret (.idx (.var 3) (.lit (.int 1)))] []],
  .ret (.var 2)]
section
variable {T : List FD} {F n j jv : Nat} {S : Store}
theorem value_in_ok (hT : T[j]? = some ⟨5, 3, valueB⟩) (ps : Prs) (f : Str) (d : PyData) : callN T F (n + 1) j [.d (secD ps), .d (.str f), .d d] S = .ok (.d (look ps f d)) S := by
  refine wp_to (wp_fn hT rfl ?_)
  show Wp (exs _ _ valueB [some (.d (secD ps)), some (.d (.str f)), some (.d d), none, none] S) _
  unfold valueB
  (refine wp_seq ?_; simp [-exs_cons])
  refine wp_for (fun xs env S' => ∃ (qs : Prs) (x3 x4 : Option PV), xs = (qs.map pr).map .d ∧ env = [some (.d (secD ps)), some (.d (.str f)), some (.d d), x3, x4] ∧ S' = S ∧ look ps f d = look qs f d) ⟨ps, none, none, by simp, rfl, rfl, rfl⟩ ?_ ?_
  · rintro x r env S' ⟨qs, x3, x4, hx, rfl, rfl, hl⟩
    cases qs with
    | nil => cases hx
    | cons p qs =>
      obtain ⟨g, v⟩ := p
      cases hx
      simp only [pr, bodyM_tup2]
      (refine wp_seq ?_; simp [-exs_cons])
      by_cases h : g = f
      · simp [-exs_cons, h]
        (refine wp_seq ?_; simp [-exs_cons])
        rw [hl]
        simp [look, h]
      · simp [-exs_cons, h]
        exact ⟨_, rfl, hl.trans (if_neg h)⟩
  · rintro env S' ⟨qs, x3, x4, hx, rfl, rfl, hl⟩
    cases qs with
    | cons p qs => cases hx
    | nil =>
      simp [-exs_cons]
      (refine wp_seq ?_; simp [-exs_cons])
      exact hl.symm
theorem at_ok (hT : T[j]? = some ⟨4, 3, atB⟩) (ps : Prs) (f : Str) (d : PyData) : callN T F (n + 1) j [.d (secD ps), .d (.str f), .d d] S = .ok (.d (look ps f d)) S := by
  refine wp_to (wp_fn hT rfl ?_)
  show Wp (exs _ _ atB [some (.d (secD ps)), some (.d (.str f)), some (.d d), none] S) _
  unfold atB
  (refine wp_seq ?_; simp [-exs_cons])
  refine wp_for (fun xs env S' => ∃ (qs : Prs) (x3 : Option PV), xs = (qs.map pr).map .d ∧ env = [some (.d (secD ps)), some (.d (.str f)), some (.d d), x3] ∧ S' = S ∧ look ps f d = look qs f d) ⟨ps, none, by simp, rfl, rfl, rfl⟩ ?_ ?_
  · rintro x r env S' ⟨qs, x3, hx, rfl, rfl, hl⟩
    cases qs with
    | nil => cases hx
    | cons p qs =>
      obtain ⟨g, v⟩ := p
      cases hx
      simp only [pr, bodyM_slot]
      (refine wp_seq ?_; simp [-exs_cons])
      by_cases h : g = f
      · simp [-exs_cons, h]
        (refine wp_seq ?_; simp [-exs_cons])
        rw [hl]
        simp [look, h]
      · simp [-exs_cons, h]
        exact ⟨_, rfl, hl.trans (if_neg h)⟩
  · rintro env S' ⟨qs, x3, hx, rfl, rfl, hl⟩
    cases qs with
    | cons p qs => cases hx
    | nil =>
      simp [-exs_cons]
      (refine wp_seq ?_; simp [-exs_cons])
      exact hl.symm
end
end PW

set_option maxHeartbeats 4000000
namespace PW
open PySem PySem.Spec PyProof.Rows L2
/-! PW15: the same as itself (the second form), numbers of a request, drawn sizes -/
def same2B (js : Nat) : List CS := [
  .ite (.isi (.var 1) .bool) [
    .ret (.and (.isi (.var 0) .bool) (.cmp .eq (.var 0) (.var 1)))] [],
  .ite (.isi (.var 1) .int) [
    .ret (.and (.isi (.var 0) .int) (.and (.not (.isi (.var 0) .bool)) (.cmp .eq (.var 0) (.var 1))))] [],
  .ite (.isi (.var 1) .str) [
    .ret (.and (.isi (.var 0) .str) (.cmp .eq (.var 0) (.var 1)))] [],
  .ite (.cmp .is_ (.var 1) (.lit .none)) [
    .ret (.cmp .is_ (.var 0) (.lit .none))] [],
  .ite (.and (.isi (.var 1) .tuple) (.not (.isi (.var 0) .tuple))) [
    .ret (.lit (.bool false))] [],
  .ite (.and (.isi (.var 1) .list) (.not (.isi (.var 0) .list))) [
    .ret (.lit (.bool false))] [],
  .ite (.cmp .ne (.bn .len [(.var 0)]) (.bn .len [(.var 1)])) [
    .ret (.lit (.bool false))] [],
  .for_ (.slot 2) .rng1 [(.bn .len [(.var 1)])] [
    .ite (.not (.call false js [(.idx (.var 0) (.var 2)), (.idx (.var 1) (.var 2))])) [
      .ret (.lit (.bool false))] []],
  .ret (.lit (.bool true))]
@[simp] theorem is_noneT (S : Store) (ds : List PyData) : cmpop S .is_ (.d (.tuple ds)) (.d .none) = some false := Eq.trans rfl rfl
@[simp] theorem is_noneL (S : Store) (ds : List PyData) : cmpop S .is_ (.d (.list ds)) (.d .none) = some false := Eq.trans rfl rfl
@[simp] theorem walkOf_rng {S : Store} (m : Nat) (h : m ≤ 1000000) : walkOf S .rng1 [.d (.int m)] = some ⟨intsP 0 m, none⟩ := by
  have := walk_rng S (m : Int) (small_of (by omega) (by omega))
  rwa [Int.toNat_natCast] at this
section
variable {T : List FD} {F n j js : Nat} {S : Store}
theorem same2_int (hT : T[js]? = some ⟨3, 2, same2B js⟩) (i : Int) : callN T F (n + 1) js [.d (.int i), .d (.int i)] S = .ok (.d (.bool true)) S := by
  refine wp_to (wp_fn hT rfl ?_)
  show Wp (exs _ _ (same2B js) [some (.d (.int i)), some (.d (.int i)), none] S) _
  unfold same2B
  (refine wp_seq ?_; simp [-exs_cons])
  (refine wp_seq ?_; simp [-exs_cons])
  (refine wp_seq ?_; simp [-exs_cons])
theorem same2_bool (hT : T[js]? = some ⟨3, 2, same2B js⟩) (i : Bool) : callN T F (n + 1) js [.d (.bool i), .d (.bool i)] S = .ok (.d (.bool true)) S := by
  refine wp_to (wp_fn hT rfl ?_)
  show Wp (exs _ _ (same2B js) [some (.d (.bool i)), some (.d (.bool i)), none] S) _
  unfold same2B
  (refine wp_seq ?_; simp [-exs_cons])
  (refine wp_seq ?_; simp [-exs_cons])
theorem same2_str (hT : T[js]? = some ⟨3, 2, same2B js⟩) (i : Str) : callN T F (n + 1) js [.d (.str i), .d (.str i)] S = .ok (.d (.bool true)) S := by
  refine wp_to (wp_fn hT rfl ?_)
  show Wp (exs _ _ (same2B js) [some (.d (.str i)), some (.d (.str i)), none] S) _
  unfold same2B
  (refine wp_seq ?_; simp [-exs_cons, isTy])
  (refine wp_seq ?_; simp [-exs_cons, isTy])
  (refine wp_seq ?_; simp [-exs_cons])
  (refine wp_seq ?_; simp [-exs_cons])
theorem same2_seq (hT : T[js]? = some ⟨3, 2, same2B js⟩) (x : PyData) (ds : List PyData) (hx : x = .tuple ds ∨ x = .list ds) (hl : ds.length ≤ 1000000) (ih : ∀ y ∈ ds, callN T F n js [.d y, .d y] S = .ok (.d (.bool true)) S) :
    callN T F (n + 1) js [.d x, .d x] S = .ok (.d (.bool true)) S := by
  refine wp_to (wp_fn hT rfl ?_)
  show Wp (exs _ _ (same2B js) [some (.d x), some (.d x), none] S) _
  unfold same2B
  obtain ⟨b, hs⟩ : ∃ b, seqOf S (.d x) = some (b, ds.map .d) := by
    rcases hx with rfl | rfl
    · exact ⟨true, rfl⟩
    · exact ⟨false, rfl⟩
  have hln := len_seq hs
  rw [List.length_map] at hln
  have h1 : isTy S .bool (.d x) = some false := by rcases hx with rfl | rfl <;> rfl
  have h2 : isTy S .int (.d x) = some false := by rcases hx with rfl | rfl <;> rfl
  have h3 : isTy S .str (.d x) = some false := by rcases hx with rfl | rfl <;> rfl
  have h4 : cmpop S .is_ (.d x) (.d .none) = some false := by rcases hx with rfl | rfl <;> rfl
  (refine wp_seq ?_; simp [-exs_cons, h1])
  (refine wp_seq ?_; simp [-exs_cons, h2])
  (refine wp_seq ?_; simp [-exs_cons, h3])
  (refine wp_seq ?_; simp [-exs_cons, h4])
  refine wp_seq ?_
  have e1 : ex (callN T F n) F (.ite (.and (.isi (.var 1) .tuple) (.not (.isi (.var 0) .tuple))) [.ret (.lit (.bool false))] []) [some (.d x), some (.d x), none] S = .ok ([some (.d x), some (.d x), none], .next) S := by
    rcases hx with rfl | rfl <;> simp
  rw [e1]
  simp [-exs_cons]
  refine wp_seq ?_
  have e2 : ex (callN T F n) F (.ite (.and (.isi (.var 1) .list) (.not (.isi (.var 0) .list))) [.ret (.lit (.bool false))] []) [some (.d x), some (.d x), none] S = .ok ([some (.d x), some (.d x), none], .next) S := by
    rcases hx with rfl | rfl <;> simp
  rw [e2]
  simp [-exs_cons]
  (refine wp_seq ?_; simp [-exs_cons, hln])
  (refine wp_seq ?_; simp [-exs_cons, hln, hl])
  refine wp_for (fun xs env S' => (∀ y ∈ xs, ∃ i : Nat, i < ds.length ∧ y = .d (.int i)) ∧ ∃ k : Option PV, env = [some (.d x), some (.d x), k] ∧ S' = S) ⟨fun y hy => ?_, none, rfl, rfl⟩ ?_ ?_
  · unfold intsP at hy
    obtain ⟨i, hi, rfl⟩ := List.mem_map.mp hy
    exact ⟨i, List.mem_range.mp hi, by simp⟩
  · rintro y r env S' ⟨hy, k, rfl, rfl⟩
    obtain ⟨i, hi, rfl⟩ := hy y List.mem_cons_self
    have i1 := idx_seq (i := i) (x := .d ds[i]) hs (by simp [hi])
    have i2 := ih ds[i] (List.getElem_mem hi)
    simp only [bodyM_slot]
    (refine wp_seq ?_; simp [-exs_cons, i1, i2])
    exact fun y hy2 => hy y (List.mem_cons_of_mem _ hy2)
  · rintro env S' ⟨_, k, rfl, rfl⟩
    simp [-exs_cons]
    (refine wp_seq ?_; simp [-exs_cons])
theorem same2_refl (hT : T[js]? = some ⟨3, 2, same2B js⟩) : ∀ (k : Nat) (x : PyData), okD k x = true → callN T F (n + k + 1) js [.d x, .d x] S = .ok (.d (.bool true)) S := by
  intro k
  induction k with
  | zero =>
    intro x h
    cases x with
    | str x => exact same2_str hT x
    | int x => exact same2_int hT x
    | bool x => exact same2_bool hT x
    | _ => cases h
  | succ k ih =>
    intro x h
    cases x with
    | str x => exact same2_str hT x
    | int x => exact same2_int hT x
    | bool x => exact same2_bool hT x
    | tuple ds =>
      have h : (decide (ds.length ≤ 1000000) && ds.all (okD k)) = true := h
      rw [Bool.and_eq_true, decide_eq_true_eq, List.all_eq_true] at h
      exact same2_seq hT _ ds (.inl rfl) h.1 fun y hy => ih y (h.2 y hy)
    | list ds =>
      have h : (decide (ds.length ≤ 1000000) && ds.all (okD k)) = true := h
      rw [Bool.and_eq_true, decide_eq_true_eq, List.all_eq_true] at h
      exact same2_seq hT _ ds (.inr rfl) h.1 fun y hy => ih y (h.2 y hy)
    | _ => cases h
/-- the number of a field -/
def numB : List CS := [
  .for_ (.slot 2) .of [(.idx (.var 1) (.lit (.int 3)))] [
    .ite (.cmp .eq (.idx (.var 2) (.lit (.int 0))) (.var 0)) [
      .ret (.idx (.var 2) (.lit (.int 1)))] []],
  .ret (.lit (.int 0))]
theorem num_ok (hT : T[j]? = some ⟨3, 2, numB⟩) (a b c : PyData) (ps : Prs) (f : Str) : callN T F (n + 1) j [.d (.str f), .d (.tuple [a, b, c, secD ps])] S = .ok (.d (look ps f (.int 0))) S := by
  refine wp_to (wp_fn hT rfl ?_)
  show Wp (exs _ _ numB [some (.d (.str f)), some (.d (.tuple [a, b, c, secD ps])), none] S) _
  unfold numB
  (refine wp_seq ?_; simp [-exs_cons])
  refine wp_for (fun xs env S' => ∃ (qs : Prs) (x3 : Option PV), xs = (qs.map pr).map .d ∧ env = [some (.d (.str f)), some (.d (.tuple [a, b, c, secD ps])), x3] ∧ S' = S ∧ look ps f (.int 0) = look qs f (.int 0)) ⟨ps, none, by simp, rfl, rfl, rfl⟩ ?_ ?_
  · rintro x r env S' ⟨qs, x3, hx, rfl, rfl, hl⟩
    cases qs with
    | nil => cases hx
    | cons p qs =>
      obtain ⟨g, v⟩ := p
      cases hx
      simp only [pr, bodyM_slot]
      (refine wp_seq ?_; simp [-exs_cons])
      by_cases h : g = f
      · simp [-exs_cons, h]
        (refine wp_seq ?_; simp [-exs_cons])
        rw [hl]
        simp [look, h]
      · simp [-exs_cons, h]
        exact ⟨_, rfl, hl.trans (if_neg h)⟩
  · rintro env S' ⟨qs, x3, hx, rfl, rfl, hl⟩
    cases qs with
    | cons p qs => cases hx
    | nil =>
      simp [-exs_cons]
      (refine wp_seq ?_; simp [-exs_cons])
      exact hl.symm
/-- a number from -4 to 4, in one case of four with a cell of the script -/
def sizeB (jt : Nat) : List CS := [
  .asg (.slot 2) (.bin .sub (.call false jt [(.var 0), (.lit (.int 9))]) (.lit (.int 4))),
  .ite (.and (.cmp .eq (.call false jt [(.var 0), (.lit (.int 4))]) (.lit (.int 0))) (.cmp .gt (.bn .len [(.var 1)]) (.lit (.int 0)))) [
    .asg (.slot 2) (.bin .add (.var 2) (.bn .int [(.idx (.var 1) (.call false jt [(.var 0), (.bn .len [(.var 1)])]))]))] [],
  .ret (.var 2)]
theorem size_ok {jt : Nat} (hT : T[j]? = some ⟨3, 2, sizeB jt⟩) (ht : T[jt]? = some ⟨2, 2, takeB⟩) (ns : List Int) (r : List Int) : ∃ (i : Int) (r' : List Int), callN T F (n + 2) j [.loc 0, .d (.list (ns.map .int))] (dr r :: S) = .ok (.d (.int i)) (dr r' :: S) := by
  have tk1 : ∀ (r : List Int) (m : Int), 0 < m → callN T F (n + 1) jt [.loc 0, .d (.int m)] (dr r :: S) = .ok (.d (.int (tk r m))) (dr r.tail :: S) := fun r m h => take_ok ht r S m h
  suffices h : Wp (callN T F (n + 2) j [.loc 0, .d (.list (ns.map .int))] (dr r :: S)) fun v S' => ∃ (i : Int) (r' : List Int), v = .d (.int i) ∧ S' = dr r' :: S by
    obtain ⟨_, _, e, i, r', rfl, rfl⟩ := h
    exact ⟨i, r', e⟩
  refine wp_fn hT rfl ?_
  show Wp (exs _ _ (sizeB jt) [some (.loc 0), some (.d (.list (ns.map .int))), none] (dr r :: S)) _
  unfold sizeB
  (refine wp_seq ?_; simp [-exs_cons, tk1])
  (refine wp_seq ?_; simp [-exs_cons, tk1])
  by_cases h0 : tk r.tail 4 = 0 ∧ 0 < ns.length
  · obtain ⟨c1, c2⟩ := tk_range (r := r.tail.tail) (m := (ns.length : Int)) (by omega)
    obtain ⟨k, hk⟩ : ∃ k : Nat, tk r.tail.tail (ns.length : Int) = k := ⟨(tk r.tail.tail (ns.length : Int)).toNat, by omega⟩
    have hkl : k < ns.length := by omega
    have i1 := idx_seq (S := dr r.tail.tail.tail :: S) (v := .d (.list (ns.map .int))) (i := k) (x := .d (.int ns[k])) rfl (by simp [hkl])
    have hn : ns ≠ [] := by rintro rfl; exact absurd h0.2 (by decide)
    simp [-exs_cons, h0.1, h0.2, hn]
    (refine wp_seq ?_; simp [-exs_cons, tk1, h0.2, hk, i1])
    (refine wp_seq ?_; simp [-exs_cons])
    exact ⟨_, rfl⟩
  · by_cases h1 : tk r.tail 4 = 0
    · have h2 : ns = [] := by
        cases ns with
        | nil => rfl
        | cons _ _ => exact absurd ⟨h1, by simp⟩ h0
      simp [-exs_cons, h1, h2]
      (refine wp_seq ?_; simp [-exs_cons])
      exact ⟨_, rfl⟩
    · simp [-exs_cons, h1]
      (refine wp_seq ?_; simp [-exs_cons])
      exact ⟨_, rfl⟩
end
end PW

set_option maxHeartbeats 4000000
namespace PW
open PySem PySem.Spec PyProof.Rows L2
/-! PW16: drawn words in a pool, names of it -/
theorem back_loc {al : Bool} {S : Store} {r : List Int} {o : Ob} (h : S.all Ob.free = true) (ho : o.free = true) (hL : o.isL = true := by rfl) : back false (S.length + 1) (.loc (S.length + 1)) (dr r :: (S ++ [o])) = .ok (mkLst o.items) (dr r :: S) := by
  have e : (dr r :: (S ++ [o])).take (S.length + 1) = dr r :: S := by simp
  have e2 : (dr r :: (S ++ [o]))[S.length + 1]? = some o := by simp
  unfold back
  simp only [Nat.lt_irrefl, if_false, lk_of e2 hL, e]
  rw [if_pos (by rw [Bool.and_eq_true]; exact ⟨all_under _ (by simpa using h), Ob.free_under _ ho⟩)]
@[simp] theorem take_app1 (S : Store) (o : Ob) : List.take (S.length + 1) (S ++ [o]) = S ++ [o] := List.take_of_length_le (by simp)
theorem app_end {S : Store} {r : List Int} {ds : List PyData} (x : PyData) (h : ds.length < 1000000) : mtop (dr r :: (S ++ [.lst ds])) .append (S.length + 1) [.d x] = some (.d .none, dr r :: (S ++ [.lst (ds ++ [x])])) := by
  have := sizeLine_big
  rw [mt_append (o := .lst ds) (.d x) (by simp) (by simp; omega)]
  simp
@[simp] theorem bin_addL (xs ys : List PyData) : binop .add (.d (.list xs)) (.d (.list ys)) = if xs.length + ys.length ≤ sizeLine then some (.d (.list (xs ++ ys))) else none := Eq.trans rfl rfl
/-- a comprehension that draws: each item of some kind -/
theorem comp_any {S : Store} {env : Env} {sl : Nat} {elt : Env → Store → Res PV} {xs : List PV} {r : List Int} (P : PyData → Prop) {Q : List PV → Store → Prop} {w : Walked} (hw : w.at_ = none)
    (helt : ∀ (x : PV) (r : List Int) (Q' : PV → Store → Prop), x ∈ xs → (∀ y r', P y → Q' (.d y) (dr r' :: S)) → Wp (elt (env.set sl (some x)) (dr r :: S)) Q')
    (hQ : ∀ (ds : List PyData) (r' : List Int), ds.length = xs.length → (∀ y ∈ ds, P y) → Q (ds.map .d) (dr r' :: S)) : Wp (compLoop w (compStep env (.slot sl) none elt) xs (dr r :: S)) Q := by
  refine wp_compQ (fun ys acc S' => (∀ y ∈ ys, y ∈ xs) ∧ ∃ (ds : List PyData) (r : List Int), S' = dr r :: S ∧ acc = ds.map .d ∧ ds.length + ys.length = xs.length ∧ ∀ y ∈ ds, P y) ⟨fun y h => h, [], r, rfl, rfl, by simp, fun y h => by cases h⟩ ?_ ?_
  · rintro x rr acc S' Q' ⟨hx, ds, r, rfl, rfl, hl, hp⟩ hN
    rw [List.length_cons] at hl
    rw [step_slot]
    refine wp_bind (helt x r _ (hx x List.mem_cons_self) fun y r' hy => ?_)
    rw [wp_ok]
    refine hN _ _ (same_at hw _) ⟨fun z hz => hx z (List.mem_cons_of_mem _ hz), ds ++ [y], r', rfl, by simp, by simp; omega, fun z hz => ?_⟩
    rcases List.mem_append.mp hz with h | h
    · exact hp z h
    · rw [List.mem_singleton.mp h]; exact hy
  · rintro acc S' ⟨_, ds, r, rfl, rfl, hl, hp⟩
    exact hQ ds r (by simpa using hl) hp
theorem strs_of {ds : List PyData} (h : ∀ y ∈ ds, ∃ w : Str, y = .str w) : ∃ ws : List Str, ds = ws.map .str := by
  induction ds with
  | nil => exact ⟨[], rfl⟩
  | cons d ds ih =>
    obtain ⟨w, rfl⟩ := h d List.mem_cons_self
    obtain ⟨ws, rfl⟩ := ih fun y hy => h y (List.mem_cons_of_mem _ hy)
    exact ⟨w :: ws, rfl⟩
def poolB (jt jw : Nat) : List CS := [
  .asg (.slot 1) (.fr true .disp []),
  .for_ (.slot 2) .rng1 [(.lit (.int 4))] [
    .asg (.slot 3) (.bin .add (.lit (.int 1)) (.call false jt [(.var 0), (.lit (.int 30))])),
    .ite (.cmp .eq (.call false jt [(.var 0), (.lit (.int 3))]) (.lit (.int 0))) [
      .asg (.slot 3) (.bin .add (.bin .add (.bin .add (.lit (.int 1)) (.bin .mul (.call false jt [(.var 0), (.lit (.int 1000))]) (.bin .pow (.lit (.int 10)) (.lit (.int 6))))) (.bin .mul (.call false jt [(.var 0), (.lit (.int 1000))]) (.lit (.int 1000)))) (.call false jt [(.var 0), (.lit (.int 1000))]))] [],
    .expr (.mt .append (.var 1) [(.call false jw [(.var 3)])])],
  .ret (.var 1)]
section
variable {T : List FD} {F n j jt jw : Nat} {S : Store}
theorem pool_ok (hT : T[j]? = some ⟨4, 1, poolB jt jw⟩) (ht : T[jt]? = some ⟨2, 2, takeB⟩) (hw : T[jw]? = some ⟨3, 1, wordB⟩) (r : List Int) {Q : PV → Store → Prop}
    (hQ : ∀ (ws : List Str) (r' : List Int), ws.length = 4 → (∀ w ∈ ws, w.length ≤ 60) → Q (.loc (S.length + 1)) (dr r' :: (S ++ [.lst (ws.map .str)]))) : Wp (callN T F (n + 2) j [.loc 0] (dr r :: S)) Q := by
  refine wp_fn hT rfl ?_
  show Wp (exs _ _ (poolB jt jw) [some (.loc 0), none, none, none] (dr r :: S)) _
  unfold poolB
  have t1 : ∀ (r : List Int) (m : Int) (S : Store), 0 < m → callN T F (n + 1) jt [.loc 0, .d (.int m)] (dr r :: S) = .ok (.d (.int (tk r m))) (dr r.tail :: S) := fun r m S h => take_ok ht r S m h
  have w1 := fun (i : Int) (S : Store) => word_ok (T := T) (F := F) (n := n) (j := jw) (S := S) hw i
  (refine wp_seq ?_; simp [-exs_cons])
  refine wp_seq ?_
  have hwk : ∀ S : Store, walkOf S .rng1 [.d (.int 4)] = some ⟨intsP 0 4, none⟩ := fun S => walkOf_rng (S := S) 4 (by decide)
  simp [-exs_cons, hwk]
  refine wp_forQ (fun xs env S' => ∃ (x2 x3 : Option PV) (r : List Int) (ws : List Str), env = [some (.loc 0), some (.loc (S.length + 1)), x2, x3] ∧ S' = dr r :: (S ++ [.lst (ws.map .str)]) ∧ ws.length + xs.length = 4 ∧ ∀ w ∈ ws, w.length ≤ 60) ⟨none, none, r, [], rfl, by simp [mkOb, allD], rfl, fun w h => by cases h⟩ ?_ ?_
  · rintro x rr env S' Q' ⟨x2, x3, r, ws, rfl, rfl, hl, hq⟩ hN _ _ _
    rw [List.length_cons] at hl
    simp only [bodyM_slot]
    have m1 := fun k : Int => mulOk_r k 1000000 (by decide) (by decide)
    have m2 := fun k : Int => mulOk_r k 1000 (by decide) (by decide)
    have fin : ∀ (i : Int) (r : List Int), Wp (exs (callN T F (n + 1)) F [.expr (.mt .append (.var 1) [(.call false jw [(.var 3)])])] [some (.loc 0), some (.loc (S.length + 1)), some x, some (.d (.int i))] (dr r :: (S ++ [.lst (ws.map .str)]))) Q' := by
      intro i r
      have ha := app_end (S := S) (r := r) (ds := ws.map .str) (.str (wAt i.toNat)) (by simp; omega)
      (refine wp_seq ?_; simp [-exs_cons, w1, ha])
      refine hN _ _ (sameN _ _) ⟨some x, some (.d (.int i)), r, ws ++ [wAt i.toNat], rfl, by simp, by simp; omega, fun w hw => ?_⟩
      rcases List.mem_append.mp hw with h | h
      · exact hq w h
      · rw [List.mem_singleton.mp h]; exact wAt_len _
    (refine wp_seq ?_; simp [-exs_cons, t1])
    refine wp_seq ?_
    by_cases h0 : tk r.tail 3 = 0
    · simp [-exs_cons, t1, h0, m1, m2]
      (refine wp_seq ?_; simp [-exs_cons, t1, m1, m2])
      exact fin _ _
    · simp [-exs_cons, t1, h0]
      exact fin _ _
  · rintro env S' ⟨x2, x3, r, ws, rfl, rfl, hl, hq⟩
    simp [-exs_cons]
    (refine wp_seq ?_; simp [-exs_cons])
    exact hQ ws r hl hq
def namesB (jt : Nat) : List CS := [
  .asg (.slot 2) (.call false jt [(.var 0), (.lit (.int 16))]),
  .ret (.bn .tuple [(.fr false .sset [(.comp false [3] (.slot 3) .rng1 [(.lit (.int 4))] [(.cmp .eq (.bin .mod (.bn .int [(.bin .fdiv (.var 2) (.idx (.fr false .disp [(.lit (.int 1)), (.lit (.int 2)), (.lit (.int 4)), (.lit (.int 8))]) (.var 3)))]) (.lit (.int 2))) (.lit (.int 1)))] (.idx (.var 1) (.var 3)))])])]
theorem sset_len (L : List Str) : (ssetD L).length ≤ L.length := by
  unfold ssetD
  rw [List.length_mergeSort]
  have := foldl_addT L []
  simpa using this
theorem frop_sset (S : Store) (L : List Str) (hl : L.length ≤ 1000) : frop S .sset [.d (.list (L.map .str))] = some (((ssetD L).map PyData.str).map .d) := by
  show (match seqOf S (.d (.list (L.map .str))) with
    | some (false, xs) => match allD xs with
      | some ds => match allStr ds with
        | some ss => if ss.length ≤ 1000 then some ((ssetD ss).map fun x => PV.d (.str x)) else none
        | none => none
      | none => none
    | _ => none) = _
  simp only [seqOf, allD_map, allStr_map]
  rw [if_pos hl]
  simp
theorem names_ok (hT : T[j]? = some ⟨4, 2, namesB jt⟩) (ht : T[jt]? = some ⟨2, 2, takeB⟩) (ws : List Str) (hws : 4 ≤ ws.length) (r : List Int) {Q : PV → Store → Prop}
    (hQ : ∀ ms : List Str, ms.length ≤ 4 → Q (.d (.tuple (ms.map .str))) (dr r.tail :: S)) : Wp (callN T F (n + 2) j [.loc 0, .d (.list (ws.map .str))] (dr r :: S)) Q := by
  refine wp_fn hT rfl ?_
  show Wp (exs _ _ (namesB jt) [some (.loc 0), some (.d (.list (ws.map .str))), none, none] (dr r :: S)) _
  unfold namesB
  have t1 : ∀ (r : List Int) (m : Int) (S : Store), 0 < m → callN T F (n + 1) jt [.loc 0, .d (.int m)] (dr r :: S) = .ok (.d (.int (tk r m))) (dr r.tail :: S) := fun r m S h => take_ok ht r S m h
  have hwk : ∀ S : Store, walkOf S .rng1 [.d (.int 4)] = some ⟨intsP 0 4, none⟩ := fun S => walkOf_rng (S := S) 4 (by decide)
  (refine wp_seq ?_; simp [-exs_cons, t1])
  (refine wp_seq ?_; simp [-exs_cons, hwk])
  refine wp_call (P := fun ys S' => S' = dr r.tail :: S ∧ ∃ ms : List Str, ms.length ≤ 4 ∧ ys = (ms.map PyData.str).map .d) (wp_noErr (wp_compQ (fun xs acc S' => S' = dr r.tail :: S ∧ (∀ x ∈ xs, ∃ i : Nat, i < 4 ∧ x = .d (.int i)) ∧ ∃ ms : List Str, acc = (ms.map PyData.str).map .d ∧ ms.length + xs.length ≤ 4) ⟨rfl, ?_, [], rfl, Nat.le_refl 4⟩ ?_ ?_)) ?_
  · intro x hx
    unfold intsP at hx
    obtain ⟨i, hi, rfl⟩ := List.mem_map.mp hx
    exact ⟨i, List.mem_range.mp hi, by simp⟩
  · rintro z rr acc S' Q' ⟨rfl, hx, ms, rfl, hl⟩ hN
    rw [List.length_cons] at hl
    obtain ⟨i, hi, rfl⟩ := hx z List.mem_cons_self
    have hx' : ∀ x ∈ rr, ∃ i : Nat, i < 4 ∧ x = .d (.int i) := fun x h => hx x (List.mem_cons_of_mem _ h)
    obtain ⟨v, hv, e1, _⟩ := idx_lst (S := dr r.tail :: S) (ds := [.int 1, .int 2, .int 4, .int 8]) (i := (i : Int)) (by omega) (by simp; omega)
    have hi2 : i < ws.length := by omega
    have e2 := idx_seq (S := dr r.tail :: S) (v := .d (.list (ws.map .str))) (i := i) (x := .d (.str ws[i])) rfl (by simp [hi2])
    obtain ⟨m, rfl, m0, m1⟩ : ∃ m : Int, v = .int m ∧ 0 < m ∧ m < 1073741824 := by
      simp only [List.mem_cons, List.not_mem_nil, or_false] at hv
      rcases hv with rfl | rfl | rfl | rfl <;> exact ⟨_, rfl, by decide, by decide⟩
    simp only [step_slot', List.set_cons_succ, List.set_cons_zero, killE]
    by_cases h0 : tk r 16 / m % 2 = 1
    · simp [-exs_cons, e1, e2, m0, m1, h0]
      exact hN _ _ (sameN _ _) ⟨rfl, hx', ms ++ [ws[i]], by simp, by simp; omega⟩
    · simp [-exs_cons, e1, e2, m0, m1, h0]
      exact hN _ _ (sameN _ _) ⟨rfl, hx', ms, by simp, by omega⟩
  · rintro acc S' ⟨rfl, _, ms, rfl, hl⟩
    exact ⟨rfl, ms, hl, rfl⟩
  · rintro _ _ ⟨rfl, ms, hl, rfl⟩
    have hs : ms.length ≤ sizeLine := sizeL (by omega)
    have hf := frop_sset (dr r.tail :: S) ms (by omega)
    have hm := sset_len ms
    simp [-exs_cons, hs, hf]
    exact hQ (ssetD ms) (by omega)
end
end PW

set_option maxHeartbeats 4000000
namespace PW
open PySem PySem.Spec PyProof.Rows L2
/-! PW17: drawn requests of a pool -/
theorem slice_to {S : Store} (ds : List PyData) (k : Nat) (h : k ≤ ds.length) : sliceV S (.d (.list ds)) none (some (k : Int)) = some (.d (.list (ds.take k))) := by
  show some (mkLst (cutP (ds.map PV.d) none (some (k : Int)))) = _
  have e : cutP (ds.map PV.d) none (some (k : Int)) = (ds.take k).map .d := by
    unfold cutP
    rw [HT.sIx_none, HT.sIx_nat, List.length_map, Nat.min_eq_left h]
    simp [List.map_take]
  rw [e, mkLst_map]
def IntP (ps : Prs) : Prop := ∀ p ∈ ps, ∃ i : Int, p.2 = .int i
def StrP (ps : Prs) : Prop := ∀ p ∈ ps, ∃ w : Str, p.2 = .str w
def RowP (ps : Prs) : Prop := ∀ p ∈ ps, ∃ ws : List Str, ws.length ≤ 1000 ∧ p.2 = .tuple (ws.map .str)
theorem look_int {ps : Prs} (h : IntP ps) (f : Str) : ∃ i : Int, look ps f (.int 0) = .int i := look_ok (P := fun x => ∃ i : Int, x = .int i) h ⟨0, rfl⟩
abbrev reqD (a b c d : Prs) : PyData := .tuple [secD a, secD b, secD c, secD d]
def requestB (jt jw jn : Nat) : List CS := [
  .asg (.slot 3) (.fr false .sset [(.slice (.var 1) [] [(.lit (.int 3))])]),
  .asg (.slot 4) (.bin .add (.var 1) (.fr false .disp [(.bin .add (.idx (.var 1) (.lit (.int 0))) (.lit (.str "q"))), (.call false jw [(.bin .add (.lit (.int 1)) (.call false jt [(.var 0), (.lit (.int 30))]))])])),
  .asg (.slot 5) (.fr true .disp []),
  .asg (.slot 6) (.fr true .disp []),
  .asg (.slot 7) (.fr true .disp []),
  .asg (.slot 8) (.fr true .disp []),
  .for_ (.slot 9) .of [(.var 3)] [
    .asg (.slot 10) (.call false jt [(.var 0), (.lit (.int 8))]),
    .ite (.cmp .lt (.var 10) (.lit (.int 6))) [
      .expr (.mt .append (.var 5) [(.tup [(.var 9), (.idx (.var 4) (.var 10))])])] [],
    .asg (.slot 11) (.comp false [12] (.slot 12) .rng1 [(.call false jt [(.var 0), (.lit (.int 4))])] [] (.idx (.var 4) (.call false jt [(.var 0), (.lit (.int 6))]))),
    .ite (.cmp .gt (.bn .len [(.var 11)]) (.lit (.int 0))) [
      .expr (.mt .append (.var 6) [(.tup [(.var 9), (.bn .tuple [(.var 11)])])])] [],
    .asg (.slot 13) (.call false jn [(.var 0), (.comp false [12] (.slot 12) .rng1 [(.lit (.int 4))] [] (.idx (.var 4) (.call false jt [(.var 0), (.lit (.int 6))])))]),
    .ite (.cmp .gt (.bn .len [(.var 13)]) (.lit (.int 0))) [
      .expr (.mt .append (.var 7) [(.tup [(.var 9), (.var 13)])])] [],
    .asg (.slot 14) (.bin .sub (.call false jt [(.var 0), (.lit (.int 9))]) (.lit (.int 4))),
    .ite (.and (.cmp .eq (.call false jt [(.var 0), (.lit (.int 6))]) (.lit (.int 0))) (.cmp .gt (.bn .len [(.var 2)]) (.lit (.int 0)))) [
      .asg (.slot 14) (.bin .add (.var 14) (.bn .int [(.idx (.var 2) (.call false jt [(.var 0), (.bn .len [(.var 2)])]))]))] [],
    .ite (.cmp .ne (.var 14) (.lit (.int 0))) [
      .expr (.mt .append (.var 8) [(.tup [(.var 9), (.var 14)])])] []],
  .ret (.tup [(.bn .tuple [(.var 5)]), (.bn .tuple [(.var 6)]), (.bn .tuple [(.var 7)]), (.bn .tuple [(.var 8)])])]
section
variable {T : List FD} {F n j jt jw jn jg jm jnum : Nat} {S : Store}
/-- one drawn of a list -/
theorem pick_ix {vs : List Str} {m : Int} {S : Store} (hm : m ≤ vs.length) {i : Int} (h0 : 0 ≤ i) (h1 : i < m) : ∃ w : Str, w ∈ vs ∧ idxop S (.d (.list (vs.map .str))) (.d (.int i)) = some (.d (.str w)) := by
  obtain ⟨x, hx, e, _⟩ := idx_lst (S := S) (ds := vs.map .str) (i := i) h0 (by rw [List.length_map]; omega)
  obtain ⟨w, hw, rfl⟩ := List.mem_map.mp hx
  exact ⟨w, hw, e⟩
abbrev RS (r : List Int) (a b c d : Prs) : Store := [dr r, .lst (a.map pr), .lst (b.map pr), .lst (c.map pr), .lst (d.map pr)]
theorem app_a (r : List Int) (a b c d : Prs) (f : Str) (v : PyData) (h : a.length < 1000000) : mtop (RS r a b c d) .append 1 [.d (.tuple [.str f, v])] = some (.d .none, RS r (a ++ [(f, v)]) b c d) := by
  have := sizeLine_big
  rw [mt_append (o := .lst (a.map pr)) (.d (.tuple [.str f, v])) rfl (by simp; omega)]
  simp [RS, pr]
theorem app_b (r : List Int) (a b c d : Prs) (f : Str) (v : PyData) (h : b.length < 1000000) : mtop (RS r a b c d) .append 2 [.d (.tuple [.str f, v])] = some (.d .none, RS r a (b ++ [(f, v)]) c d) := by
  have := sizeLine_big
  rw [mt_append (o := .lst (b.map pr)) (.d (.tuple [.str f, v])) rfl (by simp; omega)]
  simp [RS, pr]
theorem app_c (r : List Int) (a b c d : Prs) (f : Str) (v : PyData) (h : c.length < 1000000) : mtop (RS r a b c d) .append 3 [.d (.tuple [.str f, v])] = some (.d .none, RS r a b (c ++ [(f, v)]) d) := by
  have := sizeLine_big
  rw [mt_append (o := .lst (c.map pr)) (.d (.tuple [.str f, v])) rfl (by simp; omega)]
  simp [RS, pr]
theorem app_d (r : List Int) (a b c d : Prs) (f : Str) (v : PyData) (h : d.length < 1000000) : mtop (RS r a b c d) .append 4 [.d (.tuple [.str f, v])] = some (.d .none, RS r a b c (d ++ [(f, v)])) := by
  have := sizeLine_big
  rw [mt_append (o := .lst (d.map pr)) (.d (.tuple [.str f, v])) rfl (by simp; omega)]
  simp [RS, pr]
theorem all_app {P : Str × PyData → Prop} {ps : Prs} {q : Str × PyData} (h : ∀ p ∈ ps, P p) (hq : P q) : ∀ p ∈ ps ++ [q], P p := fun p hp => by
  rcases List.mem_append.mp hp with h' | h'
  · exact h p h'
  · rw [List.mem_singleton.mp h']; exact hq
abbrev RE (x1 : Option PV) (ns : List Int) (x3 : Option PV) (vs : List Str) (x9 x10 x11 x12 x13 x14 : Option PV) : Env := [some (.loc 0), x1, some (.d (.list (ns.map .int))), x3, some (.d (.list (vs.map .str))), some (.loc 1), some (.loc 2), some (.loc 3), some (.loc 4), x9, x10, x11, x12, x13, x14]
abbrev turnRB (jt jn : Nat) : List CS := [
    .asg (.slot 10) (.call false jt [(.var 0), (.lit (.int 8))]),
    .ite (.cmp .lt (.var 10) (.lit (.int 6))) [
      .expr (.mt .append (.var 5) [(.tup [(.var 9), (.idx (.var 4) (.var 10))])])] [],
    .asg (.slot 11) (.comp false [12] (.slot 12) .rng1 [(.call false jt [(.var 0), (.lit (.int 4))])] [] (.idx (.var 4) (.call false jt [(.var 0), (.lit (.int 6))]))),
    .ite (.cmp .gt (.bn .len [(.var 11)]) (.lit (.int 0))) [
      .expr (.mt .append (.var 6) [(.tup [(.var 9), (.bn .tuple [(.var 11)])])])] [],
    .asg (.slot 13) (.call false jn [(.var 0), (.comp false [12] (.slot 12) .rng1 [(.lit (.int 4))] [] (.idx (.var 4) (.call false jt [(.var 0), (.lit (.int 6))])))]),
    .ite (.cmp .gt (.bn .len [(.var 13)]) (.lit (.int 0))) [
      .expr (.mt .append (.var 7) [(.tup [(.var 9), (.var 13)])])] [],
    .asg (.slot 14) (.bin .sub (.call false jt [(.var 0), (.lit (.int 9))]) (.lit (.int 4))),
    .ite (.and (.cmp .eq (.call false jt [(.var 0), (.lit (.int 6))]) (.lit (.int 0))) (.cmp .gt (.bn .len [(.var 2)]) (.lit (.int 0)))) [
      .asg (.slot 14) (.bin .add (.var 14) (.bn .int [(.idx (.var 2) (.call false jt [(.var 0), (.bn .len [(.var 2)])]))]))] [],
    .ite (.cmp .ne (.var 14) (.lit (.int 0))) [
      .expr (.mt .append (.var 8) [(.tup [(.var 9), (.var 14)])])] []]
structure Good (k : Nat) (a b c d : Prs) : Prop where
  pa : StrP a
  pb : RowP b
  pc : RowP c
  pd : IntP d
  la : a.length ≤ k
  lb : b.length ≤ k
  lc : c.length ≤ k
  ld : d.length ≤ k
theorem good_nil : Good 0 [] [] [] [] := ⟨(fun p h => by cases h), (fun p h => by cases h), (fun p h => by cases h), (fun p h => by cases h), Nat.le_refl _, Nat.le_refl _, Nat.le_refl _, Nat.le_refl _⟩
theorem turnR (ht : T[jt]? = some ⟨2, 2, takeB⟩) (hn : T[jn]? = some ⟨4, 2, namesB jt⟩) (x1 : Option PV) (ns : List Int) (x3 : Option PV) (vs : List Str) (hv : vs.length = 6) (f : Str) (x10 x11 x12 x13 x14 : Option PV) (r : List Int) (k : Nat) (hk : k < 1000) {a b c d : Prs} (G : Good k a b c d)
    {Q : Env × Fl → Store → Prop} (hQ : ∀ (x10 x11 x12 x13 x14 : Option PV) (r : List Int) (a b c d : Prs), Good (k + 1) a b c d → Q (RE x1 ns x3 vs (some (.d (.str f))) x10 x11 x12 x13 x14, .next) (RS r a b c d)) :
    Wp (exs (callN T F (n + 3)) F (turnRB jt jn) (RE x1 ns x3 vs (some (.d (.str f))) x10 x11 x12 x13 x14) (RS r a b c d)) Q := by
  have t1 : ∀ (r : List Int) (m : Int) (S : Store), 0 < m → callN T F (n + 3) jt [.loc 0, .d (.int m)] (dr r :: S) = .ok (.d (.int (tk r m))) (dr r.tail :: S) := fun r m S h => take_ok ht r S m h
  -- the last three
  have last : ∀ (x10 x11 x12 x13 : Option PV) (i : Int) (r : List Int) (a b c d : Prs), Good (k + 1) a b c d → d.length ≤ k → Wp (exs (callN T F (n + 3)) F [
    .ite (.cmp .ne (.var 14) (.lit (.int 0))) [
      .expr (.mt .append (.var 8) [(.tup [(.var 9), (.var 14)])])] []] (RE x1 ns x3 vs (some (.d (.str f))) x10 x11 x12 x13 (some (.d (.int i)))) (RS r a b c d)) Q := by
    intro x10 x11 x12 x13 i r a b c d G hd
    refine wp_seq ?_
    by_cases h0 : i = 0
    · simp [-exs_cons, h0]
      exact hQ _ _ _ _ _ _ _ _ _ _ G
    · have ha := app_d r a b c d f (.int i) (by omega)
      simp [-exs_cons, h0]
      (refine wp_seq ?_; simp [-exs_cons, ha])
      exact hQ _ _ _ _ _ _ _ _ _ _ { G with pd := all_app G.pd ⟨i, rfl⟩, ld := by simp; omega }
  have num : ∀ (x10 x11 x12 x13 x14 : Option PV) (r : List Int) (a b c d : Prs), Good (k + 1) a b c d → d.length ≤ k → Wp (exs (callN T F (n + 3)) F [
    .asg (.slot 14) (.bin .sub (.call false jt [(.var 0), (.lit (.int 9))]) (.lit (.int 4))),
    .ite (.and (.cmp .eq (.call false jt [(.var 0), (.lit (.int 6))]) (.lit (.int 0))) (.cmp .gt (.bn .len [(.var 2)]) (.lit (.int 0)))) [
      .asg (.slot 14) (.bin .add (.var 14) (.bn .int [(.idx (.var 2) (.call false jt [(.var 0), (.bn .len [(.var 2)])]))]))] [],
    .ite (.cmp .ne (.var 14) (.lit (.int 0))) [
      .expr (.mt .append (.var 8) [(.tup [(.var 9), (.var 14)])])] []] (RE x1 ns x3 vs (some (.d (.str f))) x10 x11 x12 x13 x14) (RS r a b c d)) Q := by
    intro x10 x11 x12 x13 x14 r a b c d G hd
    (refine wp_seq ?_; simp [-exs_cons, t1])
    refine wp_seq ?_
    by_cases h0 : tk r.tail 6 = 0
    · by_cases h1 : 0 < ns.length
      · obtain ⟨c1, c2⟩ := tk_range (r := r.tail.tail) (m := (ns.length : Int)) (by omega)
        obtain ⟨q, hq⟩ : ∃ q : Nat, tk r.tail.tail (ns.length : Int) = q := ⟨(tk r.tail.tail (ns.length : Int)).toNat, by omega⟩
        have hql : q < ns.length := by omega
        have i1 := idx_seq (S := RS r.tail.tail.tail a b c d) (v := .d (.list (ns.map .int))) (i := q) (x := .d (.int ns[q])) rfl (by simp [hql])
        have hn0 : ns ≠ [] := by rintro rfl; exact absurd h1 (by decide)
        simp [-exs_cons, t1, h0, h1, hn0]
        (refine wp_seq ?_; simp [-exs_cons, t1, h1, hq, i1])
        exact last _ _ _ _ _ _ _ _ _ _ G hd
      · have hn0 : ns = [] := by cases ns with | nil => rfl | cons _ _ => exact absurd (by simp) h1
        subst hn0
        simp [-exs_cons, t1, h0]
        exact last _ _ _ _ _ _ _ _ _ _ G hd
    · simp [-exs_cons, t1, h0]
      exact last _ _ _ _ _ _ _ _ _ _ G hd
  have mem : ∀ (x10 x11 x12 x13 x14 : Option PV) (r : List Int) (a b c d : Prs), Good (k + 1) a b c d → d.length ≤ k → c.length ≤ k → Wp (exs (callN T F (n + 3)) F [
    .asg (.slot 13) (.call false jn [(.var 0), (.comp false [12] (.slot 12) .rng1 [(.lit (.int 4))] [] (.idx (.var 4) (.call false jt [(.var 0), (.lit (.int 6))])))]),
    .ite (.cmp .gt (.bn .len [(.var 13)]) (.lit (.int 0))) [
      .expr (.mt .append (.var 7) [(.tup [(.var 9), (.var 13)])])] [],
    .asg (.slot 14) (.bin .sub (.call false jt [(.var 0), (.lit (.int 9))]) (.lit (.int 4))),
    .ite (.and (.cmp .eq (.call false jt [(.var 0), (.lit (.int 6))]) (.lit (.int 0))) (.cmp .gt (.bn .len [(.var 2)]) (.lit (.int 0)))) [
      .asg (.slot 14) (.bin .add (.var 14) (.bn .int [(.idx (.var 2) (.call false jt [(.var 0), (.bn .len [(.var 2)])]))]))] [],
    .ite (.cmp .ne (.var 14) (.lit (.int 0))) [
      .expr (.mt .append (.var 8) [(.tup [(.var 9), (.var 14)])])] []] (RE x1 ns x3 vs (some (.d (.str f))) x10 x11 x12 x13 x14) (RS r a b c d)) Q := by
    intro x10 x11 x12 x13 x14 r a b c d G hd hc
    have hwk : ∀ S : Store, walkOf S .rng1 [.d (.int 4)] = some ⟨intsP 0 4, none⟩ := fun S => walkOf_rng (S := S) 4 (by decide)
    (refine wp_seq ?_; simp [-exs_cons, hwk])
    refine wp_bind (wp_noErr (comp_any (fun y => ∃ w : Str, y = .str w) rfl (fun x r Q' _ hQ' => ?_) fun ds r1 hl hp => ?_))
    · obtain ⟨b1, b2⟩ := tk_range (r := r) (m := 6) (by decide)
      obtain ⟨w, _, hi⟩ := pick_ix (S := RS r.tail a b c d) (vs := vs) (m := 6) (by omega) b1 b2
      simp [-exs_cons, killE, t1, hi]
      exact hQ' _ _ ⟨w, rfl⟩
    obtain ⟨ws, rfl⟩ := strs_of hp
    have hw : ws.length = 4 := by simpa [intsP_len] using hl
    have hs : ws.length ≤ sizeLine := sizeL (by omega)
    simp [-exs_cons, hs]
    refine wp_bind (names_ok (n := n + 1) hn ht ws (by omega) r1 fun ms hm => ?_)
    simp [-exs_cons]
    refine wp_seq ?_
    by_cases h0 : ms.length = 0
    · simp [-exs_cons, h0]
      exact num _ _ _ _ _ _ _ _ _ _ G hd
    · have ha := app_c r1.tail a b c d f (.tuple (ms.map .str)) (by omega)
      have h1 : 0 < ms.length := by omega
      simp [-exs_cons, h1]
      (refine wp_seq ?_; simp [-exs_cons, ha])
      exact num _ _ _ _ _ _ _ _ _ _ { G with pc := all_app G.pc ⟨ms, by omega, rfl⟩, lc := by simp; omega } hd
  have par : ∀ (x10 x11 x12 x13 x14 : Option PV) (r : List Int) (a b c d : Prs), Good (k + 1) a b c d → d.length ≤ k → c.length ≤ k → b.length ≤ k → Wp (exs (callN T F (n + 3)) F ([
    .asg (.slot 11) (.comp false [12] (.slot 12) .rng1 [(.call false jt [(.var 0), (.lit (.int 4))])] [] (.idx (.var 4) (.call false jt [(.var 0), (.lit (.int 6))]))),
    .ite (.cmp .gt (.bn .len [(.var 11)]) (.lit (.int 0))) [
      .expr (.mt .append (.var 6) [(.tup [(.var 9), (.bn .tuple [(.var 11)])])])] [],
    .asg (.slot 13) (.call false jn [(.var 0), (.comp false [12] (.slot 12) .rng1 [(.lit (.int 4))] [] (.idx (.var 4) (.call false jt [(.var 0), (.lit (.int 6))])))]),
    .ite (.cmp .gt (.bn .len [(.var 13)]) (.lit (.int 0))) [
      .expr (.mt .append (.var 7) [(.tup [(.var 9), (.var 13)])])] [],
    .asg (.slot 14) (.bin .sub (.call false jt [(.var 0), (.lit (.int 9))]) (.lit (.int 4))),
    .ite (.and (.cmp .eq (.call false jt [(.var 0), (.lit (.int 6))]) (.lit (.int 0))) (.cmp .gt (.bn .len [(.var 2)]) (.lit (.int 0)))) [
      .asg (.slot 14) (.bin .add (.var 14) (.bn .int [(.idx (.var 2) (.call false jt [(.var 0), (.bn .len [(.var 2)])]))]))] [],
    .ite (.cmp .ne (.var 14) (.lit (.int 0))) [
      .expr (.mt .append (.var 8) [(.tup [(.var 9), (.var 14)])])] []]) (RE x1 ns x3 vs (some (.d (.str f))) x10 x11 x12 x13 x14) (RS r a b c d)) Q := by
    intro x10 x11 x12 x13 x14 r a b c d G hd hc hb
    obtain ⟨b1, b2⟩ := tk_range (r := r) (m := 4) (by decide)
    obtain ⟨m, hm⟩ : ∃ m : Nat, tk r 4 = m := ⟨(tk r 4).toNat, by omega⟩
    have hwk := walkOf_rng (S := RS r.tail a b c d) m (by omega)
    (refine wp_seq ?_; simp [-exs_cons, t1, hm, hwk])
    refine wp_bind (wp_noErr (comp_any (fun y => ∃ w : Str, y = .str w) rfl (fun x r Q' _ hQ' => ?_) fun ds r1 hl hp => ?_))
    · obtain ⟨b1, b2⟩ := tk_range (r := r) (m := 6) (by decide)
      obtain ⟨w, _, hi⟩ := pick_ix (S := RS r.tail a b c d) (vs := vs) (m := 6) (by omega) b1 b2
      simp [-exs_cons, killE, t1, hi]
      exact hQ' _ _ ⟨w, rfl⟩
    obtain ⟨ws, rfl⟩ := strs_of hp
    have hw : ws.length = m := by simpa [intsP_len] using hl
    have hs : ws.length ≤ sizeLine := sizeL (by omega)
    simp [-exs_cons, hs]
    refine wp_seq ?_
    by_cases h0 : ws.length = 0
    · simp [-exs_cons, h0]
      exact mem _ _ _ _ _ _ _ _ _ _ G hd hc
    · have ha := app_b r1 a b c d f (.tuple (ws.map .str)) (by omega)
      have h1 : 0 < ws.length := by omega
      simp [-exs_cons, h1]
      (refine wp_seq ?_; simp [-exs_cons, ha])
      exact mem _ _ _ _ _ _ _ _ _ _ { G with pb := all_app G.pb ⟨ws, by omega, rfl⟩, lb := by simp; omega } hd hc
  have G1 : Good (k + 1) a b c d := { G with la := by have := G.la; omega, lb := by have := G.lb; omega, lc := by have := G.lc; omega, ld := by have := G.ld; omega }
  obtain ⟨b1, b2⟩ := tk_range (r := r) (m := 8) (by decide)
  (refine wp_seq ?_; simp [-exs_cons, t1])
  refine wp_seq ?_
  by_cases h0 : tk r 8 < 6
  · obtain ⟨w, _, hi⟩ := pick_ix (S := RS r.tail a b c d) (vs := vs) (m := 6) (by omega) b1 h0
    have ha := app_a r.tail a b c d f (.str w) (by have := G.la; omega)
    simp [-exs_cons, h0]
    (refine wp_seq ?_; simp [-exs_cons, hi, ha])
    exact par _ _ _ _ _ _ _ _ _ _ { G1 with pa := all_app G.pa ⟨w, rfl⟩, la := by have := G.la; simp; omega } G.ld G.lc G.lb
  · simp [-exs_cons, h0]
    exact par _ _ _ _ _ _ _ _ _ _ G1 G.ld G.lc G.lb
theorem request_ok (hT : T[j]? = some ⟨15, 3, requestB jt jw jn⟩) (ht : T[jt]? = some ⟨2, 2, takeB⟩) (hw : T[jw]? = some ⟨3, 1, wordB⟩) (hn : T[jn]? = some ⟨4, 2, namesB jt⟩) (ws : List Str) (hws : ws.length = 4) (hw60 : ∀ w ∈ ws, w.length ≤ 60) (ns : List Int) (r : List Int) {Q : PV → Store → Prop}
    (hQ : ∀ (a b c d : Prs) (r' : List Int) (L : Store), Good 100 a b c d → Q (.d (reqD a b c d)) (dr r' :: L)) : Wp (callN T F (n + 4) j [.loc 0, .d (.list (ws.map .str)), .d (.list (ns.map .int))] [dr r]) Q := by
  refine wp_fn hT rfl ?_
  show Wp (exs _ _ (requestB jt jw jn) [some (.loc 0), some (.d (.list (ws.map .str))), some (.d (.list (ns.map .int))), none, none, none, none, none, none, none, none, none, none, none, none] [dr r]) _
  unfold requestB
  have t1 : ∀ (r : List Int) (m : Int) (S : Store), 0 < m → callN T F (n + 3) jt [.loc 0, .d (.int m)] (dr r :: S) = .ok (.d (.int (tk r m))) (dr r.tail :: S) := fun r m S h => take_ok ht r S m h
  have w1 := fun (i : Int) (S : Store) => word_ok (T := T) (F := F) (n := n + 2) (j := jw) (S := S) hw i
  have e3 := slice_to (S := [dr r]) (ws.map .str) 3 (by simp; omega)
  have e3' : sliceV [dr r] (.d (.list (ws.map .str))) none (some 3) = some (.d (.list (List.take 3 (List.map PyData.str ws)))) := e3
  have f3 : frop [dr r] .sset [.d (.list (List.take 3 (List.map PyData.str ws)))] = some (((ssetD (ws.take 3)).map PyData.str).map .d) := by
    rw [← List.map_take]
    exact frop_sset [dr r] (ws.take 3) (by simp; omega)
  (refine wp_seq ?_; simp [-exs_cons, e3', f3])
  obtain ⟨w0, rest, rfl⟩ : ∃ w0 rest, ws = w0 :: rest := by
    cases ws with
    | nil => cases hws
    | cons a b => exact ⟨a, b, rfl⟩
  have l0 := hw60 w0 List.mem_cons_self
  have l1 : ("q" : Str).length = 1 := rfl
  have l2 : w0.length + 1 ≤ sizeLine := sizeL (by omega)
  have l3 : rest.length + 1 + 2 ≤ sizeLine := sizeL (by simp at hws; omega)
  (refine wp_seq ?_; simp [-exs_cons, t1, w1, l1, l2, l3])
  (refine wp_seq ?_; simp [-exs_cons])
  (refine wp_seq ?_; simp [-exs_cons])
  (refine wp_seq ?_; simp [-exs_cons])
  (refine wp_seq ?_; simp [-exs_cons])
  have hf := sset_len ((w0 :: rest).take 3)
  have hf3 : (ssetD ((w0 :: rest).take 3)).length ≤ 3 := by
    have : ((w0 :: rest).take 3).length ≤ 3 := by rw [List.length_take]; omega
    omega
  simp only [List.take_succ_cons] at hf3
  generalize ssetD (w0 :: List.take 2 rest) = fs at hf3 ⊢
  refine wp_seq ?_
  simp [-exs_cons]
  generalize hvs : w0 :: (rest ++ [w0 ++ "q", wAt (1 + tk r 30).toNat]) = vs
  have hv6 : vs.length = 6 := by
    rw [← hvs]
    simp at hws ⊢
    omega
  have hvm : PyData.str w0 :: (List.map PyData.str rest ++ [.str (w0 ++ "q"), .str (wAt (1 + tk r 30).toNat)]) = vs.map .str := by
    rw [← hvs]
    simp
  rw [hvm]
  refine wp_forQ (fun xs env S' => ∃ (x9 x10 x11 x12 x13 x14 : Option PV) (r : List Int) (a b c d : Prs) (k : Nat), env = RE (some (.d (.list ((w0 :: rest).map .str)))) ns (some (.d (.list (fs.map .str)))) vs x9 x10 x11 x12 x13 x14 ∧ S' = RS r a b c d ∧ Good k a b c d ∧ k + xs.length ≤ 3 ∧ ∀ x ∈ xs, ∃ f : Str, x = .d (.str f)) ⟨none, none, none, none, none, none, r.tail, [], [], [], [], 0, rfl, rfl, good_nil, by simpa using hf3, fun x hx => ?_⟩ ?_ ?_
  · simp only [List.mem_map] at hx
    obtain ⟨y, _, rfl⟩ := hx
    exact ⟨_, rfl⟩
  · rintro x rr env S' Q' ⟨x9, x10, x11, x12, x13, x14, r, a, b, c, d, k, rfl, rfl, G, hk, hx⟩ hN _ _ _
    obtain ⟨f, rfl⟩ := hx x List.mem_cons_self
    rw [List.length_cons] at hk
    rw [bodyM_slot]
    exact turnR (n := n) ht hn _ ns _ vs hv6 f x10 x11 x12 x13 x14 r k (by omega) G fun x10 x11 x12 x13 x14 r a b c d G => hN _ _ (sameN _ _) ⟨_, x10, x11, x12, x13, x14, r, a, b, c, d, k + 1, rfl, rfl, G, by omega, fun x h => hx x (List.mem_cons_of_mem _ h)⟩
  · rintro env S' ⟨x9, x10, x11, x12, x13, x14, r, a, b, c, d, k, rfl, rfl, G, hk, _⟩
    have hk : k ≤ 3 := hk
    have q1 : ∀ i : Nat, bnop (RS r a b c d) .tuple [.loc i] = (seqOf (RS r a b c d) (.loc i)).map fun p => mkTup p.2 := fun i => rfl
    have q2 : ∀ ps : Prs, mkTup ((ps.map pr).map PV.d) = .d (secD ps) := fun ps => mkTup_map _
    simp [-exs_cons]
    refine wp_seq ?_
    have s1 : bnop (RS r a b c d) .tuple [.loc 1] = some (.d (secD a)) := (q1 1).trans (by show some (mkTup ((a.map pr).map PV.d)) = _; rw [q2])
    have s2 : bnop (RS r a b c d) .tuple [.loc 2] = some (.d (secD b)) := (q1 2).trans (by show some (mkTup ((b.map pr).map PV.d)) = _; rw [q2])
    have s3 : bnop (RS r a b c d) .tuple [.loc 3] = some (.d (secD c)) := (q1 3).trans (by show some (mkTup ((c.map pr).map PV.d)) = _; rw [q2])
    have s4 : bnop (RS r a b c d) .tuple [.loc 4] = some (.d (secD d)) := (q1 4).trans (by show some (mkTup ((d.map pr).map PV.d)) = _; rw [q2])
    simp [-exs_cons, s1, s2, s3, s4]
    exact hQ a b c d r _ { G with la := by have := G.la; omega, lb := by have := G.lb; omega, lc := by have := G.lc; omega, ld := by have := G.ld; omega }
/-! terms, targets, conditions -/
def targetB (jt jn : Nat) : List CS := [
  .ite (.cmp .eq (.call false jt [(.var 0), (.lit (.int 2))]) (.lit (.int 0))) [
    .ret (.tup [(.lit (.str "set")), (.idx (.var 1) (.call false jt [(.var 0), (.lit (.int 3))]))])] [],
  .ret (.tup [(.lit (.str "names")), (.call false jn [(.var 0), (.var 1)])])]
def termB (jt jg : Nat) : List CS := [
  .asg (.slot 3) (.call false jt [(.var 0), (.var 2)]),
  .ite (.cmp .lt (.var 3) (.lit (.int 2))) [
    .ret (.tup [(.lit (.str "name")), (.idx (.bin .add (.var 1) (.fr false .disp [(.lit (.str ""))])) (.call false jt [(.var 0), (.lit (.int 5))]))])] [],
  .asg (.slot 4) (.idx (.var 1) (.call false jt [(.var 0), (.lit (.int 3))])),
  .ite (.cmp .lt (.var 3) (.lit (.int 5))) [
    .ret (.tup [(.lit (.str "field")), (.var 4)])] [],
  .ite (.cmp .lt (.var 3) (.lit (.int 7))) [
    .ret (.tup [(.lit (.str "part")), (.var 4), (.idx (.fr false .disp [(.lit (.int 0)), (.lit (.int 1)), (.lit (.int 2)), (.lit (.int 0)), (.lit (.int 1)), (.lit (.int 40))]) (.call false jt [(.var 0), (.lit (.int 6))]))])] [],
  .ret (.tup [(.lit (.str "other")), (.var 4), (.call false jg [(.var 0), (.var 1)])])]
def condB (jt jg jm jnum : Nat) : List CS := [
  .asg (.slot 5) (.call false jt [(.var 0), (.lit (.int 4))]),
  .ite (.cmp .eq (.var 5) (.lit (.int 0))) [
    .asg (.slot 6) (.call false jm [(.var 0), (.var 1), (.var 2)]),
    .ite (.cmp .eq (.call false jt [(.var 0), (.lit (.int 6))]) (.lit (.int 0))) [
      .ret (.tup [(.lit (.str "is")), (.var 6), (.var 6)])] [],
    .ret (.tup [(.lit (.str "is")), (.var 6), (.call false jm [(.var 0), (.var 1), (.var 2)])])] [],
  .ite (.cmp .eq (.var 5) (.lit (.int 1))) [
    .ret (.tup [(.lit (.str "in")), (.call false jm [(.var 0), (.var 1), (.var 2)]), (.idx (.var 1) (.call false jt [(.var 0), (.lit (.int 3))]))])] [],
  .ite (.cmp .eq (.var 5) (.lit (.int 2))) [
    .ret (.tup [(.lit (.str "within")), (.idx (.var 1) (.call false jt [(.var 0), (.lit (.int 3))])), (.call false jg [(.var 0), (.var 1)])])] [],
  .asg (.slot 7) (.idx (.bin .add (.slice (.var 1) [] [(.lit (.int 3))]) (.fr false .disp [(.lit (.str ""))])) (.call false jt [(.var 0), (.lit (.int 4))])),
  .asg (.slot 8) (.idx (.bin .add (.slice (.var 1) [] [(.lit (.int 3))]) (.fr false .disp [(.lit (.str ""))])) (.call false jt [(.var 0), (.lit (.int 4))])),
  .asg (.slot 9) (.bin .sub (.bin .add (.bin .sub (.call false jnum [(.var 7), (.var 3)]) (.call false jnum [(.var 8), (.var 3)])) (.call false jt [(.var 0), (.lit (.int 3))])) (.lit (.int 1))),
  .ite (.cmp .eq (.call false jt [(.var 0), (.lit (.int 2))]) (.lit (.int 0))) [
    .asg (.slot 9) (.bin .sub (.call false jt [(.var 0), (.lit (.int 9))]) (.lit (.int 4))),
    .ite (.and (.cmp .eq (.call false jt [(.var 0), (.lit (.int 3))]) (.lit (.int 0))) (.cmp .gt (.bn .len [(.var 4)]) (.lit (.int 0)))) [
      .asg (.slot 9) (.bin .add (.var 9) (.bn .int [(.idx (.var 4) (.call false jt [(.var 0), (.bn .len [(.var 4)])]))]))] []] [],
  .ret (.tup [(.lit (.str "most")), (.var 7), (.var 8), (.var 9)])]
inductive TgD : PyData → Prop
  | set (f : Str) : TgD (.tuple [.str "set", .str f])
  | names (ms : List Str) : ms.length ≤ 1000 → TgD (.tuple [.str "names", .tuple (ms.map .str)])
inductive TmD : PyData → Prop
  | name (w : Str) : TmD (.tuple [.str "name", .str w])
  | field (f : Str) : TmD (.tuple [.str "field", .str f])
  | part (f : Str) (i : Nat) : TmD (.tuple [.str "part", .str f, .int i])
  | other (f : Str) (g : PyData) : TgD g → TmD (.tuple [.str "other", .str f, g])
inductive CdD : PyData → Prop
  | is_ (x y : PyData) : TmD x → TmD y → CdD (.tuple [.str "is", x, y])
  | in_ (x : PyData) (f : Str) : TmD x → CdD (.tuple [.str "in", x, .str f])
  | within (f : Str) (g : PyData) : TgD g → CdD (.tuple [.str "within", .str f, g])
  | most (x y : Str) (i : Int) : CdD (.tuple [.str "most", .str x, .str y, .int i])
theorem target_ok (hT : T[j]? = some ⟨2, 2, targetB jt jn⟩) (ht : T[jt]? = some ⟨2, 2, takeB⟩) (hn : T[jn]? = some ⟨4, 2, namesB jt⟩) (ws : List Str) (hws : 4 ≤ ws.length) (r : List Int) {Q : PV → Store → Prop}
    (hQ : ∀ (g : PyData) (r' : List Int), TgD g → Q (.d g) (dr r' :: S)) : Wp (callN T F (n + 3) j [.loc 0, .d (.list (ws.map .str))] (dr r :: S)) Q := by
  refine wp_fn hT rfl ?_
  show Wp (exs _ _ (targetB jt jn) [some (.loc 0), some (.d (.list (ws.map .str)))] (dr r :: S)) _
  unfold targetB
  have t1 : ∀ (r : List Int) (m : Int) (S : Store), 0 < m → callN T F (n + 2) jt [.loc 0, .d (.int m)] (dr r :: S) = .ok (.d (.int (tk r m))) (dr r.tail :: S) := fun r m S h => take_ok ht r S m h
  refine wp_seq ?_
  by_cases h0 : tk r 2 = 0
  · obtain ⟨b1, b2⟩ := tk_range (r := r.tail) (m := 3) (by decide)
    obtain ⟨w, _, hi⟩ := pick_ix (S := dr r.tail.tail :: S) (vs := ws) (m := 3) (by omega) b1 b2
    simp [-exs_cons, t1, h0]
    (refine wp_seq ?_; simp [-exs_cons, t1, hi])
    exact hQ _ _ (.set w)
  · simp [-exs_cons, t1, h0]
    (refine wp_seq ?_; simp [-exs_cons])
    refine wp_bind (names_ok (n := n) hn ht ws hws r.tail fun ms hm => ?_)
    simp [-exs_cons]
    exact hQ _ _ (.names ms (by omega))
theorem term_ok (hT : T[j]? = some ⟨5, 3, termB jt jg⟩) (ht : T[jt]? = some ⟨2, 2, takeB⟩) (hg : T[jg]? = some ⟨2, 2, targetB jt jn⟩) (hn : T[jn]? = some ⟨4, 2, namesB jt⟩) (ws : List Str) (hws : ws.length = 4) (k : Int) (hk : 0 < k) (r : List Int) {Q : PV → Store → Prop}
    (hQ : ∀ (x : PyData) (r' : List Int), TmD x → Q (.d x) (dr r' :: S)) : Wp (callN T F (n + 4) j [.loc 0, .d (.list (ws.map .str)), .d (.int k)] (dr r :: S)) Q := by
  refine wp_fn hT rfl ?_
  show Wp (exs _ _ (termB jt jg) [some (.loc 0), some (.d (.list (ws.map .str))), some (.d (.int k)), none, none] (dr r :: S)) _
  unfold termB
  have t1 : ∀ (r : List Int) (m : Int) (S : Store), 0 < m → callN T F (n + 3) jt [.loc 0, .d (.int m)] (dr r :: S) = .ok (.d (.int (tk r m))) (dr r.tail :: S) := fun r m S h => take_ok ht r S m h
  have l5 : ws.length + 1 ≤ sizeLine := sizeL (by omega)
  (refine wp_seq ?_; simp [-exs_cons, t1, hk])
  refine wp_seq ?_
  by_cases h0 : tk r k < 2
  · obtain ⟨b1, b2⟩ := tk_range (r := r.tail) (m := 5) (by decide)
    obtain ⟨w, _, hi⟩ := pick_ix (S := dr r.tail.tail :: S) (vs := ws ++ [("" : Str)]) (m := 5) (by simp; omega) b1 b2
    simp only [List.map_append, List.map_cons, List.map_nil] at hi
    simp [-exs_cons, t1, h0]
    (refine wp_seq ?_; simp [-exs_cons, t1, hi, l5])
    exact hQ _ _ (.name w)
  · obtain ⟨b1, b2⟩ := tk_range (r := r.tail) (m := 3) (by decide)
    obtain ⟨f, _, hi⟩ := pick_ix (S := dr r.tail.tail :: S) (vs := ws) (m := 3) (by omega) b1 b2
    simp [-exs_cons, t1, h0]
    (refine wp_seq ?_; simp [-exs_cons, t1, hi])
    refine wp_seq ?_
    by_cases h1 : tk r k < 5
    · simp [-exs_cons, h1]
      (refine wp_seq ?_; simp [-exs_cons])
      exact hQ _ _ (.field f)
    · simp [-exs_cons, h1]
      refine wp_seq ?_
      by_cases h2 : tk r k < 7
      · obtain ⟨c1, c2⟩ := tk_range (r := r.tail.tail) (m := 6) (by decide)
        obtain ⟨v, hv, e1, _⟩ := idx_lst (S := dr r.tail.tail.tail :: S) (ds := [.int 0, .int 1, .int 2, .int 0, .int 1, .int 40]) c1 c2
        obtain ⟨i, rfl⟩ : ∃ i : Nat, v = .int i := by
          simp only [List.mem_cons, List.not_mem_nil, or_false] at hv
          rcases hv with rfl | rfl | rfl | rfl | rfl | rfl
          · exact ⟨0, rfl⟩
          · exact ⟨1, rfl⟩
          · exact ⟨2, rfl⟩
          · exact ⟨0, rfl⟩
          · exact ⟨1, rfl⟩
          · exact ⟨40, rfl⟩
        have m6 : mkLst [.d (.int 0), .d (.int 1), .d (.int 2), .d (.int 0), .d (.int 1), .d (.int 40)] = .d (.list [.int 0, .int 1, .int 2, .int 0, .int 1, .int 40]) := rfl
        simp [-exs_cons, h2]
        (refine wp_seq ?_; simp [-exs_cons, t1, m6, e1])
        exact hQ _ _ (.part f i)
      · simp [-exs_cons, h2]
        (refine wp_seq ?_; simp [-exs_cons])
        refine wp_bind (target_ok (n := n) hg ht hn ws (by omega) r.tail.tail fun g r' h => ?_)
        simp [-exs_cons]
        exact hQ _ _ (.other f g h)
theorem cond_ok (hT : T[j]? = some ⟨10, 5, condB jt jg jm jnum⟩) (ht : T[jt]? = some ⟨2, 2, takeB⟩) (hg : T[jg]? = some ⟨2, 2, targetB jt jn⟩) (hm : T[jm]? = some ⟨5, 3, termB jt jg⟩) (hn : T[jn]? = some ⟨4, 2, namesB jt⟩) (hnum : T[jnum]? = some ⟨3, 2, numB⟩) (ws : List Str) (hws : ws.length = 4) (k : Int) (hk : 0 < k) {a b c d : Prs} (hd : IntP d) (ns : List Int) (r : List Int) {Q : PV → Store → Prop}
    (hQ : ∀ (x : PyData) (r' : List Int), CdD x → Q (.d x) (dr r' :: S)) : Wp (callN T F (n + 5) j [.loc 0, .d (.list (ws.map .str)), .d (.int k), .d (reqD a b c d), .d (.list (ns.map .int))] (dr r :: S)) Q := by
  refine wp_fn hT rfl ?_
  show Wp (exs _ _ (condB jt jg jm jnum) [some (.loc 0), some (.d (.list (ws.map .str))), some (.d (.int k)), some (.d (reqD a b c d)), some (.d (.list (ns.map .int))), none, none, none, none, none] (dr r :: S)) _
  unfold condB
  have t1 : ∀ (r : List Int) (m : Int) (S : Store), 0 < m → callN T F (n + 4) jt [.loc 0, .d (.int m)] (dr r :: S) = .ok (.d (.int (tk r m))) (dr r.tail :: S) := fun r m S h => take_ok ht r S m h
  have l5 : (List.take 3 (List.map PyData.str ws)).length + 1 ≤ sizeLine := sizeL (by rw [List.length_take]; omega)
  have l5' : min 3 ws.length + 1 ≤ sizeLine := sizeL (by omega)
  (refine wp_seq ?_; simp [-exs_cons, t1])
  refine wp_seq ?_
  by_cases h0 : tk r 4 = 0
  · simp [-exs_cons, h0]
    (refine wp_seq ?_; simp [-exs_cons])
    refine wp_bind (term_ok (n := n) hm ht hg hn ws hws k hk r.tail fun x r1 hx => ?_)
    simp [-exs_cons]
    refine wp_seq ?_
    by_cases h1 : tk r1 6 = 0
    · simp [-exs_cons, t1, h1]
      (refine wp_seq ?_; simp [-exs_cons])
      exact hQ _ _ (.is_ x x hx hx)
    · simp [-exs_cons, t1, h1]
      (refine wp_seq ?_; simp [-exs_cons])
      refine wp_bind (term_ok (n := n) hm ht hg hn ws hws k hk r1.tail fun y r2 hy => ?_)
      simp [-exs_cons]
      exact hQ _ _ (.is_ x y hx hy)
  · simp [-exs_cons, h0]
    refine wp_seq ?_
    by_cases h1 : tk r 4 = 1
    · simp [-exs_cons, h1]
      (refine wp_seq ?_; simp [-exs_cons])
      refine wp_bind (term_ok (n := n) hm ht hg hn ws hws k hk r.tail fun x r1 hx => ?_)
      obtain ⟨b1, b2⟩ := tk_range (r := r1) (m := 3) (by decide)
      obtain ⟨f, _, hi⟩ := pick_ix (S := dr r1.tail :: S) (vs := ws) (m := 3) (by omega) b1 b2
      simp [-exs_cons, t1, hi]
      exact hQ _ _ (.in_ x f hx)
    · simp [-exs_cons, h1]
      refine wp_seq ?_
      by_cases h2 : tk r 4 = 2
      · obtain ⟨b1, b2⟩ := tk_range (r := r.tail) (m := 3) (by decide)
        obtain ⟨f, _, hi⟩ := pick_ix (S := dr r.tail.tail :: S) (vs := ws) (m := 3) (by omega) b1 b2
        simp [-exs_cons, h2]
        (refine wp_seq ?_; simp [-exs_cons, t1, hi])
        refine wp_bind (target_ok (n := n + 1) hg ht hn ws (by omega) r.tail.tail fun g r' h => ?_)
        simp [-exs_cons]
        exact hQ _ _ (.within f g h)
      · simp [-exs_cons, h2]
        have e3 : ∀ S : Store, sliceV S (.d (.list (ws.map .str))) none (some 3) = some (.d (.list (List.take 3 (List.map PyData.str ws)))) := fun S => slice_to (S := S) (ws.map .str) 3 (by simp; omega)
        have pick : ∀ (r : List Int), ∃ w : Str, idxop (dr r.tail :: S) (.d (.list (List.take 3 (List.map PyData.str ws) ++ [.str ""]))) (.d (.int (tk r 4))) = some (.d (.str w)) := fun r => by
          obtain ⟨b1, b2⟩ := tk_range (r := r) (m := 4) (by decide)
          obtain ⟨w, _, hi⟩ := pick_ix (S := dr r.tail :: S) (vs := ws.take 3 ++ [("" : Str)]) (m := 4) (by simp; omega) b1 b2
          refine ⟨w, ?_⟩
          rw [← hi]
          simp
        obtain ⟨x, ix⟩ := pick r.tail
        obtain ⟨y, iy⟩ := pick r.tail.tail
        obtain ⟨i1, hi1⟩ := look_int hd x
        obtain ⟨i2, hi2⟩ := look_int hd y
        have n1 := fun (f : Str) (S : Store) => num_ok (T := T) (F := F) (n := n + 3) (j := jnum) (S := S) hnum (secD a) (secD b) (secD c) d f
        (refine wp_seq ?_; simp [-exs_cons, e3, l5', t1, ix])
        (refine wp_seq ?_; simp [-exs_cons, e3, l5', t1, iy])
        (refine wp_seq ?_; simp [-exs_cons, n1, hi1, hi2, t1])
        have fin : ∀ (v i : Int) (r : List Int), Wp (exs (callN T F (n + 4)) F [.ret (.tup [(.lit (.str "most")), (.var 7), (.var 8), (.var 9)])] [some (.loc 0), some (.d (.list (ws.map .str))), some (.d (.int k)), some (.d (reqD a b c d)), some (.d (.list (ns.map .int))), some (.d (.int v)), none, some (.d (.str x)), some (.d (.str y)), some (.d (.int i))] (dr r :: S)) (retQ Q) := by
          intro v i r
          (refine wp_seq ?_; simp [-exs_cons])
          exact hQ _ _ (.most x y i)
        generalize r.tail.tail.tail.tail = r1
        refine wp_seq ?_
        by_cases h3 : tk r1 2 = 0
        · simp [-exs_cons, t1, h3]
          (refine wp_seq ?_; simp [-exs_cons, t1])
          refine wp_seq ?_
          by_cases h4 : tk r1.tail.tail 3 = 0
          · by_cases h5 : 0 < ns.length
            · obtain ⟨c1, c2⟩ := tk_range (r := r1.tail.tail.tail) (m := (ns.length : Int)) (by omega)
              obtain ⟨q, hq⟩ : ∃ q : Nat, tk r1.tail.tail.tail (ns.length : Int) = q := ⟨(tk r1.tail.tail.tail (ns.length : Int)).toNat, by omega⟩
              have hql : q < ns.length := by omega
              have iq := idx_seq (S := dr r1.tail.tail.tail.tail :: S) (v := .d (.list (ns.map .int))) (i := q) (x := .d (.int ns[q])) rfl (by simp [hql])
              have hn0 : ns ≠ [] := by rintro rfl; exact absurd h5 (by decide)
              simp [-exs_cons, t1, h4, h5, hn0]
              (refine wp_seq ?_; simp [-exs_cons, t1, h5, hq, iq])
              exact fin _ _ _
            · have hn0 : ns = [] := by cases ns with | nil => rfl | cons _ _ => exact absurd (by simp) h5
              subst hn0
              simp [-exs_cons, t1, h4]
              exact fin _ _ _
          · simp [-exs_cons, t1, h4]
            exact fin _ _ _
        · simp [-exs_cons, t1, h3]
          exact fin _ _ _
end
end PW

set_option maxHeartbeats 4000000
namespace PW
open PySem PySem.Spec PyProof.Rows L2
/-! PW18: comprehensions that only compute; places counted from the end -/
theorem comp_map {α : Type} {S : Store} {env : Env} {sl : Nat} {elt : Env → Store → Res PV} {xs : List PV} {w : Walked} (as : List α) (enc res : α → PyData) {Q : List PV → Store → Prop} (hw : w.at_ = none) (hx : xs = as.map fun a => PV.d (enc a))
    (h : ∀ a ∈ as, elt (env.set sl (some (.d (enc a)))) S = .ok (.d (res a)) S) (hQ : Q ((as.map res).map .d) S) : Wp (compLoop w (compStep env (.slot sl) none elt) xs S) Q := by
  subst hx
  refine wp_compQ (fun ys acc S' => S' = S ∧ ∃ (ds es : List α), as = ds ++ es ∧ ys = es.map (fun a => PV.d (enc a)) ∧ acc = (ds.map res).map .d) ⟨rfl, [], as, rfl, rfl, rfl⟩ ?_ ?_
  · rintro x rr acc S' Q' ⟨rfl, ds, es, he, hy, rfl⟩ hN
    cases es with
    | nil => cases hy
    | cons e es =>
      cases hy
      rw [step_slot, h e (by rw [he]; simp)]
      simp only [rb_ok, wp_ok]
      exact hN _ _ (same_at hw _) ⟨rfl, ds ++ [e], es, by simp [he], rfl, by simp⟩
  · rintro acc S' ⟨rfl, ds, es, he, hy, rfl⟩
    cases es with
    | nil =>
      rw [List.append_nil] at he
      subst he
      exact hQ
    | cons e es => cases hy
theorem idx_at {S : Store} {v : PV} {xs : List PV} {b : Bool} {i : Int} {j : Nat} {x : PV} (h : seqOf S v = some (b, xs)) (hi : L2.ixN xs.length i = some j) (hx : xs[j]? = some x) : idxop S v (.d (.int i)) = some x := by
  have h0 : (match seqOf S v with
    | some (_, xs) => L2.atI xs i
    | none => none) = some x := by
    rw [h]
    show (L2.ixN xs.length i).bind (fun j => xs[j]?) = some x
    rw [hi]
    exact hx
  cases v with
  | d y => cases y <;> first | (cases h; done) | exact h0
  | loc l => exact h0
  | mix t ys => exact h0
theorem ixN_last {n : Nat} (h : 0 < n) : L2.ixN n (-1) = some (n - 1) := by
  unfold L2.ixN
  rw [if_neg (by decide), if_pos (by omega)]
  congr 1
  omega
theorem intsP_succ (lo : Int) (n : Nat) : intsP lo (n + 1) = .d (.int lo) :: intsP (lo + 1) n := by
  unfold intsP
  rw [List.range_succ_eq_map, List.map_cons, List.map_map]
  simp only [Int.natCast_zero, Int.add_zero, List.cons.injEq, true_and]
  refine List.map_congr_left fun i _ => ?_
  simp only [Function.comp]
  congr 2
  omega
theorem last_at {S : Store} {v : PV} {b : Bool} {ds : List PyData} {z : PyData} (h : seqOf S v = some (b, ds.map .d)) (hz : ds.getLast? = some z) : idxop S v (.d (.int (-1))) = some (.d z) := by
  have hl : 0 < ds.length := by cases ds with | nil => cases hz | cons _ _ => simp
  refine idx_at h (by rw [List.length_map]; exact ixN_last hl) ?_
  rw [List.getElem?_map]
  rw [List.getLast?_eq_getElem?] at hz
  rw [hz]
  rfl
end PW

set_option maxHeartbeats 4000000
namespace PW
open PySem PySem.Spec PyProof.Rows L2
/-! PW19: terms and conditions of the program, at a request -/
def wordOfB (b : Nat) : List CS := [
  .ret (.call false b [(.idx (.var 0) (.lit (.int 0))), (.var 1), (.lit (.str ""))])]
def partOfB (b : Nat) : List CS := [
  .asg (.slot 3) (.call false b [(.idx (.var 0) (.lit (.int 1))), (.var 1), (.tup [])]),
  .ite (.cmp .lt (.var 2) (.bn .len [(.var 3)])) [
    .ret (.idx (.var 3) (.var 2))] [],
  .ret (.lit (.str ""))]
def membersOfB (b : Nat) : List CS := [
  .ret (.call false b [(.idx (.var 0) (.lit (.int 2))), (.var 1), (.tup [])])]
def numberOfB (b : Nat) : List CS := [
  .ret (.call false b [(.idx (.var 0) (.lit (.int 3))), (.var 1), (.lit (.int 0))])]
def targetMembersB (b : Nat) : List CS := [
  .ite (.cmp .eq (.idx (.var 0) (.lit (.int 0))) (.lit (.str "set"))) [
    .ret (.call false (b + 3) [(.var 1), (.idx (.var 0) (.lit (.int 1)))])] [],
  .ret (.idx (.var 0) (.lit (.int 1)))]
def valueOfB (b : Nat) : List CS := [
  .asg (.slot 2) (.idx (.var 0) (.lit (.int 0))),
  .ite (.cmp .eq (.var 2) (.lit (.str "name"))) [
    .ret (.idx (.var 0) (.lit (.int 1)))] [],
  .ite (.cmp .eq (.var 2) (.lit (.str "field"))) [
    .ret (.call false (b + 1) [(.var 1), (.idx (.var 0) (.lit (.int 1)))])] [],
  .ite (.cmp .eq (.var 2) (.lit (.str "part"))) [
    .ret (.call false (b + 2) [(.var 1), (.idx (.var 0) (.lit (.int 1))), (.idx (.var 0) (.lit (.int 2)))])] [],
  .ret (.call false (b + 6) [(.idx (.var 0) (.lit (.int 1))), (.idx (.var 0) (.lit (.int 2))), (.var 1)])]
def simpleHoldsB (b : Nat) (rest : List CS) : List CS := [
  .asg (.slot 3) (.idx (.var 0) (.lit (.int 0))),
  .ite (.cmp .eq (.var 3) (.lit (.str "is"))) [
    .ret (.cmp .eq (.call false (b + 7) [(.idx (.var 0) (.lit (.int 1))), (.var 1)]) (.call false (b + 7) [(.idx (.var 0) (.lit (.int 2))), (.var 1)]))] [],
  .ite (.cmp .eq (.var 3) (.lit (.str "in"))) [
    .ret (.cmp .in_ (.call false (b + 7) [(.idx (.var 0) (.lit (.int 1))), (.var 1)]) (.call false (b + 3) [(.var 1), (.idx (.var 0) (.lit (.int 2)))]))] [],
  .ite (.cmp .eq (.var 3) (.lit (.str "within"))) [
    .asg (.slot 4) (.call false (b + 5) [(.idx (.var 0) (.lit (.int 2))), (.var 1)]),
    .ret (.bn .all [(.comp false [5] (.slot 5) .of [(.call false (b + 3) [(.var 1), (.idx (.var 0) (.lit (.int 1)))])] [] (.cmp .in_ (.var 5) (.var 4)))])] [],
  .ite (.cmp .eq (.var 3) (.lit (.str "most"))) [
    .ret (.cmp .le (.bin .sub (.call false (b + 4) [(.var 1), (.idx (.var 0) (.lit (.int 1)))]) (.call false (b + 4) [(.var 1), (.idx (.var 0) (.lit (.int 2)))])) (.idx (.var 0) (.lit (.int 3))))] []] ++ rest
def holdsB (b : Nat) : List CS := [
  .asg (.slot 3) (.idx (.var 0) (.lit (.int 0))),
  .ite (.or (.cmp .eq (.var 3) (.lit (.str "true"))) (.cmp .eq (.var 3) (.lit (.str "false")))) [
    .ret (.cmp .eq (.var 3) (.lit (.str "true")))] [],
  .ite (.cmp .eq (.var 3) (.lit (.str "not"))) [
    .ret (.not (.call false (b + 10) [(.idx (.var 0) (.lit (.int 1))), (.var 1), (.var 2)]))] [],
  .ite (.cmp .eq (.var 3) (.lit (.str "all"))) [
    .ret (.bn .all [(.comp false [4] (.slot 4) .of [(.idx (.var 0) (.lit (.int 1)))] [] (.call false (b + 10) [(.var 4), (.var 1), (.var 2)]))])] [],
  .ite (.cmp .eq (.var 3) (.lit (.str "any"))) [
    .ret (.bn .any [(.comp false [4] (.slot 4) .of [(.idx (.var 0) (.lit (.int 1)))] [] (.call false (b + 10) [(.var 4), (.var 1), (.var 2)]))])] [],
  .ret (.call false (b + 9) [(.var 0), (.var 1), (.var 2)])]
structure Req (T : List FD) (b : Nat) : Prop where
  value_in : T[b]? = some ⟨5, 3, valueB⟩
  word_of : T[b + 1]? = some ⟨2, 2, wordOfB b⟩
  part_of : T[b + 2]? = some ⟨4, 3, partOfB b⟩
  members_of : T[b + 3]? = some ⟨2, 2, membersOfB b⟩
  number_of : T[b + 4]? = some ⟨2, 2, numberOfB b⟩
  target_members : T[b + 5]? = some ⟨2, 2, targetMembersB b⟩
  value_of : T[b + 7]? = some ⟨3, 2, valueOfB b⟩
  simple_holds : ∃ rest, T[b + 9]? = some ⟨6, 3, simpleHoldsB b rest⟩
  holds : T[b + 10]? = some ⟨5, 3, holdsB b⟩
section
variable {T : List FD} {F n bs : Nat} {S : Store} {a b c d : Prs}
theorem word_of_ok (R : Req T bs) (f : Str) : callN T F (n + 2) (bs + 1) [.d (reqD a b c d), .d (.str f)] S = .ok (.d (look a f (.str ""))) S := by
  refine wp_to (wp_fn R.word_of rfl ?_)
  show Wp (exs _ _ (wordOfB bs) [some (.d (reqD a b c d)), some (.d (.str f))] S) _
  unfold wordOfB
  have v := value_in_ok (F := F) (n := n) (S := S) R.value_in a f (.str "")
  (refine wp_seq ?_; simp [-exs_cons, v])
theorem members_of_ok (R : Req T bs) (f : Str) : callN T F (n + 2) (bs + 3) [.d (reqD a b c d), .d (.str f)] S = .ok (.d (look c f (.tuple []))) S := by
  refine wp_to (wp_fn R.members_of rfl ?_)
  show Wp (exs _ _ (membersOfB bs) [some (.d (reqD a b c d)), some (.d (.str f))] S) _
  unfold membersOfB
  have v := value_in_ok (F := F) (n := n) (S := S) R.value_in c f (.tuple [])
  (refine wp_seq ?_; simp [-exs_cons, v])
theorem number_of_ok (R : Req T bs) (f : Str) : callN T F (n + 2) (bs + 4) [.d (reqD a b c d), .d (.str f)] S = .ok (.d (look d f (.int 0))) S := by
  refine wp_to (wp_fn R.number_of rfl ?_)
  show Wp (exs _ _ (numberOfB bs) [some (.d (reqD a b c d)), some (.d (.str f))] S) _
  unfold numberOfB
  have v := value_in_ok (F := F) (n := n) (S := S) R.value_in d f (.int 0)
  (refine wp_seq ?_; simp [-exs_cons, v])
/-- the part of a row -/
def partD (ws : List Str) (i : Nat) : Str := ws.getD i ""
theorem part_at (ws : List Str) (i : Nat) (h : i < ws.length) : idxop S (.d (.tuple (ws.map .str))) (.d (.int i)) = some (.d (.str (partD ws i))) := by
  refine idx_seq (S := S) (v := .d (.tuple (ws.map .str))) (b := true) (xs := (ws.map PyData.str).map .d) rfl ?_
  simp [partD, h]
theorem part_of_ok (R : Req T bs) (f : Str) (i : Nat) (ws : List Str) (hw : look b f (.tuple []) = .tuple (ws.map .str)) : callN T F (n + 2) (bs + 2) [.d (reqD a b c d), .d (.str f), .d (.int i)] S = .ok (.d (.str (partD ws i))) S := by
  refine wp_to (wp_fn R.part_of rfl ?_)
  show Wp (exs _ _ (partOfB bs) [some (.d (reqD a b c d)), some (.d (.str f)), some (.d (.int i)), none] S) _
  unfold partOfB
  have v := value_in_ok (F := F) (n := n) (S := S) R.value_in b f (.tuple [])
  rw [hw] at v
  (refine wp_seq ?_; simp [-exs_cons, v])
  refine wp_seq ?_
  by_cases h : i < ws.length
  · have hp := part_at (S := S) ws i h
    simp [-exs_cons, h]
    (refine wp_seq ?_; simp [-exs_cons, hp])
  · simp [-exs_cons, h]
    (refine wp_seq ?_; simp [-exs_cons])
    simp [partD, h]
theorem str_look {a : Prs} (h : StrP a) (f : Str) : ∃ w : Str, look a f (.str "") = .str w := look_ok (P := fun x => ∃ w : Str, x = .str w) h ⟨"", rfl⟩
theorem row_look {b : Prs} (h : RowP b) (f : Str) : ∃ ws : List Str, ws.length ≤ 1000 ∧ look b f (.tuple []) = .tuple (ws.map .str) := look_ok (P := fun x => ∃ ws : List Str, ws.length ≤ 1000 ∧ x = .tuple (ws.map .str)) h ⟨[], by decide, rfl⟩
theorem isBools_map : ∀ bs : List Bool, isBools ((bs.map PyData.bool).map .d) = some bs
  | [] => rfl
  | b :: bs => by
    show (isBools ((bs.map PyData.bool).map .d)).map (b :: ·) = _
    rw [isBools_map bs]
    rfl
theorem all_of (S : Store) (bs : List Bool) : bnop S .all [.d (.list (bs.map .bool))] = some (.d (.bool (bs.all id))) := by
  show (match seqOf S (.d (.list (bs.map .bool))) with
    | some (false, xs) => (isBools xs).map fun (bs : List Bool) => PV.d (.bool (bs.all id))
    | _ => none) = _
  simp only [seqOf, isBools_map, Option.map_some]
theorem any_of (S : Store) (bs : List Bool) : bnop S .any [.d (.list (bs.map .bool))] = some (.d (.bool (bs.any id))) := by
  show (match seqOf S (.d (.list (bs.map .bool))) with
    | some (false, xs) => (isBools xs).map fun (bs : List Bool) => PV.d (.bool (bs.any id))
    | _ => none) = _
  simp only [seqOf, isBools_map, Option.map_some]
/-- a term without a set, and its value -/
inductive Tm3 (a b : Prs) : PyData → Str → Prop
  | name (w : Str) : Tm3 a b (.tuple [.str "name", .str w]) w
  | field (f w : Str) : look a f (.str "") = .str w → Tm3 a b (.tuple [.str "field", .str f]) w
  | part (f : Str) (i : Nat) (ws : List Str) : look b f (.tuple []) = .tuple (ws.map .str) → Tm3 a b (.tuple [.str "part", .str f, .int i]) (partD ws i)
theorem nk (a : Str) (b : Str) (h : decide (a = b) = false) : ¬ a = b := of_decide_eq_false h
theorem value_of_ok (R : Req T bs) {x : PyData} {w : Str} (h : Tm3 a b x w) : callN T F (n + 3) (bs + 7) [.d x, .d (reqD a b c d)] S = .ok (.d (.str w)) S := by
  refine wp_to (wp_fn R.value_of rfl ?_)
  show Wp (exs _ _ (valueOfB bs) [some (.d x), some (.d (reqD a b c d)), none] S) _
  unfold valueOfB
  have k1 := nk "field" "name" (by decide +kernel)
  have k2 := nk "part" "name" (by decide +kernel)
  have k3 := nk "part" "field" (by decide +kernel)
  cases h with
  | name w =>
    (refine wp_seq ?_; simp [-exs_cons])
    (refine wp_seq ?_; simp [-exs_cons])
    (refine wp_seq ?_; simp [-exs_cons])
  | field f w hf =>
    have v := word_of_ok (F := F) (n := n) (S := S) (a := a) (b := b) (c := c) (d := d) R f
    rw [hf] at v
    (refine wp_seq ?_; simp [-exs_cons])
    (refine wp_seq ?_; simp [-exs_cons, k1])
    (refine wp_seq ?_; simp [-exs_cons])
    (refine wp_seq ?_; simp [-exs_cons, v])
  | part f i ws hw =>
    have v := part_of_ok (F := F) (n := n) (S := S) (a := a) (b := b) (c := c) (d := d) R f i ws hw
    (refine wp_seq ?_; simp [-exs_cons])
    (refine wp_seq ?_; simp [-exs_cons, k2])
    (refine wp_seq ?_; simp [-exs_cons, k3])
    (refine wp_seq ?_; simp [-exs_cons])
    (refine wp_seq ?_; simp [-exs_cons, v])
/-- a target, and its words -/
inductive Tg3 (c : Prs) : PyData → List Str → Prop
  | set (f : Str) (ms : List Str) : ms.length ≤ 1000 → look c f (.tuple []) = .tuple (ms.map .str) → Tg3 c (.tuple [.str "set", .str f]) ms
  | names (ms : List Str) : ms.length ≤ 1000 → Tg3 c (.tuple [.str "names", .tuple (ms.map .str)]) ms
theorem target_members_ok (R : Req T bs) {g : PyData} {ms : List Str} (h : Tg3 c g ms) : callN T F (n + 3) (bs + 5) [.d g, .d (reqD a b c d)] S = .ok (.d (.tuple (ms.map .str))) S := by
  refine wp_to (wp_fn R.target_members rfl ?_)
  show Wp (exs _ _ (targetMembersB bs) [some (.d g), some (.d (reqD a b c d))] S) _
  unfold targetMembersB
  have k1 := nk "names" "set" (by decide +kernel)
  cases h with
  | set f ms _ hm =>
    have v := members_of_ok (F := F) (n := n) (S := S) (a := a) (b := b) (c := c) (d := d) R f
    rw [hm] at v
    (refine wp_seq ?_; simp [-exs_cons])
    (refine wp_seq ?_; simp [-exs_cons, v])
  | names ms _ =>
    (refine wp_seq ?_; simp [-exs_cons, k1])
    (refine wp_seq ?_; simp [-exs_cons])
/-- a simple condition, and whether it holds -/
inductive Sm (a b c d : Prs) : PyData → Bool → Prop
  | is_ (x y : PyData) (w v : Str) : Tm3 a b x w → Tm3 a b y v → Sm a b c d (.tuple [.str "is", x, y]) (decide (w = v))
  | in_ (x : PyData) (f w : Str) (ms : List Str) : Tm3 a b x w → look c f (.tuple []) = .tuple (ms.map .str) → Sm a b c d (.tuple [.str "in", x, .str f]) (decide (w ∈ ms))
  | within (f : Str) (g : PyData) (ws ms : List Str) : ws.length ≤ 1000 → look c f (.tuple []) = .tuple (ws.map .str) → Tg3 c g ms → Sm a b c d (.tuple [.str "within", .str f, g]) (ws.all fun w => decide (w ∈ ms))
  | most (x y : Str) (k i j : Int) : look d x (.int 0) = .int i → look d y (.int 0) = .int j → Sm a b c d (.tuple [.str "most", .str x, .str y, .int k]) (decide (i - j ≤ k))
theorem simple_holds_ok (R : Req T bs) {x : PyData} {t : Bool} (h : Sm a b c d x t) (z : PyData) : callN T F (n + 4) (bs + 9) [.d x, .d (reqD a b c d), .d z] S = .ok (.d (.bool t)) S := by
  obtain ⟨rest, hT⟩ := R.simple_holds
  refine wp_to (wp_fn hT rfl ?_)
  show Wp (exs _ _ (simpleHoldsB bs rest) [some (.d x), some (.d (reqD a b c d)), some (.d z), none, none, none] S) _
  unfold simpleHoldsB
  simp only [List.cons_append, List.nil_append]
  have k1 := nk "in" "is" (by decide +kernel)
  have k2 := nk "within" "is" (by decide +kernel)
  have k3 := nk "within" "in" (by decide +kernel)
  have k4 := nk "most" "is" (by decide +kernel)
  have k5 := nk "most" "in" (by decide +kernel)
  have k6 := nk "most" "within" (by decide +kernel)
  cases h with
  | is_ x y w v hx hy =>
    have v1 := value_of_ok (F := F) (n := n) (S := S) (c := c) (d := d) R hx
    have v2 := value_of_ok (F := F) (n := n) (S := S) (c := c) (d := d) R hy
    (refine wp_seq ?_; simp [-exs_cons])
    (refine wp_seq ?_; simp [-exs_cons])
    (refine wp_seq ?_; simp [-exs_cons, v1, v2])
  | in_ x f w ms hx hm =>
    have v1 := value_of_ok (F := F) (n := n) (S := S) (c := c) (d := d) R hx
    have v2 := members_of_ok (F := F) (n := n + 1) (S := S) (a := a) (b := b) (c := c) (d := d) R f
    rw [hm] at v2
    have hi := cmp_inT (S := S) w ms
    (refine wp_seq ?_; simp [-exs_cons])
    (refine wp_seq ?_; simp [-exs_cons, k1])
    (refine wp_seq ?_; simp [-exs_cons])
    (refine wp_seq ?_; simp [-exs_cons, v1, v2, hi])
  | within f g ws ms hl hw hg =>
    have v1 := target_members_ok (F := F) (n := n) (S := S) (a := a) (b := b) (d := d) R hg
    have v2 := members_of_ok (F := F) (n := n + 1) (S := S) (a := a) (b := b) (c := c) (d := d) R f
    rw [hw] at v2
    have hs : ws.length ≤ sizeLine := sizeL (by omega)
    (refine wp_seq ?_; simp [-exs_cons])
    (refine wp_seq ?_; simp [-exs_cons, k2])
    (refine wp_seq ?_; simp [-exs_cons, k3])
    (refine wp_seq ?_; simp [-exs_cons])
    (refine wp_seq ?_; simp [-exs_cons, v1])
    (refine wp_seq ?_; simp [-exs_cons, v2])
    refine wp_bind (wp_noErr (comp_map ws PyData.str (fun w => .bool (decide (w ∈ ms))) rfl rfl (fun w _ => ?_) ?_))
    · have hi := cmp_inT (S := S) w ms
      simp [-exs_cons, killE, hi]
    have e1 : (ws.map fun w => PyData.bool (decide (w ∈ ms))).map PV.d = ((ws.map fun w => decide (w ∈ ms)).map PyData.bool).map .d := by simp
    have e2 := all_of S (ws.map fun w => decide (w ∈ ms))
    rw [e1, if_pos (by simpa using hs), mkLst_map]
    simp only [rb_ok, e2, orStuck_some, wp_ok, seqQ_ret, retQ_ret]
    simp [List.all_map, Function.comp_def]
  | most x y k i j hx hy =>
    have v1 := number_of_ok (F := F) (n := n + 1) (S := S) (a := a) (b := b) (c := c) (d := d) R x
    have v2 := number_of_ok (F := F) (n := n + 1) (S := S) (a := a) (b := b) (c := c) (d := d) R y
    rw [hx] at v1
    rw [hy] at v2
    (refine wp_seq ?_; simp [-exs_cons])
    (refine wp_seq ?_; simp [-exs_cons, k4])
    (refine wp_seq ?_; simp [-exs_cons, k5])
    (refine wp_seq ?_; simp [-exs_cons, k6])
    (refine wp_seq ?_; simp [-exs_cons])
    (refine wp_seq ?_; simp [-exs_cons, v1, v2])
theorem sm_head {x : PyData} {t : Bool} (h : Sm a b c d x t) : ∃ (k : Str) (r : List PyData), x = .tuple (.str k :: r) ∧ ¬ k = "true" ∧ ¬ k = "false" ∧ ¬ k = "not" ∧ ¬ k = "all" ∧ ¬ k = "any" := by
  cases h <;> exact ⟨_, _, rfl, by decide +kernel, by decide +kernel, by decide +kernel, by decide +kernel, by decide +kernel⟩
/-- a condition, and whether it holds -/
inductive Cd (a b c d : Prs) : Nat → PyData → Bool → Prop
  | tt {h : Nat} : Cd a b c d h (.tuple [.str "true"]) true
  | ff {h : Nat} : Cd a b c d h (.tuple [.str "false"]) false
  | sm {h : Nat} {x : PyData} {t : Bool} : Sm a b c d x t → Cd a b c d h x t
  | not {h : Nat} {x : PyData} {t : Bool} : Cd a b c d h x t → Cd a b c d (h + 1) (.tuple [.str "not", x]) (!t)
  | all {h : Nat} {ps : List (PyData × Bool)} : ps.length ≤ 1000 → (∀ p ∈ ps, Cd a b c d h p.1 p.2) → Cd a b c d (h + 1) (.tuple [.str "all", .tuple (ps.map (·.1))]) (ps.all (·.2))
  | any {h : Nat} {ps : List (PyData × Bool)} : ps.length ≤ 1000 → (∀ p ∈ ps, Cd a b c d h p.1 p.2) → Cd a b c d (h + 1) (.tuple [.str "any", .tuple (ps.map (·.1))]) (ps.any (·.2))
theorem holds_ok (R : Req T bs) {h : Nat} {x : PyData} {t : Bool} (hx : Cd a b c d h x t) (z : PyData) : ∀ S : Store, callN T F (h + n + 5) (bs + 10) [.d x, .d (reqD a b c d), .d z] S = .ok (.d (.bool t)) S := by
  induction hx with
  | tt =>
    intro S
    refine wp_to (wp_fn R.holds rfl ?_)
    show Wp (exs _ _ (holdsB bs) [some (.d _), some (.d (reqD a b c d)), some (.d z), none, none] S) _
    unfold holdsB
    (refine wp_seq ?_; simp [-exs_cons])
    (refine wp_seq ?_; simp [-exs_cons])
    (refine wp_seq ?_; simp [-exs_cons])
  | ff =>
    intro S
    have k1 := nk "false" "true" (by decide +kernel)
    refine wp_to (wp_fn R.holds rfl ?_)
    show Wp (exs _ _ (holdsB bs) [some (.d _), some (.d (reqD a b c d)), some (.d z), none, none] S) _
    unfold holdsB
    (refine wp_seq ?_; simp [-exs_cons])
    (refine wp_seq ?_; simp [-exs_cons, k1])
    (refine wp_seq ?_; simp [-exs_cons, k1])
  | @sm h x t hs =>
    intro S
    obtain ⟨k, r, e, k1, k2, k3, k4, k5⟩ := sm_head hs
    have v := simple_holds_ok (F := F) (n := h + n) (S := S) R hs z
    refine wp_to (wp_fn R.holds rfl ?_)
    show Wp (exs _ _ (holdsB bs) [some (.d x), some (.d (reqD a b c d)), some (.d z), none, none] S) _
    unfold holdsB
    have hi : idxop S (.d x) (.d (.int 0)) = some (.d (.str k)) := by rw [e]; exact ix_t0 _ _
    (refine wp_seq ?_; simp [-exs_cons, hi])
    (refine wp_seq ?_; simp [-exs_cons, k1, k2])
    (refine wp_seq ?_; simp [-exs_cons, k3])
    (refine wp_seq ?_; simp [-exs_cons, k4])
    (refine wp_seq ?_; simp [-exs_cons, k5])
    (refine wp_seq ?_; simp [-exs_cons, v])
  | @not h x t _ ih =>
    intro S
    have k1 := nk "not" "true" (by decide +kernel)
    have k2 := nk "not" "false" (by decide +kernel)
    have v := ih S
    rw [show h + 1 + n + 5 = (h + n + 5) + 1 by omega]
    refine wp_to (wp_fn R.holds rfl ?_)
    show Wp (exs _ _ (holdsB bs) [some (.d _), some (.d (reqD a b c d)), some (.d z), none, none] S) _
    unfold holdsB
    (refine wp_seq ?_; simp [-exs_cons])
    (refine wp_seq ?_; simp [-exs_cons, k1, k2])
    (refine wp_seq ?_; simp [-exs_cons])
    (refine wp_seq ?_; simp [-exs_cons, v])
  | @all h ps hl _ ih =>
    intro S
    have k1 := nk "all" "true" (by decide +kernel)
    have k2 := nk "all" "false" (by decide +kernel)
    have k3 := nk "all" "not" (by decide +kernel)
    have hs : ps.length ≤ sizeLine := sizeL (by omega)
    rw [show h + 1 + n + 5 = (h + n + 5) + 1 by omega]
    refine wp_to (wp_fn R.holds rfl ?_)
    show Wp (exs _ _ (holdsB bs) [some (.d _), some (.d (reqD a b c d)), some (.d z), none, none] S) _
    unfold holdsB
    (refine wp_seq ?_; simp [-exs_cons])
    (refine wp_seq ?_; simp [-exs_cons, k1, k2])
    (refine wp_seq ?_; simp [-exs_cons, k3])
    (refine wp_seq ?_; simp [-exs_cons])
    (refine wp_seq ?_; simp [-exs_cons])
    refine wp_bind (wp_noErr (comp_map ps (·.1) (fun p => .bool p.2) rfl rfl (fun p hp => ?_) ?_))
    · have v := ih p hp S
      simp [-exs_cons, killE, v]
    have e1 : (ps.map fun p => PyData.bool p.2).map PV.d = ((ps.map fun p => p.2).map PyData.bool).map .d := by simp
    have e2 := all_of S (ps.map fun p => p.2)
    rw [e1, if_pos (by simpa using hs), mkLst_map]
    simp only [rb_ok, e2, orStuck_some, wp_ok, seqQ_ret, retQ_ret]
    simp [List.all_map, Function.comp_def]
  | @any h ps hl _ ih =>
    intro S
    have k1 := nk "any" "true" (by decide +kernel)
    have k2 := nk "any" "false" (by decide +kernel)
    have k3 := nk "any" "not" (by decide +kernel)
    have k4 := nk "any" "all" (by decide +kernel)
    have hs : ps.length ≤ sizeLine := sizeL (by omega)
    rw [show h + 1 + n + 5 = (h + n + 5) + 1 by omega]
    refine wp_to (wp_fn R.holds rfl ?_)
    show Wp (exs _ _ (holdsB bs) [some (.d _), some (.d (reqD a b c d)), some (.d z), none, none] S) _
    unfold holdsB
    (refine wp_seq ?_; simp [-exs_cons])
    (refine wp_seq ?_; simp [-exs_cons, k1, k2])
    (refine wp_seq ?_; simp [-exs_cons, k3])
    (refine wp_seq ?_; simp [-exs_cons, k4])
    (refine wp_seq ?_; simp [-exs_cons])
    (refine wp_seq ?_; simp [-exs_cons])
    refine wp_bind (wp_noErr (comp_map ps (·.1) (fun p => .bool p.2) rfl rfl (fun p hp => ?_) ?_))
    · have v := ih p hp S
      simp [-exs_cons, killE, v]
    have e1 : (ps.map fun p => PyData.bool p.2).map PV.d = ((ps.map fun p => p.2).map PyData.bool).map .d := by simp
    have e2 := any_of S (ps.map fun p => p.2)
    rw [e1, if_pos (by simpa using hs), mkLst_map]
    simp only [rb_ok, e2, orStuck_some, wp_ok, seqQ_ret, retQ_ret]
    simp [List.any_map, Function.comp_def]
end
end PW

set_option maxHeartbeats 1000000
namespace PW
open PySem PySem.Spec PyProof.Rows L2
/-! PW20: words as rows of digits; the law's promise with the bits of the script's numbers told -/
def W (ds : List Nat) : Str := ⟨(ds.map (97 + ·)).toArray⟩
def Dg (ds : List Nat) : Prop := ∀ d ∈ ds, d < 26
def Nf (m : Nat) (ds : List Nat) : Nat := ds.foldl (fun n d => n * 26 + d + 1) m
def lo : Nat → Nat
  | 0 => 0
  | k + 1 => 26 * lo k + 1
theorem W_len (ds : List Nat) : (W ds).length = ds.length := by
  show (List.toArray _).size = _
  simp
theorem W_list (ds : List Nat) : (W ds).cps.toList = ds.map (97 + ·) := by
  unfold W
  simp
theorem W_nil : W [] = "" := by decide +kernel
theorem W_app (a b : List Nat) : W a ++ W b = W (a ++ b) := by
  show Str.mk ((W a).cps ++ (W b).cps) = _
  unfold W
  simp
theorem W_one (d : Nat) : (⟨#[97 + d]⟩ : Str) = W [d] := by
  unfold W
  simp
theorem W_inj {a b : List Nat} (h : W a = W b) : a = b := by
  have := congrArg (fun x : Str => x.cps.toList) h
  simp only [W_list] at this
  exact (List.map_inj_right (fun x y h => by omega)).mp this
theorem W_cut {ds : List Nat} (h : Dg ds) (l r : Option Int) : ∃ es, Dg es ∧ es.length ≤ ds.length ∧ L2.cutS (W ds) l r = W es := by
  unfold L2.cutS
  rw [W_list, ← List.map_drop, ← List.map_take]
  refine ⟨_, fun d hd => h d ?_, ?_, rfl⟩
  · exact List.mem_of_mem_drop (List.mem_of_mem_take hd)
  · rw [List.length_take, List.length_drop]
    omega
theorem Nf_snoc (m : Nat) (ds : List Nat) (d : Nat) : Nf m (ds ++ [d]) = Nf m ds * 26 + d + 1 := by
  unfold Nf
  rw [List.foldl_append]
  rfl
theorem ex_digits : ∀ n : Nat, ∃ ds, Dg ds ∧ Nf 0 ds = n ∧ 2 ^ ds.length ≤ n + 1 := by
  intro n
  induction n using Nat.strongRecOn with
  | _ n ih =>
    cases n with
    | zero => exact ⟨[], fun d hd => (nomatch hd), rfl, by simp⟩
    | succ m =>
      obtain ⟨ds, h1, h2, h3⟩ := ih (m / 26) (by omega)
      refine ⟨ds ++ [m % 26], fun d hd => ?_, ?_, ?_⟩
      · rcases List.mem_append.mp hd with h | h
        · exact h1 d h
        · rw [List.mem_singleton.mp h]
          exact Nat.mod_lt _ (by decide)
      · rw [Nf_snoc, h2]
        omega
      · rw [List.length_append, List.length_singleton, Nat.pow_succ]
        omega
theorem digits_len {ds : List Nat} {n k : Nat} (h : 2 ^ ds.length ≤ n + 1) (hn : n < 2 ^ k) : ds.length ≤ k :=
  (Nat.pow_le_pow_iff_right (by decide)).mp (Nat.le_trans h hn)
theorem Nf_lo : ∀ (ds : List Nat) (m : Nat), m * 26 ^ ds.length + lo ds.length ≤ Nf m ds
  | [], m => by show m * 1 + 0 ≤ m; omega
  | d :: ds, m => by
    have ih := Nf_lo ds (m * 26 + d + 1)
    show m * 26 ^ (ds.length + 1) + (26 * lo ds.length + 1) ≤ Nf (m * 26 + d + 1) ds
    have e : 25 * lo ds.length + 1 = 26 ^ ds.length := by
      generalize ds.length = k
      induction k with
      | zero => rfl
      | succ k ih => rw [Nat.pow_succ, ← ih]; show 25 * (26 * lo k + 1) + 1 = _; omega
    have h2 : (m * 26 + 1) * 26 ^ ds.length ≤ (m * 26 + d + 1) * 26 ^ ds.length := Nat.mul_le_mul_right _ (by omega)
    have h3 : (m * 26 + 1) * 26 ^ ds.length = m * 26 ^ (ds.length + 1) + 26 ^ ds.length := by
      rw [Nat.add_mul, Nat.pow_succ, Nat.mul_comm (26 ^ ds.length) 26, Nat.mul_assoc, Nat.one_mul]
    omega
theorem lo_pow (k : Nat) : 25 * lo k + 1 = 26 ^ k := by
  induction k with
  | zero => rfl
  | succ k ih => rw [Nat.pow_succ, ← ih]; show 25 * (26 * lo k + 1) + 1 = _; omega
theorem lo_mono {i j : Nat} (h : i ≤ j) : lo i ≤ lo j := by
  induction h with
  | refl => exact Nat.le_refl _
  | step _ ih => exact Nat.le_trans ih (by show _ ≤ 26 * lo _ + 1; omega)
theorem Nf_hi : ∀ (ds : List Nat) (m : Nat), Dg ds → Nf m ds ≤ m * 26 ^ ds.length + 26 * lo ds.length
  | [], m, _ => by show m ≤ m * 1 + 26 * 0; omega
  | d :: ds, m, h => by
    have ih := Nf_hi ds (m * 26 + d + 1) fun x hx => h x (List.mem_cons_of_mem _ hx)
    have hd := h d List.mem_cons_self
    show Nf (m * 26 + d + 1) ds ≤ m * 26 ^ (ds.length + 1) + 26 * (26 * lo ds.length + 1)
    have e := lo_pow ds.length
    have h2 : (m * 26 + d + 1) * 26 ^ ds.length ≤ (m * 26 + 26) * 26 ^ ds.length := Nat.mul_le_mul_right _ (by omega)
    have h3 : (m * 26 + 26) * 26 ^ ds.length = m * 26 ^ (ds.length + 1) + 26 * 26 ^ ds.length := by
      rw [Nat.add_mul, Nat.pow_succ, Nat.mul_comm (26 ^ ds.length) 26, Nat.mul_assoc]
    omega
theorem Nf_short {a b : List Nat} (ha : Dg a) (h : a.length < b.length) : Nf 0 a < Nf 0 b := by
  have h1 := Nf_hi a 0 ha
  have h2 := Nf_lo b 0
  have h3 := lo_mono (show a.length + 1 ≤ b.length from h)
  have h4 : lo (a.length + 1) = 26 * lo a.length + 1 := rfl
  omega
theorem Nf_lt : ∀ (a b : List Nat) (m m' : Nat), a.length = b.length → Dg a → m < m' → Nf m a < Nf m' b
  | [], [], _, _, _, _, h => h
  | [], _ :: _, _, _, h, _, _ => by cases h
  | _ :: _, [], _, _, h, _, _ => by cases h
  | x :: a, y :: b, m, m', h, hd, hm => by
    have hx := hd x List.mem_cons_self
    refine Nf_lt a b (m * 26 + x + 1) (m' * 26 + y + 1) (by simpa using h) (fun z hz => hd z (List.mem_cons_of_mem _ hz)) ?_
    omega
theorem Nf_lex : ∀ (a b : List Nat) (m : Nat), a.length = b.length → Dg a → Dg b → (Nf m a < Nf m b ↔ a.map (97 + ·) < b.map (97 + ·))
  | [], [], m, _, _, _ => by
    show m < m ↔ _
    simp
  | [], _ :: _, _, h, _, _ => by cases h
  | _ :: _, [], _, h, _, _ => by cases h
  | x :: a, y :: b, m, h, ha, hb => by
    have ih := Nf_lex a b (m * 26 + x + 1) (by simpa using h) (fun z hz => ha z (List.mem_cons_of_mem _ hz)) fun z hz => hb z (List.mem_cons_of_mem _ hz)
    have hl : a.length = b.length := by simpa using h
    rw [List.map_cons, List.map_cons, List.cons_lt_cons_iff]
    show Nf (m * 26 + x + 1) a < Nf (m * 26 + y + 1) b ↔ _
    rcases Nat.lt_trichotomy x y with hxy | rfl | hxy
    · have := Nf_lt a b (m * 26 + x + 1) (m * 26 + y + 1) hl (fun z hz => ha z (List.mem_cons_of_mem _ hz)) (by omega)
      exact ⟨fun _ => .inl (by omega), fun _ => this⟩
    · rw [ih]
      exact ⟨fun h => .inr ⟨rfl, h⟩, fun h => h.elim (fun h => absurd h (by omega)) fun h => h.2⟩
    · have := Nf_lt b a (m * 26 + y + 1) (m * 26 + x + 1) hl.symm (fun z hz => hb z (List.mem_cons_of_mem _ hz)) (by omega)
      exact ⟨fun h => absurd h (by omega), fun h => h.elim (fun h => absurd h (by omega)) fun h => absurd h.1 (by omega)⟩
theorem W_order {a b : List Nat} (ha : Dg a) (hb : Dg b) : decide ((Nf 0 a : Int) < Nf 0 b) = (decide (a.length < b.length) || (decide (a.length = b.length) && decide ((W a).cps.toList < (W b).cps.toList))) := by
  rw [W_list, W_list]
  rcases Nat.lt_trichotomy a.length b.length with h | h | h
  · have := Nf_short (b := b) ha h
    simp [h]
    omega
  · have := Nf_lex a b 0 h ha hb
    have h2 : ¬ (a.length < b.length) := by omega
    rw [decide_eq_false h2, decide_eq_true h, Bool.false_or, Bool.true_and]
    by_cases h3 : Nf 0 a < Nf 0 b
    · rw [decide_eq_true (this.mp h3), decide_eq_true (by omega)]
    · rw [decide_eq_false (fun h => h3 (this.mpr h)), decide_eq_false (by omega)]
  · have := Nf_short (b := a) hb h
    have h2 : ¬ (a.length < b.length) := by omega
    have h3 : ¬ (a.length = b.length) := by omega
    simp [h2, h3]
    omega
theorem big_line : 16000000 ≤ sizeLine := by decide +kernel
theorem sizeM {n : Nat} (h : n ≤ 16000000) : n ≤ sizeLine := Nat.le_trans h big_line
theorem abc_find : ∀ i : Fin 26, (Builtin.Str.occurrences abc ⟨#[97 + i.val]⟩ 0 abc.length 1).head? = some i.val := by decide +kernel
@[simp] theorem find_abc {i : Nat} (h : i < 26) : dmop .sindex (.d (.str abc)) [.d (.str ⟨#[97 + i]⟩)] = some (.d (.int i)) := by
  have h0 := abc_find ⟨i, h⟩
  show (match Builtin.Str.occurrences abc ⟨#[97 + i]⟩ 0 abc.length 1 with
    | i :: _ => some (PV.d (.int (i : Nat)))
    | [] => none) = _
  cases e : Builtin.Str.occurrences abc ⟨#[97 + i]⟩ 0 abc.length 1 with
  | nil => rw [e] at h0; cases h0
  | cons x r => rw [e] at h0; cases h0; rfl
section
variable {T : List FD} {F n j : Nat} {S : Store}
def nmB (abcE : CE) : List CS := [
  .asg (.slot 1) (.lit (.int 0)),
  .for_ (.slot 2) .of [(.var 0)] [
    .asg (.slot 1) (.bin .add (.bin .add (.bin .mul (.var 1) (.lit (.int 26))) (.dm .sindex abcE [(.var 2)])) (.lit (.int 1)))],
  .ret (.var 1)]
theorem num_ok' {e : CE} (he : e = .lit (.str abc) ∨ ∃ x, e = .glob x (.str abc)) (hT : T[j]? = some ⟨3, 1, nmB e⟩) (ds : List Nat) (hd : Dg ds) :
    callN T F (n + 1) j [.d (.str (W ds))] S = .ok (.d (.int (Nf 0 ds))) S := by
  have hev : ∀ t env S, ev (callN T F n) e t env S = .ok (.d (.str abc)) S := by
    rcases he with rfl | ⟨x, rfl⟩ <;> intro t env S <;> simp
  have loop : ∀ (ds0 ds : List Nat) (m : Nat) (k : Option PV) (w : Walked), w.at_ = none → Dg ds → ∃ k', forLoop w (bodyM (.slot 2) fun env S => exs (callN T F n) F [
    .asg (.slot 1) (.bin .add (.bin .add (.bin .mul (.var 1) (.lit (.int 26))) (.dm .sindex e [(.var 2)])) (.lit (.int 1)))] env S) (ds.map fun d => chr (97 + d)) [some (.d (.str (W ds0))), some (.d (.int m)), k] S = .ok ([some (.d (.str (W ds0))), some (.d (.int (Nf m ds))), k'], .next) S := by
    intro ds0 ds
    induction ds with
    | nil => exact fun m k w _ _ => ⟨k, rfl⟩
    | cons d ds ih =>
      intro m k w hw hd
      obtain ⟨k', h⟩ := ih (m * 26 + d + 1) (some (chr (97 + d))) w hw fun x hx => hd x (List.mem_cons_of_mem _ hx)
      refine ⟨k', ?_⟩
      have hm := mulOk_r (m : Int) 26 (by decide) (by decide)
      have hf := find_abc (hd d List.mem_cons_self)
      rw [List.map_cons, for_step (env1 := [some (.d (.str (W ds0))), some (.d (.int ((m * 26 + d + 1 : Nat) : Int))), some (chr (97 + d))]) (S1 := S) ?_ (same_at hw S)]
      · exact h
      · unfold chr
        simp [hev, hm, hf]
  rw [callN_at hT, run1_eq rfl]
  show (exs _ _ (nmB e) [some (.d (.str (W ds))), none, none] S).bind retR = _
  unfold nmB
  obtain ⟨k', h⟩ := loop ds ds 0 none ⟨(W ds).cps.toList.map PW.chr, none⟩ rfl hd
  rw [exs_step (env1 := [some (.d (.str (W ds))), some (.d (.int 0)), none]) (S1 := S) (by simp)]
  have h2 := ex_of (Φ := callN T F n) (N := F) (env := [some (.d (.str (W ds))), some (.d (.int 0)), none]) (S := S) (S1 := S) (tg := .slot 2) (src := [(.var 0)]) (body := [
    .asg (.slot 1) (.bin .add (.bin .add (.bin .mul (.var 1) (.lit (.int 26))) (.dm .sindex e [(.var 2)])) (.lit (.int 1)))]) (v := .d (.str (W ds))) (by simp) (walk_str (W ds))
  have hm : (W ds).cps.toList.map PW.chr = ds.map fun d => PW.chr (97 + d) := by
    rw [W_list, List.map_map]
    rfl
  rw [exs_step (h2.trans ((congrArg (fun l => forLoop _ _ l _ _) hm).trans h))]
  simp
def wrB (x : Str) : List CS := [
  .asg (.slot 1) (.lit (.str "")),
  .while_ (.cmp .gt (.var 0) (.lit (.int 0))) [
    .aug 0 .sub (.lit (.int 1)),
    .asg (.slot 1) (.bin .add (.idx (.glob x (.str "abcdefghijklmnopqrstuvwxyz")) (.bin .mod (.var 0) (.lit (.int 26)))) (.var 1)),
    .aug 0 .fdiv (.lit (.int 26))],
  .ret (.var 1)]
theorem at_ok' {x : Str} (hT : T[j]? = some ⟨2, 1, wrB x⟩) (ds : List Nat) (hd : Dg ds) (hl : ds.length ≤ 15000000) (hF : ds.length < F) :
    callN T F (n + 1) j [.d (.int (Nf 0 ds))] S = .ok (.d (.str (W ds))) S := by
  have loop : ∀ (F0 k : Nat) (ds acc : List Nat) (F : Nat), ds.length = k → ds.length < F → Dg ds → ds.length + acc.length ≤ 15000000 → whileLoop (fun env S => ev (callN T F0 n) (.cmp .gt (.var 0) (.lit (.int 0))) true env S) (fun env S => exs (callN T F0 n) F0 [
    .aug 0 .sub (.lit (.int 1)),
    .asg (.slot 1) (.bin .add (.idx (.glob x (.str "abcdefghijklmnopqrstuvwxyz")) (.bin .mod (.var 0) (.lit (.int 26)))) (.var 1)),
    .aug 0 .fdiv (.lit (.int 26))] env S) F [some (.d (.int (Nf 0 ds))), some (.d (.str (W acc)))] S = .ok ([some (.d (.int 0)), some (.d (.str (W (ds ++ acc))))], .next) S := by
    intro F0 k
    induction k with
    | zero =>
      intro ds acc F hk hF _ _
      obtain rfl := List.eq_nil_of_length_eq_zero hk
      cases F with
      | zero => exact absurd hF (Nat.not_lt_zero _)
      | succ F => exact while_end (by show asBool (ev _ _ true [some (.d (.int (0 : Int))), _] S) = _; simp)
    | succ k ih =>
      intro ds acc F hk hF hd hl
      obtain ⟨ds, d, rfl⟩ : ∃ l d, ds = l ++ [d] := by
        rcases List.eq_nil_or_concat ds with h | h
        · subst h; cases hk
        · obtain ⟨l, d, h⟩ := h
          exact ⟨l, d, by rw [h, List.concat_eq_append]⟩
      have hk' : ds.length = k := by simpa using hk
      rw [List.length_append, List.length_singleton] at hF hl
      have hd26 : d < 26 := hd d (by simp)
      cases F with
      | zero => exact absurd hF (Nat.not_lt_zero _)
      | succ F =>
        have h := ih ds (d :: acc) F hk' (by omega) (fun y hy => hd y (List.mem_append_left _ hy)) (by rw [List.length_cons]; omega)
        have i1 := idx_abc (S := S) hd26
        have e0 : (0 : Int) < (Nf 0 (ds ++ [d]) : Nat) := by rw [Nf_snoc]; omega
        have e1 : (((Nf 0 (ds ++ [d]) : Nat) : Int) - 1) % 26 = (d : Nat) := by rw [Nf_snoc]; omega
        have e2 : (((Nf 0 (ds ++ [d]) : Nat) : Int) - 1) / 26 = (Nf 0 ds : Nat) := by rw [Nf_snoc]; omega
        have hz := sizeM (show 1 + (W acc).length ≤ 16000000 by rw [W_len]; omega)
        have hw : (⟨#[97 + d]⟩ : Str) ++ W acc = W (d :: acc) := by rw [W_one, W_app]; rfl
        generalize ((Nf 0 (ds ++ [d]) : Nat) : Int) = z at *
        rw [while_step (S1 := S) (S2 := S) (env1 := [some (.d (.int (Nf 0 ds : Nat))), some (.d (.str (W (d :: acc))))])]
        · rw [h, List.append_assoc]
          rfl
        · simp [e0]
        · simp [e1, e2, i1, hz, hw]
  rw [callN_at hT, run1_eq rfl]
  show (exs _ _ (wrB x) [some (.d (.int (Nf 0 ds))), none] S).bind retR = _
  unfold wrB
  rw [exs_step (env1 := [some (.d (.int (Nf 0 ds))), some (.d (.str (W [])))]) (S1 := S) (by simp [W_nil])]
  rw [exs_step ((ex_while _ _).trans (loop F ds.length ds [] F rfl hF hd (by simpa using hl)))]
  simp
end
/-! min(l, key=f) -/
theorem keys_all {F : List PV → Store → Res PV} {S : Store} {κ : PyData → Int} : ∀ {ds : List PyData}, (∀ x ∈ ds, F [.d x] S = .ok (.d (.int (κ x))) S) → keysK F S ds = some (ds.map κ)
  | [], _ => rfl
  | x :: r, h => by
    unfold keysK
    rw [h x List.mem_cons_self]
    simp [keys_all fun y hy => h y (List.mem_cons_of_mem _ hy)]
theorem best_least (f : Nat → Int) : ∀ n j, j ≤ n → argBest (fun i j => decide (f i < f j)) n ≤ n ∧ f (argBest (fun i j => decide (f i < f j)) n) ≤ f j
  | 0, j, h => by
    obtain rfl : j = 0 := by omega
    exact ⟨Nat.le_refl _, Int.le_refl _⟩
  | n + 1, j, h => by
    obtain ⟨h1, h2⟩ := best_least f n (min j n) (Nat.min_le_right _ _)
    unfold argBest
    by_cases hc : f (n + 1) < f (argBest (fun i j => decide (f i < f j)) n)
    · rw [if_pos (by simpa using hc)]
      refine ⟨Nat.le_refl _, ?_⟩
      by_cases hj : j = n + 1
      · subst hj; exact Int.le_refl _
      · rw [show min j n = j by omega] at h2; omega
    · rw [if_neg (by simpa using hc)]
      refine ⟨by omega, ?_⟩
      by_cases hj : j = n + 1
      · subst hj; omega
      · rw [show min j n = j by omega] at h2; exact h2
theorem min_ok {F : List PV → Store → Res PV} {S : Store} {κ : PyData → Int} {ds : List PyData} (hn : ds ≠ []) (h : ∀ x ∈ ds, F [.d x] S = .ok (.d (.int (κ x))) S) : ∃ y ∈ ds, minR F (.d (.list ds)) S = .ok (.d y) S ∧ ∀ x ∈ ds, κ y ≤ κ x := by
  have hl : 0 < ds.length := List.length_pos_iff.mpr hn
  have key : ∀ i, i < ds.length → ∃ x ∈ ds, ds[i]? = some x ∧ (ds.map κ).getD i 0 = κ x := fun i hi => ⟨ds[i], List.getElem_mem hi, List.getElem?_eq_getElem hi, by simp [hi]⟩
  obtain ⟨b1, _⟩ := best_least (fun i => (ds.map κ).getD i 0) (ds.length - 1) 0 (by omega)
  obtain ⟨y, hy, y1, y2⟩ := key (argBest (fun i j => decide ((ds.map κ).getD i 0 < (ds.map κ).getD j 0)) (ds.length - 1)) (by omega)
  refine ⟨y, hy, ?_, fun x hx => ?_⟩
  · show (match keysK F S ds with
      | some ks => match minAt ds ks with
        | some x => Res.ok (PV.d x) S
        | none => .stuck
      | none => .stuck) = _
    rw [keys_all h]
    have : minAt ds (ds.map κ) = some y := y1
    simp only [this]
  · obtain ⟨i, hi, rfl⟩ := List.getElem_of_mem hx
    obtain ⟨_, h2⟩ := best_least (fun i => (ds.map κ).getD i 0) (ds.length - 1) i (by omega)
    have e : (ds.map κ).getD i 0 = κ ds[i] := by simp [hi]
    rw [← y2, ← e]
    exact h2
/-! a cell of the script: 0 or one of its numbers -/
theorem cell_in {T : List FD} {F n j jt : Nat} (S : Store) (hT : T[j]? = some ⟨2, 2, cellB jt⟩) (ht : T[jt]? = some ⟨2, 2, takeB⟩) (ns : List Int) (r : List Int) :
    ∃ (i : Int) (r' : List Int), (i = 0 ∨ i ∈ ns) ∧ callN T F (n + 2) j [.d (.list (ns.map .int)), .loc 0] (dr r :: S) = .ok (.d (.int i)) (dr r' :: S) := by
  rw [callN_at hT, run1_eq rfl]
  show ∃ (i : Int) (r' : List Int), _ ∧ (exs _ _ (cellB jt) [some (.d (.list (ns.map .int))), some (.loc 0)] (dr r :: S)).bind retR = _
  unfold cellB
  cases ns with
  | nil => exact ⟨0, r, .inl rfl, by simp⟩
  | cons x0 ns =>
    have hp : (0 : Int) < ((x0 :: ns).length : Int) := by simp
    obtain ⟨b1, b2⟩ := tk_range (r := r) hp
    have t1 := take_ok (F := F) (n := n) ht r S _ hp
    obtain ⟨v, hv, hi, _⟩ := idx_lst (S := dr r.tail :: S) (ds := (x0 :: ns).map .int) b1 (by rw [List.length_map]; exact b2)
    obtain ⟨i, hin, rfl⟩ := List.mem_map.mp hv
    refine ⟨i, r.tail, .inr hin, ?_⟩
    have h0 : ¬ (((x0 :: ns).length : Int) = 0) := by omega
    generalize (x0 :: ns) = l at *
    have h0' : ¬ l = [] := by rintro rfl; exact h0 rfl
    simp [h0', t1, hi]
theorem bits_lt {z : Int} {K : Nat} (h : Builtin.Int.intBits z ≤ K) : z.natAbs < 2 ^ K := by
  unfold Builtin.Int.intBits at h
  split at h
  · rename_i h0
    have h0 : z = 0 := by simpa using h0
    rw [h0]
    exact Nat.two_pow_pos K
  · rename_i h0
    have h0 : ¬ z = 0 := by simpa using h0
    have : z.natAbs ≠ 0 := by omega
    exact (Nat.log2_lt this).mp (by omega)
/-- from a run of the evaluator to the law's promise, the bits told -/
theorem law_spB {K : PySem.W.Frag} {ds : List DefT} {m k j n : Nat} (h : ∀ (cl : List Addr) (ns : List Int), cl.length = m → ns.length ≤ n → (∀ z ∈ ns, Builtin.Int.intBits z ≤ 1048576) → ∃ F S, callN (fdsC ds cl) F k j [.d (.list (ns.map .int))] [] = .ok (.d (.bool true)) S) (H : Hp) (a : Addr) (ns : List Int) (hl : ns.length ≤ n) (hb : ∀ z ∈ ns, Builtin.Int.intBits z ≤ 1048576) (hS : SqL K H a (ns.map V.int)) :
    spLaw K ds m k j [.ref a] H (fun v _ => v = .bl true) fun _ _ _ => False := by
  intro cl cls hcl
  obtain ⟨F, S', e⟩ := h cl ns hcl hl hb
  refine ⟨F, rfl, ⟨H, fun _ => 0⟩, [], [.d (.list (ns.map .int))], ⟨.refl _, fun l o e => by simp at e, fun l m hl => by simp at hl⟩, .cons (.d (.lst hS (dp_ints ns))) .nil, ?_⟩
  rw [e]
  intro g' H' v _ _ rv
  exact rv_bool rv
end PW

set_option maxHeartbeats 4000000
namespace PW
open PySem PySem.Spec PyProof.Rows L2
/-! PW21: words have numbers; requests drawn section by section -/
def num (x : Str) : Nat := Nf 0 (x.cps.toList.map (· - 97))
/-- a word -/
def IsW (x : Str) : Prop := ∃ ds, Dg ds ∧ ds ≠ [] ∧ x = W ds ∧ ds.length ≤ 60
theorem num_W (ds : List Nat) : num (W ds) = Nf 0 ds := by
  unfold num
  rw [W_list, List.map_map]
  congr 1
  induction ds with
  | nil => rfl
  | cons d r ih => rw [List.map_cons, ih]; simp
theorem wAux_W : ∀ (f n : Nat) (acc : List Nat), ∃ ds, Dg ds ∧ ds.length ≤ f ∧ (1 ≤ n → 1 ≤ f → ds ≠ []) ∧ wAux f n (W acc) = W (ds ++ acc)
  | 0, n, acc => ⟨[], fun d h => (nomatch h), Nat.le_refl _, fun _ h => absurd h (by decide), rfl⟩
  | f + 1, n, acc => by
    unfold wAux
    by_cases h : n = 0
    · rw [if_pos h]
      exact ⟨[], fun d h => (nomatch h), Nat.zero_le _, fun h1 => absurd h (by omega), rfl⟩
    · rw [if_neg h]
      obtain ⟨ds, h1, h2, _, h3⟩ := wAux_W f ((n - 1) / 26) ((n - 1) % 26 :: acc)
      refine ⟨ds ++ [(n - 1) % 26], fun d hd => ?_, by rw [List.length_append, List.length_singleton]; omega, fun _ _ => by simp, ?_⟩
      · rcases List.mem_append.mp hd with h | h
        · exact h1 d h
        · rw [List.mem_singleton.mp h]; exact Nat.mod_lt _ (by decide)
      · rw [W_one, W_app, show [(n - 1) % 26] ++ acc = (n - 1) % 26 :: acc from rfl, h3, List.append_assoc]
        rfl
theorem wAt_W {i : Nat} (h : 1 ≤ i) : IsW (wAt i) := by
  obtain ⟨ds, h1, h2, h3, h4⟩ := wAux_W 60 i []
  rw [W_nil, List.append_nil] at h4
  exact ⟨ds, h1, h3 h (by decide), h4, h2⟩
theorem IsW.len {x : Str} (h : IsW x) : x.length ≤ 60 := by
  obtain ⟨ds, _, _, rfl, h⟩ := h
  rw [W_len]
  exact h
theorem IsW.ne {x : Str} (h : IsW x) : x ≠ "" := by
  obtain ⟨ds, _, h, rfl, _⟩ := h
  intro e
  rw [← W_nil] at e
  exact h (W_inj e)
theorem lex_eq : ∀ (a b : List Nat), ¬ a < b → ¬ b < a → a = b
  | [], [], _, _ => rfl
  | [], _ :: _, h, _ => absurd (List.nil_lt_cons _ _) h
  | _ :: _, [], _, h => absurd (List.nil_lt_cons _ _) h
  | x :: a, y :: b, h1, h2 => by
    rw [List.cons_lt_cons_iff] at h1 h2
    have e : x = y := by
      rcases Nat.lt_trichotomy x y with z | z | z
      · exact absurd (.inl z) h1
      · exact z
      · exact absurd (.inl z) h2
    subst e
    rw [lex_eq a b (fun z => h1 (.inr ⟨rfl, z⟩)) fun z => h2 (.inr ⟨rfl, z⟩)]
theorem Nf_inj {a b : List Nat} (ha : Dg a) (hb : Dg b) (h : Nf 0 a = Nf 0 b) : a = b := by
  have hl : a.length = b.length := by
    rcases Nat.lt_trichotomy a.length b.length with z | z | z
    · have := Nf_short (b := b) ha z; omega
    · exact z
    · have := Nf_short (b := a) hb z; omega
  have h1 := Nf_lex a b 0 hl ha hb
  have h2 := Nf_lex b a 0 hl.symm hb ha
  have n1 : ¬ a.map (97 + ·) < b.map (97 + ·) := fun z => by have := h1.mpr z; omega
  have n2 : ¬ b.map (97 + ·) < a.map (97 + ·) := fun z => by have := h2.mpr z; omega
  exact (List.map_inj_right (fun x y h => by omega)).mp (lex_eq _ _ n1 n2)
theorem num_inj {x y : Str} (hx : IsW x) (hy : IsW y) (h : num x = num y) : x = y := by
  obtain ⟨a, ha, _, rfl, _⟩ := hx
  obtain ⟨b, hb, _, rfl, _⟩ := hy
  rw [num_W, num_W] at h
  rw [Nf_inj ha hb h]
theorem num_lt {x y : Str} (hx : IsW x) (hy : IsW y) : decide (num x < num y) = (decide (x.length < y.length) || (decide (x.length = y.length) && decide (x.cps.toList < y.cps.toList))) := by
  obtain ⟨a, ha, _, rfl, _⟩ := hx
  obtain ⟨b, hb, _, rfl, _⟩ := hy
  rw [num_W, num_W, W_len, W_len, ← W_order ha hb]
  simp
section
variable {T : List FD} {F n j jt jw js jv : Nat} {S : Store}
theorem some_w (hT : T[j]? = some ⟨3, 1, someB jt jw⟩) (ht : T[jt]? = some ⟨2, 2, takeB⟩) (hw : T[jw]? = some ⟨3, 1, wordB⟩) (r : List Int) {Q : PV → Store → Prop} (hQ : ∀ x r', IsW x → Q (.d (.str x)) (dr r' :: S)) : Wp (callN T F (n + 2) j [.loc 0] (dr r :: S)) Q := by
  obtain ⟨i, r', h, e⟩ := some_at (F := F) (n := n) S hT ht hw r
  exact ⟨_, _, e, hQ _ r' (wAt_W h)⟩
def IsWs (x : PyData) : Prop := ∃ w, IsW w ∧ x = .str w
theorem words_of {ds : List PyData} (h : ∀ y ∈ ds, IsWs y) : ∃ ws : List Str, ds = ws.map .str ∧ ws.length = ds.length ∧ ∀ w ∈ ws, IsW w := by
  induction ds with
  | nil => exact ⟨[], rfl, rfl, fun _ h => (nomatch h)⟩
  | cons d ds ih =>
    obtain ⟨w, hw, rfl⟩ := h d List.mem_cons_self
    obtain ⟨ws, rfl, h2, h3⟩ := ih fun y hy => h y (List.mem_cons_of_mem _ hy)
    refine ⟨w :: ws, rfl, by simp, fun z hz => ?_⟩
    rcases List.mem_cons.mp hz with rfl | hz
    · exact hw
    · exact h3 z hz
theorem sset_mem {L : List Str} {x : Str} : x ∈ ssetD L ↔ x ∈ L := by
  have hm : ∀ (L acc : List Str), x ∈ L.foldl addT acc ↔ x ∈ acc ∨ x ∈ L := by
    intro L
    induction L with
    | nil => intro acc; simp
    | cons y L ih =>
      intro acc
      rw [List.foldl_cons, ih]
      unfold addT
      split
      · rename_i h
        constructor
        · rintro (h | h)
          · exact .inl h
          · exact .inr (List.mem_cons_of_mem _ h)
        · rintro (h' | h')
          · exact .inl h'
          · rcases List.mem_cons.mp h' with rfl | h'
            · exact .inl (by simpa using h)
            · exact .inr h'
      · simp only [List.mem_append, List.mem_singleton, List.mem_cons]
        constructor
        · rintro ((h | h) | h)
          · exact .inr (.inl h)
          · exact .inl h
          · exact .inr (.inr h)
        · rintro (h | h | h)
          · exact .inl (.inr h)
          · exact .inl (.inl h)
          · exact .inr h
  unfold ssetD
  rw [List.mem_mergeSort]
  simpa using hm L []
/-- a value of a section -/
def Val (k : Nat) (x : PyData) : Prop := match k with
  | 0 => IsWs x
  | 3 => ∃ i, x = .int i
  | _ => ∃ ws : List Str, (∀ w ∈ ws, IsW w) ∧ 0 < ws.length ∧ ws.length ≤ 100 ∧ x = .tuple (ws.map .str)
def worthB (jt js : Nat) : List CS := [
  .ite (.cmp .eq (.var 1) (.lit (.int 0))) [
    .ret (.call false js [(.var 0)])] [],
  .ite (.cmp .eq (.var 1) (.lit (.int 3))) [
    .ret (.idx (.fr false .disp [(.lit (.int 1)), (.neg (.lit (.int 1))), (.lit (.int 2)), (.neg (.lit (.int 2))), (.bin .add (.var 2) (.bn .int [(.cmp .eq (.var 2) (.lit (.int 0)))])), (.bin .add (.lit (.int 1)) (.call false jt [(.var 0), (.lit (.int 9))]))]) (.call false jt [(.var 0), (.lit (.int 6))]))] [],
  .asg (.slot 3) (.comp false [4] (.slot 4) .rng1 [(.bin .add (.lit (.int 1)) (.call false jt [(.var 0), (.lit (.int 4))]))] [] (.call false js [(.var 0)])),
  .ite (.cmp .eq (.var 1) (.lit (.int 2))) [
    .asg (.slot 3) (.fr false .sset [(.var 3)])] [],
  .ret (.bn .tuple [(.var 3)])]
/-- words by a comprehension -/
theorem words_comp {Φ : Fns} {env : Env} {sl v : Nat} {xs : List PV} {r : List Int} {w : Walked} {Q : List PV → Store → Prop} (hw : w.at_ = none) (hc : ∀ (r : List Int) (Q : PV → Store → Prop), (∀ x r', IsW x → Q (.d (.str x)) (dr r' :: S)) → Wp (Φ js [.loc 0] (dr r :: S)) Q) (hv : ∀ x, PW.Env.get (List.set env sl (some x)) v = some (.loc 0))
    (hQ : ∀ (ws : List Str) (r' : List Int), ws.length = xs.length → (∀ w ∈ ws, IsW w) → Q ((ws.map PyData.str).map .d) (dr r' :: S)) :
    Wp (compLoop w (compStep env (.slot sl) none fun env S => (orStuck (env.get v) S).bind fun a S1 => (Φ js [a] S1).bind fun v S2 => back false S1.length v S2) xs (dr r :: S)) Q := by
  refine comp_any IsWs hw (fun x r Q' _ hy => ?_) fun ds r' hl hp => ?_
  · rw [hv]
    simp [-exs_cons]
    refine wp_call (hc r (fun v S' => ∃ x r', IsW x ∧ v = .d (.str x) ∧ S' = dr r' :: S) fun x r' h => ⟨x, r', h, rfl, rfl⟩) ?_
    rintro _ _ ⟨x, r', h, rfl, rfl⟩
    simp [-exs_cons]
    exact hy _ _ ⟨x, h, rfl⟩
  · obtain ⟨ws, rfl, h2, h3⟩ := words_of hp
    exact hQ ws r' (by rw [h2, hl]) h3
theorem worth_ok (hT : T[j]? = some ⟨5, 3, worthB jt js⟩) (ht : T[jt]? = some ⟨2, 2, takeB⟩) (hs : T[js]? = some ⟨3, 1, someB jt jw⟩) (hw : T[jw]? = some ⟨3, 1, wordB⟩) (k : Nat) (hk : k < 4) (c : Int) (r : List Int) {Q : PV → Store → Prop} (hQ : ∀ x r', Val k x → Q (.d x) (dr r' :: S)) :
    Wp (callN T F (n + 3) j [.loc 0, .d (.int k), .d (.int c)] (dr r :: S)) Q := by
  refine wp_fn hT rfl ?_
  show Wp (exs _ _ (worthB jt js) [some (.loc 0), some (.d (.int k)), some (.d (.int c)), none, none] (dr r :: S)) _
  unfold worthB
  have t1 : ∀ (r : List Int) (m : Int), 0 < m → callN T F (n + 2) jt [.loc 0, .d (.int m)] (dr r :: S) = .ok (.d (.int (tk r m))) (dr r.tail :: S) := fun r m h => take_ok ht r S m h
  have s1 : ∀ (r : List Int) (Q : PV → Store → Prop), (∀ x r', IsW x → Q (.d (.str x)) (dr r' :: S)) → Wp (callN T F (n + 2) js [.loc 0] (dr r :: S)) Q := fun r Q h => some_w hs ht hw r h
  have many : ∀ (r : List Int) (Q' : PW.Env × Fl → Store → Prop), (∀ (ws : List Str) r', (∀ w ∈ ws, IsW w) → 0 < ws.length → ws.length ≤ 100 → Q' ([some (.loc 0), some (.d (.int k)), some (.d (.int c)), some (.d (.list (ws.map .str))), none], .next) (dr r' :: S)) →
      Wp (ex (callN T F (n + 2)) F (.asg (.slot 3) (.comp false [4] (.slot 4) .rng1 [(.bin .add (.lit (.int 1)) (.call false jt [(.var 0), (.lit (.int 4))]))] [] (.call false js [(.var 0)]))) [some (.loc 0), some (.d (.int k)), some (.d (.int c)), none, none] (dr r :: S)) Q' := by
    intro r Q' h
    obtain ⟨b1, b2⟩ := tk_range (r := r) (m := 4) (by decide)
    obtain ⟨m, hm⟩ : ∃ m : Nat, 1 + tk r 4 = m := ⟨(1 + tk r 4).toNat, by omega⟩
    have hwk := walkOf_rng (S := dr r.tail :: S) m (by omega)
    simp [-exs_cons, t1, hm, hwk]
    refine wp_call (P := fun ys S' => ∃ (ws : List Str) (r' : List Int), ws.length = m ∧ (∀ w ∈ ws, IsW w) ∧ ys = (ws.map PyData.str).map .d ∧ S' = dr r' :: S) (wp_noErr (words_comp rfl s1 (fun x => rfl) fun ws r' h1 h2 => ⟨ws, r', by rw [h1, intsP_len], h2, rfl, rfl⟩)) ?_
    rintro _ _ ⟨ws, r', h1, h2, rfl, rfl⟩
    have hz := sizeL (show ws.length ≤ 1000000 by omega)
    simp [-exs_cons, hz]
    exact h ws r' h2 (by omega) (by omega)
  have hk' : k = 0 ∨ k = 1 ∨ k = 2 ∨ k = 3 := by omega
  rcases hk' with rfl | rfl | rfl | rfl
  · refine wp_seq ?_
    simp [-exs_cons]
    refine wp_seq ?_
    simp [-exs_cons]
    refine wp_call (s1 r (fun v S' => ∃ x r', IsW x ∧ v = .d (.str x) ∧ S' = dr r' :: S) fun x r' h => ⟨x, r', h, rfl, rfl⟩) ?_
    rintro _ _ ⟨x, r', h, rfl, rfl⟩
    simp [-exs_cons]
    exact hQ _ _ ⟨x, h, rfl⟩
  · (refine wp_seq ?_; simp [-exs_cons])
    (refine wp_seq ?_; simp [-exs_cons])
    refine wp_seq (many r _ fun ws r' h1 h2 h3 => ?_)
    simp [-exs_cons]
    (refine wp_seq ?_; simp [-exs_cons])
    (refine wp_seq ?_; simp [-exs_cons])
    exact hQ _ _ ⟨ws, h1, h2, h3, rfl⟩
  · (refine wp_seq ?_; simp [-exs_cons])
    (refine wp_seq ?_; simp [-exs_cons])
    refine wp_seq (many r _ fun ws r' h1 h2 h3 => ?_)
    simp [-exs_cons]
    have f1 := frop_sset (dr r' :: S) ws (by omega)
    (refine wp_seq ?_; simp [-exs_cons, f1])
    (refine wp_seq ?_; simp [-exs_cons, f1])
    (refine wp_seq ?_; simp [-exs_cons])
    have hl := sset_len ws
    refine hQ _ _ ⟨ssetD ws, fun w hw => h1 w (sset_mem.mp hw), ?_, by omega, rfl⟩
    cases ws with
    | nil => exact absurd h2 (by decide)
    | cons a r =>
      have : a ∈ ssetD (a :: r) := sset_mem.mpr List.mem_cons_self
      exact List.length_pos_iff.mpr fun e => by rw [e] at this; cases this
  · (refine wp_seq ?_; simp [-exs_cons])
    (refine wp_seq ?_; simp [-exs_cons])
    refine wp_seq ?_
    obtain ⟨b1, b2⟩ := tk_range (r := r.tail) (m := 6) (by decide)
    have six : ∀ x y : Int, ∃ z : Int, idxop (dr r.tail.tail :: S) (.d (.list [.int 1, .int (-1), .int 2, .int (-2), .int x, .int y])) (.d (.int (tk r.tail 6))) = some (.d (.int z)) := by
      intro x y
      obtain ⟨v, hv, hi, _⟩ := idx_lst (S := dr r.tail.tail :: S) (ds := [.int 1, .int (-1), .int 2, .int (-2), .int x, .int y]) b1 b2
      simp only [List.mem_cons, List.not_mem_nil, or_false] at hv
      rcases hv with rfl | rfl | rfl | rfl | rfl | rfl <;> exact ⟨_, hi⟩
    simp [-exs_cons, t1]
    have m6 : ∀ x y : Int, mkLst [.d (.int 1), .d (.int (-1)), .d (.int 2), .d (.int (-2)), .d (.int x), .d (.int y)] = .d (.list [.int 1, .int (-1), .int 2, .int (-2), .int x, .int y]) := fun _ _ => rfl
    obtain ⟨z, hz⟩ := six (c + if c = 0 then 1 else 0) (1 + tk r 9)
    simp [-exs_cons, m6, t1, hz]
    exact hQ _ _ ⟨z, rfl⟩
def sectB (jt js jh : Nat) : List CS := [
  .asg (.slot 4) (.fr false .sset [(.comp false [5] (.slot 5) .rng1 [(.call false jt [(.var 0), (.bin .add (.var 2) (.lit (.int 1)))])] [] (.call false js [(.var 0)]))]),
  .ret (.bn .tuple [(.comp false [6] (.slot 6) .of [(.var 4)] [] (.tup [(.var 6), (.call false jh [(.var 0), (.var 1), (.var 3)])]))])]
theorem sect_ok {jh : Nat} (hT : T[j]? = some ⟨7, 4, sectB jt js jh⟩) (hh : T[jh]? = some ⟨5, 3, worthB jt js⟩) (ht : T[jt]? = some ⟨2, 2, takeB⟩) (hs : T[js]? = some ⟨3, 1, someB jt jw⟩) (hw : T[jw]? = some ⟨3, 1, wordB⟩) (k : Nat) (hk : k < 4) (m0 : Nat) (hm0 : m0 ≤ 50) (c : Int) (r : List Int) {Q : PV → Store → Prop}
    (hQ : ∀ (ps : Prs) r', ps.length ≤ m0 → (∀ p ∈ ps, IsW p.1 ∧ Val k p.2) → Q (.d (secD ps)) (dr r' :: S)) :
    Wp (callN T F (n + 4) j [.loc 0, .d (.int k), .d (.int m0), .d (.int c)] (dr r :: S)) Q := by
  refine wp_fn hT rfl ?_
  show Wp (exs _ _ (sectB jt js jh) [some (.loc 0), some (.d (.int k)), some (.d (.int m0)), some (.d (.int c)), none, none, none] (dr r :: S)) _
  unfold sectB
  have t1 : ∀ (r : List Int) (m : Int), 0 < m → callN T F (n + 3) jt [.loc 0, .d (.int m)] (dr r :: S) = .ok (.d (.int (tk r m))) (dr r.tail :: S) := fun r m h => take_ok ht r S m h
  have s1 : ∀ (r : List Int) (Q : PV → Store → Prop), (∀ x r', IsW x → Q (.d (.str x)) (dr r' :: S)) → Wp (callN T F (n + 3) js [.loc 0] (dr r :: S)) Q := fun r Q h => some_w hs ht hw r h
  refine wp_seq ?_
  have hp : (0 : Int) < m0 + 1 := by omega
  obtain ⟨b1, b2⟩ := tk_range (r := r) hp
  obtain ⟨m, hm⟩ : ∃ m : Nat, tk r (m0 + 1) = m := ⟨(tk r (m0 + 1)).toNat, by omega⟩
  have hwk := walkOf_rng (S := dr r.tail :: S) m (by omega)
  have tt := t1 r _ hp
  rw [hm] at tt
  simp [-exs_cons, tt, hwk]
  refine wp_call (P := fun ys S' => ∃ (ws : List Str) (r' : List Int), ws.length = m ∧ (∀ w ∈ ws, IsW w) ∧ ys = (ws.map PyData.str).map .d ∧ S' = dr r' :: S) (wp_noErr (words_comp rfl s1 (fun x => rfl) fun ws r' h1 h2 => ⟨ws, r', by rw [h1, intsP_len], h2, rfl, rfl⟩)) ?_
  rintro _ _ ⟨ws, r1, h1, h2, rfl, rfl⟩
  have hz := sizeL (show ws.length ≤ 1000000 by omega)
  have f1 := frop_sset (dr r1 :: S) ws (by omega)
  have hl := sset_len ws
  simp [-exs_cons, hz, f1]
  refine wp_seq ?_
  simp [-exs_cons]
  have hws : ∀ w ∈ ssetD ws, IsW w := fun w hw => h2 w (sset_mem.mp hw)
  generalize ssetD ws = fs at hl hws ⊢
  refine wp_call (P := fun ys S' => ∃ (ps : Prs) (r' : List Int), ps.length = fs.length ∧ (∀ p ∈ ps, IsW p.1 ∧ Val k p.2) ∧ ys = (ps.map pr).map .d ∧ S' = dr r' :: S) (wp_noErr (wp_compQ (fun xs acc S' => ∃ (ps : Prs) (r' : List Int), ps.length + xs.length = fs.length ∧ (∀ p ∈ ps, IsW p.1 ∧ Val k p.2) ∧ acc = (ps.map pr).map .d ∧ S' = dr r' :: S ∧ ∀ x ∈ xs, ∃ w, IsW w ∧ x = .d (.str w)) ⟨[], r1, by simp, fun _ h => (nomatch h), rfl, rfl, fun x hx => ?_⟩ ?_ ?_)) ?_
  · simp only [List.mem_map] at hx
    obtain ⟨w, hw, rfl⟩ := hx
    first | exact ⟨w, hws w hw, rfl⟩ | (obtain ⟨w, hw, rfl⟩ := hw; exact ⟨w, hws w hw, rfl⟩)
  · rintro x rr acc S' Q' ⟨ps, r', h1, h2, rfl, rfl, hx⟩ hN
    obtain ⟨w, hw0, rfl⟩ := hx x List.mem_cons_self
    rw [List.length_cons] at h1
    rw [step_slot]
    simp [-exs_cons, killE]
    refine wp_call (worth_ok (n := n) hh ht hs hw k hk c r' (Q := fun v S' => ∃ x r', Val k x ∧ v = .d x ∧ S' = dr r' :: S) fun x r' h => ⟨x, r', h, rfl, rfl⟩) ?_
    rintro _ _ ⟨x, r2, hv, rfl, rfl⟩
    simp [-exs_cons]
    refine hN _ _ (sameN _ _) ⟨ps ++ [(w, x)], r2, by rw [List.length_append, List.length_singleton]; omega, fun p hp => ?_, by simp [pr], rfl, fun y hy => hx y (List.mem_cons_of_mem _ hy)⟩
    rcases List.mem_append.mp hp with h | h
    · exact h2 p h
    · rw [List.mem_singleton.mp h]
      exact ⟨hw0, hv⟩
  · rintro acc S' ⟨ps, r', h1, h2, rfl, rfl, _⟩
    exact ⟨ps, r', by simpa using h1, h2, rfl, rfl⟩
  · rintro _ _ ⟨ps, r', h1, h2, rfl, rfl⟩
    have hz := sizeL (show ps.length ≤ 1000000 by omega)
    simp [-exs_cons, hz]
    exact hQ ps r' (by omega) h2
end
end PW

set_option maxHeartbeats 4000000
namespace PW
open PySem PySem.Spec PyProof.Rows L2
/-! PW22: terms, the other member of a set among them -/
theorem comp_filt {S : Store} {env : Env} {sl : Nat} {c elt : Env → Store → Res PV} {w : Walked} (ms : List Str) (p : Str → Bool) {Q : List PV → Store → Prop} (hw : w.at_ = none)
    (hc : ∀ m ∈ ms, asBool (c (env.set sl (some (.d (.str m)))) S) = .ok (.d (.bool (p m))) S) (he : ∀ m ∈ ms, elt (env.set sl (some (.d (.str m)))) S = .ok (.d (.str m)) S) (hQ : Q (((ms.filter p).map PyData.str).map .d) S) :
    Wp (compLoop w (compStep env (.slot sl) (some c) elt) ((ms.map PyData.str).map .d) S) Q := by
  refine wp_compQ (fun ys acc S' => S' = S ∧ ∃ (ds es : List Str), ms = ds ++ es ∧ ys = (es.map PyData.str).map .d ∧ acc = ((ds.filter p).map PyData.str).map .d) ⟨rfl, [], ms, rfl, rfl, rfl⟩ ?_ ?_
  · rintro x rr acc S' Q' ⟨rfl, ds, es, hm, hy, rfl⟩ hN
    cases es with
    | nil => cases hy
    | cons e es =>
      cases hy
      have hin : e ∈ ms := by rw [hm]; simp
      rw [step_slot', hc e hin]
      simp only [rb_ok, stepC_b, he e hin]
      have hm' : ms = (ds ++ [e]) ++ es := by rw [hm]; simp
      by_cases h : p e = true
      · rw [if_pos h]
        simp only [wp_ok]
        exact hN _ _ (same_at hw _) ⟨rfl, ds ++ [e], es, hm', rfl, by simp [h]⟩
      · rw [if_neg h]
        simp only [wp_ok]
        exact hN _ _ (same_at hw _) ⟨rfl, ds ++ [e], es, hm', rfl, by simp [h]⟩
  · rintro acc S' ⟨rfl, ds, es, hm, hy, rfl⟩
    cases es with
    | nil => rw [List.append_nil] at hm; subst hm; exact hQ
    | cons e es => cases hy
/-- the word with the least number -/
def leastW (ms : List Str) : Str := ms.foldl (fun acc w => if acc = "" ∨ num w < num acc then w else acc) ""
theorem least_snoc (ms : List Str) (w : Str) : leastW (ms ++ [w]) = if leastW ms = "" ∨ num w < num (leastW ms) then w else leastW ms := by
  unfold leastW
  rw [List.foldl_append]
  rfl
theorem least_inv : ∀ (k : Nat) (ms : List Str), ms.length = k → (∀ w ∈ ms, IsW w) → (ms = [] ∧ leastW ms = "") ∨ (leastW ms ∈ ms ∧ ∀ x ∈ ms, num (leastW ms) ≤ num x)
  | 0, ms, hk, _ => by
    obtain rfl := List.eq_nil_of_length_eq_zero hk
    exact .inl ⟨rfl, rfl⟩
  | k + 1, ms, hk, hw => by
    obtain ⟨l, w, rfl⟩ : ∃ l d, ms = l ++ [d] := by
      rcases List.eq_nil_or_concat ms with h | ⟨l, d, h⟩
      · subst h; cases hk
      · exact ⟨l, d, by rw [h, List.concat_eq_append]⟩
    right
    have hk' : l.length = k := by simpa using hk
    rw [least_snoc]
    rcases least_inv k l hk' fun x hx => hw x (by simp [hx]) with ⟨rfl, h⟩ | ⟨h1, h2⟩
    · rw [if_pos (.inl h)]
      exact ⟨by simp, fun x hx => by simp at hx; rw [hx]; exact Nat.le_refl _⟩
    · have hne := (hw _ (by simp [h1] : leastW l ∈ l ++ [w])).ne
      by_cases h : num w < num (leastW l)
      · rw [if_pos (.inr h)]
        refine ⟨by simp, fun x hx => ?_⟩
        rcases List.mem_append.mp hx with hx | hx
        · have := h2 x hx; omega
        · rw [List.mem_singleton.mp hx]; exact Nat.le_refl _
      · rw [if_neg (by rintro (z | z); exact hne z; exact h z)]
        refine ⟨by simp [h1], fun x hx => ?_⟩
        rcases List.mem_append.mp hx with hx | hx
        · exact h2 x hx
        · rw [List.mem_singleton.mp hx]; omega
def otherB (jt jm jn : Nat) : List CS := [
  .asg (.slot 3) (.call false jt [(.var 1), (.var 2)]),
  .asg (.slot 4) (.comp false [5] (.slot 5) .of [(.call false jm [(.var 2), (.var 0)])] [(.cmp .notin (.var 5) (.var 3))] (.var 5)),
  .ite (.cmp .eq (.bn .len [(.var 4)]) (.lit (.int 0))) [
    .ret (.lit (.str ""))] [],
  .ret (.minK jn (.var 4))]
def targB (jm : Nat) : List CS := [
  .ite (.cmp .eq (.idx (.var 0) (.lit (.int 0))) (.lit (.str "set"))) [
    .ret (.call false jm [(.var 1), (.idx (.var 0) (.lit (.int 1)))])] [],
  .ret (.idx (.var 0) (.lit (.int 1)))]
def valB (jw jp jo : Nat) : List CS := [
  .asg (.slot 2) (.idx (.var 0) (.lit (.int 0))),
  .ite (.cmp .eq (.var 2) (.lit (.str "name"))) [
    .ret (.idx (.var 0) (.lit (.int 1)))] [],
  .ite (.cmp .eq (.var 2) (.lit (.str "field"))) [
    .ret (.call false jw [(.var 1), (.idx (.var 0) (.lit (.int 1)))])] [],
  .ite (.cmp .eq (.var 2) (.lit (.str "part"))) [
    .ret (.call false jp [(.var 1), (.idx (.var 0) (.lit (.int 1))), (.idx (.var 0) (.lit (.int 2)))])] [],
  .ret (.call false jo [(.idx (.var 0) (.lit (.int 1))), (.idx (.var 0) (.lit (.int 2))), (.var 1)])]
structure Vals10 (T : List FD) (jn jv jw jp jm jt jo jvo : Nat) : Prop where
  number : T[jn]? = some ⟨3, 1, nmB (.glob "LETTERS" (.str abc))⟩
  value_in : T[jv]? = some ⟨5, 3, valueB⟩
  word_of : T[jw]? = some ⟨2, 2, wordOfB jv⟩
  part_of : T[jp]? = some ⟨4, 3, partOfB jv⟩
  members_of : T[jm]? = some ⟨2, 2, membersOfB jv⟩
  target : T[jt]? = some ⟨2, 2, targB jm⟩
  other : T[jo]? = some ⟨6, 3, otherB jt jm jn⟩
  value_of : T[jvo]? = some ⟨3, 2, valB jw jp jo⟩
/-- a target, and its words -/
inductive TgW (c : Prs) : PyData → List Str → Prop
  | set (f : Str) (ms : List Str) : look c f (.tuple []) = .tuple (ms.map .str) → TgW c (.tuple [.str "set", .str f]) ms
  | names (ms : List Str) : TgW c (.tuple [.str "names", .tuple (ms.map .str)]) ms
/-- a term, and its value -/
inductive TmW (a b c : Prs) : PyData → Str → Prop
  | name (w : Str) : TmW a b c (.tuple [.str "name", .str w]) w
  | field (f w : Str) : look a f (.str "") = .str w → TmW a b c (.tuple [.str "field", .str f]) w
  | part (f : Str) (i : Nat) (ws : List Str) : look b f (.tuple []) = .tuple (ws.map .str) → TmW a b c (.tuple [.str "part", .str f, .int i]) (partD ws i)
  | other (f : Str) (g : PyData) (ms al : List Str) : look c f (.tuple []) = .tuple (ms.map .str) → (∀ w ∈ ms, IsW w) → ms.length ≤ 1000 → TgW c g al → TmW a b c (.tuple [.str "other", .str f, g]) (leastW (ms.filter fun w => !decide (w ∈ al)))
section
variable {T : List FD} {F n jn jv jw jp jm jt jo jvo : Nat} {S : Store} {a b c d : Prs}
theorem mem_ok (R : Vals10 T jn jv jw jp jm jt jo jvo) (f : Str) : callN T F (n + 2) jm [.d (reqD a b c d), .d (.str f)] S = .ok (.d (look c f (.tuple []))) S := by
  refine wp_to (wp_fn R.members_of rfl ?_)
  show Wp (exs _ _ (membersOfB jv) [some (.d (reqD a b c d)), some (.d (.str f))] S) _
  unfold membersOfB
  have v := value_in_ok (F := F) (n := n) (S := S) R.value_in c f (.tuple [])
  (refine wp_seq ?_; simp [-exs_cons, v])
theorem targ_ok (R : Vals10 T jn jv jw jp jm jt jo jvo) {g : PyData} {al : List Str} (h : TgW c g al) : callN T F (n + 3) jt [.d g, .d (reqD a b c d)] S = .ok (.d (.tuple (al.map .str))) S := by
  refine wp_to (wp_fn R.target rfl ?_)
  show Wp (exs _ _ (targB jm) [some (.d g), some (.d (reqD a b c d))] S) _
  unfold targB
  have k1 := nk "names" "set" (by decide +kernel)
  cases h with
  | set f ms hm =>
    have v := mem_ok (F := F) (n := n) (S := S) (a := a) (b := b) (c := c) (d := d) R f
    rw [hm] at v
    (refine wp_seq ?_; simp [-exs_cons])
    (refine wp_seq ?_; simp [-exs_cons, v])
  | names ms =>
    (refine wp_seq ?_; simp [-exs_cons, k1])
    (refine wp_seq ?_; simp [-exs_cons])
def numP (x : PyData) : Int := match x with
  | .str s => num s
  | _ => 0
theorem min_words (R : Vals10 T jn jv jw jp jm jt jo jvo) (ms : List Str) (hw : ∀ w ∈ ms, IsW w) (hne : ms ≠ []) : minR (callN T F (n + 1) jn) (.d (.list (ms.map .str))) S = .ok (.d (.str (leastW ms))) S := by
  obtain ⟨y, hy, h1, h2⟩ := min_ok (F := callN T F (n + 1) jn) (S := S) (κ := numP) (ds := ms.map .str) (by simpa using hne) (fun x hx => by
    obtain ⟨w, hm, rfl⟩ := List.mem_map.mp hx
    obtain ⟨ds, hd, _, rfl, _⟩ := hw w hm
    show _ = Res.ok (PV.d (.int (num (W ds)))) S
    rw [num_W]
    exact num_ok' (.inr ⟨_, rfl⟩) R.number ds hd)
  obtain ⟨w, hm, rfl⟩ := List.mem_map.mp hy
  rw [h1]
  rcases least_inv ms.length ms rfl hw with ⟨h, _⟩ | ⟨h3, h4⟩
  · exact absurd h hne
  · have e1 := h4 w hm
    have e2 : num w ≤ num (leastW ms) := by
      have := h2 (.str (leastW ms)) (List.mem_map.mpr ⟨_, h3, rfl⟩)
      have : (num w : Int) ≤ num (leastW ms) := this
      omega
    rw [num_inj (hw w hm) (hw _ h3) (by omega)]
theorem other_ok (R : Vals10 T jn jv jw jp jm jt jo jvo) (f : Str) (g : PyData) (ms al : List Str) (hm : look c f (.tuple []) = .tuple (ms.map .str)) (hw : ∀ w ∈ ms, IsW w) (hl : ms.length ≤ 1000) (hg : TgW c g al) :
    callN T F (n + 4) jo [.d (.str f), .d g, .d (reqD a b c d)] S = .ok (.d (.str (leastW (ms.filter fun w => !decide (w ∈ al))))) S := by
  refine wp_to (wp_fn R.other rfl ?_)
  show Wp (exs _ _ (otherB jt jm jn) [some (.d (.str f)), some (.d g), some (.d (reqD a b c d)), none, none, none] S) _
  unfold otherB
  have t1 := targ_ok (F := F) (n := n) (S := S) (a := a) (b := b) (c := c) (d := d) R hg
  have m1 := mem_ok (F := F) (n := n + 1) (S := S) (a := a) (b := b) (c := c) (d := d) R f
  rw [hm] at m1
  (refine wp_seq ?_; simp [-exs_cons, t1])
  refine wp_seq ?_
  simp [-exs_cons, m1]
  have hmm : List.map (PV.d ∘ PyData.str) ms = (ms.map PyData.str).map .d := by rw [List.map_map]
  rw [hmm]
  refine wp_call (P := fun ys S' => ys = ((ms.filter fun w => !decide (w ∈ al)).map PyData.str).map .d ∧ S' = S) (wp_noErr (comp_filt ms (fun w => !decide (w ∈ al)) rfl (fun w hw => ?_) (fun w hw => ?_) ⟨rfl, rfl⟩)) ?_
  · simp [killE, cmp_notinT]
  · simp [killE]
  rintro ys S2 ⟨h1, h2⟩
  subst h1 h2
  have hfl : (ms.filter fun w => !decide (w ∈ al)).length ≤ ms.length := List.length_filter_le _ _
  have hfw : ∀ w ∈ ms.filter fun w => !decide (w ∈ al), IsW w := fun w h => hw w (List.mem_filter.mp h).1
  generalize (ms.filter fun w => !decide (w ∈ al)) = fs at hfl hfw ⊢
  have hz := sizeL (show fs.length ≤ 1000000 by omega)
  simp [-exs_cons, hz]
  by_cases h0 : fs = []
  · subst h0
    (refine wp_seq ?_; simp [-exs_cons])
    (refine wp_seq ?_; simp [-exs_cons])
    rfl
  · have mm := fun S => min_words (F := F) (n := n + 2) (S := S) R fs hfw h0
    (refine wp_seq ?_; simp [-exs_cons, h0])
    (refine wp_seq ?_; simp [-exs_cons, mm])
theorem valueW_ok (R : Vals10 T jn jv jw jp jm jt jo jvo) {x : PyData} {w : Str} (h : TmW a b c x w) : callN T F (n + 5) jvo [.d x, .d (reqD a b c d)] S = .ok (.d (.str w)) S := by
  refine wp_to (wp_fn R.value_of rfl ?_)
  show Wp (exs _ _ (valB jw jp jo) [some (.d x), some (.d (reqD a b c d)), none] S) _
  unfold valB
  have k1 := nk "field" "name" (by decide +kernel)
  have k2 := nk "part" "name" (by decide +kernel)
  have k3 := nk "part" "field" (by decide +kernel)
  have k4 := nk "other" "name" (by decide +kernel)
  have k5 := nk "other" "field" (by decide +kernel)
  have k6 := nk "other" "part" (by decide +kernel)
  cases h with
  | name w =>
    (refine wp_seq ?_; simp [-exs_cons])
    (refine wp_seq ?_; simp [-exs_cons])
    (refine wp_seq ?_; simp [-exs_cons])
  | field f w hf =>
    have v : callN T F (n + 4) jw [.d (reqD a b c d), .d (.str f)] S = .ok (.d (.str w)) S := by
      refine wp_to (wp_fn R.word_of rfl ?_)
      show Wp (exs _ _ (wordOfB jv) [some (.d (reqD a b c d)), some (.d (.str f))] S) _
      unfold wordOfB
      have v := value_in_ok (F := F) (n := n + 2) (S := S) R.value_in a f (.str "")
      rw [hf] at v
      (refine wp_seq ?_; simp [-exs_cons, v])
    (refine wp_seq ?_; simp [-exs_cons])
    (refine wp_seq ?_; simp [-exs_cons, k1])
    (refine wp_seq ?_; simp [-exs_cons])
    (refine wp_seq ?_; simp [-exs_cons, v])
  | part f i ws hw =>
    have v : callN T F (n + 4) jp [.d (reqD a b c d), .d (.str f), .d (.int i)] S = .ok (.d (.str (partD ws i))) S := by
      refine wp_to (wp_fn R.part_of rfl ?_)
      show Wp (exs _ _ (partOfB jv) [some (.d (reqD a b c d)), some (.d (.str f)), some (.d (.int i)), none] S) _
      unfold partOfB
      have v := value_in_ok (F := F) (n := n + 2) (S := S) R.value_in b f (.tuple [])
      rw [hw] at v
      (refine wp_seq ?_; simp [-exs_cons, v])
      refine wp_seq ?_
      by_cases h : i < ws.length
      · have hp := part_at (S := S) ws i h
        simp [-exs_cons, h]
        (refine wp_seq ?_; simp [-exs_cons, hp])
      · simp [-exs_cons, h]
        (refine wp_seq ?_; simp [-exs_cons])
        simp [partD, h]
    (refine wp_seq ?_; simp [-exs_cons])
    (refine wp_seq ?_; simp [-exs_cons, k2])
    (refine wp_seq ?_; simp [-exs_cons, k3])
    (refine wp_seq ?_; simp [-exs_cons])
    (refine wp_seq ?_; simp [-exs_cons, v])
  | other f g ms al hm hw hl hg =>
    have v := other_ok (F := F) (n := n) (S := S) (a := a) (b := b) (d := d) R f g ms al hm hw hl hg
    (refine wp_seq ?_; simp [-exs_cons])
    (refine wp_seq ?_; simp [-exs_cons, k4])
    (refine wp_seq ?_; simp [-exs_cons, k5])
    (refine wp_seq ?_; simp [-exs_cons, k6])
    (refine wp_seq ?_; simp [-exs_cons, v])
end
end PW

set_option maxHeartbeats 4000000
namespace PW
open PySem PySem.Spec PyProof.Rows L2
/-! PW23: texts made of tokens -/
theorem str_ext {x y : Str} (h : x.cps = y.cps) : x = y := by cases x; cases y; cases h; rfl
theorem app_assoc (x y z : Str) : x ++ y ++ z = x ++ (y ++ z) := str_ext (by show (x.cps ++ y.cps) ++ z.cps = x.cps ++ (y.cps ++ z.cps); exact Array.append_assoc)
@[simp] theorem nil_app (x : Str) : ("" : Str) ++ x = x := str_ext (by show #[] ++ x.cps = x.cps; simp)
@[simp] theorem app_nil (x : Str) : x ++ ("" : Str) = x := str_ext (by show x.cps ++ #[] = x.cps; simp)
theorem app_list (x y : Str) : (x ++ y).cps.toList = x.cps.toList ++ y.cps.toList := by
  show (x.cps ++ y.cps).toList = _
  simp
def cat : List Str → Str
  | [] => ""
  | x :: r => x ++ cat r
theorem cat_app : ∀ a b : List Str, cat (a ++ b) = cat a ++ cat b
  | [], b => by simp [cat]
  | x :: a, b => by
    show x ++ cat (a ++ b) = x ++ cat a ++ cat b
    rw [cat_app a b, app_assoc]
theorem join_sep (s : Str) : ∀ (x : Str) (xs : List Str), PySem.Txt.join s (x :: xs) = x ++ cat (xs.map (s ++ ·)) := by
  intro x xs
  rw [TL.join_eq]
  induction xs generalizing x with
  | nil => simp [cat, Str.join]
  | cons y xs ih =>
    show x ++ s ++ Str.join s (y :: xs) = x ++ (s ++ y ++ cat (xs.map (s ++ ·)))
    rw [ih, app_assoc, app_assoc]
theorem join_nil (s : Str) : PySem.Txt.join s [] = "" := by rw [TL.join_eq]; rfl
theorem join_cat (xs : List Str) : PySem.Txt.join "" xs = cat xs := by
  cases xs with
  | nil => rw [join_nil]; rfl
  | cons x xs =>
    rw [join_sep]
    have : ∀ l : List Str, l.map (("" : Str) ++ ·) = l := fun l => by simp
    rw [this]
    rfl
/-- a token in the text: a comma has a space behind it -/
def sp (t : Str) : Str := if t = "," then ", " else t
def wr (ts : List Str) : Str := cat (ts.map sp)
def sz (ts : List Str) : Nat := (ts.map fun t => t.length + 1).sum
theorem wr_app (a b : List Str) : wr (a ++ b) = wr a ++ wr b := by unfold wr; rw [List.map_append, cat_app]
theorem sz_app (a b : List Str) : sz (a ++ b) = sz a + sz b := by unfold sz; rw [List.map_append, List.sum_append]
@[simp] theorem sz_nil : sz [] = 0 := rfl
@[simp] theorem sz_cons (t : Str) (r : List Str) : sz (t :: r) = t.length + 1 + sz r := by unfold sz; rw [List.map_cons, List.sum_cons]
@[simp] theorem wr_nil : wr [] = "" := rfl
theorem wr_cons (t : Str) (r : List Str) : wr (t :: r) = sp t ++ wr r := rfl
theorem sp_len (t : Str) : (sp t).length ≤ t.length + 1 := by
  unfold sp
  split
  · rename_i h; rw [h]; decide +kernel
  · omega
theorem wr_len : ∀ ts : List Str, (wr ts).length ≤ sz ts
  | [] => Nat.le_refl 0
  | t :: r => by
    rw [wr_cons, len_app, sz_cons]
    have := wr_len r
    have := sp_len t
    omega
/-- no comma in it -/
def NC (x : Str) : Prop := 44 ∉ x.cps.toList
theorem NC.ne {x : Str} (h : NC x) : x ≠ "," := by
  intro e
  rw [e] at h
  exact h (by decide +kernel)
theorem NC.sp {x : Str} (h : NC x) : sp x = x := if_neg h.ne
theorem NC.app {x y : Str} (hx : NC x) (hy : NC y) : NC (x ++ y) := by
  unfold NC
  rw [app_list, List.mem_append]
  rintro (h | h)
  · exact hx h
  · exact hy h
theorem nc_of (x : Str) (h : (x.cps.toList.all fun c => c != 44) = true) : NC x := by
  intro hm
  have := List.all_eq_true.mp h 44 hm
  simp at this
theorem IsW.nc {x : Str} (h : IsW x) : NC x := by
  obtain ⟨ds, _, _, rfl, _⟩ := h
  unfold NC
  rw [W_list]
  simp
  intro d _
  omega
theorem int_nc (i : Int) : NC (Str.ofString (toString i)) := PyProof.Rows.int_text_free 44 (.inl (by decide)) i
theorem int_len {i : Int} {k : Nat} (hk : 0 < k) (h : i.natAbs < 10 ^ k) : (Str.ofString (toString i)).length ≤ k + 1 := by
  have := PySem.int_text_length_le10 hk h
  rw [PySem.ofString_length]
  exact this
/-- rows of tokens with a comma between each two -/
def joinR : List (List Str) → List Str
  | [] => []
  | r :: rs => r ++ rs.flatMap fun x => (("," : Str) :: x)
theorem joinR_snoc (rs : List (List Str)) (r : List Str) (h : rs ≠ []) : joinR (rs ++ [r]) = joinR rs ++ ((("," : Str)) :: r) := by
  cases rs with
  | nil => exact absurd rfl h
  | cons a rs =>
    show a ++ (rs ++ [r]).flatMap _ = a ++ rs.flatMap _ ++ _
    simp
theorem sp_comma : sp "," = ", " := if_pos rfl
theorem wr_joinR (rs : List (List Str)) : wr (joinR rs) = PySem.Txt.join ", " (rs.map wr) := by
  cases rs with
  | nil => rw [List.map_nil, join_nil]; rfl
  | cons a rs =>
    rw [List.map_cons, join_sep]
    show wr (a ++ rs.flatMap _) = _
    rw [wr_app]
    congr 1
    induction rs with
    | nil => rfl
    | cons b rs ih =>
      rw [List.flatMap_cons, wr_app, ih, wr_cons, sp_comma]
      rfl
theorem sz_joinR : ∀ rs : List (List Str), sz (joinR rs) ≤ (rs.map fun r => sz r + 2).sum
  | [] => Nat.zero_le _
  | a :: rs => by
    show sz (a ++ rs.flatMap _) ≤ _
    rw [sz_app, List.map_cons, List.sum_cons]
    have : sz (rs.flatMap fun x => (("," : Str) :: x)) ≤ (rs.map fun r => sz r + 2).sum := by
      induction rs with
      | nil => exact Nat.zero_le _
      | cons b rs ih =>
        rw [List.flatMap_cons, sz_app, sz_cons, List.map_cons, List.sum_cons]
        have : (("," : Str)).length = 1 := by decide +kernel
        omega
    omega
theorem joinR_sz : ∀ rs : List (List Str), (rs.map sz).sum ≤ sz (joinR rs)
  | [] => Nat.zero_le _
  | a :: rs => by
    show _ ≤ sz (a ++ rs.flatMap _)
    rw [sz_app, List.map_cons, List.sum_cons]
    have : (rs.map sz).sum ≤ sz (rs.flatMap fun x => (("," : Str) :: x)) := by
      induction rs with
      | nil => exact Nat.zero_le _
      | cons b rs ih =>
        rw [List.flatMap_cons, sz_app, sz_cons, List.map_cons, List.sum_cons]
        omega
    omega
theorem sz_mem {rs : List (List Str)} {r : List Str} (h : r ∈ rs) : sz r ≤ sz (joinR rs) := by
  refine Nat.le_trans ?_ (joinR_sz rs)
  induction rs with
  | nil => cases h
  | cons a rs ih =>
    rw [List.map_cons, List.sum_cons]
    rcases List.mem_cons.mp h with rfl | h
    · omega
    · have := ih h; omega
theorem sum_le {α : Type} (f g : α → Nat) (h : ∀ x, f x ≤ g x) : ∀ l : List α, (l.map f).sum ≤ (l.map g).sum
  | [] => Nat.le_refl _
  | x :: l => by
    rw [List.map_cons, List.map_cons, List.sum_cons, List.sum_cons]
    have := sum_le f g h l
    have := h x
    omega
theorem cat_len : ∀ xs : List Str, (cat xs).length = (xs.map fun x : Str => x.length).sum
  | [] => rfl
  | x :: r => by
    show (x ++ cat r).length = _
    rw [len_app, cat_len r]
    rfl
theorem dm_join (s : Str) (xs : List Str) (h : (xs.map fun x : Str => x.length).sum + xs.length * s.length ≤ 16777216) : dmop .join (.d (.str s)) [.d (.list (xs.map .str))] = some (.d (.str (PySem.Txt.join s xs))) := by
  show (match allStr (xs.map .str) with
    | some ss => if (ss.map fun x : Str => x.length).sum + ss.length * s.length ≤ 16777216 then some (PV.d (.str (PySem.Txt.join s ss))) else none
    | none => none) = _
  rw [allStr_map]
  exact if_pos h
@[simp] theorem recv_join (x : Str) : dmRecv .join (.d (.str x)) = true := Eq.trans rfl rfl
theorem mt_extend_at {S : Store} {l : Nat} {ds es : List PyData} (h : S[l]? = some (.lst ds)) (hl : ds.length + es.length ≤ 1000000) : mtop S .extend l [.d (.list es)] = some (.d .none, S.set l (.lst (ds ++ es))) := by
  show (match lk S l with
    | some o => if o.items.length + es.length ≤ sizeLine then some (PV.d .none, S.set l (o.like (o.items ++ es.map PV.d))) else none
    | none => none) = _
  rw [lk_of h rfl]
  show (if (Ob.lst ds).items.length + es.length ≤ sizeLine then _ else _) = _
  rw [if_pos (by simp; exact sizeL hl)]
  simp only [items_lst, like_lst, ← List.map_append, mkOb_map]
end PW

set_option maxHeartbeats 4000000
namespace PW
open PySem PySem.Spec PyProof.Rows L2
/-! PW24: pools of words, drawn simple conditions, drawn numbers -/
/-- the store behind the draws speaks of no later place -/
def Cl (S : Store) : Prop := S.all (Ob.under (S.length + 1)) = true
theorem back_cutU {al : Bool} {S L : Store} {r : List Int} {x : PyData} (h : Cl S) : back al (S.length + 1) (.d x) (dr r :: (S ++ L)) = .ok (.d x) (dr r :: S) := by
  have e : (dr r :: (S ++ L)).take (S.length + 1) = dr r :: S := by simp
  have h2 : (dr r :: S).all (Ob.under (S.length + 1)) = true := by rw [List.all_cons, dr_under, Bool.true_and]; exact h
  rw [back_bool, e, if_pos h2]
theorem back_lstU {S L : Store} {r : List Int} {ds : List PyData} (h : Cl S) : back false (S.length + 1) (.loc (S.length + 1)) (dr r :: (S ++ (.lst ds :: L))) = .ok (.d (.list ds)) (dr r :: S) := by
  have e : (dr r :: (S ++ (Ob.lst ds :: L))).take (S.length + 1) = dr r :: S := by simp
  have e2 : lk (dr r :: (S ++ (Ob.lst ds :: L))) (S.length + 1) = some (.lst ds) := lk_of (by simp) rfl
  have h2 : (dr r :: S).all (Ob.under (S.length + 1)) = true := by rw [List.all_cons, dr_under, Bool.true_and]; exact h
  unfold back
  simp only [Nat.lt_irrefl, if_false, e2, e]
  rw [if_pos (by rw [Bool.and_eq_true]; exact ⟨h2, rfl⟩)]
  simp
@[simp] theorem back_mix (al : Bool) (n : Nat) (t : Bool) (xs : List PV) (S : Store) : back al n (.mix t xs) S = .ok (.mix t xs) S := Eq.trans rfl rfl
theorem back_loc_lt {al : Bool} {n l : Nat} {S : Store} (h : l < n) : back al n (.loc l) S = .ok (.loc l) S := by
  unfold back
  simp only [h, if_true]
/-- a text of letters, short or not -/
def IsP (x : Str) : Prop := ∃ ds, Dg ds ∧ ds ≠ [] ∧ x = W ds ∧ ds.length ≤ 180
theorem IsP.len {x : Str} (h : IsP x) : x.length ≤ 180 := by
  obtain ⟨ds, _, _, rfl, h⟩ := h
  rw [W_len]
  exact h
theorem IsP.ne {x : Str} (h : IsP x) : x ≠ "" := by
  obtain ⟨ds, _, h, rfl, _⟩ := h
  intro e
  rw [← W_nil] at e
  exact h (W_inj e)
def poolC (jt jw : Nat) : List CS := [
  .asg (.slot 3) (.call false jw [(.bin .mul (.call false jt [(.var 1), (.lit (.int 60))]) (.call false jt [(.var 1), (.lit (.int 2))]))]),
  .asg (.slot 4) (.call false jw [(.bin .mul (.call false jt [(.var 1), (.lit (.int 60))]) (.call false jt [(.var 1), (.lit (.int 2))]))]),
  .asg (.slot 5) (.fr true .disp []),
  .for_ (.slot 6) .rng1 [(.var 2)] [
    .asg (.slot 7) (.bin .add (.lit (.int 1)) (.call false jt [(.var 1), (.lit (.int 760))])),
    .ite (.and (.cmp .eq (.call false jt [(.var 1), (.lit (.int 7))]) (.lit (.int 3))) (.cmp .gt (.bn .len [(.var 0)]) (.lit (.int 0)))) [
      .asg (.slot 7) (.bin .add (.lit (.int 1)) (.bn .abs [(.bn .int [(.idx (.var 0) (.bin .mod (.bn .int [(.var 7)]) (.bn .len [(.var 0)])))])]))] [],
    .asg (.slot 8) (.bin .add (.bin .add (.var 3) (.call false jw [(.var 7)])) (.var 4)),
    .ite (.cmp .notin (.var 8) (.var 5)) [
      .expr (.mt .append (.var 5) [(.var 8)])] []],
  .ret (.var 5)]
theorem wAt_D (i : Nat) : ∃ ds, Dg ds ∧ ds.length ≤ 60 ∧ (1 ≤ i → ds ≠ []) ∧ wAt i = W ds := by
  obtain ⟨ds, h1, h2, h3, h4⟩ := wAux_W 60 i []
  rw [W_nil, List.append_nil] at h4
  exact ⟨ds, h1, h2, fun h => h3 h (by decide), h4⟩
/-- a word of a pool -/
def PoolW (ws : List Str) : Prop := ws.Nodup ∧ ∀ w ∈ ws, IsP w
theorem mod_at {ns : List Int} (h : ns ≠ []) (i : Int) (S : Store) : ∃ z, z ∈ ns ∧ idxop S (.d (.list (ns.map .int))) (.d (.int (i % (ns.length : Int)))) = some (.d (.int z)) := by
  have hp : 0 < ns.length := List.length_pos_iff.mpr h
  have h0 := Int.emod_nonneg i (show (ns.length : Int) ≠ 0 by omega)
  have h1 := Int.emod_lt_of_pos i (show (0 : Int) < ns.length by omega)
  obtain ⟨x, hx, e, _⟩ := idx_lst (S := S) (ds := ns.map .int) h0 (by rw [List.length_map]; exact h1)
  obtain ⟨z, hz, rfl⟩ := List.mem_map.mp hx
  exact ⟨z, hz, e⟩
theorem app_lst {S : Store} {r : List Int} {ds : List PyData} (x : PyData) (h : ds.length < 1000000) : mtop (dr r :: (S ++ [.lst ds])) .append (S.length + 1) [.d x] = some (.d .none, dr r :: (S ++ [.lst (ds ++ [x])])) := app_end x h
theorem cmp_notinO {S : Store} {l : Nat} (x : Str) (ss : List Str) (h : S[l]? = some (.lst (ss.map .str))) : cmpop S .notin (.d (.str x)) (.loc l) = some (!decide (x ∈ ss)) := by
  have h2 := cmp_notinT (S := S) x ss
  have e1 : seqOf S (.loc l) = some (false, (ss.map PyData.str).map .d) := by
    show (lk S l).map (fun o => (false, o.items)) = _
    rw [lk_of h rfl]
    rfl
  rw [← h2]
  show (match seqOf S (.loc l) with
    | some (_, xs) => match allD xs with
      | some ds => if lowOk (.str x) && ds.all lowOk then some (!(ds.any fun y => PyData.eqv y (.str x))) else none
      | none => none
    | none => none) = (match seqOf S (.d (.tuple (ss.map .str))) with
    | some (_, xs) => match allD xs with
      | some ds => if lowOk (.str x) && ds.all lowOk then some (!(ds.any fun y => PyData.eqv y (.str x))) else none
      | none => none
    | none => none)
  rw [e1]
  rfl
section
variable {T : List FD} {F n j jt jw : Nat} {S : Store}
theorem poolC_ok (hT : T[j]? = some ⟨9, 3, poolC jt jw⟩) (ht : T[jt]? = some ⟨2, 2, takeB⟩) (hw : T[jw]? = some ⟨3, 1, wordB⟩) (ns : List Int) (m : Nat) (hm : 1 ≤ m) (hm2 : m ≤ 1000) (r : List Int) (hS : Cl S) :
    ∃ (ws : List Str) (r' : List Int), ws ≠ [] ∧ ws.length ≤ m ∧ PoolW ws ∧ ∃ v S2, callN T F (n + 2) j [.d (.list (ns.map .int)), .loc 0, .d (.int m)] (dr r :: S) = .ok v S2 ∧ back false (S.length + 1) v S2 = .ok (.d (.list (ws.map .str))) (dr r' :: S) := by
  suffices h : Wp (callN T F (n + 2) j [.d (.list (ns.map .int)), .loc 0, .d (.int m)] (dr r :: S)) fun v S2 => ∃ (ws : List Str) (r' : List Int), ws ≠ [] ∧ ws.length ≤ m ∧ PoolW ws ∧ v = .loc (S.length + 1) ∧ S2 = dr r' :: (S ++ [.lst (ws.map .str)]) by
    obtain ⟨v, S2, e, ws, r', h1, h2, h3, rfl, rfl⟩ := h
    exact ⟨ws, r', h1, h2, h3, _, _, e, back_lstU hS⟩
  refine wp_fn hT rfl ?_
  show Wp (exs _ _ (poolC jt jw) [some (.d (.list (ns.map .int))), some (.loc 0), some (.d (.int m)), none, none, none, none, none, none] (dr r :: S)) _
  unfold poolC
  have t1 : ∀ (r : List Int) (S : Store) (m : Int), 0 < m → callN T F (n + 1) jt [.loc 0, .d (.int m)] (dr r :: S) = .ok (.d (.int (tk r m))) (dr r.tail :: S) := fun r S m h => take_ok ht r S m h
  have w1 : ∀ (i : Int) (S : Store), callN T F (n + 1) jw [.d (.int i)] S = .ok (.d (.str (wAt i.toNat))) S := fun i S => word_ok hw i
  generalize callN T F (n + 1) = Φ at t1 w1 ⊢
  have mk0 : mkOb [] = Ob.lst [] := rfl
  obtain ⟨p1, p2⟩ := tk_range (r := r) (m := 60) (by decide)
  obtain ⟨p3, p4⟩ := tk_range (r := r.tail.tail) (m := 60) (by decide)
  have m1 : mulOk (tk r 60) (tk r.tail 2) = true := mulOk_l _ _ (by omega) (by omega)
  have m2 : mulOk (tk r.tail.tail 60) (tk r.tail.tail.tail 2) = true := mulOk_l _ _ (by omega) (by omega)
  (refine wp_seq ?_; simp [-exs_cons, t1, w1, m1])
  (refine wp_seq ?_; simp [-exs_cons, t1, w1, m2])
  clear m1 m2 p1 p2 p3 p4
  generalize tk r 60 * tk r.tail 2 = ih
  generalize tk r.tail.tail 60 * tk r.tail.tail.tail 2 = it
  generalize r.tail.tail.tail.tail = r1
  obtain ⟨dh, hd1, hd2, _, hd4⟩ := wAt_D ih.toNat
  obtain ⟨dt, ht1, ht2, _, ht4⟩ := wAt_D it.toNat
  rw [hd4, ht4]
  (refine wp_seq ?_; simp [-exs_cons, mk0])
  have hwk := walkOf_rng (S := dr r1 :: (S ++ [.lst []])) m (by omega)
  (refine wp_seq ?_; simp [-exs_cons, hwk])
  refine wp_forQ (fun xs env S' => ∃ (ws : List Str) (r : List Int) (x6 x7 x8 : Option PV), env = [some (.d (.list (ns.map .int))), some (.loc 0), some (.d (.int m)), some (.d (.str (W dh))), some (.d (.str (W dt))), some (.loc (S.length + 1)), x6, x7, x8] ∧ S' = dr r :: (S ++ [.lst (ws.map .str)]) ∧ ws.length + xs.length ≤ m ∧ PoolW ws ∧ (ws ≠ [] ∨ xs.length = m)) ⟨[], r1, none, none, none, rfl, rfl, by simp [intsP_len], ⟨List.nodup_nil, fun _ h => nomatch h⟩, .inr (by simp [intsP_len])⟩ ?_ ?_
  · rintro x rr env S' Q' ⟨ws, r, x6, x7, x8, rfl, rfl, hl, hp, hne⟩ hN _ _ _
    rw [List.length_cons] at hl
    rw [bodyM_slot]
    (refine wp_seq ?_; simp [-exs_cons, t1])
    have tail : ∀ (i : Int) (r : List Int) (x6 x8 : Option PV), 1 ≤ i → Wp (exs Φ F [
    .asg (.slot 8) (.bin .add (.bin .add (.var 3) (.call false jw [(.var 7)])) (.var 4)),
    .ite (.cmp .notin (.var 8) (.var 5)) [
      .expr (.mt .append (.var 5) [(.var 8)])] []] [some (.d (.list (ns.map .int))), some (.loc 0), some (.d (.int m)), some (.d (.str (W dh))), some (.d (.str (W dt))), some (.loc (S.length + 1)), x6, some (.d (.int i)), x8] (dr r :: (S ++ [.lst (ws.map .str)]))) Q' := by
      intro i r x6 x8 hi
      obtain ⟨dw, hw1, hw2, hw3, hw4⟩ := wAt_D i.toNat
      have hw3 := hw3 (by omega)
      have z1 := sizeL (show dh.length + dw.length ≤ 1000000 by omega)
      have z2 := sizeL (show dh.length + dw.length + dt.length ≤ 1000000 by omega)
      refine wp_seq ?_
      simp [-exs_cons, w1, hw4, W_len, z1]
      have e1 : (W dh ++ W dw).length = dh.length + dw.length := by rw [len_app, W_len, W_len]
      simp [-exs_cons, z2]
      have e2 : W dh ++ W dw ++ W dt = W (dh ++ dw ++ dt) := by rw [W_app, W_app]
      rw [e2]
      have hP : IsP (W (dh ++ dw ++ dt)) := ⟨_, fun d hd => by
        rcases List.mem_append.mp hd with h | h
        · rcases List.mem_append.mp h with h | h
          · exact hd1 d h
          · exact hw1 d h
        · exact ht1 d h, by simp [hw3], rfl, by simp; omega⟩
      generalize W (dh ++ dw ++ dt) = w at hP ⊢
      have hno : cmpop (dr r :: (S ++ [.lst (ws.map .str)])) .notin (.d (.str w)) (.loc (S.length + 1)) = some (!decide (w ∈ ws)) := cmp_notinO w ws (by simp)
      refine wp_seq ?_
      by_cases hin : w ∈ ws
      · simp [-exs_cons, hno, hin]
        refine hN _ _ (sameN _ _) ⟨ws, r, _, _, _, rfl, rfl, by omega, hp, .inl ?_⟩
        rintro rfl
        cases hin
      · simp [-exs_cons, hno, hin]
        have ha := app_lst (S := S) (r := r) (ds := ws.map .str) (.str w) (by rw [List.length_map]; omega)
        (refine wp_seq ?_; simp [-exs_cons, ha])
        refine hN _ _ (sameN _ _) ⟨ws ++ [w], r, _, _, _, rfl, by simp, by simp; omega, ⟨?_, fun z hz => ?_⟩, .inl (by simp)⟩
        · rw [List.nodup_append]
          exact ⟨hp.1, by simp, fun a h1 b hb => by rw [List.mem_singleton.mp hb]; rintro rfl; exact hin h1⟩
        · rcases List.mem_append.mp hz with h | h
          · exact hp.2 z h
          · rw [List.mem_singleton.mp h]; exact hP
    obtain ⟨b1, b2⟩ := tk_range (r := r) (m := 760) (by decide)
    refine wp_seq ?_
    by_cases h3 : tk r.tail 7 = 3
    · by_cases hn : ns = []
      · subst hn
        simp [-exs_cons, t1, h3]
        exact tail _ _ _ _ (by omega)
      · have hp : 0 < ns.length := List.length_pos_iff.mpr hn
        obtain ⟨z, _, hz⟩ := mod_at hn (1 + tk r 760) (dr r.tail.tail :: (S ++ [.lst (ws.map .str)]))
        simp [-exs_cons, t1, h3, hp]
        (refine wp_seq ?_; simp [-exs_cons, hz, hp])
        refine tail _ _ _ _ ?_
        split <;> omega
    · simp [-exs_cons, t1, h3]
      exact tail _ _ _ _ (by omega)
  · rintro env S' ⟨ws, r, x6, x7, x8, rfl, rfl, hl, hp, hne⟩
    rw [seqQ_next]
    (refine wp_seq ?_; simp [-exs_cons])
    refine ⟨ws, ?_, by simpa using hl, hp, ⟨r, rfl⟩, rfl⟩
    rcases hne with h | h
    · exact h
    · simp at h; omega
end
end PW

set_option maxHeartbeats 4000000
namespace PW
open PySem PySem.Spec PyProof.Rows L2
/-! PW25: drawn terms and simple conditions -/
/-- a term over fields and words -/
inductive Tw (fs ws : List Str) : PyData → Prop
  | blank : Tw fs ws (.tuple [.str "name", .str ""])
  | name (w : Str) : w ∈ ws → Tw fs ws (.tuple [.str "name", .str w])
  | field (f : Str) : f ∈ fs → Tw fs ws (.tuple [.str "field", .str f])
  | part (f : Str) (i : Int) : f ∈ fs → 0 ≤ i → i ≤ 40 → Tw fs ws (.tuple [.str "part", .str f, .int i])
@[simp] theorem catR_ll (al : Bool) (xs ys : List PyData) (S : Store) : catR al (.d (.list xs)) (.d (.list ys)) S = if xs.length + ys.length ≤ sizeLine then fin al ((xs ++ ys).map .d) S else .stuck := by
  show (if (xs.map PV.d).length + (ys.map PV.d).length ≤ sizeLine then fin al (xs.map PV.d ++ ys.map PV.d) S else .stuck) = _
  rw [List.length_map, List.length_map, List.map_append]
def worldB (jt : Nat) : List CS := [
  .asg (.slot 3) (.catL true (.fr false .disp [(.tup [(.lit (.str "name")), (.lit (.str ""))])]) (.comp false [4] (.slot 4) .of [(.var 2)] [] (.tup [(.lit (.str "name")), (.var 4)]))),
  .asg (.slot 5) (.bin .add (.lit (.int 2)) (.call false jt [(.var 0), (.lit (.int 39))])),
  .for_ (.slot 6) .of [(.var 1)] [
    .expr (.mt .append (.var 3) [(.tup [(.lit (.str "field")), (.var 6)])]),
    .for_ (.slot 7) .of [(.fr false .disp [(.lit (.int 0)), (.lit (.int 1)), (.var 5)])] [
      .expr (.mt .append (.var 3) [(.tup [(.lit (.str "part")), (.var 6), (.var 7)])])]],
  .ret (.tup [(.var 1), (.var 2), (.var 3)])]
section
variable {T : List FD} {F n j jt jw jc : Nat} {S : Store}
theorem world_ok (hT : T[j]? = some ⟨8, 3, worldB jt⟩) (ht : T[jt]? = some ⟨2, 2, takeB⟩) (fs ws : List Str) (hf : fs.length ≤ 20) (hw : ws.length ≤ 20) (r : List Int) :
    ∃ (ts : List PyData) (r' : List Int), ts ≠ [] ∧ ts.length ≤ 200 ∧ (∀ t ∈ ts, Tw fs ws t) ∧ callN T F (n + 2) j [.loc 0, .d (.list (fs.map .str)), .d (.list (ws.map .str))] (dr r :: S) = .ok (.mix true [.d (.list (fs.map .str)), .d (.list (ws.map .str)), .loc (S.length + 1)]) (dr r' :: (S ++ [.lst ts])) := by
  suffices h : Wp (callN T F (n + 2) j [.loc 0, .d (.list (fs.map .str)), .d (.list (ws.map .str))] (dr r :: S)) fun v S2 => v = .mix true [.d (.list (fs.map .str)), .d (.list (ws.map .str)), .loc (S.length + 1)] ∧ ∃ (ts : List PyData) (r' : List Int), ts ≠ [] ∧ ts.length ≤ 200 ∧ (∀ t ∈ ts, Tw fs ws t) ∧ S2 = dr r' :: (S ++ [.lst ts]) by
    obtain ⟨v, S2, e, rfl, ts, r', h1, h2, h3, rfl⟩ := h
    exact ⟨ts, r', h1, h2, h3, e⟩
  refine wp_fn hT rfl ?_
  show Wp (exs _ _ (worldB jt) [some (.loc 0), some (.d (.list (fs.map .str))), some (.d (.list (ws.map .str))), none, none, none, none, none] (dr r :: S)) _
  unfold worldB
  have t1 : ∀ (r : List Int) (S : Store) (m : Int), 0 < m → callN T F (n + 1) jt [.loc 0, .d (.int m)] (dr r :: S) = .ok (.d (.int (tk r m))) (dr r.tail :: S) := fun r S m h => take_ok ht r S m h
  generalize callN T F (n + 1) = Φ at t1 ⊢
  refine wp_seq ?_
  simp [-exs_cons]
  refine wp_call (P := fun ys S' => ys = (ws.map fun w => PyData.tuple [.str "name", .str w]).map .d ∧ S' = dr r :: S) (wp_noErr (comp_map ws (fun w => .str w) (fun w => .tuple [.str "name", .str w]) rfl (by simp) (fun w hw => ?_) ⟨rfl, rfl⟩)) ?_
  · simp [killE]
  rintro ys S2 ⟨h1, h2⟩
  subst h1 h2
  have z0 := sizeL (show ws.length ≤ 1000000 by omega)
  have z1 := sizeL (show 1 + ws.length ≤ 1000000 by omega)
  have mk : ∀ ds : List PyData, mkOb (.d (.tuple [.str "name", .str ""]) :: ds.map .d) = .lst (.tuple [.str "name", .str ""] :: ds) := fun ds => mkOb_map (_ :: ds)
  have hT0 : ∀ t ∈ (PyData.tuple [.str "name", .str ""] :: ws.map fun w => PyData.tuple [.str "name", .str w]), Tw fs ws t := by
    intro t ht
    rcases List.mem_cons.mp ht with rfl | ht
    · exact .blank
    · obtain ⟨w, hw, rfl⟩ := List.mem_map.mp ht
      exact .name w hw
  have hl0 : (ws.map fun w => PyData.tuple [.str "name", .str w]).length = ws.length := by rw [List.length_map]
  generalize (ws.map fun w => PyData.tuple [.str "name", .str w]) = ts0 at *
  rw [← hl0] at z0 z1
  simp [-exs_cons, z0, z1, mk]
  obtain ⟨b1, b2⟩ := tk_range (r := r) (m := 39) (by decide)
  (refine wp_seq ?_; simp [-exs_cons, t1])
  (refine wp_seq ?_; simp [-exs_cons])
  have hfar : 2 ≤ 2 + tk r 39 ∧ 2 + tk r 39 ≤ 40 := by omega
  generalize 2 + tk r 39 = far at *
  refine wp_forQ (fun xs env S' => ∃ (rest : List Str) (ts : List PyData) (x6 x7 : Option PV), xs = rest.map (fun f => PV.d (.str f)) ∧ (∀ f ∈ rest, f ∈ fs) ∧ env = [some (.loc 0), some (.d (.list (fs.map .str))), some (.d (.list (ws.map .str))), some (.loc (S.length + 1)), none, some (.d (.int far)), x6, x7] ∧ S' = dr r.tail :: (S ++ [.lst ts]) ∧ ts ≠ [] ∧ ts.length + 4 * rest.length ≤ 200 ∧ ∀ t ∈ ts, Tw fs ws t) ⟨fs, _, none, none, by simp, fun _ h => h, rfl, rfl, by simp, by simp; omega, hT0⟩ ?_ ?_
  · rintro x rr env S' Q' ⟨rest, ts, x6, x7, hx, hm, rfl, rfl, hne, hl, hall⟩ hN _ _ _
    cases rest with
    | nil => cases hx
    | cons f rest =>
      cases hx
      rw [List.length_cons] at hl
      have hff := hm f List.mem_cons_self
      have ha := app_lst (S := S) (r := r.tail) (ds := ts) (.tuple [.str "field", .str f]) (by omega)
      rw [bodyM_slot]
      (refine wp_seq ?_; simp [-exs_cons, ha])
      (refine wp_seq ?_; simp [-exs_cons])
      refine wp_forQ (fun xs env S' => ∃ (is : List Int) (ts : List PyData) (x7 : Option PV), xs = is.map (fun i => PV.d (.int i)) ∧ (∀ i ∈ is, 0 ≤ i ∧ i ≤ 40) ∧ env = [some (.loc 0), some (.d (.list (fs.map .str))), some (.d (.list (ws.map .str))), some (.loc (S.length + 1)), none, some (.d (.int far)), some (.d (.str f)), x7] ∧ S' = dr r.tail :: (S ++ [.lst ts]) ∧ ts ≠ [] ∧ ts.length + is.length + 4 * rest.length ≤ 200 ∧ ∀ t ∈ ts, Tw fs ws t) ⟨[0, 1, far], ts ++ [.tuple [.str "field", .str f]], x7, rfl, ?_, rfl, rfl, by simp, by simp; omega, ?_⟩ ?_ ?_
      · intro i hi
        simp only [List.mem_cons, List.not_mem_nil, or_false] at hi
        rcases hi with rfl | rfl | rfl <;> omega
      · intro t ht
        rcases List.mem_append.mp ht with h | h
        · exact hall t h
        · rw [List.mem_singleton.mp h]; exact .field f hff
      · rintro x rr2 env S' Q'' ⟨is, ts, x7, hx, hi, rfl, rfl, hne, hl, hall⟩ hN2 _ _ _
        cases is with
        | nil => cases hx
        | cons i is =>
          cases hx
          rw [List.length_cons] at hl
          have h01 := hi i List.mem_cons_self
          have ha := app_lst (S := S) (r := r.tail) (ds := ts) (.tuple [.str "part", .str f, .int i]) (by omega)
          rw [bodyM_slot]
          (refine wp_seq ?_; simp [-exs_cons, ha])
          refine hN2 _ _ (sameN _ _) ⟨is, _, _, rfl, fun z hz => hi z (List.mem_cons_of_mem _ hz), rfl, rfl, by simp, by simp; omega, ?_⟩
          intro t ht
          rcases List.mem_append.mp ht with h | h
          · exact hall t h
          · rw [List.mem_singleton.mp h]; exact .part f i hff h01.1 h01.2
      · rintro env S' ⟨is, ts, x7, hx, hi, rfl, rfl, hne, hl, hall⟩
        cases is with
        | cons i is => cases hx
        | nil =>
          simp [-exs_cons]
          exact hN _ _ (sameN _ _) ⟨rest, ts, _, _, rfl, fun z hz => hm z (List.mem_cons_of_mem _ hz), rfl, rfl, hne, by simp at hl; omega, hall⟩
  · rintro env S' ⟨rest, ts, x6, x7, hx, hm, rfl, rfl, hne, hl, hall⟩
    rw [seqQ_next]
    have mt3 : mkTup [.d (.list (fs.map .str)), .d (.list (ws.map .str)), .loc (S.length + 1)] = .mix true [.d (.list (fs.map .str)), .d (.list (ws.map .str)), .loc (S.length + 1)] := rfl
    (refine wp_seq ?_; simp [-exs_cons, mt3])
    exact ⟨ts, hne, by omega, hall, ⟨_, rfl⟩, rfl⟩
def chosenB : List CS := [
  .asg (.slot 2) (.fr true .disp []),
  .for_ (.slot 3) .of [(.var 0)] [
    .ite (.cmp .eq (.bin .mod (.bn .int [(.var 1)]) (.lit (.int 2))) (.lit (.int 1))) [
      .expr (.mt .append (.var 2) [(.var 3)])] [],
    .asg (.slot 1) (.bin .fdiv (.var 1) (.lit (.int 2)))],
  .ret (.bn .tuple [(.fr false .sorted [(.var 2)])])]
/-- some of the words, in order -/
def Cho (ws ns : List Str) : Prop := (∀ w ∈ ns, w ∈ ws) ∧ ns.length ≤ ws.length
theorem frop_sortedO {S : Store} {l : Nat} (ss : List Str) (h : S[l]? = some (.lst (ss.map .str))) : ∃ ns : List Str, frop S .sorted [.loc l] = some ((ns.map PyData.str).map .d) ∧ (∀ w ∈ ns, w ∈ ss) ∧ ns.length = ss.length := by
  have e1 : seqOf S (.loc l) = some (false, (ss.map PyData.str).map .d) := by
    show (lk S l).map (fun o => (false, o.items)) = _
    rw [lk_of h rfl]
    rfl
  have c1 : allAlike (ss.map PyData.str) = true := by
    refine List.all_eq_true.mpr fun x hx => List.all_eq_true.mpr fun y hy => ?_
    obtain ⟨a, _, rfl⟩ := List.mem_map.mp hx
    obtain ⟨b, _, rfl⟩ := List.mem_map.mp hy
    rfl
  have c2 : sortable (ss.map PyData.str) = true := by
    unfold sortable
    rw [Bool.or_eq_true]
    refine .inr (List.all_eq_true.mpr fun x hx => ?_)
    obtain ⟨a, _, rfl⟩ := List.mem_map.mp hx
    rfl
  have c3 : depthOk (ss.map PyData.str) = true := by
    refine List.all_eq_true.mpr fun x hx => ?_
    obtain ⟨a, _, rfl⟩ := List.mem_map.mp hx
    rfl
  have e2 : frop S .sorted [.loc l] = some ((sortD (ss.map PyData.str)).map .d) := by
    show (match seqOf S (.loc l) with
      | some (false, xs) => match allD xs with
        | some ds => if allAlike ds && sortable ds && depthOk ds then some ((sortD ds).map PV.d) else none
        | none => none
      | _ => none) = _
    rw [e1]
    simp only [allD_map, c1, c2, c3, Bool.and_self, if_true]
  have hm : ∀ y ∈ sortD (ss.map PyData.str), ∃ w : Str, y = .str w := by
    intro y hy
    obtain ⟨a, _, rfl⟩ := List.mem_map.mp (List.mem_mergeSort.mp hy)
    exact ⟨a, rfl⟩
  obtain ⟨ns, hns⟩ := strs_of hm
  refine ⟨ns, by rw [e2, hns], fun w hw => ?_, ?_⟩
  · have : PyData.str w ∈ sortD (ss.map PyData.str) := by rw [hns]; exact List.mem_map.mpr ⟨w, hw, rfl⟩
    obtain ⟨a, ha, e⟩ := List.mem_map.mp (List.mem_mergeSort.mp this)
    cases e
    exact ha
  · have h1 : (sortD (ss.map PyData.str)).length = (ss.map PyData.str).length := List.length_mergeSort _
    rw [hns, List.length_map, List.length_map] at h1
    exact h1
def QCho (ws : List Str) (S : Store) (v : PV) (S2 : Store) : Prop := ∃ (ns : List Str) (L : Store), Cho ws ns ∧ v = .d (.tuple (ns.map .str)) ∧ S2 = S ++ L
theorem chosen_ok (hT : T[j]? = some ⟨4, 2, chosenB⟩) (ws : List Str) (hw : ws.length ≤ 20) (i : Int) :
    ∃ (ns : List Str) (L : Store), Cho ws ns ∧ callN T F (n + 1) j [.d (.list (ws.map .str)), .d (.int i)] S = .ok (.d (.tuple (ns.map .str))) (S ++ L) := by
  suffices h : Wp (callN T F (n + 1) j [.d (.list (ws.map .str)), .d (.int i)] S) (QCho ws S) by
    obtain ⟨v, S2, e, ns, L, h, rfl, rfl⟩ := h
    exact ⟨ns, L, h, e⟩
  refine wp_fn hT rfl ?_
  show Wp (exs _ _ chosenB [some (.d (.list (ws.map .str))), some (.d (.int i)), none, none] S) _
  unfold chosenB
  generalize callN T F n = Φ
  have mk0 : mkOb [] = Ob.lst [] := rfl
  (refine wp_seq ?_; simp [-exs_cons, mk0])
  (refine wp_seq ?_; simp [-exs_cons])
  refine wp_forQ (fun xs env S' => ∃ (rest ns : List Str) (i : Int) (x3 : Option PV), xs = rest.map (fun f => PV.d (.str f)) ∧ (∀ f ∈ rest, f ∈ ws) ∧ env = [some (.d (.list (ws.map .str))), some (.d (.int i)), some (.loc S.length), x3] ∧ S' = S ++ [.lst (ns.map .str)] ∧ ns.length + rest.length ≤ ws.length ∧ ∀ t ∈ ns, t ∈ ws) ⟨ws, [], i, none, by simp, fun _ h => h, rfl, rfl, by simp, fun _ h => nomatch h⟩ ?_ ?_
  · rintro x rr env S' Q' ⟨rest, ns, i, x3, hx, hm, rfl, rfl, hl, hall⟩ hN _ _ _
    cases rest with
    | nil => cases hx
    | cons w rest =>
      cases hx
      rw [List.length_cons] at hl
      have hm' : ∀ f ∈ rest, f ∈ ws := fun z hz => hm z (List.mem_cons_of_mem _ hz)
      rw [bodyM_slot]
      refine wp_seq ?_
      by_cases h : i % 2 = 1
      · have ha := mt_append (S := S ++ [.lst (ns.map .str)]) (l := S.length) (o := .lst (ns.map .str)) (.d (.str w)) (by simp) (by have := sizeLine_big; simp; omega)
        have ha' : mtop (S ++ [.lst (ns.map .str)]) .append S.length [.d (.str w)] = some (.d .none, S ++ [.lst ((ns ++ [w]).map .str)]) := by rw [ha]; simp
        simp [-exs_cons, h]
        (refine wp_seq ?_; simp [-exs_cons, ha'])
        (refine wp_seq ?_; simp [-exs_cons])
        refine hN _ _ (sameN _ _) ⟨rest, ns ++ [w], _, _, rfl, hm', rfl, by simp, by simp; omega, fun t ht => ?_⟩
        rcases List.mem_append.mp ht with h | h
        · exact hall t h
        · rw [List.mem_singleton.mp h]; exact hm w List.mem_cons_self
      · simp [-exs_cons, h]
        (refine wp_seq ?_; simp [-exs_cons])
        exact hN _ _ (sameN _ _) ⟨rest, ns, _, _, rfl, hm', rfl, rfl, by omega, hall⟩
  · rintro env S' ⟨rest, ns, i, x3, hx, hm, rfl, rfl, hl, hall⟩
    obtain ⟨qs, hq, h1, h2⟩ := frop_sortedO (S := S ++ [.lst (ns.map .str)]) (l := S.length) ns (by simp)
    rw [seqQ_next]
    (refine wp_seq ?_; simp [-exs_cons, hq])
    exact ⟨qs, _, ⟨fun w hw => hall w (h1 w hw), by omega⟩, rfl, rfl⟩
end
end PW

set_option maxHeartbeats 4000000
namespace PW
open PySem PySem.Spec PyProof.Rows L2
/-! PW26: a drawn simple condition -/
inductive Lf (fs ws : List Str) : PyData → Prop
  | tt : Lf fs ws (.tuple [.str "true"])
  | ff : Lf fs ws (.tuple [.str "false"])
  | in_ (t : PyData) (f : Str) : Tw fs ws t → f ∈ fs → Lf fs ws (.tuple [.str "in", t, .str f])
  | set (f g : Str) : f ∈ fs → g ∈ fs → Lf fs ws (.tuple [.str "within", .str f, .tuple [.str "set", .str g]])
  | names (f : Str) (ns : List Str) : f ∈ fs → Cho ws ns → Lf fs ws (.tuple [.str "within", .str f, .tuple [.str "names", .tuple (ns.map .str)]])
  | most (a b : Str) (c : Int) : a ∈ ("" : Str) :: fs → b ∈ ("" : Str) :: fs → Lf fs ws (.tuple [.str "most", .str a, .str b, .int c])
  | member (t : PyData) (w : Str) : Tw fs ws t → (∀ x, t ≠ .tuple [.str "name", x]) → w ∈ ws → Lf fs ws (.tuple [.str "member", t, .str w])
  | path (k f : Str) (ts : List PyData) : (k = "at" ∨ k = "under") → f ∈ fs → ts.length ≤ 3 → (∀ t ∈ ts, Tw fs ws t ∧ t ≠ .tuple [.str "name", .str ""]) → Lf fs ws (.tuple [.str k, .str f, .tuple ts])
  | is_ (t u : PyData) : Tw fs ws t → Tw fs ws u → Lf fs ws (.tuple [.str "is", t, u])
def leafB (jt jc : Nat) : List CS := [
  .asg (.slot 3) (.call false jt [(.var 1), (.lit (.int 10))]),
  .asg (.slot 4) (.idx (.idx (.var 2) (.lit (.int 2))) (.call false jt [(.var 1), (.bn .len [(.idx (.var 2) (.lit (.int 2)))])])),
  .asg (.slot 5) (.idx (.idx (.var 2) (.lit (.int 0))) (.call false jt [(.var 1), (.bn .len [(.idx (.var 2) (.lit (.int 0)))])])),
  .ite (.cmp .eq (.var 3) (.lit (.int 2))) [
    .ret (.tup [(.lit (.str "in")), (.var 4), (.var 5)])] [],
  .ite (.cmp .eq (.var 3) (.lit (.int 3))) [
    .asg (.slot 6) (.call false jt [(.var 1), (.bin .mul (.lit (.int 2)) (.bn .len [(.idx (.var 2) (.lit (.int 0)))]))]),
    .ite (.cmp .lt (.var 6) (.bn .len [(.idx (.var 2) (.lit (.int 0)))])) [
      .ret (.tup [(.lit (.str "within")), (.var 5), (.tup [(.lit (.str "set")), (.idx (.idx (.var 2) (.lit (.int 0))) (.var 6))])])] [],
    .ret (.tup [(.lit (.str "within")), (.var 5), (.tup [(.lit (.str "names")), (.call false jc [(.idx (.var 2) (.lit (.int 1))), (.call false jt [(.var 1), (.lit (.int 64))])])])])] [],
  .ite (.cmp .eq (.var 3) (.lit (.int 4))) [
    .asg (.slot 7) (.idx (.bin .add (.fr false .disp [(.lit (.str ""))]) (.idx (.var 2) (.lit (.int 0)))) (.call false jt [(.var 1), (.bin .add (.lit (.int 1)) (.bn .len [(.idx (.var 2) (.lit (.int 0)))]))])),
    .asg (.slot 8) (.idx (.bin .add (.fr false .disp [(.lit (.str ""))]) (.idx (.var 2) (.lit (.int 0)))) (.call false jt [(.var 1), (.bin .add (.lit (.int 1)) (.bn .len [(.idx (.var 2) (.lit (.int 0)))]))])),
    .asg (.slot 9) (.bin .sub (.call false jt [(.var 1), (.lit (.int 7))]) (.lit (.int 3))),
    .ite (.and (.cmp .eq (.call false jt [(.var 1), (.lit (.int 6))]) (.lit (.int 1))) (.cmp .gt (.bn .len [(.var 0)]) (.lit (.int 0)))) [
      .asg (.slot 9) (.bn .int [(.idx (.var 0) (.bin .mod (.bn .int [(.var 9)]) (.bn .len [(.var 0)])))])] [],
    .ret (.tup [(.lit (.str "most")), (.var 7), (.var 8), (.var 9)])] [],
  .ite (.cmp .eq (.var 3) (.lit (.int 5))) [
    .ite (.cmp .eq (.idx (.var 4) (.lit (.int 0))) (.lit (.str "name"))) [
      .asg (.slot 4) (.tup [(.lit (.str "field")), (.var 5)])] [],
    .ret (.tup [(.lit (.str "member")), (.var 4), (.idx (.idx (.var 2) (.lit (.int 1))) (.call false jt [(.var 1), (.bn .len [(.idx (.var 2) (.lit (.int 1)))])]))])] [],
  .ite (.cmp .eq (.var 3) (.lit (.int 6))) [
    .ret (.idx (.fr false .disp [(.tup [(.lit (.str "true"))]), (.tup [(.lit (.str "false"))])]) (.call false jt [(.var 1), (.lit (.int 2))]))] [],
  .ite (.or (.cmp .eq (.var 3) (.lit (.int 7))) (.cmp .eq (.var 3) (.lit (.int 8)))) [
    .asg (.slot 10) (.comp false [11] (.slot 11) .rng1 [(.call false jt [(.var 1), (.lit (.int 4))])] [] (.idx (.idx (.var 2) (.lit (.int 2))) (.call false jt [(.var 1), (.bn .len [(.idx (.var 2) (.lit (.int 2)))])]))),
    .ret (.tup [(.idx (.fr false .disp [(.lit (.str "at")), (.lit (.str "under"))]) (.bin .sub (.var 3) (.lit (.int 7)))), (.var 5), (.bn .tuple [(.comp false [12] (.slot 12) .of [(.var 10)] [(.cmp .ne (.var 12) (.tup [(.lit (.str "name")), (.lit (.str ""))]))] (.var 12))])])] [],
  .ret (.tup [(.lit (.str "is")), (.var 4), (.idx (.idx (.var 2) (.lit (.int 2))) (.call false jt [(.var 1), (.bn .len [(.idx (.var 2) (.lit (.int 2)))])]))])]
theorem eqv_t (xs ys : List PyData) : PyData.eqv (.tuple xs) (.tuple ys) = PyData.eqvAll xs ys := rfl
theorem eqv_c (x y : PyData) (xs ys : List PyData) : PyData.eqvAll (x :: xs) (y :: ys) = (PyData.eqv x y && PyData.eqvAll xs ys) := rfl
theorem eqv_n : PyData.eqvAll [] [] = true := rfl
theorem eqv_s (x y : Str) : PyData.eqv (.str x) (.str y) = decide (x = y) := by
  show (x == y) = decide (x = y)
  rw [Bool.eq_iff_iff]
  simp
theorem eqv_i (x y : Int) : PyData.eqv (.int x) (.int y) = decide (x = y) := by
  show (x == y) = decide (x = y)
  rw [Bool.eq_iff_iff]
  simp
theorem cmp_neL {S : Store} {x y : PyData} (h1 : lowOk x = true) (h2 : lowOk y = true) : cmpop S .ne (.d x) (.d y) = some (!PyData.eqv x y) := by
  show (if eqOk x y then some (!PyData.eqv x y) else none) = _
  rw [if_pos]
  unfold eqOk
  rw [h1, h2]
  simp
theorem cmp_eqL {S : Store} {x y : PyData} (h1 : lowOk x = true) (h2 : lowOk y = true) : cmpop S .eq (.d x) (.d y) = some (PyData.eqv x y) := by
  show (if eqOk x y then some (PyData.eqv x y) else none) = _
  rw [if_pos]
  unfold eqOk
  rw [h1, h2]
  simp
theorem tw_low {fs ws : List Str} {t : PyData} (h : Tw fs ws t) : lowOk t = true := by cases h <;> rfl
/-- is it the blank -/
theorem tw_ne {fs ws : List Str} {t : PyData} (h : Tw fs ws t) : (t = .tuple [.str "name", .str ""] ∧ ∀ S : Store, cmpop S .ne (.d t) (.d (.tuple [.str "name", .str ""])) = some false) ∨ (t ≠ .tuple [.str "name", .str ""] ∧ ∀ S : Store, cmpop S .ne (.d t) (.d (.tuple [.str "name", .str ""])) = some true) := by
  have k1 := nk "field" "name" (by decide +kernel)
  have k2 := nk "part" "name" (by decide +kernel)
  have hl : lowOk (.tuple [.str "name", .str ""]) = true := rfl
  cases h with
  | blank => exact .inl ⟨rfl, fun S => by rw [cmp_neL hl hl, eqv_t, eqv_c, eqv_s, eqv_c, eqv_s, eqv_n]; simp⟩
  | name w hw =>
    by_cases h : w = ""
    · subst h
      exact .inl ⟨rfl, fun S => by rw [cmp_neL hl hl, eqv_t, eqv_c, eqv_s, eqv_c, eqv_s, eqv_n]; simp⟩
    · exact .inr ⟨fun e => h (by cases e; rfl), fun S => by rw [cmp_neL rfl hl, eqv_t, eqv_c, eqv_s, eqv_c, eqv_s, eqv_n]; simp [h]⟩
  | field f hf => exact .inr ⟨fun e => k1 (by injection e with e; injection e with e _; injection e), fun S => by rw [cmp_neL rfl hl, eqv_t, eqv_c, eqv_s]; simp [k1]⟩
  | part f i hf _ _ => exact .inr ⟨fun e => k2 (by injection e with e; injection e with e _; injection e), fun S => by rw [cmp_neL rfl hl, eqv_t, eqv_c, eqv_s]; simp [k2]⟩
/-- what a world holds -/
structure Wld (fs ws : List Str) (ts : List PyData) : Prop where
  f0 : 0 < fs.length
  f1 : fs.length ≤ 20
  w0 : 0 < ws.length
  w1 : ws.length ≤ 20
  t0 : 0 < ts.length
  t1 : ts.length ≤ 200
  tw : ∀ t ∈ ts, Tw fs ws t
def QLf (fs ws : List Str) (S : Store) (v : PV) (S2 : Store) : Prop := ∃ (x : PyData) (r' : List Int), Lf fs ws x ∧ v = .d x ∧ S2 = dr r' :: S
abbrev WV (fs ws : List Str) (l : Nat) : PV := .mix true [.d (.list (fs.map .str)), .d (.list (ws.map .str)), .loc l]
theorem wv0 {S : Store} (fs ws : List Str) (l : Nat) : idxop S (WV fs ws l) (.d (.int 0)) = some (.d (.list (fs.map .str))) := idx_seq (i := 0) (b := true) rfl rfl
theorem wv1 {S : Store} (fs ws : List Str) (l : Nat) : idxop S (WV fs ws l) (.d (.int 1)) = some (.d (.list (ws.map .str))) := idx_seq (i := 1) (b := true) rfl rfl
theorem wv2 {S : Store} (fs ws : List Str) (l : Nat) : idxop S (WV fs ws l) (.d (.int 2)) = some (.loc l) := idx_seq (i := 2) (b := true) rfl rfl
theorem loc_seq {S : Store} {l : Nat} {ts : List PyData} (h : S[l]? = some (.lst ts)) : seqOf S (.loc l) = some (false, ts.map .d) := by
  show (lk S l).map (fun o => (false, o.items)) = _
  rw [lk_of h rfl]
  rfl
theorem pick_loc {S : Store} {l : Nat} {ts : List PyData} (h : S[l]? = some (.lst ts)) {i : Int} (h0 : 0 ≤ i) (h1 : i < ts.length) : ∃ x ∈ ts, idxop S (.loc l) (.d (.int i)) = some (.d x) := by
  obtain ⟨k, rfl⟩ : ∃ k : Nat, i = k := ⟨i.toNat, by omega⟩
  have hk : k < ts.length := by omega
  exact ⟨ts[k], List.getElem_mem _, idx_seq (loc_seq h) (by simp [hk])⟩
section
variable {T : List FD} {F n j jt jw jc : Nat} {S : Store}
theorem leaf_ok (hT : T[j]? = some ⟨13, 3, leafB jt jc⟩) (ht : T[jt]? = some ⟨2, 2, takeB⟩) (hc : T[jc]? = some ⟨4, 2, chosenB⟩) (ns : List Int) {fs ws : List Str} {ts : List PyData} (X : Wld fs ws ts) {l : Nat} (hl : S[l]? = some (.lst ts)) (hS : Cl S) (r : List Int) :
    ∃ (x : PyData) (r' : List Int), Lf fs ws x ∧ callN T F (n + 2) j [.d (.list (ns.map .int)), .loc 0, WV fs ws (l + 1)] (dr r :: S) = .ok (.d x) (dr r' :: S) := by
  suffices h : Wp (callN T F (n + 2) j [.d (.list (ns.map .int)), .loc 0, WV fs ws (l + 1)] (dr r :: S)) (QLf fs ws S) by
    obtain ⟨v, S2, e, x, r', h, rfl, rfl⟩ := h
    exact ⟨x, r', h, e⟩
  refine wp_fn hT rfl ?_
  show Wp (exs _ _ (leafB jt jc) [some (.d (.list (ns.map .int))), some (.loc 0), some (WV fs ws (l + 1)), none, none, none, none, none, none, none, none, none, none] (dr r :: S)) _
  unfold leafB
  have t1 : ∀ (r : List Int) (S : Store) (m : Int), 0 < m → callN T F (n + 1) jt [.loc 0, .d (.int m)] (dr r :: S) = .ok (.d (.int (tk r m))) (dr r.tail :: S) := fun r S m h => take_ok ht r S m h
  have c1 : ∀ (i : Int) (S : Store), ∃ (ns : List Str) (L : Store), Cho ws ns ∧ callN T F (n + 1) jc [.d (.list (ws.map .str)), .d (.int i)] S = .ok (.d (.tuple (ns.map .str))) (S ++ L) := fun i S => chosen_ok hc ws X.w1 i
  generalize callN T F (n + 1) = Φ at t1 c1 ⊢
  have ls : ∀ r : List Int, bnop (dr r :: S) .len [.loc (l + 1)] = some (.d (.int ts.length)) := fun r => by
    have := len_seq (loc_seq (S := dr r :: S) (l := l + 1) (by simpa using hl))
    simpa using this
  have pick : ∀ r : List Int, ∃ x ∈ ts, ∀ r' : List Int, idxop (dr r' :: S) (.loc (l + 1)) (.d (.int (tk r ts.length))) = some (.d x) := fun r => by
    obtain ⟨b1, b2⟩ := tk_range (r := r) (m := (ts.length : Int)) (by have := X.t0; omega)
    obtain ⟨k, hk⟩ : ∃ k : Nat, tk r ts.length = k := ⟨(tk r ts.length).toNat, by omega⟩
    have hkl : k < ts.length := by omega
    exact ⟨ts[k], List.getElem_mem _, fun r' => by rw [hk]; exact idx_seq (loc_seq (by simpa using hl)) (by simp [hkl])⟩
  have w0 := fun r : List Int => wv0 (S := dr r :: S) fs ws (l + 1)
  have w1 := fun r : List Int => wv1 (S := dr r :: S) fs ws (l + 1)
  have w2 := fun r : List Int => wv2 (S := dr r :: S) fs ws (l + 1)
  have T0 : (0 : Int) < ts.length := by have := X.t0; omega
  have F0 : (0 : Int) < fs.length := by have := X.f0; omega
  have W0 : (0 : Int) < ws.length := by have := X.w0; omega
  have F0' := X.f0
  have W0' := X.w0
  have T0' := X.t0
  obtain ⟨b1, b2⟩ := tk_range (r := r) (m := 10) (by decide)
  (refine wp_seq ?_; simp [-exs_cons, t1])
  generalize tk r 10 = v at *
  obtain ⟨t, ht, pt⟩ := pick r.tail
  have ht := X.tw t ht
  (refine wp_seq ?_; simp [-exs_cons, w2, ls, t1, T0, T0', pt])
  obtain ⟨f1, f2⟩ := tk_range (r := r.tail.tail) (m := (fs.length : Int)) F0
  obtain ⟨f, hf, pf⟩ := pick_ix (S := dr r.tail.tail.tail :: S) (vs := fs) (m := fs.length) (Int.le_refl _) f1 f2
  (refine wp_seq ?_; simp [-exs_cons, w0, t1, F0, F0', pf])
  generalize r.tail.tail.tail = r1 at *
  refine wp_seq ?_
  by_cases c2 : v = 2
  · simp [-exs_cons, c2]
    (refine wp_seq ?_; simp [-exs_cons])
    exact ⟨_, r1, .in_ t f ht hf, rfl, rfl⟩
  simp [-exs_cons, c2]
  refine wp_seq ?_
  by_cases c3 : v = 3
  · simp [-exs_cons, c3]
    have hm : mulOk 2 (fs.length : Int) = true := mulOk_l _ _ (by decide) (by decide)
    have F2 : (0 : Int) < 2 * (fs.length : Int) := by omega
    obtain ⟨g1, g2⟩ := tk_range (r := r1) F2
    (refine wp_seq ?_; simp [-exs_cons, w0, t1, hm, F2])
    refine wp_seq ?_
    by_cases c4 : tk r1 (2 * fs.length) < fs.length
    · obtain ⟨g, hg, pg⟩ := pick_ix (S := dr r1.tail :: S) (vs := fs) (m := fs.length) (Int.le_refl _) g1 c4
      simp [-exs_cons, w0, c4]
      (refine wp_seq ?_; simp [-exs_cons, w0, pg])
      exact ⟨_, r1.tail, .set f g hf hg, rfl, rfl⟩
    · obtain ⟨qs, L, hq, e⟩ := c1 (tk r1.tail 64) (dr r1.tail.tail :: S)
      have hb := back_cutU (al := false) (S := S) (L := L) (r := r1.tail.tail) (x := .tuple (qs.map .str)) hS
      have e : Φ jc [.d (.list (ws.map .str)), .d (.int (tk r1.tail 64))] (dr r1.tail.tail :: S) = .ok (.d (.tuple (qs.map .str))) (dr r1.tail.tail :: (S ++ L)) := e
      simp [-exs_cons, w0, c4]
      (refine wp_seq ?_; simp [-exs_cons, w1, t1, e, hb, -back_bool])
      exact ⟨_, r1.tail.tail, .names f qs hf hq, rfl, rfl⟩
  simp [-exs_cons, c3]
  refine wp_seq ?_
  by_cases c4 : v = 4
  · simp [-exs_cons, c4]
    have F2 : (0 : Int) < 1 + (fs.length : Int) := by omega
    have z1 := sizeL (show 1 + fs.length ≤ 1000000 by have := X.f1; omega)
    have pk : ∀ r : List Int, ∃ g, g ∈ (("" : Str) :: fs) ∧ ∀ S, idxop S (.d (.list (.str "" :: fs.map .str))) (.d (.int (tk r (1 + fs.length)))) = some (.d (.str g)) := fun r => by
      obtain ⟨g1, g2⟩ := tk_range (r := r) F2
      obtain ⟨k, hk⟩ : ∃ k : Nat, tk r (1 + fs.length) = k := ⟨(tk r (1 + fs.length)).toNat, by omega⟩
      have hkl : k < (("" : Str) :: fs).length := by rw [List.length_cons]; omega
      refine ⟨(("" : Str) :: fs)[k], List.getElem_mem _, fun S => ?_⟩
      rw [hk]
      exact idx_seq (S := S) (v := .d (.list ((("" : Str) :: fs).map .str))) rfl (by rw [List.getElem?_map, List.getElem?_map, List.getElem?_eq_getElem hkl]; rfl)
    obtain ⟨a, ha, pa⟩ := pk r1
    obtain ⟨b, hb, pb⟩ := pk r1.tail
    (refine wp_seq ?_; simp [-exs_cons, w0, t1, F2, z1, pa])
    (refine wp_seq ?_; simp [-exs_cons, w0, t1, F2, z1, pb])
    (refine wp_seq ?_; simp [-exs_cons, t1])
    generalize tk r1.tail.tail 7 - 3 = lim
    generalize r1.tail.tail.tail = r2
    have last : ∀ (z : Int) (r : List Int) {Q0 : PW.Env × Fl → Store → Prop}, (∀ env, Q0 (env, .ret (.d (.tuple [.str "most", .str a, .str b, .int z]))) (dr r :: S)) → Wp (exs Φ F [.ret (.tup [(.lit (.str "most")), (.var 7), (.var 8), (.var 9)])] [some (.d (.list (ns.map .int))), some (.loc 0), some (WV fs ws (l + 1)), some (.d (.int 4)), some (.d t), some (.d (.str f)), none, some (.d (.str a)), some (.d (.str b)), some (.d (.int z)), none, none, none] (dr r :: S)) Q0 := by
      intro z r Q0 h
      (refine wp_seq ?_; simp [-exs_cons])
      exact h _
    refine wp_seq ?_
    by_cases h3 : tk r2 6 = 1
    · by_cases hn : ns = []
      · subst hn
        simp [-exs_cons, t1, h3]
        refine last _ _ fun env => ?_
        simp [-exs_cons]
        exact ⟨_, _, .most a b _ ha hb, rfl, rfl⟩
      · have hp : 0 < ns.length := List.length_pos_iff.mpr hn
        obtain ⟨z, _, hz⟩ := mod_at hn lim (dr r2.tail :: S)
        simp [-exs_cons, t1, h3, hp]
        (refine wp_seq ?_; simp [-exs_cons, hz, hp])
        refine last _ _ fun env => ?_
        simp [-exs_cons]
        exact ⟨_, _, .most a b _ ha hb, rfl, rfl⟩
    · simp [-exs_cons, t1, h3]
      refine last _ _ fun env => ?_
      simp [-exs_cons]
      exact ⟨_, _, .most a b _ ha hb, rfl, rfl⟩
  simp [-exs_cons, c4]
  refine wp_seq ?_
  by_cases c5 : v = 5
  · simp [-exs_cons, c5]
    obtain ⟨g1, g2⟩ := tk_range (r := r1) (m := (ws.length : Int)) W0
    obtain ⟨w, hw, pw⟩ := pick_ix (S := dr r1.tail :: S) (vs := ws) (m := ws.length) (Int.le_refl _) g1 g2
    have last : ∀ (t : PyData) {Q0 : PW.Env × Fl → Store → Prop}, (∀ env, Q0 (env, .ret (.d (.tuple [.str "member", t, .str w]))) (dr r1.tail :: S)) → Wp (exs Φ F [.ret (.tup [(.lit (.str "member")), (.var 4), (.idx (.idx (.var 2) (.lit (.int 1))) (.call false jt [(.var 1), (.bn .len [(.idx (.var 2) (.lit (.int 1)))])]))])] [some (.d (.list (ns.map .int))), some (.loc 0), some (WV fs ws (l + 1)), some (.d (.int 5)), some (.d t), some (.d (.str f)), none, none, none, none, none, none, none] (dr r1 :: S)) Q0 := by
      intro t Q0 h
      (refine wp_seq ?_; simp [-exs_cons, w1, t1, W0, W0', pw])
      exact h _
    have k1 := nk "field" "name" (by decide +kernel)
    have k2 := nk "part" "name" (by decide +kernel)
    refine wp_seq ?_
    cases ht with
    | blank =>
      simp [-exs_cons]
      (refine wp_seq ?_; simp [-exs_cons])
      refine last _ fun env => ?_
      simp [-exs_cons]
      exact ⟨_, _, .member _ w (.field f hf) (fun x h => by cases h) hw, rfl, rfl⟩
    | name u hu =>
      simp [-exs_cons]
      (refine wp_seq ?_; simp [-exs_cons])
      refine last _ fun env => ?_
      simp [-exs_cons]
      exact ⟨_, _, .member _ w (.field f hf) (fun x h => by cases h) hw, rfl, rfl⟩
    | field u hu =>
      simp [-exs_cons, k1]
      refine last _ fun env => ?_
      simp [-exs_cons]
      exact ⟨_, _, .member _ w (.field u hu) (fun x h => by cases h) hw, rfl, rfl⟩
    | part u i hu h0 h1 =>
      simp [-exs_cons, k2]
      refine last _ fun env => ?_
      simp [-exs_cons]
      exact ⟨_, _, .member _ w (.part u i hu h0 h1) (fun x h => by cases h) hw, rfl, rfl⟩
  simp [-exs_cons, c5]
  refine wp_seq ?_
  by_cases c6 : v = 6
  · simp [-exs_cons, c6]
    obtain ⟨g1, g2⟩ := tk_range (r := r1) (m := 2) (by decide)
    obtain ⟨y, hy, hi, _⟩ := idx_lst (S := dr r1.tail :: S) (ds := [.tuple [.str "true"], .tuple [.str "false"]]) g1 g2
    simp only [List.mem_cons, List.not_mem_nil, or_false] at hy
    rcases hy with rfl | rfl
    · (refine wp_seq ?_; simp [-exs_cons, t1, hi])
      exact ⟨_, _, .tt, rfl, rfl⟩
    · (refine wp_seq ?_; simp [-exs_cons, t1, hi])
      exact ⟨_, _, .ff, rfl, rfl⟩
  simp [-exs_cons, c6]
  refine wp_seq ?_
  by_cases c7 : v = 7 ∨ v = 8
  · have hcnd : ∀ S : Store, asBool (ev Φ (.or (.cmp .eq (.var 3) (.lit (.int 7))) (.cmp .eq (.var 3) (.lit (.int 8)))) true [some (.d (.list (ns.map .int))), some (.loc 0), some (WV fs ws (l + 1)), some (.d (.int v)), some (.d t), some (.d (.str f)), none, none, none, none, none, none, none] S) = .ok (.d (.bool true)) S := fun S => by
      rcases c7 with rfl | rfl
      · simp [-exs_cons]
      · simp [-exs_cons]
    rw [ex_ite, hcnd, rb_ok, condR_b, if_pos rfl]
    obtain ⟨g1, g2⟩ := tk_range (r := r1) (m := 4) (by decide)
    obtain ⟨m, hm⟩ : ∃ m : Nat, tk r1 4 = m := ⟨(tk r1 4).toNat, by omega⟩
    have hwk := walkOf_rng (S := dr r1.tail :: S) m (by omega)
    refine wp_seq ?_
    simp [-exs_cons, t1, hm, hwk]
    refine wp_call (P := fun ys S' => ∃ (qs : List PyData) (r' : List Int), qs.length = m ∧ (∀ p ∈ qs, Tw fs ws p) ∧ ys = qs.map .d ∧ S' = dr r' :: S) (wp_noErr (comp_any (fun y => Tw fs ws y) rfl (fun x r Q' _ hy => ?_) fun ds r' hl hp => ⟨ds, r', by rw [hl, intsP_len], hp, rfl, rfl⟩)) ?_
    · obtain ⟨u, hu, pu⟩ := pick r
      have hu := X.tw u hu
      simp [-exs_cons, killE, w2, ls, t1, T0, T0', pu]
      exact hy _ _ hu
    rintro _ _ ⟨qs, r', q1, q2, rfl, rfl⟩
    have z := sizeL (show qs.length ≤ 1000000 by omega)
    simp [-exs_cons, z]
    obtain ⟨k, hk, pk⟩ : ∃ k : Str, (k = "at" ∨ k = "under") ∧ ∀ S : Store, idxop S (.d (.list [.str "at", .str "under"])) (.d (.int (v - 7))) = some (.d (.str k)) := by
      rcases c7 with rfl | rfl
      · exact ⟨_, .inl rfl, fun _ => rfl⟩
      · exact ⟨_, .inr rfl, fun _ => rfl⟩
    refine wp_seq ?_
    simp [-exs_cons, pk]
    refine wp_call (P := fun ys S' => ∃ (us : List PyData), us.length ≤ qs.length ∧ (∀ p ∈ us, Tw fs ws p ∧ p ≠ .tuple [.str "name", .str ""]) ∧ ys = us.map .d ∧ S' = dr r' :: S) (wp_noErr (wp_compQ (fun xs acc S' => ∃ (rest us : List PyData), xs = rest.map .d ∧ (∀ p ∈ rest, Tw fs ws p) ∧ us.length + rest.length ≤ qs.length ∧ (∀ p ∈ us, Tw fs ws p ∧ p ≠ .tuple [.str "name", .str ""]) ∧ acc = us.map .d ∧ S' = dr r' :: S) ⟨qs, [], rfl, q2, by simp, (fun _ h => nomatch h), rfl, rfl⟩ ?_ ?_)) ?_
    · rintro x rr acc S' Q' ⟨rest, us, hx, hr, hl, hu, rfl, rfl⟩ hN
      cases rest with
      | nil => cases hx
      | cons p rest =>
        cases hx
        rw [List.length_cons] at hl
        have hp := hr p List.mem_cons_self
        have hr' : ∀ p ∈ rest, Tw fs ws p := fun z hz => hr z (List.mem_cons_of_mem _ hz)
        have keep : (∀ S, cmpop S .ne (.d p) (.d (.tuple [.str "name", .str ""])) = some true) → p ≠ .tuple [.str "name", .str ""] → Wp (compStep (killE [some (.d (.list (ns.map .int))), some (.loc 0), some (WV fs ws (l + 1)), some (.d (.int v)), some (.d t), some (.d (.str f)), none, none, none, none, some (.d (.list qs)), none, none] [12]) (.slot 12) (some fun env S => ev Φ (.cmp .ne (.var 12) (.tup [(.lit (.str "name")), (.lit (.str ""))])) true env S) (fun env S => ev Φ (.var 12) false env S) (.d p) (dr r' :: S)) Q' := by
          intro hne hne2
          rw [step_slot']
          simp [-exs_cons, killE, hne]
          refine hN _ _ (sameN _ _) ⟨rest, us ++ [p], rfl, hr', by simp; omega, fun z hz => ?_, by simp, rfl⟩
          rcases List.mem_append.mp hz with h | h
          · exact hu z h
          · rw [List.mem_singleton.mp h]; exact ⟨hp, hne2⟩
        rcases tw_ne hp with ⟨_, h2⟩ | ⟨h1, h2⟩
        · rw [step_slot']
          simp [-exs_cons, killE, h2]
          refine hN _ _ (sameN _ _) ⟨rest, us, rfl, hr', by omega, hu, by simp, rfl⟩
        · have := keep h2 h1
          simpa using this
    · rintro acc S' ⟨rest, us, hx, hr, hl, hu, rfl, rfl⟩
      exact ⟨us, by omega, hu, rfl, rfl⟩
    rintro _ _ ⟨us, q3, q4, rfl, rfl⟩
    have z2 := sizeL (show us.length ≤ 1000000 by omega)
    simp [-exs_cons, z2]
    exact ⟨_, _, .path k f us hk hf (by omega) q4, rfl, rfl⟩
  have hcnd : ∀ S : Store, asBool (ev Φ (.or (.cmp .eq (.var 3) (.lit (.int 7))) (.cmp .eq (.var 3) (.lit (.int 8)))) true [some (.d (.list (ns.map .int))), some (.loc 0), some (WV fs ws (l + 1)), some (.d (.int v)), some (.d t), some (.d (.str f)), none, none, none, none, none, none, none] S) = .ok (.d (.bool false)) S := fun S => by
    have h7 : ¬ v = 7 := fun h => c7 (.inl h)
    have h8 : ¬ v = 8 := fun h => c7 (.inr h)
    simp [-exs_cons, h7, h8]
  rw [ex_ite, hcnd, rb_ok, condR_b, if_neg Bool.false_ne_true]
  simp [-exs_cons]
  obtain ⟨u, hu, pu⟩ := pick r1
  have hu := X.tw u hu
  (refine wp_seq ?_; simp [-exs_cons, w2, ls, t1, T0, T0', pu])
  exact ⟨_, _, .is_ t u ht hu, rfl, rfl⟩
end
end PW

set_option maxHeartbeats 4000000
namespace PW
open PySem PySem.Spec PyProof.Rows L2
/-! PW27: numbers near a count, what is due, records told -/
theorem tup_seq {S : Store} {v : PV} {xs : List PV} {b : Bool} (h : seqOf S v = some (b, xs)) : bnop S .tuple [v] = some (mkTup xs) := by
  have h0 : (seqOf S v).map (fun p => mkTup p.2) = some (mkTup xs) := by
    rw [h]
    rfl
  cases v with
  | d y => cases y <;> first | (cases h; done) | exact h0
  | loc l => exact h0
  | mix t ys => exact h0
theorem back_len {al : Bool} {n : Nat} {S : Store} {x : PyData} (h : S.length = n) : back al n (.d x) S = .ok (.d x) S := by
  subst h
  exact back_self al x
def numberB (jt : Nat) : List CS := [
  .asg (.slot 3) (.call false jt [(.var 1), (.lit (.int 9))]),
  .asg (.slot 4) (.bin .add (.lit (.int 1)) (.call false jt [(.var 1), (.bn .max [(.lit (.int 1)), (.var 2)])])),
  .ite (.cmp .eq (.var 3) (.lit (.int 0))) [
    .ret (.bin .add (.var 2) (.lit (.int 1)))] [],
  .ite (.cmp .eq (.var 3) (.lit (.int 1))) [
    .ret (.lit (.int 0))] [],
  .ite (.cmp .eq (.var 3) (.lit (.int 2))) [
    .ret (.neg (.var 4))] [],
  .ite (.and (.cmp .eq (.var 3) (.lit (.int 3))) (.cmp .gt (.bn .len [(.var 0)]) (.lit (.int 0)))) [
    .ret (.bn .int [(.idx (.var 0) (.bin .mod (.bn .int [(.var 4)]) (.bn .len [(.var 0)])))])] [],
  .ret (.var 4)]
def QI (S : Store) (v : PV) (S2 : Store) : Prop := ∃ (i : Int) (r' : List Int), v = .d (.int i) ∧ S2 = dr r' :: S
section
variable {T : List FD} {F n j jt : Nat} {S : Store}
theorem number_ok (hT : T[j]? = some ⟨5, 3, numberB jt⟩) (ht : T[jt]? = some ⟨2, 2, takeB⟩) (ns : List Int) (m : Nat) (r : List Int) : ∃ (i : Int) (r' : List Int), callN T F (n + 2) j [.d (.list (ns.map .int)), .loc 0, .d (.int m)] (dr r :: S) = .ok (.d (.int i)) (dr r' :: S) := by
  suffices h : Wp (callN T F (n + 2) j [.d (.list (ns.map .int)), .loc 0, .d (.int m)] (dr r :: S)) (QI S) by
    obtain ⟨v, S2, e, i, r', rfl, rfl⟩ := h
    exact ⟨i, r', e⟩
  refine wp_fn hT rfl ?_
  show Wp (exs _ _ (numberB jt) [some (.d (.list (ns.map .int))), some (.loc 0), some (.d (.int m)), none, none] (dr r :: S)) _
  unfold numberB
  have t1 : ∀ (r : List Int) (S : Store) (m : Int), 0 < m → callN T F (n + 1) jt [.loc 0, .d (.int m)] (dr r :: S) = .ok (.d (.int (tk r m))) (dr r.tail :: S) := fun r S m h => take_ok ht r S m h
  generalize callN T F (n + 1) = Φ at t1 ⊢
  (refine wp_seq ?_; simp [-exs_cons, t1])
  generalize tk r 9 = v
  have hp : 0 < (if (m : Int) > 1 then (m : Int) else 1) := by split <;> omega
  have hp' : 0 < (if 1 < (m : Int) then (m : Int) else 1) := hp
  have hp2 : 0 < (if 1 < m then (m : Int) else 1) := by split <;> omega
  refine wp_seq ?_
  simp [-exs_cons, t1, hp, hp', hp2]
  have fin : ∀ (a : Int) (r : List Int), Wp (exs Φ F [.ite (.cmp .eq (.var 3) (.lit (.int 0))) [
    .ret (.bin .add (.var 2) (.lit (.int 1)))] [],
  .ite (.cmp .eq (.var 3) (.lit (.int 1))) [
    .ret (.lit (.int 0))] [],
  .ite (.cmp .eq (.var 3) (.lit (.int 2))) [
    .ret (.neg (.var 4))] [],
  .ite (.and (.cmp .eq (.var 3) (.lit (.int 3))) (.cmp .gt (.bn .len [(.var 0)]) (.lit (.int 0)))) [
    .ret (.bn .int [(.idx (.var 0) (.bin .mod (.bn .int [(.var 4)]) (.bn .len [(.var 0)])))])] [],
  .ret (.var 4)] [some (.d (.list (ns.map .int))), some (.loc 0), some (.d (.int m)), some (.d (.int v)), some (.d (.int a))] (dr r :: S)) (retQ (QI S)) := by
    intro a r
    refine wp_seq ?_
    by_cases h0 : v = 0
    · simp [-exs_cons, h0]
      (refine wp_seq ?_; simp [-exs_cons])
      exact ⟨_, r, rfl, rfl⟩
    simp [-exs_cons, h0]
    refine wp_seq ?_
    by_cases h1 : v = 1
    · simp [-exs_cons, h1]
      (refine wp_seq ?_; simp [-exs_cons])
      exact ⟨_, r, rfl, rfl⟩
    simp [-exs_cons, h1]
    refine wp_seq ?_
    by_cases h2 : v = 2
    · simp [-exs_cons, h2]
      (refine wp_seq ?_; simp [-exs_cons])
      exact ⟨_, r, rfl, rfl⟩
    simp [-exs_cons, h2]
    refine wp_seq ?_
    by_cases h3 : v = 3
    · by_cases hn : ns = []
      · subst hn
        simp [-exs_cons, h3]
        (refine wp_seq ?_; simp [-exs_cons])
        exact ⟨_, r, rfl, rfl⟩
      · have hp : 0 < ns.length := List.length_pos_iff.mpr hn
        obtain ⟨z, _, hz⟩ := mod_at hn a (dr r :: S)
        simp [-exs_cons, h3, hp]
        (refine wp_seq ?_; simp [-exs_cons, hz, hp])
        exact ⟨_, r, rfl, rfl⟩
    · simp [-exs_cons, h3]
      (refine wp_seq ?_; simp [-exs_cons])
      exact ⟨_, r, rfl, rfl⟩
  exact fin _ _
def dueL : List Str := ["InvalidRequest", "InvalidCondition", "InvalidRule", "BadText", "Circle", "AlreadyLinked", "NotLinked", "NoGrant", "NoPasses", "NoRule", "NothingToUndo", "NothingToRedo", "Widening"]
def dueB : List CS := [
  .asg (.slot 1) (.fr false .disp [(.lit (.str "InvalidRequest")), (.lit (.str "InvalidCondition")), (.lit (.str "InvalidRule")), (.lit (.str "BadText")), (.lit (.str "Circle")), (.lit (.str "AlreadyLinked")), (.lit (.str "NotLinked"))]),
  .asg (.slot 1) (.bin .add (.var 1) (.fr false .disp [(.lit (.str "NoGrant")), (.lit (.str "NoPasses")), (.lit (.str "NoRule")), (.lit (.str "NothingToUndo")), (.lit (.str "NothingToRedo")), (.lit (.str "Widening"))])),
  .ite (.cmp .eq (.var 0) (.lit (.str ""))) [
    .ret (.lit .none)] [],
  .ret (.comp false [2] (.slot 2) .of [(.var 1)] [] (.cmp .eq (.var 2) (.var 0)))]
theorem due_ok (hT : T[j]? = some ⟨3, 1, dueB⟩) (nm : Str) (h0 : ¬ nm = "") : callN T F (n + 1) j [.d (.str nm)] S = .ok (.d (.list (dueL.map fun o => .bool (decide (o = nm))))) S := by
  refine wp_to (wp_fn hT rfl ?_)
  show Wp (exs _ _ dueB [some (.d (.str nm)), none, none] S) _
  unfold dueB
  have z7 := sizeL (show 7 ≤ 1000000 by decide)
  have z13 := sizeL (show 13 ≤ 1000000 by decide)
  have m7 : ∀ a b c d e f g : PyData, mkLst [.d a, .d b, .d c, .d d, .d e, .d f, .d g] = .d (.list [a, b, c, d, e, f, g]) := fun _ _ _ _ _ _ _ => rfl
  have m6 : ∀ a b c d e f : PyData, mkLst [.d a, .d b, .d c, .d d, .d e, .d f] = .d (.list [a, b, c, d, e, f]) := fun _ _ _ _ _ _ => rfl
  (refine wp_seq ?_; simp [-exs_cons, z7, m7])
  (refine wp_seq ?_; simp [-exs_cons, m6, z13])
  (refine wp_seq ?_; simp [-exs_cons, h0])
  refine wp_seq ?_
  simp [-exs_cons]
  refine wp_call (P := fun ys S' => ys = (dueL.map fun o => PyData.bool (decide (o = nm))).map .d ∧ S' = S) (wp_noErr (comp_map dueL (fun o => .str o) (fun o => .bool (decide (o = nm))) rfl rfl (fun o ho => ?_) ⟨rfl, rfl⟩)) ?_
  · simp [killE]
  rintro ys S2 ⟨h1, h2⟩
  subst h1 h2
  have z : dueL.length ≤ sizeLine := z13
  simp [-exs_cons, z]
theorem due_at (hT : T[j]? = some ⟨3, 1, dueB⟩) : callN T F (n + 1) j [.d (.str "")] S = .ok (.d .none) S := by
  refine wp_to (wp_fn hT rfl ?_)
  show Wp (exs _ _ dueB [some (.d (.str "")), none, none] S) _
  unfold dueB
  have z7 := sizeL (show 7 ≤ 1000000 by decide)
  have z13 := sizeL (show 13 ≤ 1000000 by decide)
  have m7 : ∀ a b c d e f g : PyData, mkLst [.d a, .d b, .d c, .d d, .d e, .d f, .d g] = .d (.list [a, b, c, d, e, f, g]) := fun _ _ _ _ _ _ _ => rfl
  have m6 : ∀ a b c d e f : PyData, mkLst [.d a, .d b, .d c, .d d, .d e, .d f] = .d (.list [a, b, c, d, e, f]) := fun _ _ _ _ _ _ => rfl
  (refine wp_seq ?_; simp [-exs_cons, z7, m7])
  (refine wp_seq ?_; simp [-exs_cons, m6, z13])
  (refine wp_seq ?_; simp [-exs_cons])
  (refine wp_seq ?_; simp [-exs_cons])
def countB : List CS := [
  .ret (.and (.isi (.var 0) .int) (.and (.not (.isi (.var 0) .bool)) (.cmp .eq (.var 0) (.var 1))))]
theorem count_ok (hT : T[j]? = some ⟨2, 2, countB⟩) (i : Int) : callN T F (n + 1) j [.d (.int i), .d (.int i)] S = .ok (.d (.bool true)) S := by
  refine wp_to (wp_fn hT rfl ?_)
  show Wp (exs _ _ countB [some (.d (.int i)), some (.d (.int i))] S) _
  unfold countB
  (refine wp_seq ?_; simp [-exs_cons])
def arerB : List CS := [
  .ite (.or (.not (.isi (.var 0) .tuple)) (.cmp .ne (.var 0) (.bn .tuple [(.var 1)]))) [
    .ret (.lit (.bool false))] [],
  .for_ (.slot 2) .of [(.var 0)] [
    .for_ (.slot 3) .of [(.fr false .disp [(.lit (.int 0)), (.lit (.int 1)), (.lit (.int 4))])] [
      .ite (.or (.not (.isi (.idx (.var 2) (.var 3)) .int)) (.isi (.idx (.var 2) (.var 3)) .bool)) [
        .ret (.lit (.bool false))] []],
    .ite (.not (.isi (.idx (.var 2) (.lit (.int 5))) .bool)) [
      .ret (.lit (.bool false))] []],
  .ret (.lit (.bool true))]
/-- a record -/
def RecF (x : PyData) : Prop := ∃ (a b c : Int) (p q : PyData) (e : Bool), x = .tuple [.int a, .int b, p, q, .int c, .bool e]
theorem eqv_self {x : PyData} (h : lowOk x = true) : PyData.eqv x x = true := by
  unfold lowOk at h
  rw [Bool.and_eq_true] at h
  exact SeqAt.eqv_refl_plain _ h.1
theorem arer_ok (hT : T[j]? = some ⟨4, 2, arerB⟩) (ds : List PyData) (v : PV) (hv : seqOf S v = some (false, ds.map .d)) (hr : ∀ x ∈ ds, RecF x) (hl : lowOk (.tuple ds) = true) : callN T F (n + 1) j [.d (.tuple ds), v] S = .ok (.d (.bool true)) S := by
  refine wp_to (wp_fn hT rfl ?_)
  show Wp (exs _ _ arerB [some (.d (.tuple ds)), some v, none, none] S) _
  unfold arerB
  have s1 := tup_seq hv
  rw [mkTup_map] at s1
  have e1 : cmpop S .ne (.d (.tuple ds)) (.d (.tuple ds)) = some false := by rw [cmp_neL hl hl, eqv_self hl]; rfl
  (refine wp_seq ?_; simp [-exs_cons, s1, e1])
  (refine wp_seq ?_; simp [-exs_cons])
  refine wp_forQ (fun xs env S' => S' = S ∧ ∃ (rest : List PyData) (x2 x3 : Option PV), xs = rest.map .d ∧ (∀ x ∈ rest, RecF x) ∧ env = [some (.d (.tuple ds)), some v, x2, x3]) ⟨rfl, ds, none, none, rfl, hr, rfl⟩ ?_ ?_
  · rintro x rr env S' Q' ⟨rfl, rest, x2, x3, hx, hm, rfl⟩ hN _ _ _
    cases rest with
    | nil => cases hx
    | cons y rest =>
      cases hx
      obtain ⟨a, b, c, p, q, e, rfl⟩ := hm y List.mem_cons_self
      have hm' : ∀ x ∈ rest, RecF x := fun z hz => hm z (List.mem_cons_of_mem _ hz)
      have i4 : idxop S' (.d (.tuple [.int a, .int b, p, q, .int c, .bool e])) (.d (.int 4)) = some (.d (.int c)) := idx_seq (i := 4) (b := true) rfl rfl
      have i5 : idxop S' (.d (.tuple [.int a, .int b, p, q, .int c, .bool e])) (.d (.int 5)) = some (.d (.bool e)) := idx_seq (i := 5) (b := true) rfl rfl
      rw [bodyM_slot]
      (refine wp_seq ?_; simp [-exs_cons])
      refine wp_forQ (fun xs env S'' => S'' = S' ∧ ∃ (rest : List Int) (x3 : Option PV), xs = rest.map (fun i => PV.d (.int i)) ∧ (∀ i ∈ rest, i = 0 ∨ i = 1 ∨ i = 4) ∧ env = [some (.d (.tuple ds)), some v, some (.d (.tuple [.int a, .int b, p, q, .int c, .bool e])), x3]) ⟨rfl, [0, 1, 4], x3, rfl, by simp, rfl⟩ ?_ ?_
      · rintro x rr2 env S'' Q'' ⟨rfl, rs, x3, hx, hi, rfl⟩ hN2 _ _ _
        cases rs with
        | nil => cases hx
        | cons i rs =>
          cases hx
          have hi' : ∀ i ∈ rs, i = 0 ∨ i = 1 ∨ i = 4 := fun z hz => hi z (List.mem_cons_of_mem _ hz)
          rw [bodyM_slot]
          rcases hi i List.mem_cons_self with rfl | rfl | rfl
          · (refine wp_seq ?_; simp [-exs_cons])
            exact hN2 _ _ (sameN _ _) ⟨rfl, rs, _, rfl, hi', rfl⟩
          · (refine wp_seq ?_; simp [-exs_cons])
            exact hN2 _ _ (sameN _ _) ⟨rfl, rs, _, rfl, hi', rfl⟩
          · (refine wp_seq ?_; simp [-exs_cons, i4])
            exact hN2 _ _ (sameN _ _) ⟨rfl, rs, _, rfl, hi', rfl⟩
      · rintro env S'' ⟨rfl, rs, x3, hx, hi, rfl⟩
        rw [seqQ_next]
        (refine wp_seq ?_; simp [-exs_cons, i5])
        exact hN _ _ (sameN _ _) ⟨rfl, rest, _, _, rfl, hm', rfl⟩
  · rintro env S' ⟨rfl, rest, x2, x3, hx, hm, rfl⟩
    simp [-exs_cons]
    (refine wp_seq ?_; simp [-exs_cons])
end
end PW

set_option maxHeartbeats 4000000
namespace PW
open PySem PySem.Spec PyProof.Rows L2
/-! PW28: instances; grants -/
theorem cls_at {T : List FD} {F n jc C : Nat} (h : T[jc]? = some ⟨0, 0, [.ret (.lit (.int (C : Int)))]⟩) : clsNo (callN T F (n + 1)) jc = some C := by
  unfold clsNo
  rw [callN_at h, run1_eq rfl]
  rfl
theorem fld_at {Φ : Fns} {jc C l : Nat} {f : Str} {fs : List (Str × PV)} {S : Store} {v : PV} (hc : clsNo Φ jc = some C) (h : S[l]? = some (.inst C fs)) (hf : fs.lookup f = some v) : fldR Φ jc f (.loc l) S = .ok v S := by
  show (match S[l]? with
    | some (.inst C fs) => if clsNo Φ jc = some C then (match fs.lookup f with
      | some v => Res.ok v S
      | none => .stuck) else .stuck
    | _ => .stuck) = _
  rw [h]
  simp only
  rw [if_pos hc, hf]
theorem inst_at {Φ : Fns} {jc C l : Nat} {m : Str} {fs : List (Str × PV)} {S : Store} (hc : clsNo Φ jc = some C) (h : S[l]? = some (.inst C fs)) (hf : fs.lookup m = none) : instR Φ jc m (.loc l) S = .ok (.loc l) S := by
  show (match S[l]? with
    | some (.inst C fs) => if clsNo Φ jc = some C ∧ fs.lookup m = none then Res.ok (PV.loc l) S else .stuck
    | _ => .stuck) = _
  rw [h]
  simp only
  rw [if_pos ⟨hc, hf⟩]
theorem setf_at {Φ : Fns} {jc C l : Nat} {f : Str} {fs : List (Str × PV)} {S : Store} {v : PV} (hc : clsNo Φ jc = some C) (h : S[l]? = some (.inst C fs)) (hl : fs.length < 1000) : setfR Φ jc f (.loc l) v S = some (S.set l (.inst C (putA f v fs))) := by
  show (match S[l]? with
    | some (.inst C fs) => if clsNo Φ jc = some C ∧ fs.length < 1000 then some (S.set l (.inst C (putA f v fs))) else none
    | _ => none) = _
  rw [h]
  simp only
  rw [if_pos ⟨hc, hl⟩]
/-! records -/
structure Rc where
  par : Nat
  rcv : Str
  cnd : PyData
  pas : Int
  rev : Bool
def Rc.d (i : Nat) (r : Rc) : PyData := .tuple [.int (i + 1), .int r.par, .str r.rcv, r.cnd, .int r.pas, .bool r.rev]
def recsD (rs : List Rc) : List PyData := rs.mapIdx Rc.d
theorem recsD_len (rs : List Rc) : (recsD rs).length = rs.length := by unfold recsD; simp
theorem recsD_snoc (rs : List Rc) (r : Rc) : recsD (rs ++ [r]) = recsD rs ++ [r.d rs.length] := by unfold recsD; simp
theorem recsD_at {rs : List Rc} {i : Nat} (h : i < rs.length) : (recsD rs)[i]? = some (rs[i].d i) := by unfold recsD; simp [h]
/-- each parent stands before -/
def Wf (rs : List Rc) : Prop := ∀ i (h : i < rs.length), (rs[i]).par ≤ i
/-- does the grant stand -/
def stnd (rs : List Rc) : Nat → Nat → Bool
  | _, 0 => true
  | 0, _ + 1 => false
  | f + 1, k + 1 => match rs[k]? with
    | some r => !r.rev && stnd rs f r.par
    | none => false
theorem stnd_fuel {rs : List Rc} (hw : Wf rs) : ∀ (f g k : Nat), k ≤ f → k ≤ g → stnd rs f k = stnd rs g k
  | _, _, 0, _, _ => by unfold stnd; rfl
  | f + 1, g + 1, k + 1, h1, h2 => by
    unfold stnd
    cases e : rs[k]? with
    | none => rfl
    | some r =>
      obtain ⟨hk, rfl⟩ := List.getElem?_eq_some_iff.mp e
      have := hw k hk
      show (!(rs[k]).rev && stnd rs f (rs[k]).par) = (!(rs[k]).rev && stnd rs g (rs[k]).par)
      rw [stnd_fuel hw f g rs[k].par (by omega) (by omega)]
  | 0, _, k + 1, h1, _ => by omega
  | _ + 1, 0, k + 1, _, h2 => by omega
def stands (rs : List Rc) (i : Int) : Bool := decide (1 ≤ i) && decide (i ≤ rs.length) && stnd rs rs.length i.toNat
def makeGB (jc : Nat) : List CS := [
  .asg (.slot 5) (.bin .add (.bn .len [(.fld jc (.var 0) "_records")]) (.lit (.int 1))),
  .expr (.mt .append (.fld jc (.var 0) "_records") [(.tup [(.var 5), (.var 1), (.var 2), (.var 3), (.var 4), (.lit (.bool false))])]),
  .ret (.var 5)]
def standsGB (jc : Nat) : List CS := [
  .ite (.or (.cmp .lt (.var 1) (.lit (.int 1))) (.cmp .gt (.var 1) (.bn .len [(.fld jc (.var 0) "_records")]))) [
    .ret (.lit (.bool false))] [],
  .while_ (.cmp .gt (.var 1) (.lit (.int 0))) [
    .asg (.slot 2) (.idx (.fld jc (.var 0) "_records") (.bin .sub (.var 1) (.lit (.int 1)))),
    .ite (.idx (.var 2) (.lit (.int 5))) [
      .ret (.lit (.bool false))] [],
    .asg (.slot 1) (.idx (.var 2) (.lit (.int 1)))],
  .ret (.lit (.bool true))]
def needGB (jc js e1 : Nat) : List CS := [
  .ite (.not (.mcall false jc js "_stands" (.var 0) [(.var 1)] [])) [
    .raise_ e1] []]
def giveGB (jc jm : Nat) : List CS := [
  .ret (.mcall false jc jm "_make" (.var 0) [(.lit (.int 0)), (.var 1), (.var 2), (.var 3)] [])]
def passGB (jc jm jn e2 : Nat) : List CS := [
  .expr (.mcall false jc jn "_need" (.var 0) [(.var 1)] []),
  .asg (.slot 4) (.idx (.idx (.fld jc (.var 0) "_records") (.bin .sub (.var 1) (.lit (.int 1)))) (.lit (.int 4))),
  .ite (.cmp .eq (.var 4) (.lit (.int 0))) [
    .raise_ e2] [],
  .ret (.mcall false jc jm "_make" (.var 0) [(.var 1), (.var 2), (.var 3), (.bin .sub (.var 4) (.lit (.int 1)))] [])]
def recordsGB (jc : Nat) : List CS := [
  .ret (.bn .tuple [(.fld jc (.var 0) "_records")])]
def initGB (jc : Nat) : List CS := [
  .setf jc (.var 0) "_records" (.fr true .list [(.var 1)])]
/-- an object of grants at l, its list at k -/
structure GrAt (C : Nat) (S : Store) (l k : Nat) (rs : List Rc) : Prop where
  ob : S[l]? = some (.inst C [("_records", .loc k)])
  ls : S[k]? = some (.lst (recsD rs))
  ne : l ≠ k
section
variable {T : List FD} {F n j jc jm js jn C l k e1 e2 : Nat} {S : Store} {rs : List Rc}
theorem lk_self (f : Str) (v : PV) : List.lookup f [(f, v)] = some v := by simp
theorem lk_ne {f g : Str} (v : PV) (h : ¬ f = g) : List.lookup f [(g, v)] = none := by
  rw [List.lookup_cons]
  have : (f == g) = false := by simpa using h
  rw [this]
  rfl
theorem GrAt.set {S : Store} (G : GrAt C S l k rs) (rs' : List Rc) : GrAt C (S.set k (.lst (recsD rs'))) l k rs' := by
  have hk : k < S.length := (List.getElem?_eq_some_iff.mp G.ls).1
  exact ⟨by rw [List.getElem?_set_ne (Ne.symm G.ne)]; exact G.ob, List.getElem?_set_self hk, G.ne⟩
theorem makeG_ok (hT : T[j]? = some ⟨6, 5, makeGB jc⟩) (hc : T[jc]? = some ⟨0, 0, [.ret (.lit (.int (C : Int)))]⟩) (G : GrAt C S l k rs) (hl : rs.length < 1000) (p : Nat) (w : Str) (cd : PyData) (q : Int) :
    callN T F (n + 2) j [.loc l, .d (.int p), .d (.str w), .d cd, .d (.int q)] S = .ok (.d (.int (rs.length + 1))) (S.set k (.lst (recsD (rs ++ [⟨p, w, cd, q, false⟩])))) := by
  refine wp_to (wp_fn hT rfl ?_)
  show Wp (exs _ _ (makeGB jc) [some (.loc l), some (.d (.int p)), some (.d (.str w)), some (.d cd), some (.d (.int q)), none] S) _
  unfold makeGB
  have c := cls_at (F := F) (n := n) hc
  generalize callN T F (n + 1) = Φ at c ⊢
  have f1 := fld_at (S := S) (f := "_records") c G.ob (lk_self _ _)
  have hlk := lk_lst G.ls
  have hlen : (recsD rs).length = rs.length := recsD_len rs
  have ln : bnop S .len [.loc k] = some (.d (.int rs.length)) := by
    have := len_seq (loc_seq G.ls)
    rw [List.length_map, hlen] at this
    exact this
  have m6 : ∀ a b c d e f : PyData, mkTup [.d a, .d b, .d c, .d d, .d e, .d f] = .d (.tuple [a, b, c, d, e, f]) := fun _ _ _ _ _ _ => rfl
  have hz := sizeLine_big
  have ha := mt_append (S := S) (l := k) (o := .lst (recsD rs)) (.d ((⟨p, w, cd, q, false⟩ : Rc).d rs.length)) G.ls (by simp [hlen]; omega)
  rw [push_lst, ← recsD_snoc] at ha
  unfold Rc.d at ha
  (refine wp_seq ?_; simp [-exs_cons, f1, ln])
  refine wp_seq ?_
  simp [-exs_cons, -lk_eqS, f1, hlk, m6, ha]
  (refine wp_seq ?_; simp [-exs_cons])
theorem standsG_loop {Φ : Fns} (c : clsNo Φ jc = some C) (G : GrAt C S l k rs) (hw : Wf rs) : ∀ (i N : Nat) (x2 : Option PV), i ≤ rs.length → i < N →
    ∃ env', whileLoop (fun env S => ev Φ (.cmp .gt (.var 1) (.lit (.int 0))) true env S) (fun env S => exs Φ F [
    .asg (.slot 2) (.idx (.fld jc (.var 0) "_records") (.bin .sub (.var 1) (.lit (.int 1)))),
    .ite (.idx (.var 2) (.lit (.int 5))) [
      .ret (.lit (.bool false))] [],
    .asg (.slot 1) (.idx (.var 2) (.lit (.int 1)))] env S) N [some (.loc l), some (.d (.int i)), x2] S = .ok (env', if stnd rs rs.length i = true then .next else .ret (.d (.bool false))) S := by
  intro i
  induction i using Nat.strongRecOn with
  | _ i ih =>
    intro N x2 hi hN
    obtain ⟨N, rfl⟩ : ∃ M, N = M + 1 := ⟨N - 1, by omega⟩
    have f1 := fld_at (S := S) (f := "_records") c G.ob (lk_self _ _)
    cases i with
    | zero =>
      refine ⟨[some (.loc l), some (.d (.int 0)), x2], ?_⟩
      have : stnd rs rs.length 0 = true := by unfold stnd; rfl
      rw [this, if_pos rfl]
      unfold whileLoop
      simp
    | succ i =>
      have hil : i < rs.length := by omega
      have hp := hw i hil
      have hix := idx_seq (S := S) (i := i) (loc_seq G.ls) (x := .d ((rs[i]).d i)) (by rw [List.getElem?_map, recsD_at hil]; rfl)
      have hst : stnd rs rs.length (i + 1) = (!(rs[i]).rev && stnd rs rs.length (rs[i]).par) := by
        obtain ⟨m, hm⟩ : ∃ m, rs.length = m + 1 := ⟨rs.length - 1, by omega⟩
        have e1 : stnd rs rs.length (i + 1) = (!(rs[i]).rev && stnd rs m (rs[i]).par) := by
          rw [hm]
          conv => lhs; unfold stnd
          rw [List.getElem?_eq_getElem hil]
        rw [e1, stnd_fuel hw m rs.length _ (by omega) (by omega)]
      have hp1 : (0 : Int) < (i : Int) + 1 := by omega
      have es : ((i : Int) + 1) - 1 = i := by omega
      have i5 : idxop S (.d ((rs[i]).d i)) (.d (.int 5)) = some (.d (.bool (rs[i]).rev)) := idx_seq (i := 5) (b := true) rfl rfl
      have i1 : idxop S (.d ((rs[i]).d i)) (.d (.int 1)) = some (.d (.int (rs[i]).par)) := idx_seq (i := 1) (b := true) rfl rfl
      rw [hst]
      unfold whileLoop
      cases hrev : (rs[i]).rev with
      | true =>
        refine ⟨[some (.loc l), some (.d (.int ((i + 1 : Nat) : Int))), some (.d ((rs[i]).d i))], ?_⟩
        rw [hrev] at i5
        simp [-lk_eqS, f1, es, hix, i5]
      | false =>
        rw [hrev] at i5
        obtain ⟨env', e⟩ := ih (rs[i]).par (by omega) N (some (.d ((rs[i]).d i))) (by omega) (by omega)
        refine ⟨env', ?_⟩
        simp [-lk_eqS, f1, es, hix, i5, i1]
        simpa using e
theorem standsG_ok (hT : T[j]? = some ⟨3, 2, standsGB jc⟩) (hc : T[jc]? = some ⟨0, 0, [.ret (.lit (.int (C : Int)))]⟩) (G : GrAt C S l k rs) (hw : Wf rs) (hF : rs.length < F) (i : Int) :
    callN T F (n + 2) j [.loc l, .d (.int i)] S = .ok (.d (.bool (stands rs i))) S := by
  refine wp_to (wp_fn hT rfl ?_)
  show Wp (exs _ _ (standsGB jc) [some (.loc l), some (.d (.int i)), none] S) _
  unfold standsGB
  have c := cls_at (F := F) (n := n) hc
  generalize callN T F (n + 1) = Φ at c ⊢
  have f1 := fld_at (S := S) (f := "_records") c G.ob (lk_self _ _)
  have hlen : (recsD rs).length = rs.length := recsD_len rs
  have ln : bnop S .len [.loc k] = some (.d (.int rs.length)) := by
    have := len_seq (loc_seq G.ls)
    rw [List.length_map, hlen] at this
    exact this
  unfold stands
  refine wp_seq ?_
  by_cases h1 : i < 1
  · have h1' : ¬ 1 ≤ i := by omega
    simp [-exs_cons, h1]
    (refine wp_seq ?_; simp [-exs_cons])
    simp [h1']
  · by_cases h2 : (rs.length : Int) < i
    · have h2' : ¬ i ≤ rs.length := by omega
      simp [-exs_cons, h1, f1, ln, h2]
      (refine wp_seq ?_; simp [-exs_cons])
      simp [h2']
    · obtain ⟨m, rfl⟩ : ∃ m : Nat, i = m := ⟨i.toNat, by omega⟩
      have h1' : (1 : Int) ≤ (m : Int) := by omega
      have h2' : (m : Int) ≤ rs.length := by omega
      simp [-exs_cons, h1, f1, ln, h2]
      obtain ⟨env', e⟩ := standsG_loop (F := F) (S := S) c G hw m F none (by omega) (by omega)
      refine wp_seq ?_
      have e' : ex Φ F (.while_ (.cmp .gt (.var 1) (.lit (.int 0))) [
    .asg (.slot 2) (.idx (.fld jc (.var 0) "_records") (.bin .sub (.var 1) (.lit (.int 1)))),
    .ite (.idx (.var 2) (.lit (.int 5))) [
      .ret (.lit (.bool false))] [],
    .asg (.slot 1) (.idx (.var 2) (.lit (.int 1)))]) [some (.loc l), some (.d (.int m)), none] S = _ := e
      rw [e']
      cases hs : stnd rs rs.length m with
      | true =>
        simp only [if_true, wp_ok, seqQ_next]
        (refine wp_seq ?_; simp [-exs_cons])
        have h3 : 1 ≤ m := by omega
        have h4 : m ≤ rs.length := by omega
        simp [hs, h3, h4]
        omega
      | false =>
        simp [hs]
theorem needG_ok (hT : T[j]? = some ⟨2, 2, needGB jc js e1⟩) (hs : T[js]? = some ⟨3, 2, standsGB jc⟩) (hc : T[jc]? = some ⟨0, 0, [.ret (.lit (.int (C : Int)))]⟩) (G : GrAt C S l k rs) (hw : Wf rs) (hF : rs.length < F) (i : Int) :
    callN T F (n + 3) j [.loc l, .d (.int i)] S = if stands rs i = true then .ok (.d .none) S else .err e1 [] S := by
  have c := cls_at (F := F) (n := n + 1) hc
  have st := standsG_ok (n := n) hs hc G hw hF i
  have nk1 := lk_ne (.loc k) (nk "_stands" "_records" (by decide +kernel))
  have f1 := inst_at (S := S) (m := "_stands") c G.ob nk1
  rw [callN_at hT, run1_eq rfl]
  show (exs _ _ (needGB jc js e1) [some (.loc l), some (.d (.int i))] S).bind retR = _
  unfold needGB
  generalize callN T F (n + 2) = Φ at c st f1 ⊢
  cases hh : stands rs i with
  | true =>
    rw [hh] at st
    simp [f1, st]
  | false =>
    rw [hh] at st
    simp [f1, st]
theorem giveG_ok (hT : T[j]? = some ⟨4, 4, giveGB jc jm⟩) (hm : T[jm]? = some ⟨6, 5, makeGB jc⟩) (hc : T[jc]? = some ⟨0, 0, [.ret (.lit (.int (C : Int)))]⟩) (G : GrAt C S l k rs) (hl : rs.length < 1000) (w : Str) (cd : PyData) (q : Int) :
    callN T F (n + 3) j [.loc l, .d (.str w), .d cd, .d (.int q)] S = .ok (.d (.int (rs.length + 1))) (S.set k (.lst (recsD (rs ++ [⟨0, w, cd, q, false⟩])))) := by
  have c := cls_at (F := F) (n := n + 1) hc
  have st := makeG_ok (F := F) (n := n) hm hc G hl 0 w cd q
  have nk1 := lk_ne (.loc k) (nk "_make" "_records" (by decide +kernel))
  have f1 := inst_at (S := S) (m := "_make") c G.ob nk1
  refine wp_to (wp_fn hT rfl ?_)
  show Wp (exs _ _ (giveGB jc jm) [some (.loc l), some (.d (.str w)), some (.d cd), some (.d (.int q))] S) _
  unfold giveGB
  generalize callN T F (n + 2) = Φ at c st f1 ⊢
  have st : Φ jm [.loc l, .d (.int 0), .d (.str w), .d cd, .d (.int q)] S = _ := st
  have hb := back_len (al := false) (n := S.length) (S := S.set k (.lst (recsD (rs ++ [⟨0, w, cd, q, false⟩])))) (x := .int (rs.length + 1)) (by simp)
  refine wp_seq ?_
  simp [-exs_cons, f1, st, hb, -back_bool]
theorem passG_ok (hT : T[j]? = some ⟨5, 4, passGB jc jm jn e2⟩) (hm : T[jm]? = some ⟨6, 5, makeGB jc⟩) (hn : T[jn]? = some ⟨2, 2, needGB jc js e1⟩) (hs : T[js]? = some ⟨3, 2, standsGB jc⟩) (hc : T[jc]? = some ⟨0, 0, [.ret (.lit (.int (C : Int)))]⟩) (G : GrAt C S l k rs) (hw : Wf rs) (hF : rs.length < F) (hl : rs.length < 1000) (i : Int) (w : Str) (cd : PyData) :
    (stands rs i = false → callN T F (n + 4) j [.loc l, .d (.int i), .d (.str w), .d cd] S = .err e1 [] S) ∧
    (∀ (m : Nat) (h : m < rs.length), i = (m : Int) + 1 → stands rs i = true → callN T F (n + 4) j [.loc l, .d (.int i), .d (.str w), .d cd] S =
      if (rs[m]).pas = 0 then .err e2 [] S else .ok (.d (.int (rs.length + 1))) (S.set k (.lst (recsD (rs ++ [⟨m + 1, w, cd, (rs[m]).pas - 1, false⟩]))))) := by
  have c := cls_at (F := F) (n := n + 2) hc
  have nd := needG_ok (n := n) hn hs hc G hw hF i
  have nk1 := lk_ne (.loc k) (nk "_need" "_records" (by decide +kernel))
  have nk2 := lk_ne (.loc k) (nk "_make" "_records" (by decide +kernel))
  have f1 := inst_at (S := S) (m := "_need") c G.ob nk1
  have f2 := inst_at (S := S) (m := "_make") c G.ob nk2
  have f3 := fld_at (S := S) (f := "_records") c G.ob (lk_self _ _)
  have e0 : callN T F (n + 4) j [.loc l, .d (.int i), .d (.str w), .d cd] S = (exs (callN T F (n + 3)) F (passGB jc jm jn e2) [some (.loc l), some (.d (.int i)), some (.d (.str w)), some (.d cd), none] S).bind retR := by
    rw [callN_at hT, run1_eq rfl]
    rfl
  rw [e0]
  unfold passGB
  refine ⟨fun hh => ?_, fun m h hi hh => ?_⟩
  · rw [hh] at nd
    generalize callN T F (n + 3) = Φ at *
    simp [f1, nd]
  · have mk := makeG_ok (F := F) (n := n + 1) hm hc G hl (m + 1) w cd ((rs[m]).pas - 1)
    rw [hh] at nd
    subst hi
    have hix := idx_seq (S := S) (i := m) (loc_seq G.ls) (x := .d ((rs[m]).d m)) (by rw [List.getElem?_map, recsD_at h]; rfl)
    have i4 : idxop S (.d ((rs[m]).d m)) (.d (.int 4)) = some (.d (.int (rs[m]).pas)) := idx_seq (i := 4) (b := true) rfl rfl
    have hb := back_len (al := false) (n := S.length) (S := S.set k (.lst (recsD (rs ++ [⟨m + 1, w, cd, (rs[m]).pas - 1, false⟩])))) (x := .int (rs.length + 1)) (by simp)
    have mk : callN T F (n + 3) jm [.loc l, .d (.int ((m : Int) + 1)), .d (.str w), .d cd, .d (.int ((rs[m]).pas - 1))] S = _ := mk
    have es : ((m : Int) + 1) - 1 = m := by omega
    have hb0 := back_len (al := false) (n := S.length) (S := S) (x := .none) rfl
    simp only [if_true] at nd
    generalize callN T F (n + 3) = Φ at *
    generalize hrm : (rs[m]).pas = q at *
    by_cases hq : q = 0
    · subst hq
      simp [-lk_eqS, f1, nd, f3, es, hix, i4]
    · rw [if_neg hq]
      simp [-lk_eqS, -back_bool, f1, f2, nd, f3, es, hix, i4, hq, mk, hb]
theorem recordsG_ok (hT : T[j]? = some ⟨1, 1, recordsGB jc⟩) (hc : T[jc]? = some ⟨0, 0, [.ret (.lit (.int (C : Int)))]⟩) (G : GrAt C S l k rs) : callN T F (n + 2) j [.loc l] S = .ok (.d (.tuple (recsD rs))) S := by
  refine wp_to (wp_fn hT rfl ?_)
  show Wp (exs _ _ (recordsGB jc) [some (.loc l)] S) _
  unfold recordsGB
  have c := cls_at (F := F) (n := n) hc
  generalize callN T F (n + 1) = Φ at c ⊢
  have f1 := fld_at (S := S) (f := "_records") c G.ob (lk_self _ _)
  have s1 := tup_seq (loc_seq G.ls)
  rw [mkTup_map] at s1
  refine wp_seq ?_
  simp [-exs_cons, f1, s1]
/-- a new object -/
theorem initG_ok (hT : T[j]? = some ⟨2, 2, initGB jc⟩) (hc : T[jc]? = some ⟨0, 0, [.ret (.lit (.int (C : Int)))]⟩) (ds : List PyData) : callN T F (n + 2) j [.loc S.length, .d (.tuple ds)] (S ++ [.inst C []]) = .ok (.d .none) (S ++ [.inst C [("_records", .loc (S.length + 1))], .lst ds]) := by
  refine wp_to (wp_fn hT rfl ?_)
  show Wp (exs _ _ (initGB jc) [some (.loc S.length), some (.d (.tuple ds))] (S ++ [.inst C []])) _
  unfold initGB
  have c := cls_at (F := F) (n := n) hc
  generalize callN T F (n + 1) = Φ at c ⊢
  have f1 := setf_at (S := S ++ [.inst C [], .lst ds]) (l := S.length) (f := "_records") (fs := []) (v := .loc (S.length + 1)) c (by simp) (by decide)
  have l1 : frop (S ++ [.inst C []]) .list [.d (.tuple ds)] = some (ds.map .d) := rfl
  have mk : mkOb (ds.map .d) = .lst ds := mkOb_map ds
  refine wp_seq ?_
  simp [-exs_cons, l1, mk, f1]
  simp [putA]
end
end PW

set_option maxHeartbeats 4000000
namespace PW
open PySem PySem.Spec PyProof.Rows L2
/-! PW29: data that is not deep; a new object -/
def Lw (k : Nat) (x : PyData) : Prop := x.plain = true ∧ x.depth ≤ k
theorem Lw.low {k : Nat} {x : PyData} (h : Lw k x) (hk : k ≤ 40) : lowOk x = true := by
  unfold lowOk
  rw [h.1, decide_eq_true (Nat.le_trans h.2 hk)]
  rfl
theorem Lw.up {k m : Nat} {x : PyData} (h : Lw k x) (hk : k ≤ m) : Lw m x := ⟨h.1, Nat.le_trans h.2 hk⟩
theorem lw_str (k : Nat) (x : Str) : Lw k (.str x) := ⟨rfl, Nat.zero_le _⟩
theorem lw_int (k : Nat) (x : Int) : Lw k (.int x) := ⟨rfl, Nat.zero_le _⟩
theorem lw_bool (k : Nat) (x : Bool) : Lw k (.bool x) := ⟨rfl, Nat.zero_le _⟩
theorem lw_none (k : Nat) : Lw k .none := ⟨rfl, Nat.zero_le _⟩
theorem lw_all {k : Nat} : ∀ {xs : List PyData}, (∀ y ∈ xs, Lw k y) → PyData.plainAll xs = true ∧ PyData.depthAll xs ≤ k
  | [], _ => ⟨rfl, Nat.zero_le _⟩
  | x :: r, h => by
    obtain ⟨h1, h2⟩ := lw_all fun y hy => h y (List.mem_cons_of_mem _ hy)
    obtain ⟨h3, h4⟩ := h x List.mem_cons_self
    refine ⟨?_, ?_⟩
    · show (x.plain && PyData.plainAll r) = true
      rw [h3, h1]
      rfl
    · show Nat.max x.depth (PyData.depthAll r) ≤ k
      exact Nat.max_le.mpr ⟨h4, h2⟩
theorem lw_tup {k : Nat} {xs : List PyData} (h : ∀ y ∈ xs, Lw k y) : Lw (k + 1) (.tuple xs) := ⟨(lw_all h).1, Nat.succ_le_succ (lw_all h).2⟩
theorem lw_list {k : Nat} {xs : List PyData} (h : ∀ y ∈ xs, Lw k y) : Lw (k + 1) (.list xs) := ⟨(lw_all h).1, Nat.succ_le_succ (lw_all h).2⟩
theorem lw_nil {k : Nat} : ∀ y ∈ ([] : List PyData), Lw k y := fun _ h => nomatch h
theorem lw_cons {k : Nat} {x : PyData} {xs : List PyData} (hx : Lw k x) (h : ∀ y ∈ xs, Lw k y) : ∀ y ∈ x :: xs, Lw k y := fun y hy => by
  rcases List.mem_cons.mp hy with rfl | hy
  · exact hx
  · exact h y hy
theorem lw_strs {k : Nat} (ws : List Str) : ∀ y ∈ ws.map PyData.str, Lw k y := fun y hy => by
  obtain ⟨w, _, rfl⟩ := List.mem_map.mp hy
  exact lw_str k w
theorem tw_lw {fs ws : List Str} {t : PyData} (h : Tw fs ws t) : Lw 1 t := by
  cases h with
  | blank => exact lw_tup (lw_cons (lw_str _ _) (lw_cons (lw_str _ _) lw_nil))
  | name w _ => exact lw_tup (lw_cons (lw_str _ _) (lw_cons (lw_str _ _) lw_nil))
  | field w _ => exact lw_tup (lw_cons (lw_str _ _) (lw_cons (lw_str _ _) lw_nil))
  | part f i _ _ _ => exact lw_tup (lw_cons (lw_str _ _) (lw_cons (lw_str _ _) (lw_cons (lw_int _ _) lw_nil)))
theorem lf_lw {fs ws : List Str} {x : PyData} (h : Lf fs ws x) : Lw 4 x := by
  cases h with
  | tt => exact lw_tup (lw_cons (lw_str _ _) lw_nil)
  | ff => exact lw_tup (lw_cons (lw_str _ _) lw_nil)
  | in_ t f ht hf => exact lw_tup (lw_cons (lw_str _ _) (lw_cons ((tw_lw ht).up (by decide)) (lw_cons (lw_str _ _) lw_nil)))
  | set f g _ _ => exact lw_tup (lw_cons (lw_str _ _) (lw_cons (lw_str _ _) (lw_cons ((lw_tup (k := 0) (lw_cons (lw_str _ _) (lw_cons (lw_str _ _) lw_nil))).up (by decide)) lw_nil)))
  | names f ns _ _ => exact lw_tup (lw_cons (lw_str _ _) (lw_cons (lw_str _ _) (lw_cons ((lw_tup (k := 1) (lw_cons (lw_str _ _) (lw_cons (lw_tup (k := 0) (lw_strs ns)) lw_nil))).up (by decide)) lw_nil)))
  | most a b c _ _ => exact lw_tup (lw_cons (lw_str _ _) (lw_cons (lw_str _ _) (lw_cons (lw_str _ _) (lw_cons (lw_int _ _) lw_nil))))
  | member t w ht _ _ => exact lw_tup (lw_cons (lw_str _ _) (lw_cons ((tw_lw ht).up (by decide)) (lw_cons (lw_str _ _) lw_nil)))
  | path k f ts _ _ _ hts => exact lw_tup (lw_cons (lw_str _ _) (lw_cons (lw_str _ _) (lw_cons ((lw_tup (k := 1) fun y hy => tw_lw (hts y hy).1).up (by decide)) lw_nil)))
  | is_ t u ht hu => exact lw_tup (lw_cons (lw_str _ _) (lw_cons ((tw_lw ht).up (by decide)) (lw_cons ((tw_lw hu).up (by decide)) lw_nil)))
theorem rec_lw {r : Rc} (i : Nat) {k : Nat} (h : Lw k r.cnd) : Lw (k + 1) (r.d i) := lw_tup (lw_cons (lw_int _ _) (lw_cons (lw_int _ _) (lw_cons (lw_str _ _) (lw_cons h (lw_cons (lw_int _ _) (lw_cons (lw_bool _ _) lw_nil))))))
theorem recs_mem {rs : List Rc} {x : PyData} (h : x ∈ recsD rs) : ∃ i, ∃ r ∈ rs, x = Rc.d i r := by
  obtain ⟨i, hi⟩ := List.mem_iff_getElem?.mp h
  have hl : i < (recsD rs).length := (List.getElem?_eq_some_iff.mp hi).1
  rw [recsD_len] at hl
  rw [recsD_at hl] at hi
  cases hi
  exact ⟨i, rs[i], List.getElem_mem _, rfl⟩
theorem recs_lw {rs : List Rc} {k : Nat} (h : ∀ r ∈ rs, Lw k r.cnd) : Lw (k + 2) (.tuple (recsD rs)) := lw_tup fun y hy => by
  obtain ⟨i, r, hr, rfl⟩ := recs_mem hy
  exact rec_lw i (h r hr)
theorem recs_form (rs : List Rc) : ∀ x ∈ recsD rs, RecF x := fun x hx => by
  obtain ⟨i, r, hr, rfl⟩ := recs_mem hx
  exact ⟨_, _, _, _, _, _, rfl⟩
theorem make_at {Φ : Fns} {jc C : Nat} {run : Store → Res PV} {S S2 : Store} (hc : clsNo Φ jc = some C) (h : run (S ++ [.inst C []]) = .ok (.d .none) S2) : makeR Φ jc run S = .ok (.loc S.length) S2 := by
  unfold makeR
  rw [hc]
  simp only
  rw [h]
  rfl
theorem wf_snoc {rs : List Rc} (h : Wf rs) (r : Rc) (hp : r.par ≤ rs.length) : Wf (rs ++ [r]) := by
  intro i hi
  rw [List.length_append, List.length_singleton] at hi
  by_cases hl : i < rs.length
  · rw [List.getElem_append_left hl]
    exact h i hl
  · have e : i = rs.length := by omega
    subst e
    rw [List.getElem_append_right (Nat.le_refl _)]
    simpa using hp
theorem wf_nil : Wf [] := fun i h => by cases h
/-- where nothing is revoked, what is there stands -/
theorem stnd_all {rs : List Rc} (hw : Wf rs) (hr : ∀ r ∈ rs, r.rev = false) : ∀ (f k : Nat), k ≤ f → k ≤ rs.length → stnd rs f k = true
  | _, 0, _, _ => by unfold stnd; rfl
  | f + 1, k + 1, h1, h2 => by
    have hk : k < rs.length := by omega
    have := hw k hk
    unfold stnd
    rw [List.getElem?_eq_getElem hk]
    show (!(rs[k]).rev && stnd rs f (rs[k]).par) = true
    rw [hr _ (List.getElem_mem _), stnd_all hw hr f _ (by omega) (by omega)]
    rfl
  | 0, k + 1, h1, _ => by omega
theorem stands_all {rs : List Rc} (hw : Wf rs) (hr : ∀ r ∈ rs, r.rev = false) (i : Int) : stands rs i = (decide (1 ≤ i) && decide (i ≤ rs.length)) := by
  unfold stands
  by_cases h : 1 ≤ i ∧ i ≤ rs.length
  · rw [stnd_all hw hr _ _ (by omega) (by omega), Bool.and_true]
  · by_cases h1 : 1 ≤ i
    · have h2 : ¬ i ≤ rs.length := fun h2 => h ⟨h1, h2⟩
      simp [h2]
    · simp [h1]
end PW

set_option maxHeartbeats 4000000
namespace PW
open PySem PySem.Spec PyProof.Rows L2
/-! PW30: chains of grants -/
@[simp] theorem bin_addT (xs ys : List PyData) : binop .add (.d (.tuple xs)) (.d (.tuple ys)) = if xs.length + ys.length ≤ sizeLine then some (.d (.tuple (xs ++ ys))) else none := Eq.trans rfl rfl
/-- the numbers from the root to k -/
def chn (rs : List Rc) : Nat → Nat → List Nat
  | _, 0 => []
  | 0, _ + 1 => []
  | f + 1, k + 1 => match rs[k]? with
    | some r => chn rs f r.par ++ [k + 1]
    | none => []
theorem chn_fuel {rs : List Rc} (hw : Wf rs) : ∀ (f g k : Nat), k ≤ f → k ≤ g → chn rs f k = chn rs g k
  | _, _, 0, _, _ => by unfold chn; rfl
  | f + 1, g + 1, k + 1, h1, h2 => by
    unfold chn
    cases e : rs[k]? with
    | none => rfl
    | some r =>
      obtain ⟨hk, rfl⟩ := List.getElem?_eq_some_iff.mp e
      have := hw k hk
      show chn rs f (rs[k]).par ++ [k + 1] = chn rs g (rs[k]).par ++ [k + 1]
      rw [chn_fuel hw f g rs[k].par (by omega) (by omega)]
  | 0, _, k + 1, h1, _ => by omega
  | _ + 1, 0, k + 1, _, h2 => by omega
def chain (rs : List Rc) (k : Nat) : List Nat := chn rs rs.length k
theorem chain_succ {rs : List Rc} (hw : Wf rs) {k : Nat} (h : k < rs.length) : chain rs (k + 1) = chain rs (rs[k]).par ++ [k + 1] := by
  have hp := hw k h
  unfold chain
  obtain ⟨m, hm⟩ : ∃ m, rs.length = m + 1 := ⟨rs.length - 1, by omega⟩
  have e1 : chn rs rs.length (k + 1) = chn rs m (rs[k]).par ++ [k + 1] := by
    rw [hm]
    conv => lhs; unfold chn
    rw [List.getElem?_eq_getElem h]
  rw [e1, chn_fuel hw m rs.length _ (by omega) (by omega)]
theorem chain_zero (rs : List Rc) : chain rs 0 = [] := by unfold chain chn; rfl
theorem chain_in {rs : List Rc} (hw : Wf rs) : ∀ k, k ≤ rs.length → ∀ j ∈ chain rs k, 1 ≤ j ∧ j ≤ rs.length := by
  intro k
  induction k using Nat.strongRecOn with
  | _ k ih =>
    intro hk j hj
    cases k with
    | zero => rw [chain_zero] at hj; cases hj
    | succ k =>
      have hl : k < rs.length := by omega
      have hp := hw k hl
      rw [chain_succ hw hl] at hj
      rcases List.mem_append.mp hj with h | h
      · exact ih (rs[k]).par (by omega) (by omega) j h
      · rw [List.mem_singleton.mp h]; omega
theorem chain_len {rs : List Rc} (hw : Wf rs) : ∀ k, k ≤ rs.length → (chain rs k).length ≤ k := by
  intro k
  induction k using Nat.strongRecOn with
  | _ k ih =>
    intro hk
    cases k with
    | zero => rw [chain_zero]; exact Nat.le_refl _
    | succ k =>
      have hl : k < rs.length := by omega
      have hp := hw k hl
      rw [chain_succ hw hl, List.length_append, List.length_singleton]
      have := ih (rs[k]).par (by omega) (by omega)
      omega
/-- was the grant of this number revoked -/
def rvk (rs : List Rc) (j : Nat) : Bool := match rs[j - 1]? with
  | some r => r.rev
  | none => false
theorem stnd_chain {rs : List Rc} (hw : Wf rs) : ∀ k, k ≤ rs.length → stnd rs rs.length k = (chain rs k).all fun j => !rvk rs j := by
  intro k
  induction k using Nat.strongRecOn with
  | _ k ih =>
    intro hk
    cases k with
    | zero => rw [chain_zero]; unfold stnd; rfl
    | succ k =>
      have hl : k < rs.length := by omega
      have hp := hw k hl
      obtain ⟨m, hm⟩ : ∃ m, rs.length = m + 1 := ⟨rs.length - 1, by omega⟩
      have e1 : stnd rs rs.length (k + 1) = (!(rs[k]).rev && stnd rs m (rs[k]).par) := by
        rw [hm]
        conv => lhs; unfold stnd
        rw [List.getElem?_eq_getElem hl]
      rw [e1, stnd_fuel hw m rs.length _ (by omega) (by omega), ih (rs[k]).par (by omega) (by omega), chain_succ hw hl, List.all_append]
      have : rvk rs (k + 1) = (rs[k]).rev := by unfold rvk; simp [hl]
      simp only [List.all_cons, List.all_nil, this, Bool.and_true]
      exact Bool.and_comm _ _
def chT (rs : List Rc) (k : Nat) : List PyData := (chain rs k).map fun j => .int (j : Nat)
def lchainB : List CS := [
  .asg (.slot 2) (.tup []),
  .for_ (.slot 3) .rng1 [(.bn .len [(.var 0)])] [
    .ite (.or (.cmp .lt (.var 1) (.lit (.int 1))) (.cmp .gt (.var 1) (.bn .len [(.var 0)]))) [
      .brk] [],
    .asg (.slot 2) (.bin .add (.tup [(.var 1)]) (.var 2)),
    .asg (.slot 1) (.idx (.idx (.var 0) (.bin .sub (.var 1) (.lit (.int 1)))) (.lit (.int 1)))],
  .ret (.var 2)]
/-- is it the number of a grant -/
def isNo (rs : List Rc) (i : Int) : Bool := decide (1 ≤ i) && decide (i ≤ rs.length)
def chI (rs : List Rc) (i : Int) : List PyData := if isNo rs i = true then chT rs i.toNat else []
section
variable {T : List FD} {F n j : Nat} {S : Store} {rs : List Rc}
theorem lchain_ok (hT : T[j]? = some ⟨4, 2, lchainB⟩) (hw : Wf rs) (hl : rs.length ≤ 1000) (i : Int) : callN T F (n + 1) j [.d (.list (recsD rs)), .d (.int i)] S = .ok (.d (.tuple (chI rs i))) S := by
  refine wp_to (wp_fn hT rfl ?_)
  show Wp (exs _ _ lchainB [some (.d (.list (recsD rs))), some (.d (.int i)), none, none] S) _
  unfold lchainB
  have hlen : (recsD rs).length = rs.length := recsD_len rs
  have hwk := walkOf_rng (S := S) rs.length (by omega)
  (refine wp_seq ?_; simp [-exs_cons])
  (refine wp_seq ?_; simp [-exs_cons, hlen, hwk])
  by_cases hi : isNo rs i = true
  · have hi2 := hi
    unfold isNo at hi2
    simp only [Bool.and_eq_true, decide_eq_true_eq] at hi2
    obtain ⟨k, rfl⟩ : ∃ k : Nat, i = k := ⟨i.toNat, by omega⟩
    have e0 : chI rs (k : Int) = chT rs k := by unfold chI; rw [if_pos hi]; rfl
    rw [e0]
    refine wp_forQ (fun xs env S' => S' = S ∧ ∃ (m : Nat) (acc : List Nat) (x3 : Option PV), env = [some (.d (.list (recsD rs))), some (.d (.int m)), some (.d (.tuple (acc.map fun j => .int (j : Nat)))), x3] ∧ m ≤ rs.length ∧ m ≤ xs.length ∧ chain rs k = chain rs m ++ acc ∧ acc.length ≤ 2000) ⟨rfl, k, [], none, rfl, by omega, by rw [intsP_len]; omega, by simp, by decide⟩ ?_ ?_
    · rintro x rr env S' Q' ⟨rfl, m, acc, x3, rfl, hm, hx, hch, hal⟩ hN _ hB _
      rw [List.length_cons] at hx
      rw [bodyM_slot]
      refine wp_seq ?_
      cases m with
      | zero =>
        simp [-exs_cons]
        refine wp_seq ?_
        simp [-exs_cons]
        refine hB _ _ ?_
        rw [seqQ_next]
        rw [chain_zero, List.nil_append] at hch
        (refine wp_seq ?_; simp [-exs_cons])
        unfold chT
        rw [hch]
      | succ m =>
        have h1 : ¬ ((m + 1 : Nat) : Int) < 1 := by omega
        have h1' : ¬ (m : Int) + 1 < 1 := by omega
        have h2 : ¬ (rs.length : Int) < (m : Int) + 1 := by omega
        have hml : m < rs.length := by omega
        have hp := hw m hml
        have hix := idx_seq (S := S') (v := .d (.list (recsD rs))) (i := m) (b := false) (xs := (recsD rs).map .d) rfl (x := .d ((rs[m]).d m)) (by rw [List.getElem?_map, recsD_at hml]; rfl)
        have i1 : idxop S' (.d ((rs[m]).d m)) (.d (.int 1)) = some (.d (.int (rs[m]).par)) := idx_seq (i := 1) (b := true) rfl rfl
        have es : (m : Int) + 1 - 1 = m := by omega
        have hcl := chain_len hw k (by omega)
        have hcl2 : acc.length ≤ rs.length := by
          rw [hch, List.length_append] at hcl
          omega
        have z := sizeL (show 1 + acc.length ≤ 1000000 by omega)
        simp [-exs_cons, h1, h1', hlen, h2]
        (refine wp_seq ?_; simp [-exs_cons, z])
        (refine wp_seq ?_; simp [-exs_cons, es, hix, i1])
        refine hN _ _ (sameN _ _) ⟨rfl, (rs[m]).par, (m + 1) :: acc, some x, by simp, by omega, by omega, ?_, by simp; omega⟩
        rw [hch, chain_succ hw hml, List.append_assoc]
        rfl
    · rintro env S' ⟨rfl, m, acc, x3, rfl, hm, hx, hch, hal⟩
      have hm0 : m = 0 := by simpa using hx
      subst hm0
      rw [chain_zero, List.nil_append] at hch
      rw [seqQ_next]
      (refine wp_seq ?_; simp [-exs_cons])
      unfold chT
      rw [hch]
  · have e0 : chI rs i = [] := by unfold chI; rw [if_neg hi]
    rw [e0]
    refine wp_forQ (fun xs env S' => S' = S ∧ ∃ (x3 : Option PV), env = [some (.d (.list (recsD rs))), some (.d (.int i)), some (.d (.tuple [])), x3]) ⟨rfl, none, rfl⟩ ?_ ?_
    · rintro x rr env S' Q' ⟨rfl, x3, rfl⟩ hN _ hB _
      rw [bodyM_slot]
      refine wp_seq ?_
      have fin : ∀ env, env = [some (.d (.list (recsD rs))), some (.d (.int i)), some (.d (.tuple [])), some x] → Q' (env, .brk) S' := fun env he => by
        refine hB _ _ ?_
        rw [seqQ_next, he]
        (refine wp_seq ?_; simp [-exs_cons])
      by_cases h1 : i < 1
      · simp [-exs_cons, h1]
        refine wp_seq ?_
        simp [-exs_cons]
        exact fin _ rfl
      · have h2 : (rs.length : Int) < i := by
          unfold isNo at hi
          simp only [Bool.and_eq_true, decide_eq_true_eq] at hi
          omega
        simp [-exs_cons, h1, hlen, h2]
        refine wp_seq ?_
        simp [-exs_cons]
        exact fin _ rfl
    · rintro env S' ⟨rfl, x3, rfl⟩
      rw [seqQ_next]
      (refine wp_seq ?_; simp [-exs_cons])
def lstandsB (jc : Nat) : List CS := [
  .asg (.slot 2) (.call false jc [(.var 0), (.var 1)]),
  .ret (.and (.cmp .gt (.bn .len [(.var 2)]) (.lit (.int 0))) (.cmp .eq (.bn .len [(.comp false [3] (.slot 3) .of [(.var 2)] [(.idx (.idx (.var 0) (.bin .sub (.var 3) (.lit (.int 1)))) (.lit (.int 5)))] (.var 3))]) (.lit (.int 0))))]
theorem stands_chain {rs : List Rc} (hw : Wf rs) (i : Int) : stands rs i = (isNo rs i && (chain rs i.toNat).all fun j => !rvk rs j) := by
  unfold stands isNo
  by_cases h : 1 ≤ i ∧ i ≤ rs.length
  · rw [stnd_chain hw _ (by omega)]
  · by_cases h1 : 1 ≤ i
    · have h2 : ¬ i ≤ rs.length := fun h2 => h ⟨h1, h2⟩
      simp [h2]
    · simp [h1]
theorem chain_pos {rs : List Rc} (hw : Wf rs) {k : Nat} (h0 : 1 ≤ k) (h : k ≤ rs.length) : 0 < (chain rs k).length := by
  obtain ⟨m, rfl⟩ : ∃ m, k = m + 1 := ⟨k - 1, by omega⟩
  rw [chain_succ hw (by omega), List.length_append, List.length_singleton]
  omega
theorem lstands_ok {jc : Nat} (hT : T[j]? = some ⟨4, 2, lstandsB jc⟩) (hc : T[jc]? = some ⟨4, 2, lchainB⟩) (hw : Wf rs) (hl : rs.length ≤ 1000) (i : Int) : callN T F (n + 2) j [.d (.list (recsD rs)), .d (.int i)] S = .ok (.d (.bool (stands rs i))) S := by
  refine wp_to (wp_fn hT rfl ?_)
  show Wp (exs _ _ (lstandsB jc) [some (.d (.list (recsD rs))), some (.d (.int i)), none, none] S) _
  unfold lstandsB
  have c1 := lchain_ok (F := F) (n := n) (S := S) hc hw hl i
  rw [stands_chain hw]
  (refine wp_seq ?_; simp [-exs_cons, c1])
  generalize callN T F (n + 1) = Φ at c1 ⊢
  unfold chI
  by_cases hi : isNo rs i = true
  · rw [if_pos hi, hi, Bool.true_and]
    unfold isNo at hi
    simp only [Bool.and_eq_true, decide_eq_true_eq] at hi
    obtain ⟨k, rfl⟩ : ∃ k : Nat, i = k := ⟨i.toNat, by omega⟩
    rw [Int.toNat_natCast]
    have hlp := chain_pos hw (k := k) (by omega) (by omega)
    have hli := chain_in hw k (by omega)
    have hll := chain_len hw k (by omega)
    unfold chT
    generalize chain rs k = ch at *
    refine wp_seq ?_
    simp [-exs_cons, hlp]
    refine wp_call (P := fun ys S' => ∃ (us : List Nat), us.length ≤ ch.length ∧ ((us.length = 0) ↔ (ch.all fun j => !rvk rs j) = true) ∧ ys = (us.map fun j => PyData.int (j : Nat)).map .d ∧ S' = S) (wp_noErr (wp_compQ (fun xs acc S' => ∃ (ds es us : List Nat), ch = ds ++ es ∧ xs = es.map (fun j => PV.d (.int (j : Nat))) ∧ us.length ≤ ds.length ∧ ((us.length = 0) ↔ (ds.all fun j => !rvk rs j) = true) ∧ acc = (us.map fun j => PyData.int (j : Nat)).map .d ∧ S' = S) ⟨[], ch, [], rfl, by simp, Nat.le_refl _, by simp, rfl, rfl⟩ ?_ ?_)) ?_
    · rintro x rr acc S' Q' ⟨ds, es, us, he, hx, hl1, hiff, rfl, rfl⟩ hN
      cases es with
      | nil => cases hx
      | cons a es =>
        cases hx
        have ha := hli a (by rw [he]; simp)
        obtain ⟨m, rfl⟩ : ∃ m, a = m + 1 := ⟨a - 1, by omega⟩
        have hml : m < rs.length := by omega
        have hix := idx_seq (S := S') (v := .d (.list (recsD rs))) (i := m) (b := false) (xs := (recsD rs).map .d) rfl (x := .d ((rs[m]).d m)) (by rw [List.getElem?_map, recsD_at hml]; rfl)
        have i5 : idxop S' (.d ((rs[m]).d m)) (.d (.int 5)) = some (.d (.bool (rs[m]).rev)) := idx_seq (i := 5) (b := true) rfl rfl
        have es1 : (m : Int) + 1 - 1 = m := by omega
        have hrv : rvk rs (m + 1) = (rs[m]).rev := by unfold rvk; simp [hml]
        rw [step_slot']
        cases hr : (rs[m]).rev with
        | true =>
          rw [hr] at i5
          simp [-exs_cons, killE, es1, hix, i5]
          refine hN _ _ (sameN _ _) ⟨ds ++ [m + 1], es, us ++ [m + 1], by rw [he]; simp, rfl, by simp; omega, ?_, by simp, rfl⟩
          rw [List.all_append, List.length_append]
          simp [hrv, hr]
        | false =>
          rw [hr] at i5
          simp [-exs_cons, killE, es1, hix, i5]
          refine hN _ _ (sameN _ _) ⟨ds ++ [m + 1], es, us, by rw [he]; simp, rfl, by simp; omega, ?_, by simp, rfl⟩
          rw [List.all_append]
          simp only [List.all_cons, List.all_nil, hrv, hr, Bool.not_false, Bool.and_true]
          exact hiff
    · rintro acc S' ⟨ds, es, us, he, hx, hl1, hiff, rfl, rfl⟩
      cases es with
      | cons a es => cases hx
      | nil =>
        rw [List.append_nil] at he
        subst he
        exact ⟨us, hl1, hiff, rfl, rfl⟩
    rintro _ _ ⟨us, hl1, hiff, rfl, rfl⟩
    have z := sizeL (show us.length ≤ 1000000 by omega)
    simp [-exs_cons, z]
    by_cases h0 : us.length = 0
    · have := hiff.mp h0
      rw [this]
      have h9 : us = [] := List.eq_nil_of_length_eq_zero h0
      simp [h9]
    · have : (ch.all fun j => !rvk rs j) = false := by
        cases hb : (ch.all fun j => !rvk rs j) with
        | true => exact absurd (hiff.mpr hb) h0
        | false => rfl
      rw [this]
      have h9 : ¬ us = [] := fun e => h0 (by rw [e]; rfl)
      simp [h9]
  · rw [if_neg hi]
    have : isNo rs i = false := by cases h : isNo rs i; rfl; exact absurd h hi
    rw [this]
    (refine wp_seq ?_; simp [-exs_cons])
end
end PW

set_option maxHeartbeats 4000000
namespace PW
open PySem PySem.Spec PyProof.Rows L2
/-! PW31: grants: chain, revoke, standing -/
def chainGB (jc e1 : Nat) : List CS := [
  .ite (.or (.cmp .lt (.var 1) (.lit (.int 1))) (.cmp .gt (.var 1) (.bn .len [(.fld jc (.var 0) "_records")]))) [
    .raise_ e1] [],
  .asg (.slot 2) (.fr true .disp []),
  .while_ (.cmp .gt (.var 1) (.lit (.int 0))) [
    .expr (.mt .append (.var 2) [(.var 1)]),
    .asg (.slot 1) (.idx (.idx (.fld jc (.var 0) "_records") (.bin .sub (.var 1) (.lit (.int 1)))) (.lit (.int 1)))],
  .expr (.mt .reverse (.var 2) []),
  .ret (.bn .tuple [(.var 2)])]
def revokeGB (jc jn : Nat) : List CS := [
  .expr (.mcall false jc jn "_need" (.var 0) [(.var 1)] []),
  .set (.fld jc (.var 0) "_records") (.bin .sub (.var 1) (.lit (.int 1))) (.bin .add (.slice (.idx (.fld jc (.var 0) "_records") (.bin .sub (.var 1) (.lit (.int 1)))) [] [(.lit (.int 5))]) (.tup [(.lit (.bool true))]))]
def standingGB (jc js : Nat) : List CS := [
  .ret (.bn .tuple [(.comp false [1] (.slot 1) .of [(.fld jc (.var 0) "_records")] [(.mcall false jc js "_stands" (.var 0) [(.idx (.var 1) (.lit (.int 0)))] [])] (.idx (.var 1) (.lit (.int 0))))])]
/-- the grant m is revoked -/
def revoke (rs : List Rc) (m : Nat) : List Rc := rs.mapIdx fun i r => if i = m then { r with rev := true } else r
theorem revoke_len (rs : List Rc) (m : Nat) : (revoke rs m).length = rs.length := by unfold revoke; simp
theorem revoke_wf {rs : List Rc} (h : Wf rs) (m : Nat) : Wf (revoke rs m) := by
  intro i hi
  have hi' : i < rs.length := by rw [revoke_len] at hi; exact hi
  have := h i hi'
  have e2 : (revoke rs m)[i] = if i = m then { rs[i] with rev := true } else rs[i] := by simp [revoke]
  rw [e2]
  by_cases e : i = m
  · rw [if_pos e]; exact this
  · rw [if_neg e]; exact this
theorem recs_revoke {rs : List Rc} {m : Nat} (h : m < rs.length) : (recsD rs).set m ({ rs[m] with rev := true }.d m) = recsD (revoke rs m) := by
  apply List.ext_getElem?
  intro i
  by_cases hi : i < rs.length
  · rw [recsD_at (by rw [revoke_len]; exact hi)]
    by_cases e : m = i
    · subst e
      rw [List.getElem?_set_self (by rw [recsD_len]; exact h)]
      unfold revoke
      simp
    · rw [List.getElem?_set_ne e, recsD_at hi]
      have e' : ¬ i = m := fun z => e z.symm
      unfold revoke
      simp [e']
  · rw [List.getElem?_eq_none (by rw [List.length_set, recsD_len]; omega), List.getElem?_eq_none (by rw [recsD_len, revoke_len]; omega)]
theorem revoke_cnd {rs : List Rc} {m : Nat} {k : Nat} (h : ∀ r ∈ rs, Lw k r.cnd) : ∀ r ∈ revoke rs m, Lw k r.cnd := by
  intro r hr
  obtain ⟨i, hi⟩ := List.mem_iff_getElem?.mp hr
  have hl : i < (revoke rs m).length := (List.getElem?_eq_some_iff.mp hi).1
  rw [revoke_len] at hl
  unfold revoke at hi
  simp only [List.getElem?_mapIdx, List.getElem?_eq_getElem hl, Option.map_some, Option.some.injEq] at hi
  subst hi
  by_cases e : i = m
  · rw [if_pos e]
    show Lw k (rs[i]).cnd
    exact h _ (List.getElem_mem hl)
  · rw [if_neg e]
    exact h _ (List.getElem_mem hl)
section
variable {T : List FD} {F n j jc js jn C l k e1 : Nat} {S : Store} {rs : List Rc}
theorem revokeG_ok (hT : T[j]? = some ⟨2, 2, revokeGB jc jn⟩) (hn : T[jn]? = some ⟨2, 2, needGB jc js e1⟩) (hs : T[js]? = some ⟨3, 2, standsGB jc⟩) (hc : T[jc]? = some ⟨0, 0, [.ret (.lit (.int (C : Int)))]⟩) (G : GrAt C S l k rs) (hw : Wf rs) (hF : rs.length < F) (i : Int) :
    (stands rs i = false → callN T F (n + 4) j [.loc l, .d (.int i)] S = .err e1 [] S) ∧
    (∀ (m : Nat), m < rs.length → i = (m : Int) + 1 → stands rs i = true → callN T F (n + 4) j [.loc l, .d (.int i)] S = .ok (.d .none) (S.set k (.lst (recsD (revoke rs m))))) := by
  have c := cls_at (F := F) (n := n + 2) hc
  have nd := needG_ok (n := n) hn hs hc G hw hF i
  have f1 := inst_at (S := S) (m := "_need") c G.ob (lk_ne (.loc k) (nk "_need" "_records" (by decide +kernel)))
  have f3 := fld_at (S := S) (f := "_records") c G.ob (lk_self _ _)
  have e0 : callN T F (n + 4) j [.loc l, .d (.int i)] S = (exs (callN T F (n + 3)) F (revokeGB jc jn) [some (.loc l), some (.d (.int i))] S).bind retR := by
    rw [callN_at hT, run1_eq rfl]
    rfl
  rw [e0]
  unfold revokeGB
  refine ⟨fun hh => ?_, fun m h hi hh => ?_⟩
  · rw [hh] at nd
    generalize callN T F (n + 3) = Φ at *
    simp [f1, nd]
  · rw [hh] at nd
    subst hi
    have hix := idx_seq (S := S) (i := m) (loc_seq G.ls) (x := .d ((rs[m]).d m)) (by rw [List.getElem?_map, recsD_at h]; rfl)
    have es : ((m : Int) + 1) - 1 = m := by omega
    have sl : sliceV S (.d ((rs[m]).d m)) none (some 5) = some (.d (.tuple [.int (m + 1), .int (rs[m]).par, .str (rs[m]).rcv, (rs[m]).cnd, .int (rs[m]).pas])) := rfl
    have st := set_list (S := S) (l := k) (i := m) ({ rs[m] with rev := true }.d m) G.ls (by rw [recsD_len]; exact h)
    rw [recs_revoke h] at st
    unfold Rc.d at st
    have z := sizeL (show 5 + 1 ≤ 1000000 by decide)
    simp only [if_true] at nd
    generalize callN T F (n + 3) = Φ at *
    simp [-lk_eqS, f1, nd, f3, es, hix, sl, z, st]
/-- the numbers of what stands -/
def stdD (rs : List Rc) : List PyData := ((List.range rs.length).filter fun (i : Nat) => stands rs ((i : Int) + 1)).map fun (i : Nat) => .int ((i : Int) + 1)
/-- a comprehension over the records with a test -/
theorem std_comp {rs : List Rc} {env : PW.Env} {sl : Nat} {cnd elt : PW.Env → Store → Res PV} {w : Walked} (hw : w.same S) (hc : ∀ i, (h : i < rs.length) → asBool (cnd (env.set sl (some (.d ((rs[i]).d i)))) S) = .ok (.d (.bool (stands rs ((i : Int) + 1)))) S)
    (he : ∀ i, (h : i < rs.length) → elt (env.set sl (some (.d ((rs[i]).d i)))) S = .ok (.d (.int ((i : Int) + 1))) S) {Q : List PV → Store → Prop} (hQ : Q ((stdD rs).map .d) S) : Wp (compLoop w (compStep env (.slot sl) (some cnd) elt) ((recsD rs).map .d) S) Q := by
  refine wp_compQ (fun xs acc S' => S' = S ∧ ∃ (m : Nat), m ≤ rs.length ∧ xs = ((recsD rs).drop m).map .d ∧ acc = ((((List.range m).filter fun (i : Nat) => stands rs ((i : Int) + 1)).map fun (i : Nat) => PyData.int ((i : Int) + 1)).map .d)) ⟨rfl, 0, Nat.zero_le _, by simp, by simp⟩ ?_ ?_
  · rintro x rr acc S' Q' ⟨rfl, m, hm, hx, rfl⟩ hN
    have hml : m < rs.length := by
      by_cases h : m < rs.length
      · exact h
      · rw [List.drop_eq_nil_of_le (by rw [recsD_len]; omega)] at hx
        cases hx
    have hd : (recsD rs).drop m = (rs[m]).d m :: (recsD rs).drop (m + 1) := by
      have hl : m < (recsD rs).length := by rw [recsD_len]; exact hml
      rw [List.drop_eq_getElem_cons hl]
      congr 1
      have := recsD_at hml
      rw [List.getElem?_eq_getElem hl] at this
      exact Option.some.inj this
    rw [hd] at hx
    cases hx
    rw [step_slot', hc m hml]
    have hr : (List.range (m + 1)).filter (fun (i : Nat) => stands rs ((i : Int) + 1)) = (List.range m).filter (fun (i : Nat) => stands rs ((i : Int) + 1)) ++ if stands rs ((m : Int) + 1) = true then [m] else [] := by
      rw [List.range_succ, List.filter_append]
      simp [List.filter_cons]
    cases hs : stands rs ((m : Int) + 1) with
    | true =>
      rw [hs, if_pos rfl] at hr
      simp only [rb_ok, stepC_b, if_true, he m hml, wp_ok]
      refine hN _ _ hw ⟨rfl, m + 1, hml, rfl, ?_⟩
      rw [hr]
      simp
    | false =>
      rw [hs, if_neg Bool.false_ne_true] at hr
      simp only [rb_ok, stepC_b, Bool.false_eq_true, if_false, wp_ok]
      refine hN _ _ hw ⟨rfl, m + 1, hml, rfl, ?_⟩
      rw [hr]
      simp
  · rintro acc S' ⟨rfl, m, hm, hx, rfl⟩
    have : m = rs.length := by
      by_cases h : m < rs.length
      · have hl : 0 < ((recsD rs).drop m).length := by rw [List.length_drop, recsD_len]; omega
        have : ((recsD rs).drop m).length = 0 := by
          have := congrArg List.length hx
          simpa using this.symm
        omega
      · omega
    subst this
    exact hQ
theorem std_len (rs : List Rc) : (stdD rs).length ≤ rs.length := by
  unfold stdD
  rw [List.length_map]
  exact Nat.le_trans (List.length_filter_le _ (List.range rs.length)) (by simp)
theorem standingG_ok (hT : T[j]? = some ⟨2, 1, standingGB jc js⟩) (hs : T[js]? = some ⟨3, 2, standsGB jc⟩) (hc : T[jc]? = some ⟨0, 0, [.ret (.lit (.int (C : Int)))]⟩) (G : GrAt C S l k rs) (hw : Wf rs) (hF : rs.length < F) (hl : rs.length ≤ 1000) : callN T F (n + 3) j [.loc l] S = .ok (.d (.tuple (stdD rs))) S := by
  refine wp_to (wp_fn hT rfl ?_)
  show Wp (exs _ _ (standingGB jc js) [some (.loc l), none] S) _
  unfold standingGB
  have c := cls_at (F := F) (n := n + 1) hc
  have st := fun i => standsG_ok (n := n) hs hc G hw hF i
  have f1 := inst_at (S := S) (m := "_stands") c G.ob (lk_ne (.loc k) (nk "_stands" "_records" (by decide +kernel)))
  have f3 := fld_at (S := S) (f := "_records") c G.ob (lk_self _ _)
  generalize callN T F (n + 2) = Φ at *
  have hwk : walkOf S .of [.loc k] = some ⟨(recsD rs).map .d, some (k, .lst (recsD rs))⟩ := by
    show (match lk S k with
      | some o => some (Walked.mk o.items (some (k, o)))
      | none => none) = _
    rw [lk_of G.ls rfl]
    rfl
  have i0 : ∀ i, (h : i < rs.length) → idxop S (.d ((rs[i]).d i)) (.d (.int 0)) = some (.d (.int ((i : Int) + 1))) := fun i h => idx_seq (i := 0) (b := true) rfl rfl
  have hb : ∀ x : PyData, back false S.length (.d x) S = .ok (.d x) S := fun x => back_len rfl
  refine wp_seq ?_
  simp [-exs_cons, f3, hwk]
  refine wp_call (P := fun ys S' => ys = (stdD rs).map .d ∧ S' = S) (wp_noErr (std_comp (w := ⟨(recsD rs).map .d, some (k, .lst (recsD rs))⟩) G.ls (fun i h => ?_) (fun i h => ?_) ⟨rfl, rfl⟩)) ?_
  · simp [killE, -back_bool, f1, i0 i h, st, hb]
  · simp [killE, i0 i h]
  rintro ys S2 ⟨h1, h2⟩
  subst h1 h2
  have z := sizeL (show (stdD rs).length ≤ 1000000 by have := std_len rs; omega)
  simp [-exs_cons, z]

theorem GrAt.app {S : Store} (G : GrAt C S l k rs) (L : Store) : GrAt C (S ++ L) l k rs := by
  have hl : l < S.length := (List.getElem?_eq_some_iff.mp G.ob).1
  have hk : k < S.length := (List.getElem?_eq_some_iff.mp G.ls).1
  exact ⟨by rw [List.getElem?_append_left hl]; exact G.ob, by rw [List.getElem?_append_left hk]; exact G.ls, G.ne⟩
theorem GrAt.same {S : Store} (G : GrAt C S l k rs) : S.set k (.lst (recsD rs)) = S := by
  apply List.ext_getElem?
  intro i
  by_cases e : k = i
  · subst e
    rw [List.getElem?_set_self (List.getElem?_eq_some_iff.mp G.ls).1]
    exact G.ls.symm
  · rw [List.getElem?_set_ne e]
theorem app_last {S : Store} {ds : List PyData} (x : PyData) (h : ds.length < 1000000) : mtop (S ++ [.lst ds]) .append S.length [.d x] = some (.d .none, S ++ [.lst (ds ++ [x])]) := by
  have hz := sizeLine_big
  rw [mt_append (S := S ++ [Ob.lst ds]) (l := S.length) (o := Ob.lst ds) (.d x) (by simp) (by simp; omega)]
  rw [push_lst]
  simp
theorem chainG_loop {Φ : Fns} (c : clsNo Φ jc = some C) (G : GrAt C S l k rs) (hw : Wf rs) (hl : rs.length ≤ 1000) : ∀ (i N : Nat) (acc : List PyData), i ≤ rs.length → i < N → acc.length + i ≤ 1000 →
    whileLoop (fun env S => ev Φ (.cmp .gt (.var 1) (.lit (.int 0))) true env S) (fun env S => exs Φ F [
    .expr (.mt .append (.var 2) [(.var 1)]),
    .asg (.slot 1) (.idx (.idx (.fld jc (.var 0) "_records") (.bin .sub (.var 1) (.lit (.int 1)))) (.lit (.int 1)))] env S) N [some (.loc l), some (.d (.int i)), some (.loc S.length)] (S ++ [.lst acc]) = .ok ([some (.loc l), some (.d (.int 0)), some (.loc S.length)], .next) (S ++ [.lst (acc ++ (chT rs i).reverse)]) := by
  intro i
  induction i using Nat.strongRecOn with
  | _ i ih =>
    intro N acc hi hN ha
    obtain ⟨N, rfl⟩ : ∃ M, N = M + 1 := ⟨N - 1, by omega⟩
    cases i with
    | zero =>
      unfold whileLoop
      unfold chT
      rw [chain_zero]
      simp
    | succ i =>
      have hil : i < rs.length := by omega
      have hp := hw i hil
      have hp1 : (0 : Int) < (i : Int) + 1 := by omega
      have es : ((i : Int) + 1) - 1 = i := by omega
      have ap := app_last (S := S) (ds := acc) (.int ((i : Int) + 1)) (by omega)
      have lk1 : lk (S ++ [.lst acc]) S.length = some (.lst acc) := lk_lst (by simp)
      have G2 := G.app [.lst (acc ++ [.int ((i : Int) + 1)])]
      have f1 := fld_at (S := S ++ [.lst (acc ++ [.int ((i : Int) + 1)])]) (f := "_records") c G2.ob (lk_self _ _)
      have hix := idx_seq (S := S ++ [.lst (acc ++ [.int ((i : Int) + 1)])]) (i := i) (loc_seq G2.ls) (x := .d ((rs[i]).d i)) (by rw [List.getElem?_map, recsD_at hil]; rfl)
      have i1 : idxop (S ++ [.lst (acc ++ [.int ((i : Int) + 1)])]) (.d ((rs[i]).d i)) (.d (.int 1)) = some (.d (.int (rs[i]).par)) := idx_seq (i := 1) (b := true) rfl rfl
      have e := ih (rs[i]).par (by omega) N (acc ++ [.int ((i : Int) + 1)]) (by omega) (by omega) (by simp; omega)
      have hch : acc ++ (chT rs (i + 1)).reverse = (acc ++ [.int ((i : Int) + 1)]) ++ (chT rs (rs[i]).par).reverse := by
        unfold chT
        rw [chain_succ hw hil]
        simp
      rw [hch]
      unfold whileLoop
      simp [-lk_eqS, lk1, ap, f1, es, hix, i1]
      simpa using e
theorem chainG_ok (hT : T[j]? = some ⟨3, 2, chainGB jc e1⟩) (hc : T[jc]? = some ⟨0, 0, [.ret (.lit (.int (C : Int)))]⟩) (G : GrAt C S l k rs) (hw : Wf rs) (hF : rs.length < F) (hl : rs.length ≤ 1000) (i : Int) :
    (isNo rs i = false → callN T F (n + 2) j [.loc l, .d (.int i)] S = .err e1 [] S) ∧
    (isNo rs i = true → ∃ L, callN T F (n + 2) j [.loc l, .d (.int i)] S = .ok (.d (.tuple (chI rs i))) (S ++ L)) := by
  have c := cls_at (F := F) (n := n) hc
  have hlen : (recsD rs).length = rs.length := recsD_len rs
  have ln : bnop S .len [.loc k] = some (.d (.int rs.length)) := by
    have := len_seq (loc_seq G.ls)
    rw [List.length_map, hlen] at this
    exact this
  have f1 := fld_at (S := S) (f := "_records") c G.ob (lk_self _ _)
  refine ⟨fun hi => ?_, fun hi => ?_⟩
  · have e0 : callN T F (n + 2) j [.loc l, .d (.int i)] S = (exs (callN T F (n + 1)) F (chainGB jc e1) [some (.loc l), some (.d (.int i)), none] S).bind retR := by
      rw [callN_at hT, run1_eq rfl]
      rfl
    rw [e0]
    unfold chainGB
    generalize callN T F (n + 1) = Φ at *
    by_cases h1 : i < 1
    · simp [h1]
    · have h2 : (rs.length : Int) < i := by
        unfold isNo at hi
        by_cases h : 1 ≤ i ∧ i ≤ rs.length
        · simp [h.1, h.2] at hi
        · omega
      simp [-bn_lenO, -lk_eqS, h1, f1, ln, h2]
  · have hi2 := hi
    unfold isNo at hi2
    simp only [Bool.and_eq_true, decide_eq_true_eq] at hi2
    obtain ⟨m, rfl⟩ : ∃ m : Nat, i = m := ⟨i.toNat, by omega⟩
    have h1 : ¬ (m : Int) < 1 := by omega
    have h2 : ¬ (rs.length : Int) < (m : Int) := by omega
    have ec : chI rs (m : Int) = chT rs m := by unfold chI; rw [if_pos hi]; rfl
    rw [ec]
    refine ⟨[.lst (chT rs m)], wp_to (wp_fn hT rfl ?_)⟩
    show Wp (exs _ _ (chainGB jc e1) [some (.loc l), some (.d (.int m)), none] S) _
    unfold chainGB
    generalize callN T F (n + 1) = Φ at *
    have lp := chainG_loop (F := F) (S := S) c G hw hl m F [] (by omega) (by omega) (by simp; omega)
    have wl : ex Φ F (.while_ (.cmp .gt (.var 1) (.lit (.int 0))) [
    .expr (.mt .append (.var 2) [(.var 1)]),
    .asg (.slot 1) (.idx (.idx (.fld jc (.var 0) "_records") (.bin .sub (.var 1) (.lit (.int 1)))) (.lit (.int 1)))]) [some (.loc l), some (.d (.int m)), some (.loc S.length)] (S ++ [.lst []]) = _ := lp
    have mk0 : mkOb [] = Ob.lst [] := rfl
    rw [List.nil_append] at wl
    have lk1 : lk (S ++ [.lst (chT rs m).reverse]) S.length = some (.lst (chT rs m).reverse) := lk_lst (by simp)
    have rv := mt_reverse (S := S ++ [Ob.lst (chT rs m).reverse]) (l := S.length) (ds := (chT rs m).reverse) (by simp)
    have es : (S ++ [Ob.lst (chT rs m).reverse]).set S.length (Ob.lst (chT rs m).reverse.reverse) = S ++ [Ob.lst (chT rs m)] := by simp
    rw [es] at rv
    have s1 := tup_seq (loc_seq (S := S ++ [.lst (chT rs m)]) (l := S.length) (ts := chT rs m) (by simp))
    rw [mkTup_map] at s1
    generalize chT rs m = ch at *
    refine wp_seq ?_
    simp [-exs_cons, h1, f1, ln, h2, -bn_lenO]
    (refine wp_seq ?_; simp [-exs_cons, mk0])
    refine wp_seq ?_
    rw [wl]
    simp only [wp_ok, seqQ_next]
    refine wp_seq ?_
    simp [-exs_cons, -lk_eqS, lk1, rv]
    (refine wp_seq ?_; simp [-exs_cons, s1])
end
end PW

set_option maxHeartbeats 4000000
namespace PW
open PySem PySem.Spec PyProof.Rows L2
/-! PW32: grants: what a law asks of them; a deed -/
def fl (c : Nat) : PyData := .list (([[1], [2], [3], [4], [5], [6], [7], [8], [9], [10], [11], [12], [13]] : List (List Nat)).map fun d => .bool (decide (c ∈ d)))
theorem due8 : PyData.list (dueL.map fun o : Str => .bool (decide (o = "NoGrant"))) = fl 8 := by
  have h : dueL.map (fun o : Str => decide (o = "NoGrant")) = ([[1], [2], [3], [4], [5], [6], [7], [8], [9], [10], [11], [12], [13]] : List (List Nat)).map fun d => decide (8 ∈ d) := by decide +kernel
  have e : (dueL.map fun o : Str => PyData.bool (decide (o = "NoGrant"))) = (dueL.map (fun o : Str => decide (o = "NoGrant"))).map .bool := by rw [List.map_map]; rfl
  rw [e, h, List.map_map]
  rfl
theorem due9 : PyData.list (dueL.map fun o : Str => .bool (decide (o = "NoPasses"))) = fl 9 := by
  have h : dueL.map (fun o : Str => decide (o = "NoPasses")) = ([[1], [2], [3], [4], [5], [6], [7], [8], [9], [10], [11], [12], [13]] : List (List Nat)).map fun d => decide (9 ∈ d) := by decide +kernel
  have e : (dueL.map fun o : Str => PyData.bool (decide (o = "NoPasses"))) = (dueL.map (fun o : Str => decide (o = "NoPasses"))).map .bool := by rw [List.map_map]; rfl
  rw [e, h, List.map_map]
  rfl
theorem fl_low (c : Nat) : lowOk (fl c) = true := (lw_list (k := 0) fun y hy => by
  obtain ⟨d, _, rfl⟩ := List.mem_map.mp hy
  exact lw_bool _ _).low (by decide)
theorem fl_ne (c : Nat) (S : Store) : cmpop S .ne (.d (fl c)) (.d (fl c)) = some false := by rw [cmp_neL (fl_low c) (fl_low c), eqv_self (fl_low c)]; rfl
theorem none_ne (S : Store) : cmpop S .ne (.d .none) (.d .none) = some false := rfl
theorem back_cut0 {al : Bool} {S L : Store} {x : PyData} (h : S.all (Ob.under S.length) = true) : back al S.length (.d x) (S ++ L) = .ok (.d x) S := by
  show (if ((S ++ L).take S.length).all (Ob.under S.length) then Res.ok (PV.d x) ((S ++ L).take S.length) else .ok (.d x) (S ++ L)) = _
  rw [List.take_left', h]
  · rfl
  · rfl
def lpassB (jc jp : Nat) : List CS := [
  .tryI [
    .ret (.mcall false jc jp "pass_on" (.var 0) [(.var 1), (.var 2), (.var 3)] [])] [0, 1, 2, 3, 4, 5, 6, 7, 8, 9, 10, 11, 12, 13] 4 [[1], [2], [3], [4], [5], [6], [7], [8], [9], [10], [11], [12], [13]]]
def lrevB (jc jr : Nat) : List CS := [
  .tryI [
    .expr (.mcall false jc jr "revoke" (.var 0) [(.var 1)] [])] [0, 1, 2, 3, 4, 5, 6, 7, 8, 9, 10, 11, 12, 13] 2 [[1], [2], [3], [4], [5], [6], [7], [8], [9], [10], [11], [12], [13]],
  .ret (.lit .none)]
def ltoldB (jc jh : Nat) : List CS := [
  .tryI [
    .ret (.mcall false jc jh "chain" (.var 0) [(.var 1)] [])] [0, 1, 2, 3, 4, 5, 6, 7, 8, 9, 10, 11, 12, 13] 2 [[1], [2], [3], [4], [5], [6], [7], [8], [9], [10], [11], [12], [13]]]
def ltupB : List CS := [
  .ret (.and (.isi (.var 0) .tuple) (.cmp .eq (.var 0) (.var 1)))]
section
variable {T : List FD} {F n j jc jm jp jr jh js jn C l k : Nat} {S : Store} {rs : List Rc}
theorem cat8 (S : Store) (env : PW.Env) : catchI (.err 8 [] S) [0, 1, 2, 3, 4, 5, 6, 7, 8, 9, 10, 11, 12, 13] [[1], [2], [3], [4], [5], [6], [7], [8], [9], [10], [11], [12], [13]] env = .ok (env, .ret (.d (fl 8))) S := rfl
theorem cat9 (S : Store) (env : PW.Env) : catchI (.err 9 [] S) [0, 1, 2, 3, 4, 5, 6, 7, 8, 9, 10, 11, 12, 13] [[1], [2], [3], [4], [5], [6], [7], [8], [9], [10], [11], [12], [13]] env = .ok (env, .ret (.d (fl 9))) S := rfl
theorem ltup_ok (hT : T[j]? = some ⟨2, 2, ltupB⟩) {xs : List PyData} (h : lowOk (.tuple xs) = true) : callN T F (n + 1) j [.d (.tuple xs), .d (.tuple xs)] S = .ok (.d (.bool true)) S := by
  refine wp_to (wp_fn hT rfl ?_)
  show Wp (exs _ _ ltupB [some (.d (.tuple xs)), some (.d (.tuple xs))] S) _
  unfold ltupB
  have e1 : cmpop S .eq (.d (.tuple xs)) (.d (.tuple xs)) = some true := by rw [cmp_eqL h h, eqv_self h]
  (refine wp_seq ?_; simp [-exs_cons, e1])
theorem lpass_ok (hT : T[j]? = some ⟨5, 4, lpassB jc jp⟩) (hp : T[jp]? = some ⟨5, 4, passGB jc jm jn 9⟩) (hm : T[jm]? = some ⟨6, 5, makeGB jc⟩) (hn : T[jn]? = some ⟨2, 2, needGB jc js 8⟩) (hs : T[js]? = some ⟨3, 2, standsGB jc⟩) (hc : T[jc]? = some ⟨0, 0, [.ret (.lit (.int (C : Int)))]⟩)
    (G : GrAt C S l k rs) (hw : Wf rs) (hF : rs.length < F) (hl : rs.length < 1000) (i : Int) (w : Str) (cd : PyData) :
    (stands rs i = false → callN T F (n + 5) j [.loc l, .d (.int i), .d (.str w), .d cd] S = .ok (.d (fl 8)) S) ∧
    (∀ (m : Nat) (h : m < rs.length), i = (m : Int) + 1 → stands rs i = true → callN T F (n + 5) j [.loc l, .d (.int i), .d (.str w), .d cd] S =
      if (rs[m]).pas = 0 then .ok (.d (fl 9)) S else .ok (.d (.int (rs.length + 1))) (S.set k (.lst (recsD (rs ++ [⟨m + 1, w, cd, (rs[m]).pas - 1, false⟩]))))) := by
  have c := cls_at (F := F) (n := n + 3) hc
  have P := passG_ok (n := n) hp hm hn hs hc G hw hF hl i w cd
  have f1 := inst_at (S := S) (m := "pass_on") c G.ob (lk_ne (.loc k) (nk "pass_on" "_records" (by decide +kernel)))
  have e0 : callN T F (n + 5) j [.loc l, .d (.int i), .d (.str w), .d cd] S = (exs (callN T F (n + 4)) F (lpassB jc jp) [some (.loc l), some (.d (.int i)), some (.d (.str w)), some (.d cd), none] S).bind retR := by
    rw [callN_at hT, run1_eq rfl]
    rfl
  rw [e0]
  unfold lpassB
  generalize callN T F (n + 4) = Φ at *
  refine ⟨fun hh => ?_, fun m h hi hh => ?_⟩
  · have p := P.1 hh
    simp [f1, p, cat8]
  · have p := P.2 m h hi hh
    by_cases hq : (rs[m]).pas = 0
    · rw [if_pos hq] at p ⊢
      simp [f1, p, cat9]
    · rw [if_neg hq] at p ⊢
      have hb := back_len (al := false) (n := S.length) (S := S.set k (.lst (recsD (rs ++ [⟨m + 1, w, cd, (rs[m]).pas - 1, false⟩])))) (x := .int (rs.length + 1)) (by simp)
      simp [-back_bool, f1, p, hb, catchI]
theorem lrev_ok (hT : T[j]? = some ⟨3, 2, lrevB jc jr⟩) (hr : T[jr]? = some ⟨2, 2, revokeGB jc jn⟩) (hn : T[jn]? = some ⟨2, 2, needGB jc js 8⟩) (hs : T[js]? = some ⟨3, 2, standsGB jc⟩) (hc : T[jc]? = some ⟨0, 0, [.ret (.lit (.int (C : Int)))]⟩)
    (G : GrAt C S l k rs) (hw : Wf rs) (hF : rs.length < F) (i : Int) :
    (stands rs i = false → callN T F (n + 5) j [.loc l, .d (.int i)] S = .ok (.d (fl 8)) S) ∧
    (∀ (m : Nat) (h : m < rs.length), i = (m : Int) + 1 → stands rs i = true → callN T F (n + 5) j [.loc l, .d (.int i)] S = .ok (.d .none) (S.set k (.lst (recsD (revoke rs m))))) := by
  have c := cls_at (F := F) (n := n + 3) hc
  have P := revokeG_ok (n := n) hr hn hs hc G hw hF i
  have f1 := inst_at (S := S) (m := "revoke") c G.ob (lk_ne (.loc k) (nk "revoke" "_records" (by decide +kernel)))
  have e0 : callN T F (n + 5) j [.loc l, .d (.int i)] S = (exs (callN T F (n + 4)) F (lrevB jc jr) [some (.loc l), some (.d (.int i)), none] S).bind retR := by
    rw [callN_at hT, run1_eq rfl]
    rfl
  rw [e0]
  unfold lrevB
  generalize callN T F (n + 4) = Φ at *
  refine ⟨fun hh => ?_, fun m h hi hh => ?_⟩
  · have p := P.1 hh
    simp [f1, p, cat8]
  · have p := P.2 m h hi hh
    have hb := back_len (al := false) (n := S.length) (S := S.set k (.lst (recsD (revoke rs m)))) (x := .none) (by simp)
    simp [-back_bool, f1, p, hb, catchI]
theorem ltold_ok (hT : T[j]? = some ⟨3, 2, ltoldB jc jh⟩) (hh : T[jh]? = some ⟨3, 2, chainGB jc 8⟩) (hc : T[jc]? = some ⟨0, 0, [.ret (.lit (.int (C : Int)))]⟩)
    (G : GrAt C S l k rs) (hw : Wf rs) (hF : rs.length < F) (hl : rs.length ≤ 1000) (hS : S.all (Ob.under S.length) = true) (i : Int) :
    callN T F (n + 3) j [.loc l, .d (.int i)] S = .ok (.d (if isNo rs i = true then .tuple (chI rs i) else fl 8)) S := by
  have c := cls_at (F := F) (n := n + 1) hc
  have P := chainG_ok (n := n) hh hc G hw hF hl i
  have f1 := inst_at (S := S) (m := "chain") c G.ob (lk_ne (.loc k) (nk "chain" "_records" (by decide +kernel)))
  have e0 : callN T F (n + 3) j [.loc l, .d (.int i)] S = (exs (callN T F (n + 2)) F (ltoldB jc jh) [some (.loc l), some (.d (.int i)), none] S).bind retR := by
    rw [callN_at hT, run1_eq rfl]
    rfl
  rw [e0]
  unfold ltoldB
  generalize callN T F (n + 2) = Φ at *
  cases hi : isNo rs i with
  | false =>
    have p := P.1 hi
    simp [f1, p, cat8]
  | true =>
    obtain ⟨L, p⟩ := P.2 hi
    have hb := back_cut0 (al := false) (L := L) (x := .tuple (chI rs i)) hS
    simp [-back_bool, f1, p, hb, catchI]
end
end PW

set_option maxHeartbeats 4000000
namespace PW
open PySem PySem.Spec PyProof.Rows L2
/-! PW33: a deed of grants and what is due after it -/
def deedB (jc jg js jp jr jd jn : Nat) : List CS := [
  .ite (.cmp .lt (.var 2) (.lit (.int 2))) [
    .ite (.not (.call false jn [(.mcall false jc jg "give" (.var 0) [(.var 4), (.var 5), (.var 6)] []), (.bin .add (.bn .len [(.var 1)]) (.lit (.int 1)))])) [
      .ret (.lit .none)] [],
    .ret (.bin .add (.var 1) (.fr false .disp [(.tup [(.bin .add (.bn .len [(.var 1)]) (.lit (.int 1))), (.lit (.int 0)), (.var 4), (.var 5), (.var 6), (.lit (.bool false))])]))] [],
  .asg (.slot 7) (.lit (.str "")),
  .ite (.not (.call false js [(.var 1), (.var 3)])) [
    .asg (.slot 7) (.lit (.str "NoGrant"))] [
    .ite (.and (.cmp .lt (.var 2) (.lit (.int 5))) (.cmp .eq (.idx (.idx (.var 1) (.bin .sub (.var 3) (.lit (.int 1)))) (.lit (.int 4))) (.lit (.int 0)))) [
      .asg (.slot 7) (.lit (.str "NoPasses"))] []],
  .ite (.cmp .ge (.var 2) (.lit (.int 5))) [
    .ite (.cmp .ne (.call false jr [(.var 0), (.var 3)]) (.call false jd [(.var 7)])) [
      .ret (.lit .none)] [],
    .ite (.cmp .eq (.var 7) (.lit (.str ""))) [
      .ret (.comp false [8] (.slot 8) .of [(.var 1)] [] (.bin .add (.slice (.var 8) [] [(.lit (.int 5))]) (.tup [(.or (.idx (.var 8) (.lit (.int 5))) (.cmp .eq (.idx (.var 8) (.lit (.int 0))) (.var 3)))])))] [],
    .ret (.var 1)] [],
  .asg (.slot 9) (.call false jp [(.var 0), (.var 3), (.var 4), (.var 5)]),
  .ite (.cmp .ne (.var 7) (.lit (.str ""))) [
    .ite (.cmp .ne (.var 9) (.call false jd [(.var 7)])) [
      .ret (.lit .none)] [],
    .ret (.var 1)] [],
  .ite (.not (.call false jn [(.var 9), (.bin .add (.bn .len [(.var 1)]) (.lit (.int 1)))])) [
    .ret (.lit .none)] [],
  .ret (.bin .add (.var 1) (.fr false .disp [(.tup [(.bin .add (.bn .len [(.var 1)]) (.lit (.int 1))), (.var 3), (.var 4), (.var 5), (.bin .sub (.idx (.idx (.var 1) (.bin .sub (.var 3) (.lit (.int 1)))) (.lit (.int 4))) (.lit (.int 1))), (.lit (.bool false))])]))]
/-- the records after a deed -/
def deed (rs : List Rc) (kd i : Int) (w : Str) (cd : PyData) (q : Int) : List Rc :=
  if kd < 2 then rs ++ [⟨0, w, cd, q, false⟩]
  else if stands rs i = false then rs
  else if 5 ≤ kd then revoke rs (i.toNat - 1)
  else match rs[i.toNat - 1]? with
    | some r => if r.pas = 0 then rs else rs ++ [⟨i.toNat, w, cd, r.pas - 1, false⟩]
    | none => rs
/-- what a deed asks -/
structure Dk (Φ : Fns) (jc jg js jp jr jd jn C : Nat) : Prop where
  c : clsNo Φ jc = some C
  give : ∀ {S : Store} {l k : Nat} {rs : List Rc}, GrAt C S l k rs → rs.length < 100 → ∀ (w : Str) (cd : PyData) (q : Int), Φ jg [.loc l, .d (.str w), .d cd, .d (.int q)] S = .ok (.d (.int (rs.length + 1))) (S.set k (.lst (recsD (rs ++ [⟨0, w, cd, q, false⟩]))))
  st : ∀ {S : Store} {rs : List Rc}, Wf rs → rs.length < 100 → ∀ i : Int, Φ js [.d (.list (recsD rs)), .d (.int i)] S = .ok (.d (.bool (stands rs i))) S
  pass : ∀ {S : Store} {l k : Nat} {rs : List Rc}, GrAt C S l k rs → Wf rs → rs.length < 100 → ∀ (i : Int) (w : Str) (cd : PyData),
    (stands rs i = false → Φ jp [.loc l, .d (.int i), .d (.str w), .d cd] S = .ok (.d (fl 8)) S) ∧
    (∀ (m : Nat) (h : m < rs.length), i = (m : Int) + 1 → stands rs i = true → Φ jp [.loc l, .d (.int i), .d (.str w), .d cd] S =
      if (rs[m]).pas = 0 then .ok (.d (fl 9)) S else .ok (.d (.int (rs.length + 1))) (S.set k (.lst (recsD (rs ++ [⟨m + 1, w, cd, (rs[m]).pas - 1, false⟩])))))
  rev : ∀ {S : Store} {l k : Nat} {rs : List Rc}, GrAt C S l k rs → Wf rs → rs.length < 100 → ∀ (i : Int),
    (stands rs i = false → Φ jr [.loc l, .d (.int i)] S = .ok (.d (fl 8)) S) ∧
    (∀ (m : Nat) (h : m < rs.length), i = (m : Int) + 1 → stands rs i = true → Φ jr [.loc l, .d (.int i)] S = .ok (.d .none) (S.set k (.lst (recsD (revoke rs m)))))
  d8 : ∀ S : Store, Φ jd [.d (.str "NoGrant")] S = .ok (.d (fl 8)) S
  d9 : ∀ S : Store, Φ jd [.d (.str "NoPasses")] S = .ok (.d (fl 9)) S
  d0 : ∀ S : Store, Φ jd [.d (.str "")] S = .ok (.d .none) S
  cnt : ∀ (i : Int) (S : Store), Φ jn [.d (.int i), .d (.int i)] S = .ok (.d (.bool true)) S
theorem stands_no {rs : List Rc} {i : Int} (h : stands rs i = true) : ∃ m : Nat, m < rs.length ∧ i = (m : Int) + 1 := by
  unfold stands at h
  simp only [Bool.and_eq_true, decide_eq_true_eq] at h
  exact ⟨i.toNat - 1, by omega, by omega⟩
/-- a record by its data, revoked where its number is i -/
def revD (i : Int) : PyData → PyData
  | .tuple [.int a, b, c, d, e, .bool r] => .tuple [.int a, b, c, d, e, .bool (r || decide (a = i))]
  | x => x
theorem revD_all {rs : List Rc} {m : Nat} : (recsD rs).map (revD ((m : Int) + 1)) = recsD (revoke rs m) := by
  apply List.ext_getElem?
  intro i
  rw [List.getElem?_map]
  by_cases hi : i < rs.length
  · rw [recsD_at hi, recsD_at (by rw [revoke_len]; exact hi)]
    have e2 : (revoke rs m)[i]'(by rw [revoke_len]; exact hi) = if i = m then { rs[i] with rev := true } else rs[i] := by simp [revoke]
    rw [e2]
    by_cases e : i = m
    · subst e
      rw [if_pos rfl]
      unfold Rc.d
      simp [revD]
    · rw [if_neg e]
      have e3 : ¬ (i : Int) = (m : Int) := fun z => e (by omega)
      unfold Rc.d
      simp [revD, e3]
  · rw [List.getElem?_eq_none (by rw [recsD_len]; omega), List.getElem?_eq_none (by rw [recsD_len, revoke_len]; omega)]
    rfl
section
variable {T : List FD} {F n j jc jg js jp jr jd jn C l k : Nat} {S : Store} {rs : List Rc}
theorem deed_ok {Φ : Fns} (K : Dk Φ jc jg js jp jr jd jn C) (G : GrAt C S l k rs) (hw : Wf rs) (hl : rs.length < 100) (kd i : Int) (w : Str) (cd : PyData) (q : Int) :
    Wp (exs Φ F (deedB jc jg js jp jr jd jn) [some (.loc l), some (.d (.list (recsD rs))), some (.d (.int kd)), some (.d (.int i)), some (.d (.str w)), some (.d cd), some (.d (.int q)), none, none, none] S) (retQ fun v S2 => v = .d (.list (recsD (deed rs kd i w cd q))) ∧ S2 = S.set k (.lst (recsD (deed rs kd i w cd q)))) := by
  have hlen : (recsD rs).length = rs.length := recsD_len rs
  have m6 : ∀ a b c d e f : PyData, mkTup [.d a, .d b, .d c, .d d, .d e, .d f] = .d (.tuple [a, b, c, d, e, f]) := fun _ _ _ _ _ _ => rfl
  have m1 : ∀ a : PyData, mkLst [.d a] = .d (.list [a]) := fun _ => rfl
  have z6 := sizeL (show 6 ≤ 1000000 by decide)
  have zl := sizeL (show rs.length + 1 ≤ 1000000 by omega)
  have f1 := inst_at (S := S) (m := "give") K.c G.ob (lk_ne (.loc k) (nk "give" "_records" (by decide +kernel)))
  have hb : ∀ (rs' : List Rc) (x : PyData), back false S.length (.d x) (S.set k (.lst (recsD rs'))) = .ok (.d x) (S.set k (.lst (recsD rs'))) := fun rs' x => back_len (by simp)
  have hb0 : ∀ (x : PyData), back false S.length (.d x) S = .ok (.d x) S := fun x => back_len rfl
  have hb1 : ∀ (rs' : List Rc) (x : PyData), back false (S.set k (.lst (recsD rs'))).length (.d x) (S.set k (.lst (recsD rs'))) = .ok (.d x) (S.set k (.lst (recsD rs'))) := fun rs' x => back_len rfl
  unfold deedB
  refine wp_seq ?_
  by_cases h2 : kd < 2
  · have e0 : deed rs kd i w cd q = rs ++ [⟨0, w, cd, q, false⟩] := by unfold deed; rw [if_pos h2]
    rw [e0]
    have g := K.give G hl w cd q
    have cn := K.cnt ((rs.length : Int) + 1) (S.set k (.lst (recsD (rs ++ [⟨0, w, cd, q, false⟩]))))
    have hb := hb (rs ++ [⟨0, w, cd, q, false⟩])
    have hb1 := hb1 (rs ++ [⟨0, w, cd, q, false⟩])
    have es : recsD (rs ++ [⟨0, w, cd, q, false⟩]) = recsD rs ++ [.tuple [.int ((rs.length : Int) + 1), .int 0, .str w, cd, .int q, .bool false]] := by rw [recsD_snoc]; rfl
    generalize S.set k (.lst (recsD (rs ++ [⟨0, w, cd, q, false⟩]))) = S2 at *
    simp [-exs_cons, h2]
    (refine wp_seq ?_; simp [-exs_cons, f1, g, hb, hb1, hlen, cn, -back_bool])
    (refine wp_seq ?_; simp [-exs_cons, hlen, m6, z6, zl, m1, es])
  simp [-exs_cons, h2]
  (refine wp_seq ?_; simp [-exs_cons])
  cases hs : stands rs i with
  | false =>
    have e0 : deed rs kd i w cd q = rs := by unfold deed; rw [if_neg h2, if_pos hs]
    rw [e0, G.same]
    have st := K.st (S := S) hw hl i
    rw [hs] at st
    have p := (K.pass G hw hl i w cd).1 hs
    have r := (K.rev G hw hl i).1 hs
    have d8 := K.d8 S
    have ne := fl_ne 8 S
    generalize fl 8 = f8 at *
    have nn := nk "NoGrant" "" (by decide +kernel)
    refine wp_seq ?_
    simp [-exs_cons, st, hb0, -back_bool]
    (refine wp_seq ?_; simp [-exs_cons])
    refine wp_seq ?_
    by_cases h5 : 5 ≤ kd
    · simp [-exs_cons, h5]
      (refine wp_seq ?_; simp [-exs_cons, r, d8, ne, hb0, -back_bool])
      (refine wp_seq ?_; simp [-exs_cons, nn])
      (refine wp_seq ?_; simp [-exs_cons])
    · simp [-exs_cons, h5]
      (refine wp_seq ?_; simp [-exs_cons, p, hb0, -back_bool])
      refine wp_seq ?_
      simp [-exs_cons, nn]
      (refine wp_seq ?_; simp [-exs_cons, d8, ne, hb0, -back_bool])
      (refine wp_seq ?_; simp [-exs_cons])
  | true =>
    obtain ⟨m, hm, rfl⟩ := stands_no hs
    have st := K.st (S := S) hw hl ((m : Int) + 1)
    rw [hs] at st
    have p := (K.pass G hw hl ((m : Int) + 1) w cd).2 m hm rfl hs
    have r := (K.rev G hw hl ((m : Int) + 1)).2 m hm rfl hs
    have et : ((m : Int) + 1).toNat = m + 1 := by omega
    have hix := idx_seq (S := S) (v := .d (.list (recsD rs))) (i := m) (b := false) (xs := (recsD rs).map .d) rfl (x := .d ((rs[m]).d m)) (by rw [List.getElem?_map, recsD_at hm]; rfl)
    have i4 : idxop S (.d ((rs[m]).d m)) (.d (.int 4)) = some (.d (.int (rs[m]).pas)) := idx_seq (i := 4) (b := true) rfl rfl
    have es : ((m : Int) + 1) - 1 = m := by omega
    by_cases h5 : 5 ≤ kd
    · have e0 : deed rs kd ((m : Int) + 1) w cd q = revoke rs m := by
        unfold deed
        rw [if_neg h2, if_neg (by rw [hs]; decide), if_pos h5, et]
        rfl
      rw [e0]
      have h5' : ¬ kd < 5 := by omega
      have d0 := K.d0 (S.set k (.lst (recsD (revoke rs m))))
      have hb := hb (revoke rs m)
      have hb1 := hb1 (revoke rs m)
      have nn := none_ne (S.set k (.lst (recsD (revoke rs m))))
      have cm := revD_all (rs := rs) (m := m)
      generalize S.set k (.lst (recsD (revoke rs m))) = S2 at *
      refine wp_seq ?_
      simp [-exs_cons, st, hb0, h5', -back_bool]
      refine wp_seq ?_
      simp [-exs_cons, h5']
      refine wp_seq ?_
      simp [-exs_cons, h5]
      (refine wp_seq ?_; simp [-exs_cons, r, d0, nn, hb, hb1, -back_bool])
      (refine wp_seq ?_; simp [-exs_cons])
      refine wp_seq ?_
      simp [-exs_cons]
      refine wp_call (P := fun ys S' => ys = ((recsD (revoke rs m)).map .d) ∧ S' = S2) (wp_noErr (comp_map (Q := fun ys S' => ys = ((recsD (revoke rs m)).map .d) ∧ S' = S2) (recsD rs) (fun x => x) (revD ((m : Int) + 1)) rfl rfl (fun x hx => ?_) (by rw [cm]; exact ⟨rfl, rfl⟩))) ?_
      · obtain ⟨i0, r0, _, rfl⟩ := recs_mem hx
        have sl : sliceV S2 (.d (r0.d i0)) none (some 5) = some (.d (.tuple [.int (i0 + 1), .int r0.par, .str r0.rcv, r0.cnd, .int r0.pas])) := rfl
        have i5 : idxop S2 (.d (r0.d i0)) (.d (.int 5)) = some (.d (.bool r0.rev)) := idx_seq (i := 5) (b := true) rfl rfl
        have i00 : idxop S2 (.d (r0.d i0)) (.d (.int 0)) = some (.d (.int ((i0 : Int) + 1))) := idx_seq (i := 0) (b := true) rfl rfl
        have rd : revD ((m : Int) + 1) (r0.d i0) = .tuple [.int (i0 + 1), .int r0.par, .str r0.rcv, r0.cnd, .int r0.pas, .bool (r0.rev || decide ((i0 : Int) + 1 = (m : Int) + 1))] := rfl
        have z := sizeL (show 5 + 1 ≤ 1000000 by decide)
        rw [rd]
        cases hr : r0.rev with
        | true =>
          rw [hr] at i5
          simp [killE, sl, i5, i00, z]
        | false =>
          rw [hr] at i5
          simp [killE, sl, i5, i00, z]
      rintro ys S3 ⟨h1, h3⟩
      subst h1 h3
      have z := sizeL (show (recsD (revoke rs m)).length ≤ 1000000 by rw [recsD_len, revoke_len]; omega)
      simp [-exs_cons, z]
    · have h5' : kd < 5 := by omega
      have e0 : deed rs kd ((m : Int) + 1) w cd q = if (rs[m]).pas = 0 then rs else rs ++ [⟨m + 1, w, cd, (rs[m]).pas - 1, false⟩] := by
        unfold deed
        rw [if_neg h2, if_neg (by rw [hs]; decide), if_neg h5, et]
        show (match rs[m]? with
          | some r => if r.pas = 0 then rs else rs ++ [(⟨m + 1, w, cd, r.pas - 1, false⟩ : Rc)]
          | none => rs) = _
        rw [List.getElem?_eq_getElem hm]
      rw [e0]
      generalize hrm : (rs[m]).pas = pq at *
      by_cases hq : pq = 0
      · subst hq
        rw [if_pos rfl] at p
        rw [if_pos rfl, G.same]
        have d9 := K.d9 S
        have ne := fl_ne 9 S
        generalize fl 9 = f9 at *
        have nn := nk "NoPasses" "" (by decide +kernel)
        refine wp_seq ?_
        simp [-exs_cons, st, hb0, -back_bool]
        refine wp_seq ?_
        simp [-exs_cons, h5', es, hix, i4]
        (refine wp_seq ?_; simp [-exs_cons])
        refine wp_seq ?_
        simp [-exs_cons, h5]
        (refine wp_seq ?_; simp [-exs_cons, p, hb0, -back_bool])
        refine wp_seq ?_
        simp [-exs_cons, nn]
        (refine wp_seq ?_; simp [-exs_cons, d9, ne, hb0, -back_bool])
        (refine wp_seq ?_; simp [-exs_cons])
      · rw [if_neg hq] at p
        rw [if_neg hq]
        have cn := K.cnt ((rs.length : Int) + 1) (S.set k (.lst (recsD (rs ++ [⟨m + 1, w, cd, pq - 1, false⟩]))))
        have hb := hb (rs ++ [⟨m + 1, w, cd, pq - 1, false⟩])
        have hb1 := hb1 (rs ++ [⟨m + 1, w, cd, pq - 1, false⟩])
        have er : recsD (rs ++ [⟨m + 1, w, cd, pq - 1, false⟩]) = recsD rs ++ [.tuple [.int ((rs.length : Int) + 1), .int ((m : Int) + 1), .str w, cd, .int (pq - 1), .bool false]] := by rw [recsD_snoc]; rfl
        have hix2 := idx_seq (S := S.set k (.lst (recsD (rs ++ [⟨m + 1, w, cd, pq - 1, false⟩])))) (v := .d (.list (recsD rs))) (i := m) (b := false) (xs := (recsD rs).map .d) rfl (x := .d ((rs[m]).d m)) (by rw [List.getElem?_map, recsD_at hm]; rfl)
        have i42 : idxop (S.set k (.lst (recsD (rs ++ [⟨m + 1, w, cd, pq - 1, false⟩])))) (.d ((rs[m]).d m)) (.d (.int 4)) = some (.d (.int (rs[m]).pas)) := idx_seq (i := 4) (b := true) rfl rfl
        rw [hrm] at i42
        generalize S.set k (.lst (recsD (rs ++ [⟨m + 1, w, cd, pq - 1, false⟩]))) = S2 at *
        refine wp_seq ?_
        simp [-exs_cons, st, hb0, -back_bool]
        refine wp_seq ?_
        simp [-exs_cons, h5', es, hix, i4, hq]
        refine wp_seq ?_
        simp [-exs_cons, h5]
        (refine wp_seq ?_; simp [-exs_cons, p, hb, -back_bool])
        (refine wp_seq ?_; simp [-exs_cons])
        (refine wp_seq ?_; simp [-exs_cons, hlen, cn, hb1, -back_bool])
        (refine wp_seq ?_; simp [-exs_cons, hlen, m6, z6, zl, m1, er, es, hix2, i42])
end
end PW

set_option maxHeartbeats 4000000
namespace PW
open PySem PySem.Spec PyProof.Rows L2
/-! PW34: grants: the chains of all numbers -/
def archB (jt jd ju jh : Nat) : List CS := [
  .for_ (.slot 3) .of [(.bin .add (.lrange false (.neg (.lit (.int 1))) (.bin .add (.bn .len [(.var 1)]) (.lit (.int 3)))) (.var 2))] [
    .asg (.slot 4) (.call false jt [(.var 0), (.var 3)]),
    .ite (.or (.cmp .lt (.var 3) (.lit (.int 1))) (.cmp .gt (.var 3) (.bn .len [(.var 1)]))) [
      .ite (.cmp .ne (.var 4) (.call false jd [(.lit (.str "NoGrant"))])) [
        .ret (.lit (.bool false))] []] [
      .ite (.not (.call false ju [(.var 4), (.call false jh [(.var 1), (.var 3)])])) [
        .ret (.lit (.bool false))] [
        .ite (.cmp .gt (.bn .len [(.comp false [5] (.slot 5) .of [(.var 4)] [(.or (.isi (.var 5) .bool) (.not (.isi (.var 5) .int)))] (.var 5))]) (.lit (.int 0))) [
          .ret (.lit (.bool false))] []]]],
  .ret (.lit (.bool true))]
theorem chI_low (rs : List Rc) (i : Int) : lowOk (.tuple (chI rs i)) = true := (lw_tup (k := 0) fun y hy => by
  unfold chI at hy
  split at hy
  · unfold chT at hy
    obtain ⟨d, _, rfl⟩ := List.mem_map.mp hy
    exact lw_int _ _
  · cases hy).low (by decide)
theorem chI_int (rs : List Rc) (i : Int) : ∃ zs : List Int, chI rs i = zs.map .int := by
  unfold chI
  split
  · exact ⟨(chain rs i.toNat).map fun (j : Nat) => (j : Int), by unfold chT; simp⟩
  · exact ⟨[], rfl⟩
theorem chI_len {rs : List Rc} (hw : Wf rs) (i : Int) : (chI rs i).length ≤ rs.length := by
  unfold chI
  split
  · rename_i h
    unfold isNo at h
    simp only [Bool.and_eq_true, decide_eq_true_eq] at h
    unfold chT
    rw [List.length_map]
    have := chain_len hw i.toNat (by omega)
    omega
  · exact Nat.zero_le _
/-- no item passes -/
theorem comp_none {S : Store} {env : PW.Env} {sl : Nat} {cnd elt : PW.Env → Store → Res PV} {w : Walked} (hw : w.at_ = none) (zs : List Int) (hc : ∀ z, asBool (cnd (env.set sl (some (.d (.int z)))) S) = .ok (.d (.bool false)) S) {Q : List PV → Store → Prop} (hQ : Q [] S) : Wp (compLoop w (compStep env (.slot sl) (some cnd) elt) ((zs.map PyData.int).map .d) S) Q := by
  refine wp_compQ (fun xs acc S' => S' = S ∧ acc = [] ∧ ∃ zs : List Int, xs = (zs.map PyData.int).map .d) ⟨rfl, rfl, zs, rfl⟩ ?_ ?_
  · rintro x rr acc S' Q' ⟨rfl, rfl, zs, hx⟩ hN
    cases zs with
    | nil => cases hx
    | cons z zs =>
      cases hx
      rw [step_slot', hc z]
      simp only [rb_ok, stepC_b, Bool.false_eq_true, if_false, wp_ok]
      refine hN _ _ ?_ ⟨rfl, rfl, zs, rfl⟩
      unfold Walked.same
      rw [hw]
      trivial
  · rintro acc S' ⟨rfl, rfl, zs, hx⟩
    exact hQ
section
variable {T : List FD} {F n j jt jd ju jh C l k : Nat} {S : Store} {rs : List Rc}
theorem arch_ok {Φ : Fns} (told : ∀ i : Int, Φ jt [.loc l, .d (.int i)] S = .ok (.d (if isNo rs i = true then .tuple (chI rs i) else fl 8)) S)
    (d8 : Φ jd [.d (.str "NoGrant")] S = .ok (.d (fl 8)) S)
    (tp : ∀ xs : List PyData, lowOk (.tuple xs) = true → Φ ju [.d (.tuple xs), .d (.tuple xs)] S = .ok (.d (.bool true)) S)
    (ch : ∀ i : Int, Φ jh [.d (.list (recsD rs)), .d (.int i)] S = .ok (.d (.tuple (chI rs i))) S)
    (hw : Wf rs) (hl : rs.length < 100) (os : List Int) (ho : os.length ≤ 1000) :
    Wp (exs Φ F (archB jt jd ju jh) [some (.loc l), some (.d (.list (recsD rs))), some (.d (.list (os.map .int))), none, none, none] S) (retQ fun v S2 => v = .d (.bool true) ∧ S2 = S) := by
  have hlen : (recsD rs).length = rs.length := recsD_len rs
  have hb0 : ∀ (x : PyData), back false S.length (.d x) S = .ok (.d x) S := fun x => back_len rfl
  unfold archB
  have e3 : (rs.length : Int) + 3 - (-1) = ((rs.length + 4 : Nat) : Int) := by omega
  have sm : (small62 (-1) && small62 ((rs.length : Int) + 3) && decide (((rs.length : Int) + 3 - (-1)).toNat ≤ 1000000)) = true := by
    have h1 : small62 (-1) = true := by decide
    have h2 : small62 ((rs.length : Int) + 3) = true := small_of (by omega) (by omega)
    rw [h1, h2, e3, Int.toNat_natCast]
    simp
    omega
  have lr : lrangeR false (.d (.int (-1))) (.d (.int ((rs.length : Int) + 3))) S = .ok (.d (.list ((List.range (rs.length + 4)).map fun (i : Nat) => .int (-1 + i)))) S := by
    rw [lrangeR_i, if_pos sm, e3, Int.toNat_natCast]
    unfold intsP
    rw [fin_false, show (List.range (rs.length + 4)).map (fun (i : Nat) => PV.d (.int ((-1 : Int) + i))) = ((List.range (rs.length + 4)).map fun (i : Nat) => PyData.int ((-1 : Int) + i)).map .d by rw [List.map_map]; rfl, mkLst_map]
  have z := sizeL (show (rs.length + 4) + os.length ≤ 1000000 by omega)
  refine wp_seq ?_
  simp [-exs_cons, hlen, lr, z]
  refine wp_forQ (fun xs env S' => S' = S ∧ ∃ (zs : List Int) (x3 x4 x5 : Option PV), xs = (zs.map PyData.int).map .d ∧ env = [some (.loc l), some (.d (.list (recsD rs))), some (.d (.list (os.map .int))), x3, x4, x5]) ⟨rfl, (List.range (rs.length + 4)).map (fun (i : Nat) => (-1 : Int) + i) ++ os, none, none, none, by simp, rfl⟩ ?_ ?_
  · rintro x rr env S' Q' ⟨rfl, zs, x3, x4, x5, hx, rfl⟩ hN _ _ _
    cases zs with
    | nil => cases hx
    | cons i zs =>
      cases hx
      rw [bodyM_slot]
      have t := told i
      have hn : ∀ env, (∃ x3 x4 x5, env = [some (.loc l), some (.d (.list (recsD rs))), some (.d (.list (os.map .int))), x3, x4, x5]) → Q' (env, .next) S' := fun env ⟨x3, x4, x5, he⟩ => hN _ _ (sameN _ _) ⟨rfl, zs, x3, x4, x5, rfl, he⟩
      have hch := ch i
      have htp := tp _ (chI_low rs i)
      cases hi : isNo rs i with
      | false =>
        rw [hi, if_neg Bool.false_ne_true] at t
        have ne := fl_ne 8 S'
        generalize fl 8 = f8 at *
        (refine wp_seq ?_; simp [-exs_cons, t, hb0, -back_bool])
        have hcnd : asBool (ev Φ (.or (.cmp .lt (.var 3) (.lit (.int 1))) (.cmp .gt (.var 3) (.bn .len [(.var 1)]))) true [some (.loc l), some (.d (.list (recsD rs))), some (.d (.list (os.map .int))), some (.d (.int i)), some (.d f8), x5] S') = .ok (.d (.bool true)) S' := by
          by_cases h1 : i < 1
          · simp [-exs_cons, h1]
          · have h2 : (rs.length : Int) < i := by
              unfold isNo at hi
              by_cases h : 1 ≤ i ∧ i ≤ rs.length
              · simp [h.1, h.2] at hi
              · omega
            simp [-exs_cons, h1, hlen, h2]
        refine wp_seq ?_
        rw [ex_ite, hcnd, rb_ok, condR_b, if_pos rfl]
        refine wp_seq ?_
        simp [-exs_cons, d8, ne, hb0, -back_bool]
        exact hn _ ⟨_, _, _, rfl⟩
      | true =>
        rw [hi, if_pos rfl] at t
        have hcl := chI_len hw i
        obtain ⟨us, hus⟩ := chI_int rs i
        unfold isNo at hi
        simp only [Bool.and_eq_true, decide_eq_true_eq] at hi
        have h1 : ¬ i < 1 := by omega
        have h2 : ¬ (rs.length : Int) < i := by omega
        rw [hus] at t hch htp
        (refine wp_seq ?_; simp [-exs_cons, t, hb0, -back_bool])
        refine wp_seq ?_
        simp [-exs_cons, h1, hlen, h2]
        refine wp_seq ?_
        simp [-exs_cons, hch, htp, hb0, -back_bool]
        have hev : ev Φ (.cmp .gt (.bn .len [(.comp false [5] (.slot 5) .of [(.var 4)] [(.or (.isi (.var 5) .bool) (.not (.isi (.var 5) .int)))] (.var 5))]) (.lit (.int 0))) true [some (.loc l), some (.d (.list (recsD rs))), some (.d (.list (os.map .int))), some (.d (.int i)), some (.d (.tuple (us.map .int))), x5] S' = .ok (.d (.bool false)) S' := by
          refine wp_to ?_
          simp [-exs_cons]
          refine wp_call (P := fun ys S2 => ys = [] ∧ S2 = S') (wp_noErr ?_) ?_
          · rw [← List.map_map]
            refine comp_none rfl us (fun z => ?_) ⟨rfl, rfl⟩
            simp [killE]
          rintro ys S2 ⟨h1, h2⟩
          subst h1 h2
          have z := sizeL (show 0 ≤ 1000000 by decide)
          simp [-exs_cons, z]
        refine wp_seq ?_
        rw [ex_ite, hev]
        simp [-exs_cons]
        exact hn _ ⟨_, _, _, rfl⟩
  · rintro env S' ⟨rfl, zs, x3, x4, x5, hx, rfl⟩
    rw [seqQ_next]
    (refine wp_seq ?_; simp [-exs_cons])
end
end PW

set_option maxHeartbeats 4000000
namespace LawX
open PySem PySem.Spec PyProof.Rows L2 PW
/-! the text by places; the core text -/
def mthS (i k : Nat) : Stmt := match PySem.Challenge.pw_whomaywhat_k27_chains_and_revoking.main.body.getD i (.Pass ⟨0, 0, 0, 0⟩) with
  | .ClassDef _ _ _ body _ _ _ _ _ _ _ => body.getD k (.Pass ⟨0, 0, 0, 0⟩)
  | _ => .Pass ⟨0, 0, 0, 0⟩
def tops (i : Nat) : Stmt := PySem.Challenge.pw_whomaywhat_k27_chains_and_revoking.main.body.getD i (.Pass ⟨0, 0, 0, 0⟩)
-- slots of _wall: 0 k
def b__wall : List CS := [
  .while_ (.lit (.bool true)) [
    .pass]]
def d__wall : DefT := ⟨"_wall", tops 0, ["k"], ["k"], b__wall, [], none⟩
-- slots of Grants.__init__: 0 self, 1 records
def b_Grants___init__ : List CS := [
  .setf 33 (.var 0) "_records" (.fr true .list [(.var 1)])]
def d_Grants___init__ : DefT := ⟨"__init__", mthS 17 0, ["self", "records"], ["self", "records"], b_Grants___init__, [(.tuple [])], some "Grants.__init__"⟩
-- slots of Grants._make: 0 self, 1 parent, 2 receiver, 3 condition, 4 passes, 5 number
def b_Grants__make : List CS := [
  .asg (.slot 5) (.bin .add (.bn .len [(.fld 33 (.var 0) "_records")]) (.lit (.int 1))),
  .expr (.mt .append (.fld 33 (.var 0) "_records") [(.tup [(.var 5), (.var 1), (.var 2), (.var 3), (.var 4), (.lit (.bool false))])]),
  .ret (.var 5)]
def d_Grants__make : DefT := ⟨"_make", mthS 17 1, ["self", "parent", "receiver", "condition", "passes", "number"], ["self", "parent", "receiver", "condition", "passes"], b_Grants__make, [], some "Grants._make"⟩
-- slots of Grants._stands: 0 self, 1 number, 2 record
def b_Grants__stands : List CS := [
  .ite (.or (.cmp .lt (.var 1) (.lit (.int 1))) (.cmp .gt (.var 1) (.bn .len [(.fld 33 (.var 0) "_records")]))) [
    .ret (.lit (.bool false))] [],
  .while_ (.cmp .gt (.var 1) (.lit (.int 0))) [
    .asg (.slot 2) (.idx (.fld 33 (.var 0) "_records") (.bin .sub (.var 1) (.lit (.int 1)))),
    .ite (.idx (.var 2) (.lit (.int 5))) [
      .ret (.lit (.bool false))] [],
    .asg (.slot 1) (.idx (.var 2) (.lit (.int 1)))],
  .ret (.lit (.bool true))]
def d_Grants__stands : DefT := ⟨"_stands", mthS 17 2, ["self", "number", "record"], ["self", "number"], b_Grants__stands, [], some "Grants._stands"⟩
-- slots of Grants._need: 0 self, 1 number
def b_Grants__need : List CS := [
  .ite (.not (.mcall false 33 3 "_stands" (.var 0) [(.var 1)] [])) [
    .raise_ 8] []]
def d_Grants__need : DefT := ⟨"_need", mthS 17 3, ["self", "number"], ["self", "number"], b_Grants__need, [], some "Grants._need"⟩
-- slots of Grants.give: 0 self, 1 receiver, 2 condition, 3 passes
def b_Grants_give : List CS := [
  .ret (.mcall false 33 2 "_make" (.var 0) [(.lit (.int 0)), (.var 1), (.var 2), (.var 3)] [])]
def d_Grants_give : DefT := ⟨"give", mthS 17 4, ["self", "receiver", "condition", "passes"], ["self", "receiver", "condition", "passes"], b_Grants_give, [], some "Grants.give"⟩
-- slots of Grants.pass_on: 0 self, 1 number, 2 receiver, 3 condition, 4 passes
def b_Grants_pass_on : List CS := [
  .expr (.mcall false 33 4 "_need" (.var 0) [(.var 1)] []),
  .asg (.slot 4) (.idx (.idx (.fld 33 (.var 0) "_records") (.bin .sub (.var 1) (.lit (.int 1)))) (.lit (.int 4))),
  .ite (.cmp .eq (.var 4) (.lit (.int 0))) [
    .raise_ 9] [],
  .ret (.mcall false 33 2 "_make" (.var 0) [(.var 1), (.var 2), (.var 3), (.bin .sub (.var 4) (.lit (.int 1)))] [])]
def d_Grants_pass_on : DefT := ⟨"pass_on", mthS 17 5, ["self", "number", "receiver", "condition", "passes"], ["self", "number", "receiver", "condition"], b_Grants_pass_on, [], some "Grants.pass_on"⟩
-- slots of Grants.revoke: 0 self, 1 number
def b_Grants_revoke : List CS := [
  .expr (.mcall false 33 4 "_need" (.var 0) [(.var 1)] []),
  .set (.fld 33 (.var 0) "_records") (.bin .sub (.var 1) (.lit (.int 1))) (.bin .add (.slice (.idx (.fld 33 (.var 0) "_records") (.bin .sub (.var 1) (.lit (.int 1)))) [] [(.lit (.int 5))]) (.tup [(.lit (.bool true))]))]
def d_Grants_revoke : DefT := ⟨"revoke", mthS 17 6, ["self", "number"], ["self", "number"], b_Grants_revoke, [], some "Grants.revoke"⟩
-- slots of Grants.standing: 0 self, 1 record
def b_Grants_standing : List CS := [
  .ret (.bn .tuple [(.comp false [1] (.slot 1) .of [(.fld 33 (.var 0) "_records")] [(.mcall false 33 3 "_stands" (.var 0) [(.idx (.var 1) (.lit (.int 0)))] [])] (.idx (.var 1) (.lit (.int 0))))])]
def d_Grants_standing : DefT := ⟨"standing", mthS 17 7, ["self", "record"], ["self"], b_Grants_standing, [], some "Grants.standing"⟩
-- slots of Grants.chain: 0 self, 1 number, 2 found
def b_Grants_chain : List CS := [
  .ite (.or (.cmp .lt (.var 1) (.lit (.int 1))) (.cmp .gt (.var 1) (.bn .len [(.fld 33 (.var 0) "_records")]))) [
    .raise_ 8] [],
  .asg (.slot 2) (.fr true .disp []),
  .while_ (.cmp .gt (.var 1) (.lit (.int 0))) [
    .expr (.mt .append (.var 2) [(.var 1)]),
    .asg (.slot 1) (.idx (.idx (.fld 33 (.var 0) "_records") (.bin .sub (.var 1) (.lit (.int 1)))) (.lit (.int 1)))],
  .expr (.mt .reverse (.var 2) []),
  .ret (.bn .tuple [(.var 2)])]
def d_Grants_chain : DefT := ⟨"chain", mthS 17 8, ["self", "number", "found"], ["self", "number"], b_Grants_chain, [], some "Grants.chain"⟩
-- slots of Grants._rule: 0 self, 1 number
def b_Grants__rule : List CS := [
  .expr (.call false 0 [(.lit (.int 0))])]
def d_Grants__rule : DefT := ⟨"_rule", mthS 17 9, ["self", "number"], ["self", "number"], b_Grants__rule, [], some "Grants._rule"⟩
-- slots of Grants.rules: 0 self
def b_Grants_rules : List CS := [
  .expr (.call false 0 [(.lit (.int 1))])]
def d_Grants_rules : DefT := ⟨"rules", mthS 17 10, ["self"], ["self"], b_Grants_rules, [], some "Grants.rules"⟩
-- slots of Grants.records: 0 self
def b_Grants_records : List CS := [
  .ret (.bn .tuple [(.fld 33 (.var 0) "_records")])]
def d_Grants_records : DefT := ⟨"records", mthS 17 11, ["self"], ["self"], b_Grants_records, [], some "Grants.records"⟩
-- slots of _law_draws: 0 _law_script, 1 _law_many, 2 _law_cells, 3 _law_cell, 4 _law_rest, 5 _law_draws_here, 6 _law_k, 7 _law_at, 8 _law_once
def b__law_draws : List CS := [
  .asg (.slot 2) (.comp true [3] (.slot 3) .of [(.var 0)] [] (.bn .int [(.var 3)])),
  .ite (.cmp .eq (.bn .len [(.var 2)]) (.lit (.int 0))) [
    .expr (.mt .append (.var 2) [(.lit (.int 0))])] [],
  .asg (.slot 4) (.fr true .list [(.var 2)]),
  .asg (.slot 5) (.fr true .disp []),
  .for_ (.slot 6) .rng1 [(.var 1)] [
    .asg (.slot 7) (.bin .mod (.var 6) (.bn .len [(.var 2)])),
    .ite (.cmp .ge (.idx (.var 2) (.var 7)) (.bin .pow (.lit (.int 10)) (.lit (.int 18)))) [
      .expr (.mt .append (.var 5) [(.bin .mod (.bn .int [(.idx (.var 4) (.var 7))]) (.lit (.int 1000)))]),
      .set (.var 4) (.var 7) (.bin .fdiv (.idx (.var 4) (.var 7)) (.lit (.int 1000)))] [
      .asg (.slot 8) (.bin .mod (.bn .int [(.bin .add (.bin .add (.bin .mul (.idx (.var 2) (.var 7)) (.lit (.int 48271))) (.bin .mul (.var 6) (.lit (.int 69621)))) (.lit (.int 11)))]) (.lit (.int 2147483647))),
      .expr (.mt .append (.var 5) [(.bin .mod (.bn .int [(.bin .add (.bin .add (.bin .mul (.var 8) (.var 8)) (.bin .mul (.lit (.int 3)) (.var 8))) (.var 6))]) (.lit (.int 1000003)))])]],
  .expr (.mt .reverse (.var 5) []),
  .ret (.var 5)]
def d__law_draws : DefT := ⟨"_law_draws", tops 19, ["_law_script", "_law_many", "_law_cells", "_law_cell", "_law_rest", "_law_draws_here", "_law_k", "_law_at", "_law_once"], ["_law_script", "_law_many"], b__law_draws, [], none⟩
-- slots of _law_take: 0 _law_draws_here, 1 _law_many
def b__law_take : List CS := [
  .ite (.cmp .eq (.bn .len [(.var 0)]) (.lit (.int 0))) [
    .ret (.lit (.int 0))] [],
  .ret (.bin .mod (.bn .int [(.mt .pop (.var 0) [])]) (.var 1))]
def d__law_take : DefT := ⟨"_law_take", tops 20, ["_law_draws_here", "_law_many"], ["_law_draws_here", "_law_many"], b__law_take, [], none⟩
-- slots of _law_word: 0 _law_number_here, 1 _law_word_here, 2 _law_k
def b__law_word : List CS := [
  .asg (.slot 1) (.lit (.str "")),
  .for_ (.slot 2) .rng1 [(.lit (.int 60))] [
    .ite (.cmp .lt (.var 0) (.lit (.int 1))) [
      .brk] [],
    .asg (.slot 1) (.bin .add (.idx (.lit (.str "abcdefghijklmnopqrstuvwxyz")) (.bin .mod (.bn .int [(.bin .sub (.var 0) (.lit (.int 1)))]) (.lit (.int 26)))) (.var 1)),
    .asg (.slot 0) (.bin .fdiv (.bin .sub (.var 0) (.lit (.int 1))) (.lit (.int 26)))],
  .ret (.var 1)]
def d__law_word : DefT := ⟨"_law_word", tops 21, ["_law_number_here", "_law_word_here", "_law_k"], ["_law_number_here"], b__law_word, [], none⟩
-- slots of _law_pool: 0 _law_script, 1 _law_draws_here, 2 _law_many, 3 _law_head, 4 _law_tail, 5 _law_pool_here, 6 _law_k, 7 _law_number_here, 8 _law_word_here
def b__law_pool : List CS := [
  .asg (.slot 3) (.call false 15 [(.bin .mul (.call false 14 [(.var 1), (.lit (.int 60))]) (.call false 14 [(.var 1), (.lit (.int 2))]))]),
  .asg (.slot 4) (.call false 15 [(.bin .mul (.call false 14 [(.var 1), (.lit (.int 60))]) (.call false 14 [(.var 1), (.lit (.int 2))]))]),
  .asg (.slot 5) (.fr true .disp []),
  .for_ (.slot 6) .rng1 [(.var 2)] [
    .asg (.slot 7) (.bin .add (.lit (.int 1)) (.call false 14 [(.var 1), (.lit (.int 760))])),
    .ite (.and (.cmp .eq (.call false 14 [(.var 1), (.lit (.int 7))]) (.lit (.int 3))) (.cmp .gt (.bn .len [(.var 0)]) (.lit (.int 0)))) [
      .asg (.slot 7) (.bin .add (.lit (.int 1)) (.bn .abs [(.bn .int [(.idx (.var 0) (.bin .mod (.bn .int [(.var 7)]) (.bn .len [(.var 0)])))])]))] [],
    .asg (.slot 8) (.bin .add (.bin .add (.var 3) (.call false 15 [(.var 7)])) (.var 4)),
    .ite (.cmp .notin (.var 8) (.var 5)) [
      .expr (.mt .append (.var 5) [(.var 8)])] []],
  .ret (.var 5)]
def d__law_pool : DefT := ⟨"_law_pool", tops 22, ["_law_script", "_law_draws_here", "_law_many", "_law_head", "_law_tail", "_law_pool_here", "_law_k", "_law_number_here", "_law_word_here"], ["_law_script", "_law_draws_here", "_law_many"], b__law_pool, [], none⟩
-- slots of _law_world: 0 _law_draws_here, 1 _law_fields, 2 _law_words, 3 _law_terms, 4 _law_word_here, 5 _law_far, 6 _law_field, 7 _law_index
def b__law_world : List CS := [
  .asg (.slot 3) (.catL true (.fr false .disp [(.tup [(.lit (.str "name")), (.lit (.str ""))])]) (.comp false [4] (.slot 4) .of [(.var 2)] [] (.tup [(.lit (.str "name")), (.var 4)]))),
  .asg (.slot 5) (.bin .add (.lit (.int 2)) (.call false 14 [(.var 0), (.lit (.int 39))])),
  .for_ (.slot 6) .of [(.var 1)] [
    .expr (.mt .append (.var 3) [(.tup [(.lit (.str "field")), (.var 6)])]),
    .for_ (.slot 7) .of [(.fr false .disp [(.lit (.int 0)), (.lit (.int 1)), (.var 5)])] [
      .expr (.mt .append (.var 3) [(.tup [(.lit (.str "part")), (.var 6), (.var 7)])])]],
  .ret (.tup [(.var 1), (.var 2), (.var 3)])]
def d__law_world : DefT := ⟨"_law_world", tops 23, ["_law_draws_here", "_law_fields", "_law_words", "_law_terms", "_law_word_here", "_law_far", "_law_field", "_law_index"], ["_law_draws_here", "_law_fields", "_law_words"], b__law_world, [], none⟩
-- slots of _law_chosen: 0 _law_words, 1 _law_mask, 2 _law_found, 3 _law_word_here
def b__law_chosen : List CS := [
  .asg (.slot 2) (.fr true .disp []),
  .for_ (.slot 3) .of [(.var 0)] [
    .ite (.cmp .eq (.bin .mod (.bn .int [(.var 1)]) (.lit (.int 2))) (.lit (.int 1))) [
      .expr (.mt .append (.var 2) [(.var 3)])] [],
    .asg (.slot 1) (.bin .fdiv (.var 1) (.lit (.int 2)))],
  .ret (.bn .tuple [(.fr false .sorted [(.var 2)])])]
def d__law_chosen : DefT := ⟨"_law_chosen", tops 24, ["_law_words", "_law_mask", "_law_found", "_law_word_here"], ["_law_words", "_law_mask"], b__law_chosen, [], none⟩
-- slots of _law_leaf: 0 _law_script, 1 _law_draws_here, 2 _law_world_here, 3 _law_kind, 4 _law_term, 5 _law_field, 6 _law_choice, 7 _law_low, 8 _law_high, 9 _law_limit, 10 _law_template, 11 _law_k, 12 _law_part
def b__law_leaf : List CS := [
  .asg (.slot 3) (.call false 14 [(.var 1), (.lit (.int 10))]),
  .asg (.slot 4) (.idx (.idx (.var 2) (.lit (.int 2))) (.call false 14 [(.var 1), (.bn .len [(.idx (.var 2) (.lit (.int 2)))])])),
  .asg (.slot 5) (.idx (.idx (.var 2) (.lit (.int 0))) (.call false 14 [(.var 1), (.bn .len [(.idx (.var 2) (.lit (.int 0)))])])),
  .ite (.cmp .eq (.var 3) (.lit (.int 2))) [
    .ret (.tup [(.lit (.str "in")), (.var 4), (.var 5)])] [],
  .ite (.cmp .eq (.var 3) (.lit (.int 3))) [
    .asg (.slot 6) (.call false 14 [(.var 1), (.bin .mul (.lit (.int 2)) (.bn .len [(.idx (.var 2) (.lit (.int 0)))]))]),
    .ite (.cmp .lt (.var 6) (.bn .len [(.idx (.var 2) (.lit (.int 0)))])) [
      .ret (.tup [(.lit (.str "within")), (.var 5), (.tup [(.lit (.str "set")), (.idx (.idx (.var 2) (.lit (.int 0))) (.var 6))])])] [],
    .ret (.tup [(.lit (.str "within")), (.var 5), (.tup [(.lit (.str "names")), (.call false 18 [(.idx (.var 2) (.lit (.int 1))), (.call false 14 [(.var 1), (.lit (.int 64))])])])])] [],
  .ite (.cmp .eq (.var 3) (.lit (.int 4))) [
    .asg (.slot 7) (.idx (.bin .add (.fr false .disp [(.lit (.str ""))]) (.idx (.var 2) (.lit (.int 0)))) (.call false 14 [(.var 1), (.bin .add (.lit (.int 1)) (.bn .len [(.idx (.var 2) (.lit (.int 0)))]))])),
    .asg (.slot 8) (.idx (.bin .add (.fr false .disp [(.lit (.str ""))]) (.idx (.var 2) (.lit (.int 0)))) (.call false 14 [(.var 1), (.bin .add (.lit (.int 1)) (.bn .len [(.idx (.var 2) (.lit (.int 0)))]))])),
    .asg (.slot 9) (.bin .sub (.call false 14 [(.var 1), (.lit (.int 7))]) (.lit (.int 3))),
    .ite (.and (.cmp .eq (.call false 14 [(.var 1), (.lit (.int 6))]) (.lit (.int 1))) (.cmp .gt (.bn .len [(.var 0)]) (.lit (.int 0)))) [
      .asg (.slot 9) (.bn .int [(.idx (.var 0) (.bin .mod (.bn .int [(.var 9)]) (.bn .len [(.var 0)])))])] [],
    .ret (.tup [(.lit (.str "most")), (.var 7), (.var 8), (.var 9)])] [],
  .ite (.cmp .eq (.var 3) (.lit (.int 5))) [
    .ite (.cmp .eq (.idx (.var 4) (.lit (.int 0))) (.lit (.str "name"))) [
      .asg (.slot 4) (.tup [(.lit (.str "field")), (.var 5)])] [],
    .ret (.tup [(.lit (.str "member")), (.var 4), (.idx (.idx (.var 2) (.lit (.int 1))) (.call false 14 [(.var 1), (.bn .len [(.idx (.var 2) (.lit (.int 1)))])]))])] [],
  .ite (.cmp .eq (.var 3) (.lit (.int 6))) [
    .ret (.idx (.fr false .disp [(.tup [(.lit (.str "true"))]), (.tup [(.lit (.str "false"))])]) (.call false 14 [(.var 1), (.lit (.int 2))]))] [],
  .ite (.or (.cmp .eq (.var 3) (.lit (.int 7))) (.cmp .eq (.var 3) (.lit (.int 8)))) [
    .asg (.slot 10) (.comp false [11] (.slot 11) .rng1 [(.call false 14 [(.var 1), (.lit (.int 4))])] [] (.idx (.idx (.var 2) (.lit (.int 2))) (.call false 14 [(.var 1), (.bn .len [(.idx (.var 2) (.lit (.int 2)))])]))),
    .ret (.tup [(.idx (.fr false .disp [(.lit (.str "at")), (.lit (.str "under"))]) (.bin .sub (.var 3) (.lit (.int 7)))), (.var 5), (.bn .tuple [(.comp false [12] (.slot 12) .of [(.var 10)] [(.cmp .ne (.var 12) (.tup [(.lit (.str "name")), (.lit (.str ""))]))] (.var 12))])])] [],
  .ret (.tup [(.lit (.str "is")), (.var 4), (.idx (.idx (.var 2) (.lit (.int 2))) (.call false 14 [(.var 1), (.bn .len [(.idx (.var 2) (.lit (.int 2)))])]))])]
def d__law_leaf : DefT := ⟨"_law_leaf", tops 25, ["_law_script", "_law_draws_here", "_law_world_here", "_law_kind", "_law_term", "_law_field", "_law_choice", "_law_low", "_law_high", "_law_limit", "_law_template", "_law_k", "_law_part"], ["_law_script", "_law_draws_here", "_law_world_here"], b__law_leaf, [], none⟩
-- slots of _law_number: 0 _law_script, 1 _law_draws_here, 2 _law_many, 3 _law_choice, 4 _law_number_here
def b__law_number : List CS := [
  .asg (.slot 3) (.call false 14 [(.var 1), (.lit (.int 9))]),
  .asg (.slot 4) (.bin .add (.lit (.int 1)) (.call false 14 [(.var 1), (.bn .max [(.lit (.int 1)), (.var 2)])])),
  .ite (.cmp .eq (.var 3) (.lit (.int 0))) [
    .ret (.bin .add (.var 2) (.lit (.int 1)))] [],
  .ite (.cmp .eq (.var 3) (.lit (.int 1))) [
    .ret (.lit (.int 0))] [],
  .ite (.cmp .eq (.var 3) (.lit (.int 2))) [
    .ret (.neg (.var 4))] [],
  .ite (.and (.cmp .eq (.var 3) (.lit (.int 3))) (.cmp .gt (.bn .len [(.var 0)]) (.lit (.int 0)))) [
    .ret (.bn .int [(.idx (.var 0) (.bin .mod (.bn .int [(.var 4)]) (.bn .len [(.var 0)])))])] [],
  .ret (.var 4)]
def d__law_number : DefT := ⟨"_law_number", tops 26, ["_law_script", "_law_draws_here", "_law_many", "_law_choice", "_law_number_here"], ["_law_script", "_law_draws_here", "_law_many"], b__law_number, [], none⟩
-- slots of _law_chain: 0 _law_records, 1 _law_number_here, 2 _law_chain_here, 3 _law_k
def b__law_chain : List CS := [
  .asg (.slot 2) (.tup []),
  .for_ (.slot 3) .rng1 [(.bn .len [(.var 0)])] [
    .ite (.or (.cmp .lt (.var 1) (.lit (.int 1))) (.cmp .gt (.var 1) (.bn .len [(.var 0)]))) [
      .brk] [],
    .asg (.slot 2) (.bin .add (.tup [(.var 1)]) (.var 2)),
    .asg (.slot 1) (.idx (.idx (.var 0) (.bin .sub (.var 1) (.lit (.int 1)))) (.lit (.int 1)))],
  .ret (.var 2)]
def d__law_chain : DefT := ⟨"_law_chain", tops 27, ["_law_records", "_law_number_here", "_law_chain_here", "_law_k"], ["_law_records", "_law_number_here"], b__law_chain, [], none⟩
-- slots of _law_stands: 0 _law_records, 1 _law_number_here, 2 _law_chain_here, 3 _law_above
def b__law_stands : List CS := [
  .asg (.slot 2) (.call false 21 [(.var 0), (.var 1)]),
  .ret (.and (.cmp .gt (.bn .len [(.var 2)]) (.lit (.int 0))) (.cmp .eq (.bn .len [(.comp false [3] (.slot 3) .of [(.var 2)] [(.idx (.idx (.var 0) (.bin .sub (.var 3) (.lit (.int 1)))) (.lit (.int 5)))] (.var 3))]) (.lit (.int 0))))]
def d__law_stands : DefT := ⟨"_law_stands", tops 28, ["_law_records", "_law_number_here", "_law_chain_here", "_law_above"], ["_law_records", "_law_number_here"], b__law_stands, [], none⟩
-- slots of _law_due: 0 _law_name, 1 _law_names, 2 _law_other
def b__law_due : List CS := [
  .asg (.slot 1) (.fr false .disp [(.lit (.str "InvalidRequest")), (.lit (.str "InvalidCondition")), (.lit (.str "InvalidRule")), (.lit (.str "BadText")), (.lit (.str "Circle")), (.lit (.str "AlreadyLinked")), (.lit (.str "NotLinked"))]),
  .asg (.slot 1) (.bin .add (.var 1) (.fr false .disp [(.lit (.str "NoGrant")), (.lit (.str "NoPasses")), (.lit (.str "NoRule")), (.lit (.str "NothingToUndo")), (.lit (.str "NothingToRedo")), (.lit (.str "Widening"))])),
  .ite (.cmp .eq (.var 0) (.lit (.str ""))) [
    .ret (.lit .none)] [],
  .ret (.comp false [2] (.slot 2) .of [(.var 1)] [] (.cmp .eq (.var 2) (.var 0)))]
def d__law_due : DefT := ⟨"_law_due", tops 29, ["_law_name", "_law_names", "_law_other"], ["_law_name"], b__law_due, [], none⟩
-- slots of _law_are_records: 0 _law_actual, 1 _law_records, 2 _law_record, 3 _law_k
def b__law_are_records : List CS := [
  .ite (.or (.not (.isi (.var 0) .tuple)) (.cmp .ne (.var 0) (.bn .tuple [(.var 1)]))) [
    .ret (.lit (.bool false))] [],
  .for_ (.slot 2) .of [(.var 0)] [
    .for_ (.slot 3) .of [(.fr false .disp [(.lit (.int 0)), (.lit (.int 1)), (.lit (.int 4))])] [
      .ite (.or (.not (.isi (.idx (.var 2) (.var 3)) .int)) (.isi (.idx (.var 2) (.var 3)) .bool)) [
        .ret (.lit (.bool false))] []],
    .ite (.not (.isi (.idx (.var 2) (.lit (.int 5))) .bool)) [
      .ret (.lit (.bool false))] []],
  .ret (.lit (.bool true))]
def d__law_are_records : DefT := ⟨"_law_are_records", tops 30, ["_law_actual", "_law_records", "_law_record", "_law_k"], ["_law_actual", "_law_records"], b__law_are_records, [], none⟩
-- slots of _law_is_count: 0 _law_actual, 1 _law_due_here
def b__law_is_count : List CS := [
  .ret (.and (.isi (.var 0) .int) (.and (.not (.isi (.var 0) .bool)) (.cmp .eq (.var 0) (.var 1))))]
def d__law_is_count : DefT := ⟨"_law_is_count", tops 31, ["_law_actual", "_law_due_here"], ["_law_actual", "_law_due_here"], b__law_is_count, [], none⟩
-- slots of _law_is_tuple: 0 _law_actual, 1 _law_due_here
def b__law_is_tuple : List CS := [
  .ret (.and (.isi (.var 0) .tuple) (.cmp .eq (.var 0) (.var 1)))]
def d__law_is_tuple : DefT := ⟨"_law_is_tuple", tops 32, ["_law_actual", "_law_due_here"], ["_law_actual", "_law_due_here"], b__law_is_tuple, [], none⟩
-- slots of _law_pass: 0 _law_grants, 1 _law_number_here, 2 _law_receiver, 3 _law_condition, 4 e
def b__law_pass : List CS := [
  .tryI [
    .ret (.mcall false 33 6 "pass_on" (.var 0) [(.var 1), (.var 2), (.var 3)] [])] [0, 1, 2, 3, 4, 5, 6, 7, 8, 9, 10, 11, 12, 13] 4 [[1], [2], [3], [4], [5], [6], [7], [8], [9], [10], [11], [12], [13]]]
def d__law_pass : DefT := ⟨"_law_pass", tops 33, ["_law_grants", "_law_number_here", "_law_receiver", "_law_condition", "e"], ["_law_grants", "_law_number_here", "_law_receiver", "_law_condition"], b__law_pass, [], none⟩
-- slots of _law_revoke: 0 _law_grants, 1 _law_number_here, 2 e
def b__law_revoke : List CS := [
  .tryI [
    .expr (.mcall false 33 7 "revoke" (.var 0) [(.var 1)] [])] [0, 1, 2, 3, 4, 5, 6, 7, 8, 9, 10, 11, 12, 13] 2 [[1], [2], [3], [4], [5], [6], [7], [8], [9], [10], [11], [12], [13]],
  .ret (.lit .none)]
def d__law_revoke : DefT := ⟨"_law_revoke", tops 34, ["_law_grants", "_law_number_here", "e"], ["_law_grants", "_law_number_here"], b__law_revoke, [], none⟩
-- slots of _law_grant_deed: 0 _law_grants, 1 _law_records, 2 _law_kind, 3 _law_number_here, 4 _law_receiver, 5 _law_condition, 6 _law_passes, 7 _law_refusal, 8 _law_record, 9 _law_told
def b__law_grant_deed : List CS := [
  .ite (.cmp .lt (.var 2) (.lit (.int 2))) [
    .ite (.not (.call false 25 [(.mcall false 33 5 "give" (.var 0) [(.var 4), (.var 5), (.var 6)] []), (.bin .add (.bn .len [(.var 1)]) (.lit (.int 1)))])) [
      .ret (.lit .none)] [],
    .ret (.bin .add (.var 1) (.fr false .disp [(.tup [(.bin .add (.bn .len [(.var 1)]) (.lit (.int 1))), (.lit (.int 0)), (.var 4), (.var 5), (.var 6), (.lit (.bool false))])]))] [],
  .asg (.slot 7) (.lit (.str "")),
  .ite (.not (.call false 22 [(.var 1), (.var 3)])) [
    .asg (.slot 7) (.lit (.str "NoGrant"))] [
    .ite (.and (.cmp .lt (.var 2) (.lit (.int 5))) (.cmp .eq (.idx (.idx (.var 1) (.bin .sub (.var 3) (.lit (.int 1)))) (.lit (.int 4))) (.lit (.int 0)))) [
      .asg (.slot 7) (.lit (.str "NoPasses"))] []],
  .ite (.cmp .ge (.var 2) (.lit (.int 5))) [
    .ite (.cmp .ne (.call false 28 [(.var 0), (.var 3)]) (.call false 23 [(.var 7)])) [
      .ret (.lit .none)] [],
    .ite (.cmp .eq (.var 7) (.lit (.str ""))) [
      .ret (.comp false [8] (.slot 8) .of [(.var 1)] [] (.bin .add (.slice (.var 8) [] [(.lit (.int 5))]) (.tup [(.or (.idx (.var 8) (.lit (.int 5))) (.cmp .eq (.idx (.var 8) (.lit (.int 0))) (.var 3)))])))] [],
    .ret (.var 1)] [],
  .asg (.slot 9) (.call false 27 [(.var 0), (.var 3), (.var 4), (.var 5)]),
  .ite (.cmp .ne (.var 7) (.lit (.str ""))) [
    .ite (.cmp .ne (.var 9) (.call false 23 [(.var 7)])) [
      .ret (.lit .none)] [],
    .ret (.var 1)] [],
  .ite (.not (.call false 25 [(.var 9), (.bin .add (.bn .len [(.var 1)]) (.lit (.int 1)))])) [
    .ret (.lit .none)] [],
  .ret (.bin .add (.var 1) (.fr false .disp [(.tup [(.bin .add (.bn .len [(.var 1)]) (.lit (.int 1))), (.var 3), (.var 4), (.var 5), (.bin .sub (.idx (.idx (.var 1) (.bin .sub (.var 3) (.lit (.int 1)))) (.lit (.int 4))) (.lit (.int 1))), (.lit (.bool false))])]))]
def d__law_grant_deed : DefT := ⟨"_law_grant_deed", tops 35, ["_law_grants", "_law_records", "_law_kind", "_law_number_here", "_law_receiver", "_law_condition", "_law_passes", "_law_refusal", "_law_record", "_law_told"], ["_law_grants", "_law_records", "_law_kind", "_law_number_here", "_law_receiver", "_law_condition", "_law_passes"], b__law_grant_deed, [], none⟩
-- slots of _law_chain_told: 0 _law_grants, 1 _law_number_here, 2 e
def b__law_chain_told : List CS := [
  .tryI [
    .ret (.mcall false 33 9 "chain" (.var 0) [(.var 1)] [])] [0, 1, 2, 3, 4, 5, 6, 7, 8, 9, 10, 11, 12, 13] 2 [[1], [2], [3], [4], [5], [6], [7], [8], [9], [10], [11], [12], [13]]]
def d__law_chain_told : DefT := ⟨"_law_chain_told", tops 36, ["_law_grants", "_law_number_here", "e"], ["_law_grants", "_law_number_here"], b__law_chain_told, [], none⟩
-- slots of _law_are_chains: 0 _law_grants, 1 _law_records, 2 _law_others, 3 _law_number_here, 4 _law_told, 5 _law_above
def b__law_are_chains : List CS := [
  .for_ (.slot 3) .of [(.bin .add (.lrange false (.neg (.lit (.int 1))) (.bin .add (.bn .len [(.var 1)]) (.lit (.int 3)))) (.var 2))] [
    .asg (.slot 4) (.call false 30 [(.var 0), (.var 3)]),
    .ite (.or (.cmp .lt (.var 3) (.lit (.int 1))) (.cmp .gt (.var 3) (.bn .len [(.var 1)]))) [
      .ite (.cmp .ne (.var 4) (.call false 23 [(.lit (.str "NoGrant"))])) [
        .ret (.lit (.bool false))] []] [
      .ite (.not (.call false 26 [(.var 4), (.call false 21 [(.var 1), (.var 3)])])) [
        .ret (.lit (.bool false))] [
        .ite (.cmp .gt (.bn .len [(.comp false [5] (.slot 5) .of [(.var 4)] [(.or (.isi (.var 5) .bool) (.not (.isi (.var 5) .int)))] (.var 5))]) (.lit (.int 0))) [
          .ret (.lit (.bool false))] []]]],
  .ret (.lit (.bool true))]
def d__law_are_chains : DefT := ⟨"_law_are_chains", tops 37, ["_law_grants", "_law_records", "_law_others", "_law_number_here", "_law_told", "_law_above"], ["_law_grants", "_law_records", "_law_others"], b__law_are_chains, [], none⟩
-- slots of law: 0 _law_script, 1 _law_draws_here, 2 _law_words, 3 _law_condition, 4 _law_grants, 5 _law_records, 6 _law_k, 7 _law_receiver, 8 _law_kind, 9 _law_number_here, 10 _law_passes, 11 _law_due_here, 12 _law_record, 13 _law_cell
def b_law : List CS := [
  .asg (.slot 1) (.call true 13 [(.var 0), (.lit (.int 91))]),
  .asg (.slot 2) (.call false 16 [(.var 0), (.var 1), (.lit (.int 3))]),
  .asg (.slot 3) (.call false 19 [(.var 0), (.var 1), (.call false 17 [(.var 1), (.slice (.var 2) [] [(.lit (.int 2))]), (.var 2)])]),
  .asg (.slot 4) (.make 33 1 [] [(.tuple [])]),
  .asg (.slot 5) (.fr false .disp []),
  .ite (.cmp .eq (.call false 14 [(.var 1), (.lit (.int 6))]) (.lit (.int 2))) [
    .for_ (.slot 6) .rng1 [(.bin .add (.lit (.int 2)) (.call false 14 [(.var 1), (.lit (.int 9))]))] [
      .asg (.slot 7) (.idx (.var 2) (.bin .mod (.bn .int [(.var 6)]) (.bn .len [(.var 2)]))),
      .asg (.slot 5) (.call false 29 [(.var 4), (.var 5), (.idx (.fr false .disp [(.lit (.int 0)), (.lit (.int 3))]) (.bn .int [(.cmp .gt (.var 6) (.lit (.int 0)))])), (.var 6), (.var 7), (.var 3), (.lit (.int 9))]),
      .ite (.cmp .is_ (.var 5) (.lit .none)) [
        .ret (.lit (.bool false))] []]] [],
  .for_ (.slot 6) .rng1 [(.call false 14 [(.var 1), (.lit (.int 15))])] [
    .asg (.slot 8) (.call false 14 [(.var 1), (.lit (.int 7))]),
    .asg (.slot 9) (.call false 20 [(.var 0), (.var 1), (.bn .len [(.var 5)])]),
    .asg (.slot 7) (.idx (.var 2) (.call false 14 [(.var 1), (.bn .len [(.var 2)])])),
    .asg (.slot 10) (.call false 14 [(.var 1), (.lit (.int 4))]),
    .asg (.slot 5) (.call false 29 [(.var 4), (.var 5), (.var 8), (.var 9), (.var 7), (.var 3), (.var 10)]),
    .ite (.cmp .is_ (.var 5) (.lit .none)) [
      .ret (.lit (.bool false))] [],
    .asg (.slot 11) (.bn .tuple [(.comp false [12] (.slot 12) .of [(.var 5)] [(.call false 22 [(.var 5), (.idx (.var 12) (.lit (.int 0)))])] (.idx (.var 12) (.lit (.int 0))))]),
    .ite (.or (.not (.call false 26 [(.mcall false 33 8 "standing" (.var 4) [] []), (.var 11)])) (.not (.call false 24 [(.mcall false 33 12 "records" (.var 4) [] []), (.var 5)]))) [
      .ret (.lit (.bool false))] []],
  .ret (.call false 31 [(.var 4), (.var 5), (.comp false [13] (.slot 13) .of [(.slice (.var 0) [] [(.lit (.int 4))])] [] (.bn .int [(.var 13)]))])]
def d_law : DefT := ⟨"law", tops 38, ["_law_script", "_law_draws_here", "_law_words", "_law_condition", "_law_grants", "_law_records", "_law_k", "_law_receiver", "_law_kind", "_law_number_here", "_law_passes", "_law_due_here", "_law_record", "_law_cell"], ["_law_script"], b_law, [], none⟩
def defs : List DefT := [d__wall, d_Grants___init__, d_Grants__make, d_Grants__stands, d_Grants__need, d_Grants_give, d_Grants_pass_on, d_Grants_revoke, d_Grants_standing, d_Grants_chain, d_Grants__rule, d_Grants_rules, d_Grants_records, d__law_draws, d__law_take, d__law_word, d__law_pool, d__law_world, d__law_chosen, d__law_leaf, d__law_number, d__law_chain, d__law_stands, d__law_due, d__law_are_records, d__law_is_count, d__law_is_tuple, d__law_pass, d__law_revoke, d__law_grant_deed, d__law_chain_told, d__law_are_chains, d_law]
def clss : List ClsT := [("Grants", ["_records"], 1, [("__init__", 1), ("_make", 2), ("_stands", 3), ("_need", 4), ("give", 5), ("pass_on", 6), ("revoke", 7), ("standing", 8), ("chain", 9), ("_rule", 10), ("rules", 11), ("records", 12)])]
def errs : List ErrT := [("AccessError", [0, 1, 2, 3, 4, 5, 6, 7, 8, 9, 10, 11, 12, 13], false), ("InvalidRequest", [1], false), ("InvalidCondition", [2], false), ("InvalidRule", [3], false), ("BadText", [4], false), ("Circle", [5], false), ("AlreadyLinked", [6], false), ("NotLinked", [7], false), ("NoGrant", [8], true), ("NoPasses", [9], true), ("NoRule", [10], false), ("NothingToUndo", [11], false), ("NothingToRedo", [12], false), ("Widening", [13], false)]
def globs : List (Str × PyData) := []
theorem ok__wall : defOk (infoOf defs globs clss errs) d__wall = true := by decide +kernel
theorem ok_Grants___init__ : defOk (infoOf defs globs clss errs) d_Grants___init__ = true := by decide +kernel
theorem ok_Grants__make : defOk (infoOf defs globs clss errs) d_Grants__make = true := by decide +kernel
theorem ok_Grants__stands : defOk (infoOf defs globs clss errs) d_Grants__stands = true := by decide +kernel
theorem ok_Grants__need : defOk (infoOf defs globs clss errs) d_Grants__need = true := by decide +kernel
theorem ok_Grants_give : defOk (infoOf defs globs clss errs) d_Grants_give = true := by decide +kernel
theorem ok_Grants_pass_on : defOk (infoOf defs globs clss errs) d_Grants_pass_on = true := by decide +kernel
theorem ok_Grants_revoke : defOk (infoOf defs globs clss errs) d_Grants_revoke = true := by decide +kernel
theorem ok_Grants_standing : defOk (infoOf defs globs clss errs) d_Grants_standing = true := by decide +kernel
theorem ok_Grants_chain : defOk (infoOf defs globs clss errs) d_Grants_chain = true := by decide +kernel
theorem ok_Grants__rule : defOk (infoOf defs globs clss errs) d_Grants__rule = true := by decide +kernel
theorem ok_Grants_rules : defOk (infoOf defs globs clss errs) d_Grants_rules = true := by decide +kernel
theorem ok_Grants_records : defOk (infoOf defs globs clss errs) d_Grants_records = true := by decide +kernel
theorem ok__law_draws : defOk (infoOf defs globs clss errs) d__law_draws = true := by decide +kernel
theorem ok__law_take : defOk (infoOf defs globs clss errs) d__law_take = true := by decide +kernel
theorem ok__law_word : defOk (infoOf defs globs clss errs) d__law_word = true := by decide +kernel
theorem ok__law_pool : defOk (infoOf defs globs clss errs) d__law_pool = true := by decide +kernel
theorem ok__law_world : defOk (infoOf defs globs clss errs) d__law_world = true := by decide +kernel
theorem ok__law_chosen : defOk (infoOf defs globs clss errs) d__law_chosen = true := by decide +kernel
theorem ok__law_leaf : defOk (infoOf defs globs clss errs) d__law_leaf = true := by decide +kernel
theorem ok__law_number : defOk (infoOf defs globs clss errs) d__law_number = true := by decide +kernel
theorem ok__law_chain : defOk (infoOf defs globs clss errs) d__law_chain = true := by decide +kernel
theorem ok__law_stands : defOk (infoOf defs globs clss errs) d__law_stands = true := by decide +kernel
theorem ok__law_due : defOk (infoOf defs globs clss errs) d__law_due = true := by decide +kernel
theorem ok__law_are_records : defOk (infoOf defs globs clss errs) d__law_are_records = true := by decide +kernel
theorem ok__law_is_count : defOk (infoOf defs globs clss errs) d__law_is_count = true := by decide +kernel
theorem ok__law_is_tuple : defOk (infoOf defs globs clss errs) d__law_is_tuple = true := by decide +kernel
theorem ok__law_pass : defOk (infoOf defs globs clss errs) d__law_pass = true := by decide +kernel
theorem ok__law_revoke : defOk (infoOf defs globs clss errs) d__law_revoke = true := by decide +kernel
theorem ok__law_grant_deed : defOk (infoOf defs globs clss errs) d__law_grant_deed = true := by decide +kernel
theorem ok__law_chain_told : defOk (infoOf defs globs clss errs) d__law_chain_told = true := by decide +kernel
theorem ok__law_are_chains : defOk (infoOf defs globs clss errs) d__law_are_chains = true := by decide +kernel
theorem ok_law : defOk (infoOf defs globs clss errs) d_law = true := by decide +kernel
theorem all_ok : ∀ d ∈ defs, defOk (infoOf defs globs clss errs) d = true := by
  intro d hd
  unfold defs at hd
  rcases List.mem_cons.mp hd with rfl | hd
  · exact ok__wall
  rcases List.mem_cons.mp hd with rfl | hd
  · exact ok_Grants___init__
  rcases List.mem_cons.mp hd with rfl | hd
  · exact ok_Grants__make
  rcases List.mem_cons.mp hd with rfl | hd
  · exact ok_Grants__stands
  rcases List.mem_cons.mp hd with rfl | hd
  · exact ok_Grants__need
  rcases List.mem_cons.mp hd with rfl | hd
  · exact ok_Grants_give
  rcases List.mem_cons.mp hd with rfl | hd
  · exact ok_Grants_pass_on
  rcases List.mem_cons.mp hd with rfl | hd
  · exact ok_Grants_revoke
  rcases List.mem_cons.mp hd with rfl | hd
  · exact ok_Grants_standing
  rcases List.mem_cons.mp hd with rfl | hd
  · exact ok_Grants_chain
  rcases List.mem_cons.mp hd with rfl | hd
  · exact ok_Grants__rule
  rcases List.mem_cons.mp hd with rfl | hd
  · exact ok_Grants_rules
  rcases List.mem_cons.mp hd with rfl | hd
  · exact ok_Grants_records
  rcases List.mem_cons.mp hd with rfl | hd
  · exact ok__law_draws
  rcases List.mem_cons.mp hd with rfl | hd
  · exact ok__law_take
  rcases List.mem_cons.mp hd with rfl | hd
  · exact ok__law_word
  rcases List.mem_cons.mp hd with rfl | hd
  · exact ok__law_pool
  rcases List.mem_cons.mp hd with rfl | hd
  · exact ok__law_world
  rcases List.mem_cons.mp hd with rfl | hd
  · exact ok__law_chosen
  rcases List.mem_cons.mp hd with rfl | hd
  · exact ok__law_leaf
  rcases List.mem_cons.mp hd with rfl | hd
  · exact ok__law_number
  rcases List.mem_cons.mp hd with rfl | hd
  · exact ok__law_chain
  rcases List.mem_cons.mp hd with rfl | hd
  · exact ok__law_stands
  rcases List.mem_cons.mp hd with rfl | hd
  · exact ok__law_due
  rcases List.mem_cons.mp hd with rfl | hd
  · exact ok__law_are_records
  rcases List.mem_cons.mp hd with rfl | hd
  · exact ok__law_is_count
  rcases List.mem_cons.mp hd with rfl | hd
  · exact ok__law_is_tuple
  rcases List.mem_cons.mp hd with rfl | hd
  · exact ok__law_pass
  rcases List.mem_cons.mp hd with rfl | hd
  · exact ok__law_revoke
  rcases List.mem_cons.mp hd with rfl | hd
  · exact ok__law_grant_deed
  rcases List.mem_cons.mp hd with rfl | hd
  · exact ok__law_chain_told
  rcases List.mem_cons.mp hd with rfl | hd
  · exact ok__law_are_chains
  rcases List.mem_cons.mp hd with rfl | hd
  · exact ok_law
  cases hd
theorem top_mk {K : PySem.W.Frag} {h : Heap} {mg : Str → Option Value} (X : K.In h) (G : h.Ns mainGlobals mg)
  {C0 : Addr} (ca0 : PySem.W.nsIn K mainGlobals "Grants" = some (some (.ref C0))) (cg0 : PySem.W.plainGet K C0 Str.empty = true) (ch0 : PySem.W.hasDictIn K C0 = true) (cp0 : PySem.W.plainOver K C0 = true) (cs0 : PySem.W.findIn K (.ref C0) "__setattr__" = some (some (.builtin "object.__setattr__"))) (cm0 : PySem.W.makesIn K C0 = true) (ck0 : PySem.W.keepIn K (.ref C0) = true)
  (cf0_0 : PySem.W.findIn K (.ref C0) "_records" = some none)
  {E0 : Addr} (ea0 : PySem.W.nsIn K mainGlobals "AccessError" = some (some (.ref E0)))
  (ed0 : PySem.W.hasDictIn K E0 = true) (et0 : PySem.W.typeIn K (.ref E0) = some (.type "type")) (es0 : PySem.W.subIn K (.ref E0) (.type "BaseException") = some true) (er0 : PySem.W.subIn K (.ref E0) (.ref E0) = some true)
  {E1 : Addr} (ea1 : PySem.W.nsIn K mainGlobals "InvalidRequest" = some (some (.ref E1)))
  (ed1 : PySem.W.hasDictIn K E1 = true) (et1 : PySem.W.typeIn K (.ref E1) = some (.type "type")) (es1 : PySem.W.subIn K (.ref E1) (.type "BaseException") = some true) (er1 : PySem.W.subIn K (.ref E1) (.ref E1) = some true)
  {E2 : Addr} (ea2 : PySem.W.nsIn K mainGlobals "InvalidCondition" = some (some (.ref E2)))
  (ed2 : PySem.W.hasDictIn K E2 = true) (et2 : PySem.W.typeIn K (.ref E2) = some (.type "type")) (es2 : PySem.W.subIn K (.ref E2) (.type "BaseException") = some true) (er2 : PySem.W.subIn K (.ref E2) (.ref E2) = some true)
  {E3 : Addr} (ea3 : PySem.W.nsIn K mainGlobals "InvalidRule" = some (some (.ref E3)))
  (ed3 : PySem.W.hasDictIn K E3 = true) (et3 : PySem.W.typeIn K (.ref E3) = some (.type "type")) (es3 : PySem.W.subIn K (.ref E3) (.type "BaseException") = some true) (er3 : PySem.W.subIn K (.ref E3) (.ref E3) = some true)
  {E4 : Addr} (ea4 : PySem.W.nsIn K mainGlobals "BadText" = some (some (.ref E4)))
  (ed4 : PySem.W.hasDictIn K E4 = true) (et4 : PySem.W.typeIn K (.ref E4) = some (.type "type")) (es4 : PySem.W.subIn K (.ref E4) (.type "BaseException") = some true) (er4 : PySem.W.subIn K (.ref E4) (.ref E4) = some true)
  {E5 : Addr} (ea5 : PySem.W.nsIn K mainGlobals "Circle" = some (some (.ref E5)))
  (ed5 : PySem.W.hasDictIn K E5 = true) (et5 : PySem.W.typeIn K (.ref E5) = some (.type "type")) (es5 : PySem.W.subIn K (.ref E5) (.type "BaseException") = some true) (er5 : PySem.W.subIn K (.ref E5) (.ref E5) = some true)
  {E6 : Addr} (ea6 : PySem.W.nsIn K mainGlobals "AlreadyLinked" = some (some (.ref E6)))
  (ed6 : PySem.W.hasDictIn K E6 = true) (et6 : PySem.W.typeIn K (.ref E6) = some (.type "type")) (es6 : PySem.W.subIn K (.ref E6) (.type "BaseException") = some true) (er6 : PySem.W.subIn K (.ref E6) (.ref E6) = some true)
  {E7 : Addr} (ea7 : PySem.W.nsIn K mainGlobals "NotLinked" = some (some (.ref E7)))
  (ed7 : PySem.W.hasDictIn K E7 = true) (et7 : PySem.W.typeIn K (.ref E7) = some (.type "type")) (es7 : PySem.W.subIn K (.ref E7) (.type "BaseException") = some true) (er7 : PySem.W.subIn K (.ref E7) (.ref E7) = some true)
  {E8 : Addr} (ea8 : PySem.W.nsIn K mainGlobals "NoGrant" = some (some (.ref E8)))
  (ed8 : PySem.W.hasDictIn K E8 = true) (et8 : PySem.W.typeIn K (.ref E8) = some (.type "type")) (es8 : PySem.W.subIn K (.ref E8) (.type "BaseException") = some true) (er8 : PySem.W.subIn K (.ref E8) (.ref E8) = some true)
  {E9 : Addr} (ea9 : PySem.W.nsIn K mainGlobals "NoPasses" = some (some (.ref E9)))
  (ed9 : PySem.W.hasDictIn K E9 = true) (et9 : PySem.W.typeIn K (.ref E9) = some (.type "type")) (es9 : PySem.W.subIn K (.ref E9) (.type "BaseException") = some true) (er9 : PySem.W.subIn K (.ref E9) (.ref E9) = some true)
  {E10 : Addr} (ea10 : PySem.W.nsIn K mainGlobals "NoRule" = some (some (.ref E10)))
  (ed10 : PySem.W.hasDictIn K E10 = true) (et10 : PySem.W.typeIn K (.ref E10) = some (.type "type")) (es10 : PySem.W.subIn K (.ref E10) (.type "BaseException") = some true) (er10 : PySem.W.subIn K (.ref E10) (.ref E10) = some true)
  {E11 : Addr} (ea11 : PySem.W.nsIn K mainGlobals "NothingToUndo" = some (some (.ref E11)))
  (ed11 : PySem.W.hasDictIn K E11 = true) (et11 : PySem.W.typeIn K (.ref E11) = some (.type "type")) (es11 : PySem.W.subIn K (.ref E11) (.type "BaseException") = some true) (er11 : PySem.W.subIn K (.ref E11) (.ref E11) = some true)
  {E12 : Addr} (ea12 : PySem.W.nsIn K mainGlobals "NothingToRedo" = some (some (.ref E12)))
  (ed12 : PySem.W.hasDictIn K E12 = true) (et12 : PySem.W.typeIn K (.ref E12) = some (.type "type")) (es12 : PySem.W.subIn K (.ref E12) (.type "BaseException") = some true) (er12 : PySem.W.subIn K (.ref E12) (.ref E12) = some true)
  {E13 : Addr} (ea13 : PySem.W.nsIn K mainGlobals "Widening" = some (some (.ref E13)))
  (ed13 : PySem.W.hasDictIn K E13 = true) (et13 : PySem.W.typeIn K (.ref E13) = some (.type "type")) (es13 : PySem.W.subIn K (.ref E13) (.type "BaseException") = some true) (er13 : PySem.W.subIn K (.ref E13) (.ref E13) = some true)
  (ex8 : PySem.W.excIn K E8 [.type "ValueError", .type "Exception", .type "BaseException", .type "object"] "ValueError.__new__" = true) (ek8 : PySem.W.keepIn K (.ref E8) = true)
  (eg8 : PySem.W.findIn K (.ref E8) "__getattribute__" = some (some (.builtin "BaseException.__getattribute__"))) (eh8 : PySem.W.findIn K (.ref E8) "__getattr__" = some none) (ec8 : PySem.W.findIn K (.ref E8) "__class__" = some (some (.builtin "object.__class__"))) (em8 : PySem.W.mroIn K E8 (.type "object") = some true)
  (eo8_0 : PySem.W.subIn K (.ref E8) (.ref E0) = some true)
  (eo8_1 : PySem.W.subIn K (.ref E8) (.ref E1) = some false)
  (eo8_2 : PySem.W.subIn K (.ref E8) (.ref E2) = some false)
  (eo8_3 : PySem.W.subIn K (.ref E8) (.ref E3) = some false)
  (eo8_4 : PySem.W.subIn K (.ref E8) (.ref E4) = some false)
  (eo8_5 : PySem.W.subIn K (.ref E8) (.ref E5) = some false)
  (eo8_6 : PySem.W.subIn K (.ref E8) (.ref E6) = some false)
  (eo8_7 : PySem.W.subIn K (.ref E8) (.ref E7) = some false)
  (eo8_8 : PySem.W.subIn K (.ref E8) (.ref E8) = some true)
  (eo8_9 : PySem.W.subIn K (.ref E8) (.ref E9) = some false)
  (eo8_10 : PySem.W.subIn K (.ref E8) (.ref E10) = some false)
  (eo8_11 : PySem.W.subIn K (.ref E8) (.ref E11) = some false)
  (eo8_12 : PySem.W.subIn K (.ref E8) (.ref E12) = some false)
  (eo8_13 : PySem.W.subIn K (.ref E8) (.ref E13) = some false)
  (ex9 : PySem.W.excIn K E9 [.type "ValueError", .type "Exception", .type "BaseException", .type "object"] "ValueError.__new__" = true) (ek9 : PySem.W.keepIn K (.ref E9) = true)
  (eg9 : PySem.W.findIn K (.ref E9) "__getattribute__" = some (some (.builtin "BaseException.__getattribute__"))) (eh9 : PySem.W.findIn K (.ref E9) "__getattr__" = some none) (ec9 : PySem.W.findIn K (.ref E9) "__class__" = some (some (.builtin "object.__class__"))) (em9 : PySem.W.mroIn K E9 (.type "object") = some true)
  (eo9_0 : PySem.W.subIn K (.ref E9) (.ref E0) = some true)
  (eo9_1 : PySem.W.subIn K (.ref E9) (.ref E1) = some false)
  (eo9_2 : PySem.W.subIn K (.ref E9) (.ref E2) = some false)
  (eo9_3 : PySem.W.subIn K (.ref E9) (.ref E3) = some false)
  (eo9_4 : PySem.W.subIn K (.ref E9) (.ref E4) = some false)
  (eo9_5 : PySem.W.subIn K (.ref E9) (.ref E5) = some false)
  (eo9_6 : PySem.W.subIn K (.ref E9) (.ref E6) = some false)
  (eo9_7 : PySem.W.subIn K (.ref E9) (.ref E7) = some false)
  (eo9_8 : PySem.W.subIn K (.ref E9) (.ref E8) = some false)
  (eo9_9 : PySem.W.subIn K (.ref E9) (.ref E9) = some true)
  (eo9_10 : PySem.W.subIn K (.ref E9) (.ref E10) = some false)
  (eo9_11 : PySem.W.subIn K (.ref E9) (.ref E11) = some false)
  (eo9_12 : PySem.W.subIn K (.ref E9) (.ref E12) = some false)
  (eo9_13 : PySem.W.subIn K (.ref E9) (.ref E13) = some false)
  (xn : PySem.W.specialIn K (.builtin "object.__class__") "__get__" = some (some (.builtin "getset_descriptor.__get__"))) (xt : PySem.W.takesIn K (.builtin "object.__class__") = some true)
  {f0 : Addr} {od0 an0 : Option Addr} {sl0 : Array (Option Value)} {oc0 kV0 dc0 pm0 cd0 ct0 : Value}
  (a0 : PySem.W.nsIn K mainGlobals "_wall" = some (some (.ref f0))) (l0 : K.lookup f0 = some ⟨oc0, od0, .func (PySem.W.fnOf d__wall.x d__wall.q (defArgs d__wall.st) (defBody d__wall.st) (defScope d__wall.st) .none kV0 dc0 pm0 an0 cd0 ct0), sl0⟩) (c0 : PySem.W.codeIn K cd0 d__wall.q = true) (k0 : PySem.W.keepIn K (.ref f0) = true)
  {f1 : Addr} {od1 an1 : Option Addr} {sl1 : Array (Option Value)} {oc1 kV1 dc1 pm1 cd1 ct1 : Value}
  {T1 : Addr} {tc1 : Value} {td1 : Option Addr} {tn1 : Nat} {ts1 : Array (Option Value)} 
  {e1_0 : Addr} {od1_0 : Option Addr} {on1_0 : Nat} {os1_0 : Array (Option Value)}
  (a1 : PySem.W.findIn K (.ref C0) "__init__" = some (some (.ref f1))) (i1 : PySem.W.isFn K (.ref f1) = true) (l1 : K.lookup f1 = some ⟨oc1, od1, .func (PySem.W.fnOf d_Grants___init__.x d_Grants___init__.q (defArgs d_Grants___init__.st) (defBody d_Grants___init__.st) (defScope d_Grants___init__.st) (.ref T1) kV1 dc1 pm1 an1 cd1 ct1), sl1⟩) (c1 : PySem.W.codeIn K cd1 d_Grants___init__.q = true) (k1 : PySem.W.keepIn K (.ref f1) = true)
  (lt1 : K.lookup T1 = some ⟨tc1, td1, .seq #[(.ref e1_0)] tn1, ts1⟩)
  (le1_0 : K.lookup e1_0 = some ⟨.type "tuple", od1_0, .seq #[] on1_0, os1_0⟩)
  {f2 : Addr} {od2 an2 : Option Addr} {sl2 : Array (Option Value)} {oc2 kV2 dc2 pm2 cd2 ct2 : Value}
  (a2 : PySem.W.findIn K (.ref C0) "_make" = some (some (.ref f2))) (i2 : PySem.W.isFn K (.ref f2) = true) (l2 : K.lookup f2 = some ⟨oc2, od2, .func (PySem.W.fnOf d_Grants__make.x d_Grants__make.q (defArgs d_Grants__make.st) (defBody d_Grants__make.st) (defScope d_Grants__make.st) .none kV2 dc2 pm2 an2 cd2 ct2), sl2⟩) (c2 : PySem.W.codeIn K cd2 d_Grants__make.q = true) (k2 : PySem.W.keepIn K (.ref f2) = true)
  {f3 : Addr} {od3 an3 : Option Addr} {sl3 : Array (Option Value)} {oc3 kV3 dc3 pm3 cd3 ct3 : Value}
  (a3 : PySem.W.findIn K (.ref C0) "_stands" = some (some (.ref f3))) (i3 : PySem.W.isFn K (.ref f3) = true) (l3 : K.lookup f3 = some ⟨oc3, od3, .func (PySem.W.fnOf d_Grants__stands.x d_Grants__stands.q (defArgs d_Grants__stands.st) (defBody d_Grants__stands.st) (defScope d_Grants__stands.st) .none kV3 dc3 pm3 an3 cd3 ct3), sl3⟩) (c3 : PySem.W.codeIn K cd3 d_Grants__stands.q = true) (k3 : PySem.W.keepIn K (.ref f3) = true)
  {f4 : Addr} {od4 an4 : Option Addr} {sl4 : Array (Option Value)} {oc4 kV4 dc4 pm4 cd4 ct4 : Value}
  (a4 : PySem.W.findIn K (.ref C0) "_need" = some (some (.ref f4))) (i4 : PySem.W.isFn K (.ref f4) = true) (l4 : K.lookup f4 = some ⟨oc4, od4, .func (PySem.W.fnOf d_Grants__need.x d_Grants__need.q (defArgs d_Grants__need.st) (defBody d_Grants__need.st) (defScope d_Grants__need.st) .none kV4 dc4 pm4 an4 cd4 ct4), sl4⟩) (c4 : PySem.W.codeIn K cd4 d_Grants__need.q = true) (k4 : PySem.W.keepIn K (.ref f4) = true)
  {f5 : Addr} {od5 an5 : Option Addr} {sl5 : Array (Option Value)} {oc5 kV5 dc5 pm5 cd5 ct5 : Value}
  (a5 : PySem.W.findIn K (.ref C0) "give" = some (some (.ref f5))) (i5 : PySem.W.isFn K (.ref f5) = true) (l5 : K.lookup f5 = some ⟨oc5, od5, .func (PySem.W.fnOf d_Grants_give.x d_Grants_give.q (defArgs d_Grants_give.st) (defBody d_Grants_give.st) (defScope d_Grants_give.st) .none kV5 dc5 pm5 an5 cd5 ct5), sl5⟩) (c5 : PySem.W.codeIn K cd5 d_Grants_give.q = true) (k5 : PySem.W.keepIn K (.ref f5) = true)
  {f6 : Addr} {od6 an6 : Option Addr} {sl6 : Array (Option Value)} {oc6 kV6 dc6 pm6 cd6 ct6 : Value}
  (a6 : PySem.W.findIn K (.ref C0) "pass_on" = some (some (.ref f6))) (i6 : PySem.W.isFn K (.ref f6) = true) (l6 : K.lookup f6 = some ⟨oc6, od6, .func (PySem.W.fnOf d_Grants_pass_on.x d_Grants_pass_on.q (defArgs d_Grants_pass_on.st) (defBody d_Grants_pass_on.st) (defScope d_Grants_pass_on.st) .none kV6 dc6 pm6 an6 cd6 ct6), sl6⟩) (c6 : PySem.W.codeIn K cd6 d_Grants_pass_on.q = true) (k6 : PySem.W.keepIn K (.ref f6) = true)
  {f7 : Addr} {od7 an7 : Option Addr} {sl7 : Array (Option Value)} {oc7 kV7 dc7 pm7 cd7 ct7 : Value}
  (a7 : PySem.W.findIn K (.ref C0) "revoke" = some (some (.ref f7))) (i7 : PySem.W.isFn K (.ref f7) = true) (l7 : K.lookup f7 = some ⟨oc7, od7, .func (PySem.W.fnOf d_Grants_revoke.x d_Grants_revoke.q (defArgs d_Grants_revoke.st) (defBody d_Grants_revoke.st) (defScope d_Grants_revoke.st) .none kV7 dc7 pm7 an7 cd7 ct7), sl7⟩) (c7 : PySem.W.codeIn K cd7 d_Grants_revoke.q = true) (k7 : PySem.W.keepIn K (.ref f7) = true)
  {f8 : Addr} {od8 an8 : Option Addr} {sl8 : Array (Option Value)} {oc8 kV8 dc8 pm8 cd8 ct8 : Value}
  (a8 : PySem.W.findIn K (.ref C0) "standing" = some (some (.ref f8))) (i8 : PySem.W.isFn K (.ref f8) = true) (l8 : K.lookup f8 = some ⟨oc8, od8, .func (PySem.W.fnOf d_Grants_standing.x d_Grants_standing.q (defArgs d_Grants_standing.st) (defBody d_Grants_standing.st) (defScope d_Grants_standing.st) .none kV8 dc8 pm8 an8 cd8 ct8), sl8⟩) (c8 : PySem.W.codeIn K cd8 d_Grants_standing.q = true) (k8 : PySem.W.keepIn K (.ref f8) = true)
  {f9 : Addr} {od9 an9 : Option Addr} {sl9 : Array (Option Value)} {oc9 kV9 dc9 pm9 cd9 ct9 : Value}
  (a9 : PySem.W.findIn K (.ref C0) "chain" = some (some (.ref f9))) (i9 : PySem.W.isFn K (.ref f9) = true) (l9 : K.lookup f9 = some ⟨oc9, od9, .func (PySem.W.fnOf d_Grants_chain.x d_Grants_chain.q (defArgs d_Grants_chain.st) (defBody d_Grants_chain.st) (defScope d_Grants_chain.st) .none kV9 dc9 pm9 an9 cd9 ct9), sl9⟩) (c9 : PySem.W.codeIn K cd9 d_Grants_chain.q = true) (k9 : PySem.W.keepIn K (.ref f9) = true)
  {f10 : Addr} {od10 an10 : Option Addr} {sl10 : Array (Option Value)} {oc10 kV10 dc10 pm10 cd10 ct10 : Value}
  (a10 : PySem.W.findIn K (.ref C0) "_rule" = some (some (.ref f10))) (i10 : PySem.W.isFn K (.ref f10) = true) (l10 : K.lookup f10 = some ⟨oc10, od10, .func (PySem.W.fnOf d_Grants__rule.x d_Grants__rule.q (defArgs d_Grants__rule.st) (defBody d_Grants__rule.st) (defScope d_Grants__rule.st) .none kV10 dc10 pm10 an10 cd10 ct10), sl10⟩) (c10 : PySem.W.codeIn K cd10 d_Grants__rule.q = true) (k10 : PySem.W.keepIn K (.ref f10) = true)
  {f11 : Addr} {od11 an11 : Option Addr} {sl11 : Array (Option Value)} {oc11 kV11 dc11 pm11 cd11 ct11 : Value}
  (a11 : PySem.W.findIn K (.ref C0) "rules" = some (some (.ref f11))) (i11 : PySem.W.isFn K (.ref f11) = true) (l11 : K.lookup f11 = some ⟨oc11, od11, .func (PySem.W.fnOf d_Grants_rules.x d_Grants_rules.q (defArgs d_Grants_rules.st) (defBody d_Grants_rules.st) (defScope d_Grants_rules.st) .none kV11 dc11 pm11 an11 cd11 ct11), sl11⟩) (c11 : PySem.W.codeIn K cd11 d_Grants_rules.q = true) (k11 : PySem.W.keepIn K (.ref f11) = true)
  {f12 : Addr} {od12 an12 : Option Addr} {sl12 : Array (Option Value)} {oc12 kV12 dc12 pm12 cd12 ct12 : Value}
  (a12 : PySem.W.findIn K (.ref C0) "records" = some (some (.ref f12))) (i12 : PySem.W.isFn K (.ref f12) = true) (l12 : K.lookup f12 = some ⟨oc12, od12, .func (PySem.W.fnOf d_Grants_records.x d_Grants_records.q (defArgs d_Grants_records.st) (defBody d_Grants_records.st) (defScope d_Grants_records.st) .none kV12 dc12 pm12 an12 cd12 ct12), sl12⟩) (c12 : PySem.W.codeIn K cd12 d_Grants_records.q = true) (k12 : PySem.W.keepIn K (.ref f12) = true)
  {f13 : Addr} {od13 an13 : Option Addr} {sl13 : Array (Option Value)} {oc13 kV13 dc13 pm13 cd13 ct13 : Value}
  (a13 : PySem.W.nsIn K mainGlobals "_law_draws" = some (some (.ref f13))) (l13 : K.lookup f13 = some ⟨oc13, od13, .func (PySem.W.fnOf d__law_draws.x d__law_draws.q (defArgs d__law_draws.st) (defBody d__law_draws.st) (defScope d__law_draws.st) .none kV13 dc13 pm13 an13 cd13 ct13), sl13⟩) (c13 : PySem.W.codeIn K cd13 d__law_draws.q = true) (k13 : PySem.W.keepIn K (.ref f13) = true)
  {f14 : Addr} {od14 an14 : Option Addr} {sl14 : Array (Option Value)} {oc14 kV14 dc14 pm14 cd14 ct14 : Value}
  (a14 : PySem.W.nsIn K mainGlobals "_law_take" = some (some (.ref f14))) (l14 : K.lookup f14 = some ⟨oc14, od14, .func (PySem.W.fnOf d__law_take.x d__law_take.q (defArgs d__law_take.st) (defBody d__law_take.st) (defScope d__law_take.st) .none kV14 dc14 pm14 an14 cd14 ct14), sl14⟩) (c14 : PySem.W.codeIn K cd14 d__law_take.q = true) (k14 : PySem.W.keepIn K (.ref f14) = true)
  {f15 : Addr} {od15 an15 : Option Addr} {sl15 : Array (Option Value)} {oc15 kV15 dc15 pm15 cd15 ct15 : Value}
  (a15 : PySem.W.nsIn K mainGlobals "_law_word" = some (some (.ref f15))) (l15 : K.lookup f15 = some ⟨oc15, od15, .func (PySem.W.fnOf d__law_word.x d__law_word.q (defArgs d__law_word.st) (defBody d__law_word.st) (defScope d__law_word.st) .none kV15 dc15 pm15 an15 cd15 ct15), sl15⟩) (c15 : PySem.W.codeIn K cd15 d__law_word.q = true) (k15 : PySem.W.keepIn K (.ref f15) = true)
  {f16 : Addr} {od16 an16 : Option Addr} {sl16 : Array (Option Value)} {oc16 kV16 dc16 pm16 cd16 ct16 : Value}
  (a16 : PySem.W.nsIn K mainGlobals "_law_pool" = some (some (.ref f16))) (l16 : K.lookup f16 = some ⟨oc16, od16, .func (PySem.W.fnOf d__law_pool.x d__law_pool.q (defArgs d__law_pool.st) (defBody d__law_pool.st) (defScope d__law_pool.st) .none kV16 dc16 pm16 an16 cd16 ct16), sl16⟩) (c16 : PySem.W.codeIn K cd16 d__law_pool.q = true) (k16 : PySem.W.keepIn K (.ref f16) = true)
  {f17 : Addr} {od17 an17 : Option Addr} {sl17 : Array (Option Value)} {oc17 kV17 dc17 pm17 cd17 ct17 : Value}
  (a17 : PySem.W.nsIn K mainGlobals "_law_world" = some (some (.ref f17))) (l17 : K.lookup f17 = some ⟨oc17, od17, .func (PySem.W.fnOf d__law_world.x d__law_world.q (defArgs d__law_world.st) (defBody d__law_world.st) (defScope d__law_world.st) .none kV17 dc17 pm17 an17 cd17 ct17), sl17⟩) (c17 : PySem.W.codeIn K cd17 d__law_world.q = true) (k17 : PySem.W.keepIn K (.ref f17) = true)
  {f18 : Addr} {od18 an18 : Option Addr} {sl18 : Array (Option Value)} {oc18 kV18 dc18 pm18 cd18 ct18 : Value}
  (a18 : PySem.W.nsIn K mainGlobals "_law_chosen" = some (some (.ref f18))) (l18 : K.lookup f18 = some ⟨oc18, od18, .func (PySem.W.fnOf d__law_chosen.x d__law_chosen.q (defArgs d__law_chosen.st) (defBody d__law_chosen.st) (defScope d__law_chosen.st) .none kV18 dc18 pm18 an18 cd18 ct18), sl18⟩) (c18 : PySem.W.codeIn K cd18 d__law_chosen.q = true) (k18 : PySem.W.keepIn K (.ref f18) = true)
  {f19 : Addr} {od19 an19 : Option Addr} {sl19 : Array (Option Value)} {oc19 kV19 dc19 pm19 cd19 ct19 : Value}
  (a19 : PySem.W.nsIn K mainGlobals "_law_leaf" = some (some (.ref f19))) (l19 : K.lookup f19 = some ⟨oc19, od19, .func (PySem.W.fnOf d__law_leaf.x d__law_leaf.q (defArgs d__law_leaf.st) (defBody d__law_leaf.st) (defScope d__law_leaf.st) .none kV19 dc19 pm19 an19 cd19 ct19), sl19⟩) (c19 : PySem.W.codeIn K cd19 d__law_leaf.q = true) (k19 : PySem.W.keepIn K (.ref f19) = true)
  {f20 : Addr} {od20 an20 : Option Addr} {sl20 : Array (Option Value)} {oc20 kV20 dc20 pm20 cd20 ct20 : Value}
  (a20 : PySem.W.nsIn K mainGlobals "_law_number" = some (some (.ref f20))) (l20 : K.lookup f20 = some ⟨oc20, od20, .func (PySem.W.fnOf d__law_number.x d__law_number.q (defArgs d__law_number.st) (defBody d__law_number.st) (defScope d__law_number.st) .none kV20 dc20 pm20 an20 cd20 ct20), sl20⟩) (c20 : PySem.W.codeIn K cd20 d__law_number.q = true) (k20 : PySem.W.keepIn K (.ref f20) = true)
  {f21 : Addr} {od21 an21 : Option Addr} {sl21 : Array (Option Value)} {oc21 kV21 dc21 pm21 cd21 ct21 : Value}
  (a21 : PySem.W.nsIn K mainGlobals "_law_chain" = some (some (.ref f21))) (l21 : K.lookup f21 = some ⟨oc21, od21, .func (PySem.W.fnOf d__law_chain.x d__law_chain.q (defArgs d__law_chain.st) (defBody d__law_chain.st) (defScope d__law_chain.st) .none kV21 dc21 pm21 an21 cd21 ct21), sl21⟩) (c21 : PySem.W.codeIn K cd21 d__law_chain.q = true) (k21 : PySem.W.keepIn K (.ref f21) = true)
  {f22 : Addr} {od22 an22 : Option Addr} {sl22 : Array (Option Value)} {oc22 kV22 dc22 pm22 cd22 ct22 : Value}
  (a22 : PySem.W.nsIn K mainGlobals "_law_stands" = some (some (.ref f22))) (l22 : K.lookup f22 = some ⟨oc22, od22, .func (PySem.W.fnOf d__law_stands.x d__law_stands.q (defArgs d__law_stands.st) (defBody d__law_stands.st) (defScope d__law_stands.st) .none kV22 dc22 pm22 an22 cd22 ct22), sl22⟩) (c22 : PySem.W.codeIn K cd22 d__law_stands.q = true) (k22 : PySem.W.keepIn K (.ref f22) = true)
  {f23 : Addr} {od23 an23 : Option Addr} {sl23 : Array (Option Value)} {oc23 kV23 dc23 pm23 cd23 ct23 : Value}
  (a23 : PySem.W.nsIn K mainGlobals "_law_due" = some (some (.ref f23))) (l23 : K.lookup f23 = some ⟨oc23, od23, .func (PySem.W.fnOf d__law_due.x d__law_due.q (defArgs d__law_due.st) (defBody d__law_due.st) (defScope d__law_due.st) .none kV23 dc23 pm23 an23 cd23 ct23), sl23⟩) (c23 : PySem.W.codeIn K cd23 d__law_due.q = true) (k23 : PySem.W.keepIn K (.ref f23) = true)
  {f24 : Addr} {od24 an24 : Option Addr} {sl24 : Array (Option Value)} {oc24 kV24 dc24 pm24 cd24 ct24 : Value}
  (a24 : PySem.W.nsIn K mainGlobals "_law_are_records" = some (some (.ref f24))) (l24 : K.lookup f24 = some ⟨oc24, od24, .func (PySem.W.fnOf d__law_are_records.x d__law_are_records.q (defArgs d__law_are_records.st) (defBody d__law_are_records.st) (defScope d__law_are_records.st) .none kV24 dc24 pm24 an24 cd24 ct24), sl24⟩) (c24 : PySem.W.codeIn K cd24 d__law_are_records.q = true) (k24 : PySem.W.keepIn K (.ref f24) = true)
  {f25 : Addr} {od25 an25 : Option Addr} {sl25 : Array (Option Value)} {oc25 kV25 dc25 pm25 cd25 ct25 : Value}
  (a25 : PySem.W.nsIn K mainGlobals "_law_is_count" = some (some (.ref f25))) (l25 : K.lookup f25 = some ⟨oc25, od25, .func (PySem.W.fnOf d__law_is_count.x d__law_is_count.q (defArgs d__law_is_count.st) (defBody d__law_is_count.st) (defScope d__law_is_count.st) .none kV25 dc25 pm25 an25 cd25 ct25), sl25⟩) (c25 : PySem.W.codeIn K cd25 d__law_is_count.q = true) (k25 : PySem.W.keepIn K (.ref f25) = true)
  {f26 : Addr} {od26 an26 : Option Addr} {sl26 : Array (Option Value)} {oc26 kV26 dc26 pm26 cd26 ct26 : Value}
  (a26 : PySem.W.nsIn K mainGlobals "_law_is_tuple" = some (some (.ref f26))) (l26 : K.lookup f26 = some ⟨oc26, od26, .func (PySem.W.fnOf d__law_is_tuple.x d__law_is_tuple.q (defArgs d__law_is_tuple.st) (defBody d__law_is_tuple.st) (defScope d__law_is_tuple.st) .none kV26 dc26 pm26 an26 cd26 ct26), sl26⟩) (c26 : PySem.W.codeIn K cd26 d__law_is_tuple.q = true) (k26 : PySem.W.keepIn K (.ref f26) = true)
  {f27 : Addr} {od27 an27 : Option Addr} {sl27 : Array (Option Value)} {oc27 kV27 dc27 pm27 cd27 ct27 : Value}
  (a27 : PySem.W.nsIn K mainGlobals "_law_pass" = some (some (.ref f27))) (l27 : K.lookup f27 = some ⟨oc27, od27, .func (PySem.W.fnOf d__law_pass.x d__law_pass.q (defArgs d__law_pass.st) (defBody d__law_pass.st) (defScope d__law_pass.st) .none kV27 dc27 pm27 an27 cd27 ct27), sl27⟩) (c27 : PySem.W.codeIn K cd27 d__law_pass.q = true) (k27 : PySem.W.keepIn K (.ref f27) = true)
  {f28 : Addr} {od28 an28 : Option Addr} {sl28 : Array (Option Value)} {oc28 kV28 dc28 pm28 cd28 ct28 : Value}
  (a28 : PySem.W.nsIn K mainGlobals "_law_revoke" = some (some (.ref f28))) (l28 : K.lookup f28 = some ⟨oc28, od28, .func (PySem.W.fnOf d__law_revoke.x d__law_revoke.q (defArgs d__law_revoke.st) (defBody d__law_revoke.st) (defScope d__law_revoke.st) .none kV28 dc28 pm28 an28 cd28 ct28), sl28⟩) (c28 : PySem.W.codeIn K cd28 d__law_revoke.q = true) (k28 : PySem.W.keepIn K (.ref f28) = true)
  {f29 : Addr} {od29 an29 : Option Addr} {sl29 : Array (Option Value)} {oc29 kV29 dc29 pm29 cd29 ct29 : Value}
  (a29 : PySem.W.nsIn K mainGlobals "_law_grant_deed" = some (some (.ref f29))) (l29 : K.lookup f29 = some ⟨oc29, od29, .func (PySem.W.fnOf d__law_grant_deed.x d__law_grant_deed.q (defArgs d__law_grant_deed.st) (defBody d__law_grant_deed.st) (defScope d__law_grant_deed.st) .none kV29 dc29 pm29 an29 cd29 ct29), sl29⟩) (c29 : PySem.W.codeIn K cd29 d__law_grant_deed.q = true) (k29 : PySem.W.keepIn K (.ref f29) = true)
  {f30 : Addr} {od30 an30 : Option Addr} {sl30 : Array (Option Value)} {oc30 kV30 dc30 pm30 cd30 ct30 : Value}
  (a30 : PySem.W.nsIn K mainGlobals "_law_chain_told" = some (some (.ref f30))) (l30 : K.lookup f30 = some ⟨oc30, od30, .func (PySem.W.fnOf d__law_chain_told.x d__law_chain_told.q (defArgs d__law_chain_told.st) (defBody d__law_chain_told.st) (defScope d__law_chain_told.st) .none kV30 dc30 pm30 an30 cd30 ct30), sl30⟩) (c30 : PySem.W.codeIn K cd30 d__law_chain_told.q = true) (k30 : PySem.W.keepIn K (.ref f30) = true)
  {f31 : Addr} {od31 an31 : Option Addr} {sl31 : Array (Option Value)} {oc31 kV31 dc31 pm31 cd31 ct31 : Value}
  (a31 : PySem.W.nsIn K mainGlobals "_law_are_chains" = some (some (.ref f31))) (l31 : K.lookup f31 = some ⟨oc31, od31, .func (PySem.W.fnOf d__law_are_chains.x d__law_are_chains.q (defArgs d__law_are_chains.st) (defBody d__law_are_chains.st) (defScope d__law_are_chains.st) .none kV31 dc31 pm31 an31 cd31 ct31), sl31⟩) (c31 : PySem.W.codeIn K cd31 d__law_are_chains.q = true) (k31 : PySem.W.keepIn K (.ref f31) = true)
  {f32 : Addr} {od32 an32 : Option Addr} {sl32 : Array (Option Value)} {oc32 kV32 dc32 pm32 cd32 ct32 : Value}
  (a32 : PySem.W.nsIn K mainGlobals "law" = some (some (.ref f32))) (l32 : K.lookup f32 = some ⟨oc32, od32, .func (PySem.W.fnOf d_law.x d_law.q (defArgs d_law.st) (defBody d_law.st) (defScope d_law.st) .none kV32 dc32 pm32 an32 cd32 ct32), sl32⟩) (c32 : PySem.W.codeIn K cd32 d_law.q = true) (k32 : PySem.W.keepIn K (.ref f32) = true)
  (z0 : PySem.W.nsIn K mainGlobals "len" = some none)
  (z1 : PySem.W.nsIn K mainGlobals "int" = some none)
  (z2 : PySem.W.nsIn K mainGlobals "abs" = some none)
  (z3 : PySem.W.nsIn K mainGlobals "max" = some none)
  (z4 : PySem.W.nsIn K mainGlobals "min" = some none)
  (z5 : PySem.W.nsIn K mainGlobals "str" = some none)
  (z6 : PySem.W.nsIn K mainGlobals "tuple" = some none)
  (z7 : PySem.W.nsIn K mainGlobals "list" = some none)
  (z8 : PySem.W.nsIn K mainGlobals "sorted" = some none)
  (z9 : PySem.W.nsIn K mainGlobals "all" = some none)
  (z10 : PySem.W.nsIn K mainGlobals "any" = some none)
  (z11 : PySem.W.nsIn K mainGlobals "sum" = some none)
  (z12 : PySem.W.nsIn K mainGlobals "range" = some none)
  (z13 : PySem.W.nsIn K mainGlobals "isinstance" = some none)
  (z14 : PySem.W.nsIn K mainGlobals "bool" = some none)
  (z15 : PySem.W.nsIn K mainGlobals "enumerate" = some none)
  (z16 : PySem.W.nsIn K mainGlobals "zip" = some none)
  (z17 : PySem.W.nsIn K mainGlobals "set" = some none)
  : ∃ cl el, Top K mg defs globs clss errs cl el ∧ ∃ fd, FunA K d_law.x d_law.q d_law.st f32 fd := by
  have F0 := fun_mk (st := d__wall.st) l0 c0 k0
  have B0 := F0.binds (ps := d__wall.ps) fun _ _ _ _ _ _ us hl => match us, hl with | [_], _ => rfl
  have A0 : DefAt K d__wall f0 := ⟨_, F0.toA, B0, fun k hk => absurd hk (Nat.not_lt_zero _)⟩
  have F1 : L2.FunD K d_Grants___init__.x d_Grants___init__.q (defArgs d_Grants___init__.st) (defBody d_Grants___init__.st) (defScope d_Grants___init__.st) [(.ref e1_0)] [] f1 (PySem.W.fnOf d_Grants___init__.x d_Grants___init__.q (defArgs d_Grants___init__.st) (defBody d_Grants___init__.st) (defScope d_Grants___init__.st) (.ref T1) kV1 dc1 pm1 an1 cd1 ct1) := ⟨⟨_, _, _, _, _, _, _, _, _, _, rfl, l1, c1, .inr ⟨by simp, _, _, [(.ref e1_0)], _, rfl, lt1, rfl, (.cons rfl .nil)⟩, .inl rfl⟩, k1⟩
  have B1 : Binds K (PySem.W.fnOf d_Grants___init__.x d_Grants___init__.q (defArgs d_Grants___init__.st) (defBody d_Grants___init__.st) (defScope d_Grants___init__.st) (.ref T1) kV1 dc1 pm1 an1 cd1 ct1) d_Grants___init__.ps [] := by
    obtain ⟨ds, hv, hb⟩ := F1.binds1 (ps := d_Grants___init__.ps) 2 1 (by simp) rfl (fun _ _ _ _ _ _ _ us its h1 h2 => match us, its, h1, h2 with | [_, _], [_], _, _ => ⟨_, rfl, rfl⟩)
    cases hv
    exact hb
  have A1 : DefAt K d_Grants___init__ f1 := by
    refine ⟨_, F1.toA, B1, fun k hk => ?_⟩
    rcases k with _ | k
    · obtain ⟨ds, hv, hb⟩ := F1.binds1 (ps := d_Grants___init__.ps) 1 0 (by simp) rfl (fun _ _ _ _ _ _ _ us its h1 h2 => match us, its, h1, h2 with | [_], [_], _, _ => ⟨_, rfl, rfl⟩)
      exact ⟨ds, _, hb, hv, fun G => (.cons (.tup (.inr ⟨_, _, _, le1_0, rfl, rfl, by simp, .nil⟩) .nil) .nil)⟩
    · exact absurd hk (by simp [d_Grants___init__])
  have F2 := fun_mk (st := d_Grants__make.st) l2 c2 k2
  have B2 := F2.binds (ps := d_Grants__make.ps) fun _ _ _ _ _ _ us hl => match us, hl with | [_, _, _, _, _], _ => rfl
  have A2 : DefAt K d_Grants__make f2 := ⟨_, F2.toA, B2, fun k hk => absurd hk (Nat.not_lt_zero _)⟩
  have F3 := fun_mk (st := d_Grants__stands.st) l3 c3 k3
  have B3 := F3.binds (ps := d_Grants__stands.ps) fun _ _ _ _ _ _ us hl => match us, hl with | [_, _], _ => rfl
  have A3 : DefAt K d_Grants__stands f3 := ⟨_, F3.toA, B3, fun k hk => absurd hk (Nat.not_lt_zero _)⟩
  have F4 := fun_mk (st := d_Grants__need.st) l4 c4 k4
  have B4 := F4.binds (ps := d_Grants__need.ps) fun _ _ _ _ _ _ us hl => match us, hl with | [_, _], _ => rfl
  have A4 : DefAt K d_Grants__need f4 := ⟨_, F4.toA, B4, fun k hk => absurd hk (Nat.not_lt_zero _)⟩
  have F5 := fun_mk (st := d_Grants_give.st) l5 c5 k5
  have B5 := F5.binds (ps := d_Grants_give.ps) fun _ _ _ _ _ _ us hl => match us, hl with | [_, _, _, _], _ => rfl
  have A5 : DefAt K d_Grants_give f5 := ⟨_, F5.toA, B5, fun k hk => absurd hk (Nat.not_lt_zero _)⟩
  have F6 := fun_mk (st := d_Grants_pass_on.st) l6 c6 k6
  have B6 := F6.binds (ps := d_Grants_pass_on.ps) fun _ _ _ _ _ _ us hl => match us, hl with | [_, _, _, _], _ => rfl
  have A6 : DefAt K d_Grants_pass_on f6 := ⟨_, F6.toA, B6, fun k hk => absurd hk (Nat.not_lt_zero _)⟩
  have F7 := fun_mk (st := d_Grants_revoke.st) l7 c7 k7
  have B7 := F7.binds (ps := d_Grants_revoke.ps) fun _ _ _ _ _ _ us hl => match us, hl with | [_, _], _ => rfl
  have A7 : DefAt K d_Grants_revoke f7 := ⟨_, F7.toA, B7, fun k hk => absurd hk (Nat.not_lt_zero _)⟩
  have F8 := fun_mk (st := d_Grants_standing.st) l8 c8 k8
  have B8 := F8.binds (ps := d_Grants_standing.ps) fun _ _ _ _ _ _ us hl => match us, hl with | [_], _ => rfl
  have A8 : DefAt K d_Grants_standing f8 := ⟨_, F8.toA, B8, fun k hk => absurd hk (Nat.not_lt_zero _)⟩
  have F9 := fun_mk (st := d_Grants_chain.st) l9 c9 k9
  have B9 := F9.binds (ps := d_Grants_chain.ps) fun _ _ _ _ _ _ us hl => match us, hl with | [_, _], _ => rfl
  have A9 : DefAt K d_Grants_chain f9 := ⟨_, F9.toA, B9, fun k hk => absurd hk (Nat.not_lt_zero _)⟩
  have F10 := fun_mk (st := d_Grants__rule.st) l10 c10 k10
  have B10 := F10.binds (ps := d_Grants__rule.ps) fun _ _ _ _ _ _ us hl => match us, hl with | [_, _], _ => rfl
  have A10 : DefAt K d_Grants__rule f10 := ⟨_, F10.toA, B10, fun k hk => absurd hk (Nat.not_lt_zero _)⟩
  have F11 := fun_mk (st := d_Grants_rules.st) l11 c11 k11
  have B11 := F11.binds (ps := d_Grants_rules.ps) fun _ _ _ _ _ _ us hl => match us, hl with | [_], _ => rfl
  have A11 : DefAt K d_Grants_rules f11 := ⟨_, F11.toA, B11, fun k hk => absurd hk (Nat.not_lt_zero _)⟩
  have F12 := fun_mk (st := d_Grants_records.st) l12 c12 k12
  have B12 := F12.binds (ps := d_Grants_records.ps) fun _ _ _ _ _ _ us hl => match us, hl with | [_], _ => rfl
  have A12 : DefAt K d_Grants_records f12 := ⟨_, F12.toA, B12, fun k hk => absurd hk (Nat.not_lt_zero _)⟩
  have F13 := fun_mk (st := d__law_draws.st) l13 c13 k13
  have B13 := F13.binds (ps := d__law_draws.ps) fun _ _ _ _ _ _ us hl => match us, hl with | [_, _], _ => rfl
  have A13 : DefAt K d__law_draws f13 := ⟨_, F13.toA, B13, fun k hk => absurd hk (Nat.not_lt_zero _)⟩
  have F14 := fun_mk (st := d__law_take.st) l14 c14 k14
  have B14 := F14.binds (ps := d__law_take.ps) fun _ _ _ _ _ _ us hl => match us, hl with | [_, _], _ => rfl
  have A14 : DefAt K d__law_take f14 := ⟨_, F14.toA, B14, fun k hk => absurd hk (Nat.not_lt_zero _)⟩
  have F15 := fun_mk (st := d__law_word.st) l15 c15 k15
  have B15 := F15.binds (ps := d__law_word.ps) fun _ _ _ _ _ _ us hl => match us, hl with | [_], _ => rfl
  have A15 : DefAt K d__law_word f15 := ⟨_, F15.toA, B15, fun k hk => absurd hk (Nat.not_lt_zero _)⟩
  have F16 := fun_mk (st := d__law_pool.st) l16 c16 k16
  have B16 := F16.binds (ps := d__law_pool.ps) fun _ _ _ _ _ _ us hl => match us, hl with | [_, _, _], _ => rfl
  have A16 : DefAt K d__law_pool f16 := ⟨_, F16.toA, B16, fun k hk => absurd hk (Nat.not_lt_zero _)⟩
  have F17 := fun_mk (st := d__law_world.st) l17 c17 k17
  have B17 := F17.binds (ps := d__law_world.ps) fun _ _ _ _ _ _ us hl => match us, hl with | [_, _, _], _ => rfl
  have A17 : DefAt K d__law_world f17 := ⟨_, F17.toA, B17, fun k hk => absurd hk (Nat.not_lt_zero _)⟩
  have F18 := fun_mk (st := d__law_chosen.st) l18 c18 k18
  have B18 := F18.binds (ps := d__law_chosen.ps) fun _ _ _ _ _ _ us hl => match us, hl with | [_, _], _ => rfl
  have A18 : DefAt K d__law_chosen f18 := ⟨_, F18.toA, B18, fun k hk => absurd hk (Nat.not_lt_zero _)⟩
  have F19 := fun_mk (st := d__law_leaf.st) l19 c19 k19
  have B19 := F19.binds (ps := d__law_leaf.ps) fun _ _ _ _ _ _ us hl => match us, hl with | [_, _, _], _ => rfl
  have A19 : DefAt K d__law_leaf f19 := ⟨_, F19.toA, B19, fun k hk => absurd hk (Nat.not_lt_zero _)⟩
  have F20 := fun_mk (st := d__law_number.st) l20 c20 k20
  have B20 := F20.binds (ps := d__law_number.ps) fun _ _ _ _ _ _ us hl => match us, hl with | [_, _, _], _ => rfl
  have A20 : DefAt K d__law_number f20 := ⟨_, F20.toA, B20, fun k hk => absurd hk (Nat.not_lt_zero _)⟩
  have F21 := fun_mk (st := d__law_chain.st) l21 c21 k21
  have B21 := F21.binds (ps := d__law_chain.ps) fun _ _ _ _ _ _ us hl => match us, hl with | [_, _], _ => rfl
  have A21 : DefAt K d__law_chain f21 := ⟨_, F21.toA, B21, fun k hk => absurd hk (Nat.not_lt_zero _)⟩
  have F22 := fun_mk (st := d__law_stands.st) l22 c22 k22
  have B22 := F22.binds (ps := d__law_stands.ps) fun _ _ _ _ _ _ us hl => match us, hl with | [_, _], _ => rfl
  have A22 : DefAt K d__law_stands f22 := ⟨_, F22.toA, B22, fun k hk => absurd hk (Nat.not_lt_zero _)⟩
  have F23 := fun_mk (st := d__law_due.st) l23 c23 k23
  have B23 := F23.binds (ps := d__law_due.ps) fun _ _ _ _ _ _ us hl => match us, hl with | [_], _ => rfl
  have A23 : DefAt K d__law_due f23 := ⟨_, F23.toA, B23, fun k hk => absurd hk (Nat.not_lt_zero _)⟩
  have F24 := fun_mk (st := d__law_are_records.st) l24 c24 k24
  have B24 := F24.binds (ps := d__law_are_records.ps) fun _ _ _ _ _ _ us hl => match us, hl with | [_, _], _ => rfl
  have A24 : DefAt K d__law_are_records f24 := ⟨_, F24.toA, B24, fun k hk => absurd hk (Nat.not_lt_zero _)⟩
  have F25 := fun_mk (st := d__law_is_count.st) l25 c25 k25
  have B25 := F25.binds (ps := d__law_is_count.ps) fun _ _ _ _ _ _ us hl => match us, hl with | [_, _], _ => rfl
  have A25 : DefAt K d__law_is_count f25 := ⟨_, F25.toA, B25, fun k hk => absurd hk (Nat.not_lt_zero _)⟩
  have F26 := fun_mk (st := d__law_is_tuple.st) l26 c26 k26
  have B26 := F26.binds (ps := d__law_is_tuple.ps) fun _ _ _ _ _ _ us hl => match us, hl with | [_, _], _ => rfl
  have A26 : DefAt K d__law_is_tuple f26 := ⟨_, F26.toA, B26, fun k hk => absurd hk (Nat.not_lt_zero _)⟩
  have F27 := fun_mk (st := d__law_pass.st) l27 c27 k27
  have B27 := F27.binds (ps := d__law_pass.ps) fun _ _ _ _ _ _ us hl => match us, hl with | [_, _, _, _], _ => rfl
  have A27 : DefAt K d__law_pass f27 := ⟨_, F27.toA, B27, fun k hk => absurd hk (Nat.not_lt_zero _)⟩
  have F28 := fun_mk (st := d__law_revoke.st) l28 c28 k28
  have B28 := F28.binds (ps := d__law_revoke.ps) fun _ _ _ _ _ _ us hl => match us, hl with | [_, _], _ => rfl
  have A28 : DefAt K d__law_revoke f28 := ⟨_, F28.toA, B28, fun k hk => absurd hk (Nat.not_lt_zero _)⟩
  have F29 := fun_mk (st := d__law_grant_deed.st) l29 c29 k29
  have B29 := F29.binds (ps := d__law_grant_deed.ps) fun _ _ _ _ _ _ us hl => match us, hl with | [_, _, _, _, _, _, _], _ => rfl
  have A29 : DefAt K d__law_grant_deed f29 := ⟨_, F29.toA, B29, fun k hk => absurd hk (Nat.not_lt_zero _)⟩
  have F30 := fun_mk (st := d__law_chain_told.st) l30 c30 k30
  have B30 := F30.binds (ps := d__law_chain_told.ps) fun _ _ _ _ _ _ us hl => match us, hl with | [_, _], _ => rfl
  have A30 : DefAt K d__law_chain_told f30 := ⟨_, F30.toA, B30, fun k hk => absurd hk (Nat.not_lt_zero _)⟩
  have F31 := fun_mk (st := d__law_are_chains.st) l31 c31 k31
  have B31 := F31.binds (ps := d__law_are_chains.ps) fun _ _ _ _ _ _ us hl => match us, hl with | [_, _, _], _ => rfl
  have A31 : DefAt K d__law_are_chains f31 := ⟨_, F31.toA, B31, fun k hk => absurd hk (Nat.not_lt_zero _)⟩
  have F32 := fun_mk (st := d_law.st) l32 c32 k32
  have B32 := F32.binds (ps := d_law.ps) fun _ _ _ _ _ _ us hl => match us, hl with | [_], _ => rfl
  have A32 : DefAt K d_law f32 := ⟨_, F32.toA, B32, fun k hk => absurd hk (Nat.not_lt_zero _)⟩
  refine ⟨[C0], [none, none, none, none, none, none, none, none, some E8, some E9, none, none, none, none], ⟨fun j d hd hm => ?_, fun x u _ hx => ?_, fun x d hd => ?_, fun c p hp => ?_, fun c p hp => ?_, fun c C hc => ?_, rfl⟩, _, F32.toA⟩
  · unfold defs at hd
    cases j with
    | zero =>
      cases hd
      exact ⟨_, A0, PySem.W.mg_of X G a0⟩
    | succ j =>
    rw [List.getElem?_cons_succ] at hd
    cases j with
    | zero =>
      cases hd
      cases hm
    | succ j =>
    rw [List.getElem?_cons_succ] at hd
    cases j with
    | zero =>
      cases hd
      cases hm
    | succ j =>
    rw [List.getElem?_cons_succ] at hd
    cases j with
    | zero =>
      cases hd
      cases hm
    | succ j =>
    rw [List.getElem?_cons_succ] at hd
    cases j with
    | zero =>
      cases hd
      cases hm
    | succ j =>
    rw [List.getElem?_cons_succ] at hd
    cases j with
    | zero =>
      cases hd
      cases hm
    | succ j =>
    rw [List.getElem?_cons_succ] at hd
    cases j with
    | zero =>
      cases hd
      cases hm
    | succ j =>
    rw [List.getElem?_cons_succ] at hd
    cases j with
    | zero =>
      cases hd
      cases hm
    | succ j =>
    rw [List.getElem?_cons_succ] at hd
    cases j with
    | zero =>
      cases hd
      cases hm
    | succ j =>
    rw [List.getElem?_cons_succ] at hd
    cases j with
    | zero =>
      cases hd
      cases hm
    | succ j =>
    rw [List.getElem?_cons_succ] at hd
    cases j with
    | zero =>
      cases hd
      cases hm
    | succ j =>
    rw [List.getElem?_cons_succ] at hd
    cases j with
    | zero =>
      cases hd
      cases hm
    | succ j =>
    rw [List.getElem?_cons_succ] at hd
    cases j with
    | zero =>
      cases hd
      cases hm
    | succ j =>
    rw [List.getElem?_cons_succ] at hd
    cases j with
    | zero =>
      cases hd
      exact ⟨_, A13, PySem.W.mg_of X G a13⟩
    | succ j =>
    rw [List.getElem?_cons_succ] at hd
    cases j with
    | zero =>
      cases hd
      exact ⟨_, A14, PySem.W.mg_of X G a14⟩
    | succ j =>
    rw [List.getElem?_cons_succ] at hd
    cases j with
    | zero =>
      cases hd
      exact ⟨_, A15, PySem.W.mg_of X G a15⟩
    | succ j =>
    rw [List.getElem?_cons_succ] at hd
    cases j with
    | zero =>
      cases hd
      exact ⟨_, A16, PySem.W.mg_of X G a16⟩
    | succ j =>
    rw [List.getElem?_cons_succ] at hd
    cases j with
    | zero =>
      cases hd
      exact ⟨_, A17, PySem.W.mg_of X G a17⟩
    | succ j =>
    rw [List.getElem?_cons_succ] at hd
    cases j with
    | zero =>
      cases hd
      exact ⟨_, A18, PySem.W.mg_of X G a18⟩
    | succ j =>
    rw [List.getElem?_cons_succ] at hd
    cases j with
    | zero =>
      cases hd
      exact ⟨_, A19, PySem.W.mg_of X G a19⟩
    | succ j =>
    rw [List.getElem?_cons_succ] at hd
    cases j with
    | zero =>
      cases hd
      exact ⟨_, A20, PySem.W.mg_of X G a20⟩
    | succ j =>
    rw [List.getElem?_cons_succ] at hd
    cases j with
    | zero =>
      cases hd
      exact ⟨_, A21, PySem.W.mg_of X G a21⟩
    | succ j =>
    rw [List.getElem?_cons_succ] at hd
    cases j with
    | zero =>
      cases hd
      exact ⟨_, A22, PySem.W.mg_of X G a22⟩
    | succ j =>
    rw [List.getElem?_cons_succ] at hd
    cases j with
    | zero =>
      cases hd
      exact ⟨_, A23, PySem.W.mg_of X G a23⟩
    | succ j =>
    rw [List.getElem?_cons_succ] at hd
    cases j with
    | zero =>
      cases hd
      exact ⟨_, A24, PySem.W.mg_of X G a24⟩
    | succ j =>
    rw [List.getElem?_cons_succ] at hd
    cases j with
    | zero =>
      cases hd
      exact ⟨_, A25, PySem.W.mg_of X G a25⟩
    | succ j =>
    rw [List.getElem?_cons_succ] at hd
    cases j with
    | zero =>
      cases hd
      exact ⟨_, A26, PySem.W.mg_of X G a26⟩
    | succ j =>
    rw [List.getElem?_cons_succ] at hd
    cases j with
    | zero =>
      cases hd
      exact ⟨_, A27, PySem.W.mg_of X G a27⟩
    | succ j =>
    rw [List.getElem?_cons_succ] at hd
    cases j with
    | zero =>
      cases hd
      exact ⟨_, A28, PySem.W.mg_of X G a28⟩
    | succ j =>
    rw [List.getElem?_cons_succ] at hd
    cases j with
    | zero =>
      cases hd
      exact ⟨_, A29, PySem.W.mg_of X G a29⟩
    | succ j =>
    rw [List.getElem?_cons_succ] at hd
    cases j with
    | zero =>
      cases hd
      exact ⟨_, A30, PySem.W.mg_of X G a30⟩
    | succ j =>
    rw [List.getElem?_cons_succ] at hd
    cases j with
    | zero =>
      cases hd
      exact ⟨_, A31, PySem.W.mg_of X G a31⟩
    | succ j =>
    rw [List.getElem?_cons_succ] at hd
    cases j with
    | zero =>
      cases hd
      exact ⟨_, A32, PySem.W.mg_of X G a32⟩
    | succ j =>
    rw [List.getElem?_cons_succ] at hd
    cases hd
  · unfold bltNames at hx
    rcases List.mem_cons.mp hx with rfl | hx
    · exact PySem.W.mg_none_of X G z0
    rcases List.mem_cons.mp hx with rfl | hx
    · exact PySem.W.mg_none_of X G z1
    rcases List.mem_cons.mp hx with rfl | hx
    · exact PySem.W.mg_none_of X G z2
    rcases List.mem_cons.mp hx with rfl | hx
    · exact PySem.W.mg_none_of X G z3
    rcases List.mem_cons.mp hx with rfl | hx
    · exact PySem.W.mg_none_of X G z4
    rcases List.mem_cons.mp hx with rfl | hx
    · exact PySem.W.mg_none_of X G z5
    rcases List.mem_cons.mp hx with rfl | hx
    · exact PySem.W.mg_none_of X G z6
    rcases List.mem_cons.mp hx with rfl | hx
    · exact PySem.W.mg_none_of X G z7
    rcases List.mem_cons.mp hx with rfl | hx
    · exact PySem.W.mg_none_of X G z8
    rcases List.mem_cons.mp hx with rfl | hx
    · exact PySem.W.mg_none_of X G z9
    rcases List.mem_cons.mp hx with rfl | hx
    · exact PySem.W.mg_none_of X G z10
    rcases List.mem_cons.mp hx with rfl | hx
    · exact PySem.W.mg_none_of X G z11
    rcases List.mem_cons.mp hx with rfl | hx
    · exact PySem.W.mg_none_of X G z12
    rcases List.mem_cons.mp hx with rfl | hx
    · exact PySem.W.mg_none_of X G z13
    rcases List.mem_cons.mp hx with rfl | hx
    · exact PySem.W.mg_none_of X G z14
    rcases List.mem_cons.mp hx with rfl | hx
    · exact PySem.W.mg_none_of X G z15
    rcases List.mem_cons.mp hx with rfl | hx
    · exact PySem.W.mg_none_of X G z16
    rcases List.mem_cons.mp hx with rfl | hx
    · exact PySem.W.mg_none_of X G z17
    cases hx
  · unfold globs at hd
    rw [List.any_eq_true] at hd
    obtain ⟨p, hp, hd⟩ := hd
    rw [Bool.and_eq_true, decide_eq_true_eq] at hd
    obtain ⟨rfl, hd⟩ := hd
    cases pdEq_eq hd
    cases hp
  · unfold clss at hp
    cases c with
    | zero =>
      cases hp
      refine ⟨_, rfl, PySem.W.mg_of X G ca0, ⟨cg0, ch0, cp0, cs0⟩, fun f hf => ?_, ⟨_, _, rfl, ⟨cm0, a1, i1, ck0⟩, A1⟩, fun m j hm => ?_⟩
      · 
        rcases List.mem_cons.mp hf with rfl | hf
        · exact cf0_0
        cases hf
      · 
        rcases List.mem_cons.mp hm with hm | hm
        · cases hm
          exact ⟨_, _, rfl, ⟨a1, i1, k1⟩, A1⟩
        rcases List.mem_cons.mp hm with hm | hm
        · cases hm
          exact ⟨_, _, rfl, ⟨a2, i2, k2⟩, A2⟩
        rcases List.mem_cons.mp hm with hm | hm
        · cases hm
          exact ⟨_, _, rfl, ⟨a3, i3, k3⟩, A3⟩
        rcases List.mem_cons.mp hm with hm | hm
        · cases hm
          exact ⟨_, _, rfl, ⟨a4, i4, k4⟩, A4⟩
        rcases List.mem_cons.mp hm with hm | hm
        · cases hm
          exact ⟨_, _, rfl, ⟨a5, i5, k5⟩, A5⟩
        rcases List.mem_cons.mp hm with hm | hm
        · cases hm
          exact ⟨_, _, rfl, ⟨a6, i6, k6⟩, A6⟩
        rcases List.mem_cons.mp hm with hm | hm
        · cases hm
          exact ⟨_, _, rfl, ⟨a7, i7, k7⟩, A7⟩
        rcases List.mem_cons.mp hm with hm | hm
        · cases hm
          exact ⟨_, _, rfl, ⟨a8, i8, k8⟩, A8⟩
        rcases List.mem_cons.mp hm with hm | hm
        · cases hm
          exact ⟨_, _, rfl, ⟨a9, i9, k9⟩, A9⟩
        rcases List.mem_cons.mp hm with hm | hm
        · cases hm
          exact ⟨_, _, rfl, ⟨a10, i10, k10⟩, A10⟩
        rcases List.mem_cons.mp hm with hm | hm
        · cases hm
          exact ⟨_, _, rfl, ⟨a11, i11, k11⟩, A11⟩
        rcases List.mem_cons.mp hm with hm | hm
        · cases hm
          exact ⟨_, _, rfl, ⟨a12, i12, k12⟩, A12⟩
        cases hm
    | succ c =>
    rw [List.getElem?_cons_succ] at hp
    cases hp
  · unfold errs at hp
    cases c with
    | zero =>
      cases hp
      refine ⟨_, PySem.W.mg_of X G ea0, fun h => (nomatch h), fun c' C' hc => ?_⟩
      cases c' with
      | zero =>
        cases hc
      | succ c' =>
      rw [List.getElem?_cons_succ] at hc
      cases c' with
      | zero =>
        cases hc
      | succ c' =>
      rw [List.getElem?_cons_succ] at hc
      cases c' with
      | zero =>
        cases hc
      | succ c' =>
      rw [List.getElem?_cons_succ] at hc
      cases c' with
      | zero =>
        cases hc
      | succ c' =>
      rw [List.getElem?_cons_succ] at hc
      cases c' with
      | zero =>
        cases hc
      | succ c' =>
      rw [List.getElem?_cons_succ] at hc
      cases c' with
      | zero =>
        cases hc
      | succ c' =>
      rw [List.getElem?_cons_succ] at hc
      cases c' with
      | zero =>
        cases hc
      | succ c' =>
      rw [List.getElem?_cons_succ] at hc
      cases c' with
      | zero =>
        cases hc
      | succ c' =>
      rw [List.getElem?_cons_succ] at hc
      cases c' with
      | zero =>
        cases hc
        exact ⟨PySem.W.exm_ref es0 ed0 et0 eo8_0, kit_ref ed0 et0 er0 eo8_0⟩
      | succ c' =>
      rw [List.getElem?_cons_succ] at hc
      cases c' with
      | zero =>
        cases hc
        exact ⟨PySem.W.exm_ref es0 ed0 et0 eo9_0, kit_ref ed0 et0 er0 eo9_0⟩
      | succ c' =>
      rw [List.getElem?_cons_succ] at hc
      cases c' with
      | zero =>
        cases hc
      | succ c' =>
      rw [List.getElem?_cons_succ] at hc
      cases c' with
      | zero =>
        cases hc
      | succ c' =>
      rw [List.getElem?_cons_succ] at hc
      cases c' with
      | zero =>
        cases hc
      | succ c' =>
      rw [List.getElem?_cons_succ] at hc
      cases c' with
      | zero =>
        cases hc
      | succ c' =>
      rw [List.getElem?_cons_succ] at hc
      cases hc
    | succ c =>
    rw [List.getElem?_cons_succ] at hp
    cases c with
    | zero =>
      cases hp
      refine ⟨_, PySem.W.mg_of X G ea1, fun h => (nomatch h), fun c' C' hc => ?_⟩
      cases c' with
      | zero =>
        cases hc
      | succ c' =>
      rw [List.getElem?_cons_succ] at hc
      cases c' with
      | zero =>
        cases hc
      | succ c' =>
      rw [List.getElem?_cons_succ] at hc
      cases c' with
      | zero =>
        cases hc
      | succ c' =>
      rw [List.getElem?_cons_succ] at hc
      cases c' with
      | zero =>
        cases hc
      | succ c' =>
      rw [List.getElem?_cons_succ] at hc
      cases c' with
      | zero =>
        cases hc
      | succ c' =>
      rw [List.getElem?_cons_succ] at hc
      cases c' with
      | zero =>
        cases hc
      | succ c' =>
      rw [List.getElem?_cons_succ] at hc
      cases c' with
      | zero =>
        cases hc
      | succ c' =>
      rw [List.getElem?_cons_succ] at hc
      cases c' with
      | zero =>
        cases hc
      | succ c' =>
      rw [List.getElem?_cons_succ] at hc
      cases c' with
      | zero =>
        cases hc
        exact ⟨PySem.W.exm_ref es1 ed1 et1 eo8_1, kit_ref ed1 et1 er1 eo8_1⟩
      | succ c' =>
      rw [List.getElem?_cons_succ] at hc
      cases c' with
      | zero =>
        cases hc
        exact ⟨PySem.W.exm_ref es1 ed1 et1 eo9_1, kit_ref ed1 et1 er1 eo9_1⟩
      | succ c' =>
      rw [List.getElem?_cons_succ] at hc
      cases c' with
      | zero =>
        cases hc
      | succ c' =>
      rw [List.getElem?_cons_succ] at hc
      cases c' with
      | zero =>
        cases hc
      | succ c' =>
      rw [List.getElem?_cons_succ] at hc
      cases c' with
      | zero =>
        cases hc
      | succ c' =>
      rw [List.getElem?_cons_succ] at hc
      cases c' with
      | zero =>
        cases hc
      | succ c' =>
      rw [List.getElem?_cons_succ] at hc
      cases hc
    | succ c =>
    rw [List.getElem?_cons_succ] at hp
    cases c with
    | zero =>
      cases hp
      refine ⟨_, PySem.W.mg_of X G ea2, fun h => (nomatch h), fun c' C' hc => ?_⟩
      cases c' with
      | zero =>
        cases hc
      | succ c' =>
      rw [List.getElem?_cons_succ] at hc
      cases c' with
      | zero =>
        cases hc
      | succ c' =>
      rw [List.getElem?_cons_succ] at hc
      cases c' with
      | zero =>
        cases hc
      | succ c' =>
      rw [List.getElem?_cons_succ] at hc
      cases c' with
      | zero =>
        cases hc
      | succ c' =>
      rw [List.getElem?_cons_succ] at hc
      cases c' with
      | zero =>
        cases hc
      | succ c' =>
      rw [List.getElem?_cons_succ] at hc
      cases c' with
      | zero =>
        cases hc
      | succ c' =>
      rw [List.getElem?_cons_succ] at hc
      cases c' with
      | zero =>
        cases hc
      | succ c' =>
      rw [List.getElem?_cons_succ] at hc
      cases c' with
      | zero =>
        cases hc
      | succ c' =>
      rw [List.getElem?_cons_succ] at hc
      cases c' with
      | zero =>
        cases hc
        exact ⟨PySem.W.exm_ref es2 ed2 et2 eo8_2, kit_ref ed2 et2 er2 eo8_2⟩
      | succ c' =>
      rw [List.getElem?_cons_succ] at hc
      cases c' with
      | zero =>
        cases hc
        exact ⟨PySem.W.exm_ref es2 ed2 et2 eo9_2, kit_ref ed2 et2 er2 eo9_2⟩
      | succ c' =>
      rw [List.getElem?_cons_succ] at hc
      cases c' with
      | zero =>
        cases hc
      | succ c' =>
      rw [List.getElem?_cons_succ] at hc
      cases c' with
      | zero =>
        cases hc
      | succ c' =>
      rw [List.getElem?_cons_succ] at hc
      cases c' with
      | zero =>
        cases hc
      | succ c' =>
      rw [List.getElem?_cons_succ] at hc
      cases c' with
      | zero =>
        cases hc
      | succ c' =>
      rw [List.getElem?_cons_succ] at hc
      cases hc
    | succ c =>
    rw [List.getElem?_cons_succ] at hp
    cases c with
    | zero =>
      cases hp
      refine ⟨_, PySem.W.mg_of X G ea3, fun h => (nomatch h), fun c' C' hc => ?_⟩
      cases c' with
      | zero =>
        cases hc
      | succ c' =>
      rw [List.getElem?_cons_succ] at hc
      cases c' with
      | zero =>
        cases hc
      | succ c' =>
      rw [List.getElem?_cons_succ] at hc
      cases c' with
      | zero =>
        cases hc
      | succ c' =>
      rw [List.getElem?_cons_succ] at hc
      cases c' with
      | zero =>
        cases hc
      | succ c' =>
      rw [List.getElem?_cons_succ] at hc
      cases c' with
      | zero =>
        cases hc
      | succ c' =>
      rw [List.getElem?_cons_succ] at hc
      cases c' with
      | zero =>
        cases hc
      | succ c' =>
      rw [List.getElem?_cons_succ] at hc
      cases c' with
      | zero =>
        cases hc
      | succ c' =>
      rw [List.getElem?_cons_succ] at hc
      cases c' with
      | zero =>
        cases hc
      | succ c' =>
      rw [List.getElem?_cons_succ] at hc
      cases c' with
      | zero =>
        cases hc
        exact ⟨PySem.W.exm_ref es3 ed3 et3 eo8_3, kit_ref ed3 et3 er3 eo8_3⟩
      | succ c' =>
      rw [List.getElem?_cons_succ] at hc
      cases c' with
      | zero =>
        cases hc
        exact ⟨PySem.W.exm_ref es3 ed3 et3 eo9_3, kit_ref ed3 et3 er3 eo9_3⟩
      | succ c' =>
      rw [List.getElem?_cons_succ] at hc
      cases c' with
      | zero =>
        cases hc
      | succ c' =>
      rw [List.getElem?_cons_succ] at hc
      cases c' with
      | zero =>
        cases hc
      | succ c' =>
      rw [List.getElem?_cons_succ] at hc
      cases c' with
      | zero =>
        cases hc
      | succ c' =>
      rw [List.getElem?_cons_succ] at hc
      cases c' with
      | zero =>
        cases hc
      | succ c' =>
      rw [List.getElem?_cons_succ] at hc
      cases hc
    | succ c =>
    rw [List.getElem?_cons_succ] at hp
    cases c with
    | zero =>
      cases hp
      refine ⟨_, PySem.W.mg_of X G ea4, fun h => (nomatch h), fun c' C' hc => ?_⟩
      cases c' with
      | zero =>
        cases hc
      | succ c' =>
      rw [List.getElem?_cons_succ] at hc
      cases c' with
      | zero =>
        cases hc
      | succ c' =>
      rw [List.getElem?_cons_succ] at hc
      cases c' with
      | zero =>
        cases hc
      | succ c' =>
      rw [List.getElem?_cons_succ] at hc
      cases c' with
      | zero =>
        cases hc
      | succ c' =>
      rw [List.getElem?_cons_succ] at hc
      cases c' with
      | zero =>
        cases hc
      | succ c' =>
      rw [List.getElem?_cons_succ] at hc
      cases c' with
      | zero =>
        cases hc
      | succ c' =>
      rw [List.getElem?_cons_succ] at hc
      cases c' with
      | zero =>
        cases hc
      | succ c' =>
      rw [List.getElem?_cons_succ] at hc
      cases c' with
      | zero =>
        cases hc
      | succ c' =>
      rw [List.getElem?_cons_succ] at hc
      cases c' with
      | zero =>
        cases hc
        exact ⟨PySem.W.exm_ref es4 ed4 et4 eo8_4, kit_ref ed4 et4 er4 eo8_4⟩
      | succ c' =>
      rw [List.getElem?_cons_succ] at hc
      cases c' with
      | zero =>
        cases hc
        exact ⟨PySem.W.exm_ref es4 ed4 et4 eo9_4, kit_ref ed4 et4 er4 eo9_4⟩
      | succ c' =>
      rw [List.getElem?_cons_succ] at hc
      cases c' with
      | zero =>
        cases hc
      | succ c' =>
      rw [List.getElem?_cons_succ] at hc
      cases c' with
      | zero =>
        cases hc
      | succ c' =>
      rw [List.getElem?_cons_succ] at hc
      cases c' with
      | zero =>
        cases hc
      | succ c' =>
      rw [List.getElem?_cons_succ] at hc
      cases c' with
      | zero =>
        cases hc
      | succ c' =>
      rw [List.getElem?_cons_succ] at hc
      cases hc
    | succ c =>
    rw [List.getElem?_cons_succ] at hp
    cases c with
    | zero =>
      cases hp
      refine ⟨_, PySem.W.mg_of X G ea5, fun h => (nomatch h), fun c' C' hc => ?_⟩
      cases c' with
      | zero =>
        cases hc
      | succ c' =>
      rw [List.getElem?_cons_succ] at hc
      cases c' with
      | zero =>
        cases hc
      | succ c' =>
      rw [List.getElem?_cons_succ] at hc
      cases c' with
      | zero =>
        cases hc
      | succ c' =>
      rw [List.getElem?_cons_succ] at hc
      cases c' with
      | zero =>
        cases hc
      | succ c' =>
      rw [List.getElem?_cons_succ] at hc
      cases c' with
      | zero =>
        cases hc
      | succ c' =>
      rw [List.getElem?_cons_succ] at hc
      cases c' with
      | zero =>
        cases hc
      | succ c' =>
      rw [List.getElem?_cons_succ] at hc
      cases c' with
      | zero =>
        cases hc
      | succ c' =>
      rw [List.getElem?_cons_succ] at hc
      cases c' with
      | zero =>
        cases hc
      | succ c' =>
      rw [List.getElem?_cons_succ] at hc
      cases c' with
      | zero =>
        cases hc
        exact ⟨PySem.W.exm_ref es5 ed5 et5 eo8_5, kit_ref ed5 et5 er5 eo8_5⟩
      | succ c' =>
      rw [List.getElem?_cons_succ] at hc
      cases c' with
      | zero =>
        cases hc
        exact ⟨PySem.W.exm_ref es5 ed5 et5 eo9_5, kit_ref ed5 et5 er5 eo9_5⟩
      | succ c' =>
      rw [List.getElem?_cons_succ] at hc
      cases c' with
      | zero =>
        cases hc
      | succ c' =>
      rw [List.getElem?_cons_succ] at hc
      cases c' with
      | zero =>
        cases hc
      | succ c' =>
      rw [List.getElem?_cons_succ] at hc
      cases c' with
      | zero =>
        cases hc
      | succ c' =>
      rw [List.getElem?_cons_succ] at hc
      cases c' with
      | zero =>
        cases hc
      | succ c' =>
      rw [List.getElem?_cons_succ] at hc
      cases hc
    | succ c =>
    rw [List.getElem?_cons_succ] at hp
    cases c with
    | zero =>
      cases hp
      refine ⟨_, PySem.W.mg_of X G ea6, fun h => (nomatch h), fun c' C' hc => ?_⟩
      cases c' with
      | zero =>
        cases hc
      | succ c' =>
      rw [List.getElem?_cons_succ] at hc
      cases c' with
      | zero =>
        cases hc
      | succ c' =>
      rw [List.getElem?_cons_succ] at hc
      cases c' with
      | zero =>
        cases hc
      | succ c' =>
      rw [List.getElem?_cons_succ] at hc
      cases c' with
      | zero =>
        cases hc
      | succ c' =>
      rw [List.getElem?_cons_succ] at hc
      cases c' with
      | zero =>
        cases hc
      | succ c' =>
      rw [List.getElem?_cons_succ] at hc
      cases c' with
      | zero =>
        cases hc
      | succ c' =>
      rw [List.getElem?_cons_succ] at hc
      cases c' with
      | zero =>
        cases hc
      | succ c' =>
      rw [List.getElem?_cons_succ] at hc
      cases c' with
      | zero =>
        cases hc
      | succ c' =>
      rw [List.getElem?_cons_succ] at hc
      cases c' with
      | zero =>
        cases hc
        exact ⟨PySem.W.exm_ref es6 ed6 et6 eo8_6, kit_ref ed6 et6 er6 eo8_6⟩
      | succ c' =>
      rw [List.getElem?_cons_succ] at hc
      cases c' with
      | zero =>
        cases hc
        exact ⟨PySem.W.exm_ref es6 ed6 et6 eo9_6, kit_ref ed6 et6 er6 eo9_6⟩
      | succ c' =>
      rw [List.getElem?_cons_succ] at hc
      cases c' with
      | zero =>
        cases hc
      | succ c' =>
      rw [List.getElem?_cons_succ] at hc
      cases c' with
      | zero =>
        cases hc
      | succ c' =>
      rw [List.getElem?_cons_succ] at hc
      cases c' with
      | zero =>
        cases hc
      | succ c' =>
      rw [List.getElem?_cons_succ] at hc
      cases c' with
      | zero =>
        cases hc
      | succ c' =>
      rw [List.getElem?_cons_succ] at hc
      cases hc
    | succ c =>
    rw [List.getElem?_cons_succ] at hp
    cases c with
    | zero =>
      cases hp
      refine ⟨_, PySem.W.mg_of X G ea7, fun h => (nomatch h), fun c' C' hc => ?_⟩
      cases c' with
      | zero =>
        cases hc
      | succ c' =>
      rw [List.getElem?_cons_succ] at hc
      cases c' with
      | zero =>
        cases hc
      | succ c' =>
      rw [List.getElem?_cons_succ] at hc
      cases c' with
      | zero =>
        cases hc
      | succ c' =>
      rw [List.getElem?_cons_succ] at hc
      cases c' with
      | zero =>
        cases hc
      | succ c' =>
      rw [List.getElem?_cons_succ] at hc
      cases c' with
      | zero =>
        cases hc
      | succ c' =>
      rw [List.getElem?_cons_succ] at hc
      cases c' with
      | zero =>
        cases hc
      | succ c' =>
      rw [List.getElem?_cons_succ] at hc
      cases c' with
      | zero =>
        cases hc
      | succ c' =>
      rw [List.getElem?_cons_succ] at hc
      cases c' with
      | zero =>
        cases hc
      | succ c' =>
      rw [List.getElem?_cons_succ] at hc
      cases c' with
      | zero =>
        cases hc
        exact ⟨PySem.W.exm_ref es7 ed7 et7 eo8_7, kit_ref ed7 et7 er7 eo8_7⟩
      | succ c' =>
      rw [List.getElem?_cons_succ] at hc
      cases c' with
      | zero =>
        cases hc
        exact ⟨PySem.W.exm_ref es7 ed7 et7 eo9_7, kit_ref ed7 et7 er7 eo9_7⟩
      | succ c' =>
      rw [List.getElem?_cons_succ] at hc
      cases c' with
      | zero =>
        cases hc
      | succ c' =>
      rw [List.getElem?_cons_succ] at hc
      cases c' with
      | zero =>
        cases hc
      | succ c' =>
      rw [List.getElem?_cons_succ] at hc
      cases c' with
      | zero =>
        cases hc
      | succ c' =>
      rw [List.getElem?_cons_succ] at hc
      cases c' with
      | zero =>
        cases hc
      | succ c' =>
      rw [List.getElem?_cons_succ] at hc
      cases hc
    | succ c =>
    rw [List.getElem?_cons_succ] at hp
    cases c with
    | zero =>
      cases hp
      refine ⟨_, PySem.W.mg_of X G ea8, fun _ => ⟨rfl, ex8, ek8, es8, et8, ⟨eg8, eh8, es8, ed8, ec8, xn, xt, em8⟩⟩, fun c' C' hc => ?_⟩
      cases c' with
      | zero =>
        cases hc
      | succ c' =>
      rw [List.getElem?_cons_succ] at hc
      cases c' with
      | zero =>
        cases hc
      | succ c' =>
      rw [List.getElem?_cons_succ] at hc
      cases c' with
      | zero =>
        cases hc
      | succ c' =>
      rw [List.getElem?_cons_succ] at hc
      cases c' with
      | zero =>
        cases hc
      | succ c' =>
      rw [List.getElem?_cons_succ] at hc
      cases c' with
      | zero =>
        cases hc
      | succ c' =>
      rw [List.getElem?_cons_succ] at hc
      cases c' with
      | zero =>
        cases hc
      | succ c' =>
      rw [List.getElem?_cons_succ] at hc
      cases c' with
      | zero =>
        cases hc
      | succ c' =>
      rw [List.getElem?_cons_succ] at hc
      cases c' with
      | zero =>
        cases hc
      | succ c' =>
      rw [List.getElem?_cons_succ] at hc
      cases c' with
      | zero =>
        cases hc
        exact ⟨PySem.W.exm_ref es8 ed8 et8 eo8_8, kit_ref ed8 et8 er8 eo8_8⟩
      | succ c' =>
      rw [List.getElem?_cons_succ] at hc
      cases c' with
      | zero =>
        cases hc
        exact ⟨PySem.W.exm_ref es8 ed8 et8 eo9_8, kit_ref ed8 et8 er8 eo9_8⟩
      | succ c' =>
      rw [List.getElem?_cons_succ] at hc
      cases c' with
      | zero =>
        cases hc
      | succ c' =>
      rw [List.getElem?_cons_succ] at hc
      cases c' with
      | zero =>
        cases hc
      | succ c' =>
      rw [List.getElem?_cons_succ] at hc
      cases c' with
      | zero =>
        cases hc
      | succ c' =>
      rw [List.getElem?_cons_succ] at hc
      cases c' with
      | zero =>
        cases hc
      | succ c' =>
      rw [List.getElem?_cons_succ] at hc
      cases hc
    | succ c =>
    rw [List.getElem?_cons_succ] at hp
    cases c with
    | zero =>
      cases hp
      refine ⟨_, PySem.W.mg_of X G ea9, fun _ => ⟨rfl, ex9, ek9, es9, et9, ⟨eg9, eh9, es9, ed9, ec9, xn, xt, em9⟩⟩, fun c' C' hc => ?_⟩
      cases c' with
      | zero =>
        cases hc
      | succ c' =>
      rw [List.getElem?_cons_succ] at hc
      cases c' with
      | zero =>
        cases hc
      | succ c' =>
      rw [List.getElem?_cons_succ] at hc
      cases c' with
      | zero =>
        cases hc
      | succ c' =>
      rw [List.getElem?_cons_succ] at hc
      cases c' with
      | zero =>
        cases hc
      | succ c' =>
      rw [List.getElem?_cons_succ] at hc
      cases c' with
      | zero =>
        cases hc
      | succ c' =>
      rw [List.getElem?_cons_succ] at hc
      cases c' with
      | zero =>
        cases hc
      | succ c' =>
      rw [List.getElem?_cons_succ] at hc
      cases c' with
      | zero =>
        cases hc
      | succ c' =>
      rw [List.getElem?_cons_succ] at hc
      cases c' with
      | zero =>
        cases hc
      | succ c' =>
      rw [List.getElem?_cons_succ] at hc
      cases c' with
      | zero =>
        cases hc
        exact ⟨PySem.W.exm_ref es9 ed9 et9 eo8_9, kit_ref ed9 et9 er9 eo8_9⟩
      | succ c' =>
      rw [List.getElem?_cons_succ] at hc
      cases c' with
      | zero =>
        cases hc
        exact ⟨PySem.W.exm_ref es9 ed9 et9 eo9_9, kit_ref ed9 et9 er9 eo9_9⟩
      | succ c' =>
      rw [List.getElem?_cons_succ] at hc
      cases c' with
      | zero =>
        cases hc
      | succ c' =>
      rw [List.getElem?_cons_succ] at hc
      cases c' with
      | zero =>
        cases hc
      | succ c' =>
      rw [List.getElem?_cons_succ] at hc
      cases c' with
      | zero =>
        cases hc
      | succ c' =>
      rw [List.getElem?_cons_succ] at hc
      cases c' with
      | zero =>
        cases hc
      | succ c' =>
      rw [List.getElem?_cons_succ] at hc
      cases hc
    | succ c =>
    rw [List.getElem?_cons_succ] at hp
    cases c with
    | zero =>
      cases hp
      refine ⟨_, PySem.W.mg_of X G ea10, fun h => (nomatch h), fun c' C' hc => ?_⟩
      cases c' with
      | zero =>
        cases hc
      | succ c' =>
      rw [List.getElem?_cons_succ] at hc
      cases c' with
      | zero =>
        cases hc
      | succ c' =>
      rw [List.getElem?_cons_succ] at hc
      cases c' with
      | zero =>
        cases hc
      | succ c' =>
      rw [List.getElem?_cons_succ] at hc
      cases c' with
      | zero =>
        cases hc
      | succ c' =>
      rw [List.getElem?_cons_succ] at hc
      cases c' with
      | zero =>
        cases hc
      | succ c' =>
      rw [List.getElem?_cons_succ] at hc
      cases c' with
      | zero =>
        cases hc
      | succ c' =>
      rw [List.getElem?_cons_succ] at hc
      cases c' with
      | zero =>
        cases hc
      | succ c' =>
      rw [List.getElem?_cons_succ] at hc
      cases c' with
      | zero =>
        cases hc
      | succ c' =>
      rw [List.getElem?_cons_succ] at hc
      cases c' with
      | zero =>
        cases hc
        exact ⟨PySem.W.exm_ref es10 ed10 et10 eo8_10, kit_ref ed10 et10 er10 eo8_10⟩
      | succ c' =>
      rw [List.getElem?_cons_succ] at hc
      cases c' with
      | zero =>
        cases hc
        exact ⟨PySem.W.exm_ref es10 ed10 et10 eo9_10, kit_ref ed10 et10 er10 eo9_10⟩
      | succ c' =>
      rw [List.getElem?_cons_succ] at hc
      cases c' with
      | zero =>
        cases hc
      | succ c' =>
      rw [List.getElem?_cons_succ] at hc
      cases c' with
      | zero =>
        cases hc
      | succ c' =>
      rw [List.getElem?_cons_succ] at hc
      cases c' with
      | zero =>
        cases hc
      | succ c' =>
      rw [List.getElem?_cons_succ] at hc
      cases c' with
      | zero =>
        cases hc
      | succ c' =>
      rw [List.getElem?_cons_succ] at hc
      cases hc
    | succ c =>
    rw [List.getElem?_cons_succ] at hp
    cases c with
    | zero =>
      cases hp
      refine ⟨_, PySem.W.mg_of X G ea11, fun h => (nomatch h), fun c' C' hc => ?_⟩
      cases c' with
      | zero =>
        cases hc
      | succ c' =>
      rw [List.getElem?_cons_succ] at hc
      cases c' with
      | zero =>
        cases hc
      | succ c' =>
      rw [List.getElem?_cons_succ] at hc
      cases c' with
      | zero =>
        cases hc
      | succ c' =>
      rw [List.getElem?_cons_succ] at hc
      cases c' with
      | zero =>
        cases hc
      | succ c' =>
      rw [List.getElem?_cons_succ] at hc
      cases c' with
      | zero =>
        cases hc
      | succ c' =>
      rw [List.getElem?_cons_succ] at hc
      cases c' with
      | zero =>
        cases hc
      | succ c' =>
      rw [List.getElem?_cons_succ] at hc
      cases c' with
      | zero =>
        cases hc
      | succ c' =>
      rw [List.getElem?_cons_succ] at hc
      cases c' with
      | zero =>
        cases hc
      | succ c' =>
      rw [List.getElem?_cons_succ] at hc
      cases c' with
      | zero =>
        cases hc
        exact ⟨PySem.W.exm_ref es11 ed11 et11 eo8_11, kit_ref ed11 et11 er11 eo8_11⟩
      | succ c' =>
      rw [List.getElem?_cons_succ] at hc
      cases c' with
      | zero =>
        cases hc
        exact ⟨PySem.W.exm_ref es11 ed11 et11 eo9_11, kit_ref ed11 et11 er11 eo9_11⟩
      | succ c' =>
      rw [List.getElem?_cons_succ] at hc
      cases c' with
      | zero =>
        cases hc
      | succ c' =>
      rw [List.getElem?_cons_succ] at hc
      cases c' with
      | zero =>
        cases hc
      | succ c' =>
      rw [List.getElem?_cons_succ] at hc
      cases c' with
      | zero =>
        cases hc
      | succ c' =>
      rw [List.getElem?_cons_succ] at hc
      cases c' with
      | zero =>
        cases hc
      | succ c' =>
      rw [List.getElem?_cons_succ] at hc
      cases hc
    | succ c =>
    rw [List.getElem?_cons_succ] at hp
    cases c with
    | zero =>
      cases hp
      refine ⟨_, PySem.W.mg_of X G ea12, fun h => (nomatch h), fun c' C' hc => ?_⟩
      cases c' with
      | zero =>
        cases hc
      | succ c' =>
      rw [List.getElem?_cons_succ] at hc
      cases c' with
      | zero =>
        cases hc
      | succ c' =>
      rw [List.getElem?_cons_succ] at hc
      cases c' with
      | zero =>
        cases hc
      | succ c' =>
      rw [List.getElem?_cons_succ] at hc
      cases c' with
      | zero =>
        cases hc
      | succ c' =>
      rw [List.getElem?_cons_succ] at hc
      cases c' with
      | zero =>
        cases hc
      | succ c' =>
      rw [List.getElem?_cons_succ] at hc
      cases c' with
      | zero =>
        cases hc
      | succ c' =>
      rw [List.getElem?_cons_succ] at hc
      cases c' with
      | zero =>
        cases hc
      | succ c' =>
      rw [List.getElem?_cons_succ] at hc
      cases c' with
      | zero =>
        cases hc
      | succ c' =>
      rw [List.getElem?_cons_succ] at hc
      cases c' with
      | zero =>
        cases hc
        exact ⟨PySem.W.exm_ref es12 ed12 et12 eo8_12, kit_ref ed12 et12 er12 eo8_12⟩
      | succ c' =>
      rw [List.getElem?_cons_succ] at hc
      cases c' with
      | zero =>
        cases hc
        exact ⟨PySem.W.exm_ref es12 ed12 et12 eo9_12, kit_ref ed12 et12 er12 eo9_12⟩
      | succ c' =>
      rw [List.getElem?_cons_succ] at hc
      cases c' with
      | zero =>
        cases hc
      | succ c' =>
      rw [List.getElem?_cons_succ] at hc
      cases c' with
      | zero =>
        cases hc
      | succ c' =>
      rw [List.getElem?_cons_succ] at hc
      cases c' with
      | zero =>
        cases hc
      | succ c' =>
      rw [List.getElem?_cons_succ] at hc
      cases c' with
      | zero =>
        cases hc
      | succ c' =>
      rw [List.getElem?_cons_succ] at hc
      cases hc
    | succ c =>
    rw [List.getElem?_cons_succ] at hp
    cases c with
    | zero =>
      cases hp
      refine ⟨_, PySem.W.mg_of X G ea13, fun h => (nomatch h), fun c' C' hc => ?_⟩
      cases c' with
      | zero =>
        cases hc
      | succ c' =>
      rw [List.getElem?_cons_succ] at hc
      cases c' with
      | zero =>
        cases hc
      | succ c' =>
      rw [List.getElem?_cons_succ] at hc
      cases c' with
      | zero =>
        cases hc
      | succ c' =>
      rw [List.getElem?_cons_succ] at hc
      cases c' with
      | zero =>
        cases hc
      | succ c' =>
      rw [List.getElem?_cons_succ] at hc
      cases c' with
      | zero =>
        cases hc
      | succ c' =>
      rw [List.getElem?_cons_succ] at hc
      cases c' with
      | zero =>
        cases hc
      | succ c' =>
      rw [List.getElem?_cons_succ] at hc
      cases c' with
      | zero =>
        cases hc
      | succ c' =>
      rw [List.getElem?_cons_succ] at hc
      cases c' with
      | zero =>
        cases hc
      | succ c' =>
      rw [List.getElem?_cons_succ] at hc
      cases c' with
      | zero =>
        cases hc
        exact ⟨PySem.W.exm_ref es13 ed13 et13 eo8_13, kit_ref ed13 et13 er13 eo8_13⟩
      | succ c' =>
      rw [List.getElem?_cons_succ] at hc
      cases c' with
      | zero =>
        cases hc
        exact ⟨PySem.W.exm_ref es13 ed13 et13 eo9_13, kit_ref ed13 et13 er13 eo9_13⟩
      | succ c' =>
      rw [List.getElem?_cons_succ] at hc
      cases c' with
      | zero =>
        cases hc
      | succ c' =>
      rw [List.getElem?_cons_succ] at hc
      cases c' with
      | zero =>
        cases hc
      | succ c' =>
      rw [List.getElem?_cons_succ] at hc
      cases c' with
      | zero =>
        cases hc
      | succ c' =>
      rw [List.getElem?_cons_succ] at hc
      cases c' with
      | zero =>
        cases hc
      | succ c' =>
      rw [List.getElem?_cons_succ] at hc
      cases hc
    | succ c =>
    rw [List.getElem?_cons_succ] at hp
    cases hp
  · cases c with
    | zero =>
      cases hc
    | succ c =>
    rw [List.getElem?_cons_succ] at hc
    cases c with
    | zero =>
      cases hc
    | succ c =>
    rw [List.getElem?_cons_succ] at hc
    cases c with
    | zero =>
      cases hc
    | succ c =>
    rw [List.getElem?_cons_succ] at hc
    cases c with
    | zero =>
      cases hc
    | succ c =>
    rw [List.getElem?_cons_succ] at hc
    cases c with
    | zero =>
      cases hc
    | succ c =>
    rw [List.getElem?_cons_succ] at hc
    cases c with
    | zero =>
      cases hc
    | succ c =>
    rw [List.getElem?_cons_succ] at hc
    cases c with
    | zero =>
      cases hc
    | succ c =>
    rw [List.getElem?_cons_succ] at hc
    cases c with
    | zero =>
      cases hc
    | succ c =>
    rw [List.getElem?_cons_succ] at hc
    cases c with
    | zero =>
      cases hc
      exact ⟨_, rfl, rfl⟩
    | succ c =>
    rw [List.getElem?_cons_succ] at hc
    cases c with
    | zero =>
      cases hc
      exact ⟨_, rfl, rfl⟩
    | succ c =>
    rw [List.getElem?_cons_succ] at hc
    cases c with
    | zero =>
      cases hc
    | succ c =>
    rw [List.getElem?_cons_succ] at hc
    cases c with
    | zero =>
      cases hc
    | succ c =>
    rw [List.getElem?_cons_succ] at hc
    cases c with
    | zero =>
      cases hc
    | succ c =>
    rw [List.getElem?_cons_succ] at hc
    cases c with
    | zero =>
      cases hc
    | succ c =>
    rw [List.getElem?_cons_succ] at hc
    cases hc
theorem fin_mk {l : PySem.W.OpenLaw} {w : World} {K : PySem.W.Frag} {h : Heap} {mg : Str → Option Value} {fa : Addr} (X : K.In h) (G : h.Ns mainGlobals mg) (hfa : mg "law" = some (.ref fa))
  {C0 : Addr} (ca0 : PySem.W.nsIn K mainGlobals "Grants" = some (some (.ref C0))) (cg0 : PySem.W.plainGet K C0 Str.empty = true) (ch0 : PySem.W.hasDictIn K C0 = true) (cp0 : PySem.W.plainOver K C0 = true) (cs0 : PySem.W.findIn K (.ref C0) "__setattr__" = some (some (.builtin "object.__setattr__"))) (cm0 : PySem.W.makesIn K C0 = true) (ck0 : PySem.W.keepIn K (.ref C0) = true)
  (cf0_0 : PySem.W.findIn K (.ref C0) "_records" = some none)
  {E0 : Addr} (ea0 : PySem.W.nsIn K mainGlobals "AccessError" = some (some (.ref E0)))
  (ed0 : PySem.W.hasDictIn K E0 = true) (et0 : PySem.W.typeIn K (.ref E0) = some (.type "type")) (es0 : PySem.W.subIn K (.ref E0) (.type "BaseException") = some true) (er0 : PySem.W.subIn K (.ref E0) (.ref E0) = some true)
  {E1 : Addr} (ea1 : PySem.W.nsIn K mainGlobals "InvalidRequest" = some (some (.ref E1)))
  (ed1 : PySem.W.hasDictIn K E1 = true) (et1 : PySem.W.typeIn K (.ref E1) = some (.type "type")) (es1 : PySem.W.subIn K (.ref E1) (.type "BaseException") = some true) (er1 : PySem.W.subIn K (.ref E1) (.ref E1) = some true)
  {E2 : Addr} (ea2 : PySem.W.nsIn K mainGlobals "InvalidCondition" = some (some (.ref E2)))
  (ed2 : PySem.W.hasDictIn K E2 = true) (et2 : PySem.W.typeIn K (.ref E2) = some (.type "type")) (es2 : PySem.W.subIn K (.ref E2) (.type "BaseException") = some true) (er2 : PySem.W.subIn K (.ref E2) (.ref E2) = some true)
  {E3 : Addr} (ea3 : PySem.W.nsIn K mainGlobals "InvalidRule" = some (some (.ref E3)))
  (ed3 : PySem.W.hasDictIn K E3 = true) (et3 : PySem.W.typeIn K (.ref E3) = some (.type "type")) (es3 : PySem.W.subIn K (.ref E3) (.type "BaseException") = some true) (er3 : PySem.W.subIn K (.ref E3) (.ref E3) = some true)
  {E4 : Addr} (ea4 : PySem.W.nsIn K mainGlobals "BadText" = some (some (.ref E4)))
  (ed4 : PySem.W.hasDictIn K E4 = true) (et4 : PySem.W.typeIn K (.ref E4) = some (.type "type")) (es4 : PySem.W.subIn K (.ref E4) (.type "BaseException") = some true) (er4 : PySem.W.subIn K (.ref E4) (.ref E4) = some true)
  {E5 : Addr} (ea5 : PySem.W.nsIn K mainGlobals "Circle" = some (some (.ref E5)))
  (ed5 : PySem.W.hasDictIn K E5 = true) (et5 : PySem.W.typeIn K (.ref E5) = some (.type "type")) (es5 : PySem.W.subIn K (.ref E5) (.type "BaseException") = some true) (er5 : PySem.W.subIn K (.ref E5) (.ref E5) = some true)
  {E6 : Addr} (ea6 : PySem.W.nsIn K mainGlobals "AlreadyLinked" = some (some (.ref E6)))
  (ed6 : PySem.W.hasDictIn K E6 = true) (et6 : PySem.W.typeIn K (.ref E6) = some (.type "type")) (es6 : PySem.W.subIn K (.ref E6) (.type "BaseException") = some true) (er6 : PySem.W.subIn K (.ref E6) (.ref E6) = some true)
  {E7 : Addr} (ea7 : PySem.W.nsIn K mainGlobals "NotLinked" = some (some (.ref E7)))
  (ed7 : PySem.W.hasDictIn K E7 = true) (et7 : PySem.W.typeIn K (.ref E7) = some (.type "type")) (es7 : PySem.W.subIn K (.ref E7) (.type "BaseException") = some true) (er7 : PySem.W.subIn K (.ref E7) (.ref E7) = some true)
  {E8 : Addr} (ea8 : PySem.W.nsIn K mainGlobals "NoGrant" = some (some (.ref E8)))
  (ed8 : PySem.W.hasDictIn K E8 = true) (et8 : PySem.W.typeIn K (.ref E8) = some (.type "type")) (es8 : PySem.W.subIn K (.ref E8) (.type "BaseException") = some true) (er8 : PySem.W.subIn K (.ref E8) (.ref E8) = some true)
  {E9 : Addr} (ea9 : PySem.W.nsIn K mainGlobals "NoPasses" = some (some (.ref E9)))
  (ed9 : PySem.W.hasDictIn K E9 = true) (et9 : PySem.W.typeIn K (.ref E9) = some (.type "type")) (es9 : PySem.W.subIn K (.ref E9) (.type "BaseException") = some true) (er9 : PySem.W.subIn K (.ref E9) (.ref E9) = some true)
  {E10 : Addr} (ea10 : PySem.W.nsIn K mainGlobals "NoRule" = some (some (.ref E10)))
  (ed10 : PySem.W.hasDictIn K E10 = true) (et10 : PySem.W.typeIn K (.ref E10) = some (.type "type")) (es10 : PySem.W.subIn K (.ref E10) (.type "BaseException") = some true) (er10 : PySem.W.subIn K (.ref E10) (.ref E10) = some true)
  {E11 : Addr} (ea11 : PySem.W.nsIn K mainGlobals "NothingToUndo" = some (some (.ref E11)))
  (ed11 : PySem.W.hasDictIn K E11 = true) (et11 : PySem.W.typeIn K (.ref E11) = some (.type "type")) (es11 : PySem.W.subIn K (.ref E11) (.type "BaseException") = some true) (er11 : PySem.W.subIn K (.ref E11) (.ref E11) = some true)
  {E12 : Addr} (ea12 : PySem.W.nsIn K mainGlobals "NothingToRedo" = some (some (.ref E12)))
  (ed12 : PySem.W.hasDictIn K E12 = true) (et12 : PySem.W.typeIn K (.ref E12) = some (.type "type")) (es12 : PySem.W.subIn K (.ref E12) (.type "BaseException") = some true) (er12 : PySem.W.subIn K (.ref E12) (.ref E12) = some true)
  {E13 : Addr} (ea13 : PySem.W.nsIn K mainGlobals "Widening" = some (some (.ref E13)))
  (ed13 : PySem.W.hasDictIn K E13 = true) (et13 : PySem.W.typeIn K (.ref E13) = some (.type "type")) (es13 : PySem.W.subIn K (.ref E13) (.type "BaseException") = some true) (er13 : PySem.W.subIn K (.ref E13) (.ref E13) = some true)
  (ex8 : PySem.W.excIn K E8 [.type "ValueError", .type "Exception", .type "BaseException", .type "object"] "ValueError.__new__" = true) (ek8 : PySem.W.keepIn K (.ref E8) = true)
  (eg8 : PySem.W.findIn K (.ref E8) "__getattribute__" = some (some (.builtin "BaseException.__getattribute__"))) (eh8 : PySem.W.findIn K (.ref E8) "__getattr__" = some none) (ec8 : PySem.W.findIn K (.ref E8) "__class__" = some (some (.builtin "object.__class__"))) (em8 : PySem.W.mroIn K E8 (.type "object") = some true)
  (eo8_0 : PySem.W.subIn K (.ref E8) (.ref E0) = some true)
  (eo8_1 : PySem.W.subIn K (.ref E8) (.ref E1) = some false)
  (eo8_2 : PySem.W.subIn K (.ref E8) (.ref E2) = some false)
  (eo8_3 : PySem.W.subIn K (.ref E8) (.ref E3) = some false)
  (eo8_4 : PySem.W.subIn K (.ref E8) (.ref E4) = some false)
  (eo8_5 : PySem.W.subIn K (.ref E8) (.ref E5) = some false)
  (eo8_6 : PySem.W.subIn K (.ref E8) (.ref E6) = some false)
  (eo8_7 : PySem.W.subIn K (.ref E8) (.ref E7) = some false)
  (eo8_8 : PySem.W.subIn K (.ref E8) (.ref E8) = some true)
  (eo8_9 : PySem.W.subIn K (.ref E8) (.ref E9) = some false)
  (eo8_10 : PySem.W.subIn K (.ref E8) (.ref E10) = some false)
  (eo8_11 : PySem.W.subIn K (.ref E8) (.ref E11) = some false)
  (eo8_12 : PySem.W.subIn K (.ref E8) (.ref E12) = some false)
  (eo8_13 : PySem.W.subIn K (.ref E8) (.ref E13) = some false)
  (ex9 : PySem.W.excIn K E9 [.type "ValueError", .type "Exception", .type "BaseException", .type "object"] "ValueError.__new__" = true) (ek9 : PySem.W.keepIn K (.ref E9) = true)
  (eg9 : PySem.W.findIn K (.ref E9) "__getattribute__" = some (some (.builtin "BaseException.__getattribute__"))) (eh9 : PySem.W.findIn K (.ref E9) "__getattr__" = some none) (ec9 : PySem.W.findIn K (.ref E9) "__class__" = some (some (.builtin "object.__class__"))) (em9 : PySem.W.mroIn K E9 (.type "object") = some true)
  (eo9_0 : PySem.W.subIn K (.ref E9) (.ref E0) = some true)
  (eo9_1 : PySem.W.subIn K (.ref E9) (.ref E1) = some false)
  (eo9_2 : PySem.W.subIn K (.ref E9) (.ref E2) = some false)
  (eo9_3 : PySem.W.subIn K (.ref E9) (.ref E3) = some false)
  (eo9_4 : PySem.W.subIn K (.ref E9) (.ref E4) = some false)
  (eo9_5 : PySem.W.subIn K (.ref E9) (.ref E5) = some false)
  (eo9_6 : PySem.W.subIn K (.ref E9) (.ref E6) = some false)
  (eo9_7 : PySem.W.subIn K (.ref E9) (.ref E7) = some false)
  (eo9_8 : PySem.W.subIn K (.ref E9) (.ref E8) = some false)
  (eo9_9 : PySem.W.subIn K (.ref E9) (.ref E9) = some true)
  (eo9_10 : PySem.W.subIn K (.ref E9) (.ref E10) = some false)
  (eo9_11 : PySem.W.subIn K (.ref E9) (.ref E11) = some false)
  (eo9_12 : PySem.W.subIn K (.ref E9) (.ref E12) = some false)
  (eo9_13 : PySem.W.subIn K (.ref E9) (.ref E13) = some false)
  (xn : PySem.W.specialIn K (.builtin "object.__class__") "__get__" = some (some (.builtin "getset_descriptor.__get__"))) (xt : PySem.W.takesIn K (.builtin "object.__class__") = some true)
  {f0 : Addr} {od0 an0 : Option Addr} {sl0 : Array (Option Value)} {oc0 kV0 dc0 pm0 cd0 ct0 : Value}
  (a0 : PySem.W.nsIn K mainGlobals "_wall" = some (some (.ref f0))) (l0 : K.lookup f0 = some ⟨oc0, od0, .func (PySem.W.fnOf d__wall.x d__wall.q (defArgs d__wall.st) (defBody d__wall.st) (defScope d__wall.st) .none kV0 dc0 pm0 an0 cd0 ct0), sl0⟩) (c0 : PySem.W.codeIn K cd0 d__wall.q = true) (k0 : PySem.W.keepIn K (.ref f0) = true)
  {f1 : Addr} {od1 an1 : Option Addr} {sl1 : Array (Option Value)} {oc1 kV1 dc1 pm1 cd1 ct1 : Value}
  {T1 : Addr} {tc1 : Value} {td1 : Option Addr} {tn1 : Nat} {ts1 : Array (Option Value)} 
  {e1_0 : Addr} {od1_0 : Option Addr} {on1_0 : Nat} {os1_0 : Array (Option Value)}
  (a1 : PySem.W.findIn K (.ref C0) "__init__" = some (some (.ref f1))) (i1 : PySem.W.isFn K (.ref f1) = true) (l1 : K.lookup f1 = some ⟨oc1, od1, .func (PySem.W.fnOf d_Grants___init__.x d_Grants___init__.q (defArgs d_Grants___init__.st) (defBody d_Grants___init__.st) (defScope d_Grants___init__.st) (.ref T1) kV1 dc1 pm1 an1 cd1 ct1), sl1⟩) (c1 : PySem.W.codeIn K cd1 d_Grants___init__.q = true) (k1 : PySem.W.keepIn K (.ref f1) = true)
  (lt1 : K.lookup T1 = some ⟨tc1, td1, .seq #[(.ref e1_0)] tn1, ts1⟩)
  (le1_0 : K.lookup e1_0 = some ⟨.type "tuple", od1_0, .seq #[] on1_0, os1_0⟩)
  {f2 : Addr} {od2 an2 : Option Addr} {sl2 : Array (Option Value)} {oc2 kV2 dc2 pm2 cd2 ct2 : Value}
  (a2 : PySem.W.findIn K (.ref C0) "_make" = some (some (.ref f2))) (i2 : PySem.W.isFn K (.ref f2) = true) (l2 : K.lookup f2 = some ⟨oc2, od2, .func (PySem.W.fnOf d_Grants__make.x d_Grants__make.q (defArgs d_Grants__make.st) (defBody d_Grants__make.st) (defScope d_Grants__make.st) .none kV2 dc2 pm2 an2 cd2 ct2), sl2⟩) (c2 : PySem.W.codeIn K cd2 d_Grants__make.q = true) (k2 : PySem.W.keepIn K (.ref f2) = true)
  {f3 : Addr} {od3 an3 : Option Addr} {sl3 : Array (Option Value)} {oc3 kV3 dc3 pm3 cd3 ct3 : Value}
  (a3 : PySem.W.findIn K (.ref C0) "_stands" = some (some (.ref f3))) (i3 : PySem.W.isFn K (.ref f3) = true) (l3 : K.lookup f3 = some ⟨oc3, od3, .func (PySem.W.fnOf d_Grants__stands.x d_Grants__stands.q (defArgs d_Grants__stands.st) (defBody d_Grants__stands.st) (defScope d_Grants__stands.st) .none kV3 dc3 pm3 an3 cd3 ct3), sl3⟩) (c3 : PySem.W.codeIn K cd3 d_Grants__stands.q = true) (k3 : PySem.W.keepIn K (.ref f3) = true)
  {f4 : Addr} {od4 an4 : Option Addr} {sl4 : Array (Option Value)} {oc4 kV4 dc4 pm4 cd4 ct4 : Value}
  (a4 : PySem.W.findIn K (.ref C0) "_need" = some (some (.ref f4))) (i4 : PySem.W.isFn K (.ref f4) = true) (l4 : K.lookup f4 = some ⟨oc4, od4, .func (PySem.W.fnOf d_Grants__need.x d_Grants__need.q (defArgs d_Grants__need.st) (defBody d_Grants__need.st) (defScope d_Grants__need.st) .none kV4 dc4 pm4 an4 cd4 ct4), sl4⟩) (c4 : PySem.W.codeIn K cd4 d_Grants__need.q = true) (k4 : PySem.W.keepIn K (.ref f4) = true)
  {f5 : Addr} {od5 an5 : Option Addr} {sl5 : Array (Option Value)} {oc5 kV5 dc5 pm5 cd5 ct5 : Value}
  (a5 : PySem.W.findIn K (.ref C0) "give" = some (some (.ref f5))) (i5 : PySem.W.isFn K (.ref f5) = true) (l5 : K.lookup f5 = some ⟨oc5, od5, .func (PySem.W.fnOf d_Grants_give.x d_Grants_give.q (defArgs d_Grants_give.st) (defBody d_Grants_give.st) (defScope d_Grants_give.st) .none kV5 dc5 pm5 an5 cd5 ct5), sl5⟩) (c5 : PySem.W.codeIn K cd5 d_Grants_give.q = true) (k5 : PySem.W.keepIn K (.ref f5) = true)
  {f6 : Addr} {od6 an6 : Option Addr} {sl6 : Array (Option Value)} {oc6 kV6 dc6 pm6 cd6 ct6 : Value}
  (a6 : PySem.W.findIn K (.ref C0) "pass_on" = some (some (.ref f6))) (i6 : PySem.W.isFn K (.ref f6) = true) (l6 : K.lookup f6 = some ⟨oc6, od6, .func (PySem.W.fnOf d_Grants_pass_on.x d_Grants_pass_on.q (defArgs d_Grants_pass_on.st) (defBody d_Grants_pass_on.st) (defScope d_Grants_pass_on.st) .none kV6 dc6 pm6 an6 cd6 ct6), sl6⟩) (c6 : PySem.W.codeIn K cd6 d_Grants_pass_on.q = true) (k6 : PySem.W.keepIn K (.ref f6) = true)
  {f7 : Addr} {od7 an7 : Option Addr} {sl7 : Array (Option Value)} {oc7 kV7 dc7 pm7 cd7 ct7 : Value}
  (a7 : PySem.W.findIn K (.ref C0) "revoke" = some (some (.ref f7))) (i7 : PySem.W.isFn K (.ref f7) = true) (l7 : K.lookup f7 = some ⟨oc7, od7, .func (PySem.W.fnOf d_Grants_revoke.x d_Grants_revoke.q (defArgs d_Grants_revoke.st) (defBody d_Grants_revoke.st) (defScope d_Grants_revoke.st) .none kV7 dc7 pm7 an7 cd7 ct7), sl7⟩) (c7 : PySem.W.codeIn K cd7 d_Grants_revoke.q = true) (k7 : PySem.W.keepIn K (.ref f7) = true)
  {f8 : Addr} {od8 an8 : Option Addr} {sl8 : Array (Option Value)} {oc8 kV8 dc8 pm8 cd8 ct8 : Value}
  (a8 : PySem.W.findIn K (.ref C0) "standing" = some (some (.ref f8))) (i8 : PySem.W.isFn K (.ref f8) = true) (l8 : K.lookup f8 = some ⟨oc8, od8, .func (PySem.W.fnOf d_Grants_standing.x d_Grants_standing.q (defArgs d_Grants_standing.st) (defBody d_Grants_standing.st) (defScope d_Grants_standing.st) .none kV8 dc8 pm8 an8 cd8 ct8), sl8⟩) (c8 : PySem.W.codeIn K cd8 d_Grants_standing.q = true) (k8 : PySem.W.keepIn K (.ref f8) = true)
  {f9 : Addr} {od9 an9 : Option Addr} {sl9 : Array (Option Value)} {oc9 kV9 dc9 pm9 cd9 ct9 : Value}
  (a9 : PySem.W.findIn K (.ref C0) "chain" = some (some (.ref f9))) (i9 : PySem.W.isFn K (.ref f9) = true) (l9 : K.lookup f9 = some ⟨oc9, od9, .func (PySem.W.fnOf d_Grants_chain.x d_Grants_chain.q (defArgs d_Grants_chain.st) (defBody d_Grants_chain.st) (defScope d_Grants_chain.st) .none kV9 dc9 pm9 an9 cd9 ct9), sl9⟩) (c9 : PySem.W.codeIn K cd9 d_Grants_chain.q = true) (k9 : PySem.W.keepIn K (.ref f9) = true)
  {f10 : Addr} {od10 an10 : Option Addr} {sl10 : Array (Option Value)} {oc10 kV10 dc10 pm10 cd10 ct10 : Value}
  (a10 : PySem.W.findIn K (.ref C0) "_rule" = some (some (.ref f10))) (i10 : PySem.W.isFn K (.ref f10) = true) (l10 : K.lookup f10 = some ⟨oc10, od10, .func (PySem.W.fnOf d_Grants__rule.x d_Grants__rule.q (defArgs d_Grants__rule.st) (defBody d_Grants__rule.st) (defScope d_Grants__rule.st) .none kV10 dc10 pm10 an10 cd10 ct10), sl10⟩) (c10 : PySem.W.codeIn K cd10 d_Grants__rule.q = true) (k10 : PySem.W.keepIn K (.ref f10) = true)
  {f11 : Addr} {od11 an11 : Option Addr} {sl11 : Array (Option Value)} {oc11 kV11 dc11 pm11 cd11 ct11 : Value}
  (a11 : PySem.W.findIn K (.ref C0) "rules" = some (some (.ref f11))) (i11 : PySem.W.isFn K (.ref f11) = true) (l11 : K.lookup f11 = some ⟨oc11, od11, .func (PySem.W.fnOf d_Grants_rules.x d_Grants_rules.q (defArgs d_Grants_rules.st) (defBody d_Grants_rules.st) (defScope d_Grants_rules.st) .none kV11 dc11 pm11 an11 cd11 ct11), sl11⟩) (c11 : PySem.W.codeIn K cd11 d_Grants_rules.q = true) (k11 : PySem.W.keepIn K (.ref f11) = true)
  {f12 : Addr} {od12 an12 : Option Addr} {sl12 : Array (Option Value)} {oc12 kV12 dc12 pm12 cd12 ct12 : Value}
  (a12 : PySem.W.findIn K (.ref C0) "records" = some (some (.ref f12))) (i12 : PySem.W.isFn K (.ref f12) = true) (l12 : K.lookup f12 = some ⟨oc12, od12, .func (PySem.W.fnOf d_Grants_records.x d_Grants_records.q (defArgs d_Grants_records.st) (defBody d_Grants_records.st) (defScope d_Grants_records.st) .none kV12 dc12 pm12 an12 cd12 ct12), sl12⟩) (c12 : PySem.W.codeIn K cd12 d_Grants_records.q = true) (k12 : PySem.W.keepIn K (.ref f12) = true)
  {f13 : Addr} {od13 an13 : Option Addr} {sl13 : Array (Option Value)} {oc13 kV13 dc13 pm13 cd13 ct13 : Value}
  (a13 : PySem.W.nsIn K mainGlobals "_law_draws" = some (some (.ref f13))) (l13 : K.lookup f13 = some ⟨oc13, od13, .func (PySem.W.fnOf d__law_draws.x d__law_draws.q (defArgs d__law_draws.st) (defBody d__law_draws.st) (defScope d__law_draws.st) .none kV13 dc13 pm13 an13 cd13 ct13), sl13⟩) (c13 : PySem.W.codeIn K cd13 d__law_draws.q = true) (k13 : PySem.W.keepIn K (.ref f13) = true)
  {f14 : Addr} {od14 an14 : Option Addr} {sl14 : Array (Option Value)} {oc14 kV14 dc14 pm14 cd14 ct14 : Value}
  (a14 : PySem.W.nsIn K mainGlobals "_law_take" = some (some (.ref f14))) (l14 : K.lookup f14 = some ⟨oc14, od14, .func (PySem.W.fnOf d__law_take.x d__law_take.q (defArgs d__law_take.st) (defBody d__law_take.st) (defScope d__law_take.st) .none kV14 dc14 pm14 an14 cd14 ct14), sl14⟩) (c14 : PySem.W.codeIn K cd14 d__law_take.q = true) (k14 : PySem.W.keepIn K (.ref f14) = true)
  {f15 : Addr} {od15 an15 : Option Addr} {sl15 : Array (Option Value)} {oc15 kV15 dc15 pm15 cd15 ct15 : Value}
  (a15 : PySem.W.nsIn K mainGlobals "_law_word" = some (some (.ref f15))) (l15 : K.lookup f15 = some ⟨oc15, od15, .func (PySem.W.fnOf d__law_word.x d__law_word.q (defArgs d__law_word.st) (defBody d__law_word.st) (defScope d__law_word.st) .none kV15 dc15 pm15 an15 cd15 ct15), sl15⟩) (c15 : PySem.W.codeIn K cd15 d__law_word.q = true) (k15 : PySem.W.keepIn K (.ref f15) = true)
  {f16 : Addr} {od16 an16 : Option Addr} {sl16 : Array (Option Value)} {oc16 kV16 dc16 pm16 cd16 ct16 : Value}
  (a16 : PySem.W.nsIn K mainGlobals "_law_pool" = some (some (.ref f16))) (l16 : K.lookup f16 = some ⟨oc16, od16, .func (PySem.W.fnOf d__law_pool.x d__law_pool.q (defArgs d__law_pool.st) (defBody d__law_pool.st) (defScope d__law_pool.st) .none kV16 dc16 pm16 an16 cd16 ct16), sl16⟩) (c16 : PySem.W.codeIn K cd16 d__law_pool.q = true) (k16 : PySem.W.keepIn K (.ref f16) = true)
  {f17 : Addr} {od17 an17 : Option Addr} {sl17 : Array (Option Value)} {oc17 kV17 dc17 pm17 cd17 ct17 : Value}
  (a17 : PySem.W.nsIn K mainGlobals "_law_world" = some (some (.ref f17))) (l17 : K.lookup f17 = some ⟨oc17, od17, .func (PySem.W.fnOf d__law_world.x d__law_world.q (defArgs d__law_world.st) (defBody d__law_world.st) (defScope d__law_world.st) .none kV17 dc17 pm17 an17 cd17 ct17), sl17⟩) (c17 : PySem.W.codeIn K cd17 d__law_world.q = true) (k17 : PySem.W.keepIn K (.ref f17) = true)
  {f18 : Addr} {od18 an18 : Option Addr} {sl18 : Array (Option Value)} {oc18 kV18 dc18 pm18 cd18 ct18 : Value}
  (a18 : PySem.W.nsIn K mainGlobals "_law_chosen" = some (some (.ref f18))) (l18 : K.lookup f18 = some ⟨oc18, od18, .func (PySem.W.fnOf d__law_chosen.x d__law_chosen.q (defArgs d__law_chosen.st) (defBody d__law_chosen.st) (defScope d__law_chosen.st) .none kV18 dc18 pm18 an18 cd18 ct18), sl18⟩) (c18 : PySem.W.codeIn K cd18 d__law_chosen.q = true) (k18 : PySem.W.keepIn K (.ref f18) = true)
  {f19 : Addr} {od19 an19 : Option Addr} {sl19 : Array (Option Value)} {oc19 kV19 dc19 pm19 cd19 ct19 : Value}
  (a19 : PySem.W.nsIn K mainGlobals "_law_leaf" = some (some (.ref f19))) (l19 : K.lookup f19 = some ⟨oc19, od19, .func (PySem.W.fnOf d__law_leaf.x d__law_leaf.q (defArgs d__law_leaf.st) (defBody d__law_leaf.st) (defScope d__law_leaf.st) .none kV19 dc19 pm19 an19 cd19 ct19), sl19⟩) (c19 : PySem.W.codeIn K cd19 d__law_leaf.q = true) (k19 : PySem.W.keepIn K (.ref f19) = true)
  {f20 : Addr} {od20 an20 : Option Addr} {sl20 : Array (Option Value)} {oc20 kV20 dc20 pm20 cd20 ct20 : Value}
  (a20 : PySem.W.nsIn K mainGlobals "_law_number" = some (some (.ref f20))) (l20 : K.lookup f20 = some ⟨oc20, od20, .func (PySem.W.fnOf d__law_number.x d__law_number.q (defArgs d__law_number.st) (defBody d__law_number.st) (defScope d__law_number.st) .none kV20 dc20 pm20 an20 cd20 ct20), sl20⟩) (c20 : PySem.W.codeIn K cd20 d__law_number.q = true) (k20 : PySem.W.keepIn K (.ref f20) = true)
  {f21 : Addr} {od21 an21 : Option Addr} {sl21 : Array (Option Value)} {oc21 kV21 dc21 pm21 cd21 ct21 : Value}
  (a21 : PySem.W.nsIn K mainGlobals "_law_chain" = some (some (.ref f21))) (l21 : K.lookup f21 = some ⟨oc21, od21, .func (PySem.W.fnOf d__law_chain.x d__law_chain.q (defArgs d__law_chain.st) (defBody d__law_chain.st) (defScope d__law_chain.st) .none kV21 dc21 pm21 an21 cd21 ct21), sl21⟩) (c21 : PySem.W.codeIn K cd21 d__law_chain.q = true) (k21 : PySem.W.keepIn K (.ref f21) = true)
  {f22 : Addr} {od22 an22 : Option Addr} {sl22 : Array (Option Value)} {oc22 kV22 dc22 pm22 cd22 ct22 : Value}
  (a22 : PySem.W.nsIn K mainGlobals "_law_stands" = some (some (.ref f22))) (l22 : K.lookup f22 = some ⟨oc22, od22, .func (PySem.W.fnOf d__law_stands.x d__law_stands.q (defArgs d__law_stands.st) (defBody d__law_stands.st) (defScope d__law_stands.st) .none kV22 dc22 pm22 an22 cd22 ct22), sl22⟩) (c22 : PySem.W.codeIn K cd22 d__law_stands.q = true) (k22 : PySem.W.keepIn K (.ref f22) = true)
  {f23 : Addr} {od23 an23 : Option Addr} {sl23 : Array (Option Value)} {oc23 kV23 dc23 pm23 cd23 ct23 : Value}
  (a23 : PySem.W.nsIn K mainGlobals "_law_due" = some (some (.ref f23))) (l23 : K.lookup f23 = some ⟨oc23, od23, .func (PySem.W.fnOf d__law_due.x d__law_due.q (defArgs d__law_due.st) (defBody d__law_due.st) (defScope d__law_due.st) .none kV23 dc23 pm23 an23 cd23 ct23), sl23⟩) (c23 : PySem.W.codeIn K cd23 d__law_due.q = true) (k23 : PySem.W.keepIn K (.ref f23) = true)
  {f24 : Addr} {od24 an24 : Option Addr} {sl24 : Array (Option Value)} {oc24 kV24 dc24 pm24 cd24 ct24 : Value}
  (a24 : PySem.W.nsIn K mainGlobals "_law_are_records" = some (some (.ref f24))) (l24 : K.lookup f24 = some ⟨oc24, od24, .func (PySem.W.fnOf d__law_are_records.x d__law_are_records.q (defArgs d__law_are_records.st) (defBody d__law_are_records.st) (defScope d__law_are_records.st) .none kV24 dc24 pm24 an24 cd24 ct24), sl24⟩) (c24 : PySem.W.codeIn K cd24 d__law_are_records.q = true) (k24 : PySem.W.keepIn K (.ref f24) = true)
  {f25 : Addr} {od25 an25 : Option Addr} {sl25 : Array (Option Value)} {oc25 kV25 dc25 pm25 cd25 ct25 : Value}
  (a25 : PySem.W.nsIn K mainGlobals "_law_is_count" = some (some (.ref f25))) (l25 : K.lookup f25 = some ⟨oc25, od25, .func (PySem.W.fnOf d__law_is_count.x d__law_is_count.q (defArgs d__law_is_count.st) (defBody d__law_is_count.st) (defScope d__law_is_count.st) .none kV25 dc25 pm25 an25 cd25 ct25), sl25⟩) (c25 : PySem.W.codeIn K cd25 d__law_is_count.q = true) (k25 : PySem.W.keepIn K (.ref f25) = true)
  {f26 : Addr} {od26 an26 : Option Addr} {sl26 : Array (Option Value)} {oc26 kV26 dc26 pm26 cd26 ct26 : Value}
  (a26 : PySem.W.nsIn K mainGlobals "_law_is_tuple" = some (some (.ref f26))) (l26 : K.lookup f26 = some ⟨oc26, od26, .func (PySem.W.fnOf d__law_is_tuple.x d__law_is_tuple.q (defArgs d__law_is_tuple.st) (defBody d__law_is_tuple.st) (defScope d__law_is_tuple.st) .none kV26 dc26 pm26 an26 cd26 ct26), sl26⟩) (c26 : PySem.W.codeIn K cd26 d__law_is_tuple.q = true) (k26 : PySem.W.keepIn K (.ref f26) = true)
  {f27 : Addr} {od27 an27 : Option Addr} {sl27 : Array (Option Value)} {oc27 kV27 dc27 pm27 cd27 ct27 : Value}
  (a27 : PySem.W.nsIn K mainGlobals "_law_pass" = some (some (.ref f27))) (l27 : K.lookup f27 = some ⟨oc27, od27, .func (PySem.W.fnOf d__law_pass.x d__law_pass.q (defArgs d__law_pass.st) (defBody d__law_pass.st) (defScope d__law_pass.st) .none kV27 dc27 pm27 an27 cd27 ct27), sl27⟩) (c27 : PySem.W.codeIn K cd27 d__law_pass.q = true) (k27 : PySem.W.keepIn K (.ref f27) = true)
  {f28 : Addr} {od28 an28 : Option Addr} {sl28 : Array (Option Value)} {oc28 kV28 dc28 pm28 cd28 ct28 : Value}
  (a28 : PySem.W.nsIn K mainGlobals "_law_revoke" = some (some (.ref f28))) (l28 : K.lookup f28 = some ⟨oc28, od28, .func (PySem.W.fnOf d__law_revoke.x d__law_revoke.q (defArgs d__law_revoke.st) (defBody d__law_revoke.st) (defScope d__law_revoke.st) .none kV28 dc28 pm28 an28 cd28 ct28), sl28⟩) (c28 : PySem.W.codeIn K cd28 d__law_revoke.q = true) (k28 : PySem.W.keepIn K (.ref f28) = true)
  {f29 : Addr} {od29 an29 : Option Addr} {sl29 : Array (Option Value)} {oc29 kV29 dc29 pm29 cd29 ct29 : Value}
  (a29 : PySem.W.nsIn K mainGlobals "_law_grant_deed" = some (some (.ref f29))) (l29 : K.lookup f29 = some ⟨oc29, od29, .func (PySem.W.fnOf d__law_grant_deed.x d__law_grant_deed.q (defArgs d__law_grant_deed.st) (defBody d__law_grant_deed.st) (defScope d__law_grant_deed.st) .none kV29 dc29 pm29 an29 cd29 ct29), sl29⟩) (c29 : PySem.W.codeIn K cd29 d__law_grant_deed.q = true) (k29 : PySem.W.keepIn K (.ref f29) = true)
  {f30 : Addr} {od30 an30 : Option Addr} {sl30 : Array (Option Value)} {oc30 kV30 dc30 pm30 cd30 ct30 : Value}
  (a30 : PySem.W.nsIn K mainGlobals "_law_chain_told" = some (some (.ref f30))) (l30 : K.lookup f30 = some ⟨oc30, od30, .func (PySem.W.fnOf d__law_chain_told.x d__law_chain_told.q (defArgs d__law_chain_told.st) (defBody d__law_chain_told.st) (defScope d__law_chain_told.st) .none kV30 dc30 pm30 an30 cd30 ct30), sl30⟩) (c30 : PySem.W.codeIn K cd30 d__law_chain_told.q = true) (k30 : PySem.W.keepIn K (.ref f30) = true)
  {f31 : Addr} {od31 an31 : Option Addr} {sl31 : Array (Option Value)} {oc31 kV31 dc31 pm31 cd31 ct31 : Value}
  (a31 : PySem.W.nsIn K mainGlobals "_law_are_chains" = some (some (.ref f31))) (l31 : K.lookup f31 = some ⟨oc31, od31, .func (PySem.W.fnOf d__law_are_chains.x d__law_are_chains.q (defArgs d__law_are_chains.st) (defBody d__law_are_chains.st) (defScope d__law_are_chains.st) .none kV31 dc31 pm31 an31 cd31 ct31), sl31⟩) (c31 : PySem.W.codeIn K cd31 d__law_are_chains.q = true) (k31 : PySem.W.keepIn K (.ref f31) = true)
  {f32 : Addr} {od32 an32 : Option Addr} {sl32 : Array (Option Value)} {oc32 kV32 dc32 pm32 cd32 ct32 : Value}
  (a32 : PySem.W.nsIn K mainGlobals "law" = some (some (.ref f32))) (l32 : K.lookup f32 = some ⟨oc32, od32, .func (PySem.W.fnOf d_law.x d_law.q (defArgs d_law.st) (defBody d_law.st) (defScope d_law.st) .none kV32 dc32 pm32 an32 cd32 ct32), sl32⟩) (c32 : PySem.W.codeIn K cd32 d_law.q = true) (k32 : PySem.W.keepIn K (.ref f32) = true)
  (z0 : PySem.W.nsIn K mainGlobals "len" = some none)
  (z1 : PySem.W.nsIn K mainGlobals "int" = some none)
  (z2 : PySem.W.nsIn K mainGlobals "abs" = some none)
  (z3 : PySem.W.nsIn K mainGlobals "max" = some none)
  (z4 : PySem.W.nsIn K mainGlobals "min" = some none)
  (z5 : PySem.W.nsIn K mainGlobals "str" = some none)
  (z6 : PySem.W.nsIn K mainGlobals "tuple" = some none)
  (z7 : PySem.W.nsIn K mainGlobals "list" = some none)
  (z8 : PySem.W.nsIn K mainGlobals "sorted" = some none)
  (z9 : PySem.W.nsIn K mainGlobals "all" = some none)
  (z10 : PySem.W.nsIn K mainGlobals "any" = some none)
  (z11 : PySem.W.nsIn K mainGlobals "sum" = some none)
  (z12 : PySem.W.nsIn K mainGlobals "range" = some none)
  (z13 : PySem.W.nsIn K mainGlobals "isinstance" = some none)
  (z14 : PySem.W.nsIn K mainGlobals "bool" = some none)
  (z15 : PySem.W.nsIn K mainGlobals "enumerate" = some none)
  (z16 : PySem.W.nsIn K mainGlobals "zip" = some none)
  (z17 : PySem.W.nsIn K mainGlobals "set" = some none)
  : ∃ fd : FuncData, (∀ (s : Shared) (v : Value), BindsTo s fd ⟨[v], []⟩ [("_law_script", v)]) ∧ ∀ base : Heap, K.In base → base.Ns mainGlobals mg → FnOk l.prog w K mg base (L2.CX l.prog w) (2 * 30) fa fd ["_law_script"] (spLaw K defs clss.length 30 32) := by
  have e := hfa.symm.trans (PySem.W.mg_of X G a32)
  cases e
  obtain ⟨cl, el, T, fd, hF⟩ := top_mk X G ca0 cg0 ch0 cp0 cs0 cm0 ck0 cf0_0 ea0 ed0 et0 es0 er0 ea1 ed1 et1 es1 er1 ea2 ed2 et2 es2 er2 ea3 ed3 et3 es3 er3 ea4 ed4 et4 es4 er4 ea5 ed5 et5 es5 er5 ea6 ed6 et6 es6 er6 ea7 ed7 et7 es7 er7 ea8 ed8 et8 es8 er8 ea9 ed9 et9 es9 er9 ea10 ed10 et10 es10 er10 ea11 ed11 et11 es11 er11 ea12 ed12 et12 es12 er12 ea13 ed13 et13 es13 er13 ex8 ek8 eg8 eh8 ec8 em8 eo8_0 eo8_1 eo8_2 eo8_3 eo8_4 eo8_5 eo8_6 eo8_7 eo8_8 eo8_9 eo8_10 eo8_11 eo8_12 eo8_13 ex9 ek9 eg9 eh9 ec9 em9 eo9_0 eo9_1 eo9_2 eo9_3 eo9_4 eo9_5 eo9_6 eo9_7 eo9_8 eo9_9 eo9_10 eo9_11 eo9_12 eo9_13 xn xt a0 l0 c0 k0 a1 i1 l1 c1 k1 lt1 le1_0 a2 i2 l2 c2 k2 a3 i3 l3 c3 k3 a4 i4 l4 c4 k4 a5 i5 l5 c5 k5 a6 i6 l6 c6 k6 a7 i7 l7 c7 k7 a8 i8 l8 c8 k8 a9 i9 l9 c9 k9 a10 i10 l10 c10 k10 a11 i11 l11 c11 k11 a12 i12 l12 c12 k12 a13 l13 c13 k13 a14 l14 c14 k14 a15 l15 c15 k15 a16 l16 c16 k16 a17 l17 c17 k17 a18 l18 c18 k18 a19 l19 c19 k19 a20 l20 c20 k20 a21 l21 c21 k21 a22 l22 c22 k22 a23 l23 c23 k23 a24 l24 c24 k24 a25 l25 c25 k25 a26 l26 c26 k26 a27 l27 c27 k27 a28 l28 c28 k28 a29 l29 c29 k29 a30 l30 c30 k30 a31 l31 c31 k31 a32 l32 c32 k32 z0 z1 z2 z3 z4 z5 z6 z7 z8 z9 z10 z11 z12 z13 z14 z15 z16 z17
  exact ⟨_, fun s v => .of_eq rfl, fun base _ _ => law_ok T all_ok 30 32 d_law _ _ rfl rfl (fun_mk (st := d_law.st) l32 c32 k32).toA⟩
end LawX

set_option maxHeartbeats 4000000
namespace LawX
open PySem PySem.Spec PyProof.Rows L2 PW
abbrev TT (C : Nat) : List FD := fdsC defs [C]
variable {F n C : Nat} {S : Store}
/-- what stays true of the records -/
structure Gd (m : Nat) (rs : List Rc) : Prop where
  wf : Wf rs
  lw : ∀ r ∈ rs, Lw 4 r.cnd
  ln : rs.length ≤ m
theorem Gd.deed {m : Nat} {rs : List Rc} (g : Gd m rs) (kd i : Int) (w : Str) (cd : PyData) (q : Int) (hc : Lw 4 cd) : Gd (m + 1) (deed rs kd i w cd q) := by
  have snoc : ∀ (p : Nat) (q : Int), p ≤ rs.length → Gd (m + 1) (rs ++ [⟨p, w, cd, q, false⟩]) := fun p q hp =>
    ⟨wf_snoc g.wf _ hp, fun r hr => by
      rcases List.mem_append.mp hr with h | h
      · exact g.lw r h
      · rw [List.mem_singleton.mp h]; exact hc, by rw [List.length_append, List.length_singleton]; have := g.ln; omega⟩
  have self : Gd (m + 1) rs := ⟨g.wf, g.lw, by have := g.ln; omega⟩
  unfold PW.deed
  split
  · exact snoc 0 q (Nat.zero_le _)
  split
  · exact self
  rename_i hs
  have hs : stands rs i = true := by cases h : stands rs i; exact absurd h hs; rfl
  obtain ⟨k, hk, rfl⟩ := stands_no hs
  have et : ((k : Int) + 1).toNat = k + 1 := by omega
  split
  · exact ⟨revoke_wf g.wf _, revoke_cnd g.lw, by rw [revoke_len]; have := g.ln; omega⟩
  split
  · split
    · exact self
    · rw [et]
      exact snoc (k + 1) _ (by omega)
  · exact self
/-- what is known of the defs -/
structure Kn (Φ : Fns) (C : Nat) : Prop where
  t : ∀ (r : List Int) (S : Store) (m : Int), 0 < m → Φ 14 [.loc 0, .d (.int m)] (dr r :: S) = .ok (.d (.int (tk r m))) (dr r.tail :: S)
  num : ∀ (ns : List Int) (m : Nat) (r : List Int) (S : Store), ∃ (i : Int) (r' : List Int), Φ 20 [.d (.list (ns.map .int)), .loc 0, .d (.int m)] (dr r :: S) = .ok (.d (.int i)) (dr r' :: S)
  leaf : ∀ (ns : List Int) {fs ws : List Str} {ts : List PyData}, Wld fs ws ts → ∀ {l : Nat} {S : Store}, S[l]? = some (.lst ts) → Cl S → ∀ r : List Int, ∃ (x : PyData) (r' : List Int), Lf fs ws x ∧ Φ 19 [.d (.list (ns.map .int)), .loc 0, WV fs ws (l + 1)] (dr r :: S) = .ok (.d x) (dr r' :: S)
  c : clsNo Φ 33 = some C
  dd : ∀ {S : Store} {l k : Nat} {rs : List Rc}, GrAt C S l k rs → Wf rs → rs.length < 100 → ∀ (kd i : Int) (w : Str) (cd : PyData) (q : Int), Φ 29 [.loc l, .d (.list (recsD rs)), .d (.int kd), .d (.int i), .d (.str w), .d cd, .d (.int q)] S = .ok (.d (.list (recsD (deed rs kd i w cd q)))) (S.set k (.lst (recsD (deed rs kd i w cd q))))
  st : ∀ {S : Store} {rs : List Rc}, Wf rs → rs.length < 100 → ∀ i : Int, Φ 22 [.d (.list (recsD rs)), .d (.int i)] S = .ok (.d (.bool (stands rs i))) S
  tp : ∀ {S : Store} {xs : List PyData}, lowOk (.tuple xs) = true → Φ 26 [.d (.tuple xs), .d (.tuple xs)] S = .ok (.d (.bool true)) S
  std : ∀ {S : Store} {l k : Nat} {rs : List Rc}, GrAt C S l k rs → Wf rs → rs.length < 100 → Φ 8 [.loc l] S = .ok (.d (.tuple (stdD rs))) S
  are : ∀ (rs : List Rc) (v : PV) (S : Store), seqOf S v = some (false, (recsD rs).map .d) → (∀ r ∈ rs, Lw 4 r.cnd) → Φ 24 [.d (.tuple (recsD rs)), v] S = .ok (.d (.bool true)) S
  recs : ∀ {S : Store} {l k : Nat} {rs : List Rc}, GrAt C S l k rs → Φ 12 [.loc l] S = .ok (.d (.tuple (recsD rs))) S
  arch : ∀ {S : Store} {l k : Nat} {rs : List Rc}, GrAt C S l k rs → Wf rs → rs.length < 100 → S.all (Ob.under S.length) = true → ∀ os : List Int, os.length ≤ 1000 → Φ 31 [.loc l, .d (.list (recsD rs)), .d (.list (os.map .int))] S = .ok (.d (.bool true)) S
theorem dk_ok : Dk (callN (TT C) 200 (n + 6)) 33 5 22 27 28 23 25 C where
  c := cls_at (n := n + 5) rfl
  give := fun {S l k rs} G hl w cd q => giveG_ok (n := n + 3) (jm := 2) (jc := 33) rfl rfl rfl G (by omega) w cd q
  st := fun {S rs} hw hl i => lstands_ok (n := n + 4) (jc := 21) rfl rfl hw (by omega) i
  pass := fun {S l k rs} G hw hl i w cd => lpass_ok (n := n + 1) (jp := 6) (jm := 2) (jn := 4) (js := 3) (jc := 33) rfl rfl rfl rfl rfl rfl G hw (by omega) (by omega) i w cd
  rev := fun {S l k rs} G hw hl i => lrev_ok (n := n + 1) (jr := 7) (jn := 4) (js := 3) (jc := 33) rfl rfl rfl rfl rfl G hw (by omega) i
  d8 := fun S => by rw [due_ok (n := n + 5) rfl "NoGrant" (by decide +kernel), due8]
  d9 := fun S => by rw [due_ok (n := n + 5) rfl "NoPasses" (by decide +kernel), due9]
  d0 := fun S => due_at (n := n + 5) rfl
  cnt := fun i S => count_ok (n := n + 5) rfl i
theorem kn_ok : Kn (callN (TT C) 200 (n + 7)) C where
  t := fun r S m h => take_ok rfl r S m h
  num := fun ns m r S => number_ok (n := n + 5) (jt := 14) rfl rfl ns m r
  leaf := fun ns {fs ws ts} X {l S} hl hS r => leaf_ok (n := n + 5) (jt := 14) (jc := 18) rfl rfl rfl ns X hl hS r
  c := cls_at (n := n + 6) rfl
  dd := fun {S l k rs} G hw hl kd i w cd q => wp_to (wp_fn (d := d__law_grant_deed.fd) rfl rfl (deed_ok dk_ok G hw hl kd i w cd q))
  st := fun {S rs} hw hl i => lstands_ok (n := n + 5) (jc := 21) rfl rfl hw (by omega) i
  tp := fun {S xs} h => ltup_ok (n := n + 6) rfl h
  std := fun {S l k rs} G hw hl => standingG_ok (n := n + 4) (js := 3) (jc := 33) rfl rfl rfl G hw (by omega) (by omega)
  are := fun rs v S hv hc => arer_ok (n := n + 6) rfl _ v hv (recs_form rs) ((recs_lw hc).low (by decide))
  recs := fun {S l k rs} G => recordsG_ok (n := n + 5) (jc := 33) rfl rfl G
  arch := fun {S l k rs} G hw hl hS os ho => wp_to (wp_fn (d := d__law_are_chains.fd) rfl rfl (arch_ok (jt := 30) (jd := 23) (ju := 26) (jh := 21) (fun i => ltold_ok (n := n + 3) (jh := 9) (jc := 33) rfl rfl rfl G hw (by omega) (by omega) hS i) ((dk_ok (n := n)).d8 S) (fun xs h => ltup_ok (n := n + 5) rfl h) (fun i => lchain_ok (n := n + 5) rfl hw (by omega) i) hw hl os ho))
abbrev LAY (C : Nat) (ts : List PyData) (r : List Int) (rs : List Rc) : Store := [dr r, .lst ts, .inst C [("_records", .loc 3)], .lst (recsD rs)]
theorem gr1 (C : Nat) (ts : List PyData) (r : List Int) (rs : List Rc) : GrAt C (LAY C ts r rs) 2 3 rs := ⟨rfl, rfl, by decide⟩
theorem lay_cl (C : Nat) (ts : List PyData) (r : List Int) (rs : List Rc) : (LAY C ts r rs).all (Ob.under (LAY C ts r rs).length) = true := rfl
abbrev EV (ns : List Int) (ws : List Str) (cd : PyData) (rs : List Rc) (x6 x7 x8 x9 x10 x11 x12 x13 : Option PV) : PW.Env := [some (.d (.list (ns.map .int))), some (.loc 0), some (.d (.list (ws.map .str))), some (.d cd), some (.loc 2), some (.d (.list (recsD rs))), x6, x7, x8, x9, x10, x11, x12, x13]
/-- a turn of the first loop -/
theorem turn1_ok {Φ : Fns} (K : Kn Φ C) (ns : List Int) (ws : List Str) (w0 : 0 < ws.length) (w1 : ws.length ≤ 100) (cd : PyData) (hc : Lw 4 cd) (ts : List PyData) (r : List Int) (rs : List Rc) (m : Nat) (hm : m < 90) (g : Gd m rs) (i : Int) (x7 x8 x9 x10 x11 x12 x13 : Option PV) {Q : PW.Env × Fl → Store → Prop}
    (hQ : ∀ env rs' x7, env = EV ns ws cd rs' (some (.d (.int i))) x7 x8 x9 x10 x11 x12 x13 → Gd (m + 1) rs' → Q (env, .next) (LAY C ts r rs')) :
    Wp (exs Φ F [
      .asg (.slot 7) (.idx (.var 2) (.bin .mod (.bn .int [(.var 6)]) (.bn .len [(.var 2)]))),
      .asg (.slot 5) (.call false 29 [(.var 4), (.var 5), (.idx (.fr false .disp [(.lit (.int 0)), (.lit (.int 3))]) (.bn .int [(.cmp .gt (.var 6) (.lit (.int 0)))])), (.var 6), (.var 7), (.var 3), (.lit (.int 9))]),
      .ite (.cmp .is_ (.var 5) (.lit .none)) [
        .ret (.lit (.bool false))] []] (EV ns ws cd rs (some (.d (.int i))) x7 x8 x9 x10 x11 x12 x13) (LAY C ts r rs)) Q := by
  have gl := g.ln
  have W0 : (0 : Int) < ws.length := by omega
  have hm1 := Int.emod_nonneg i (show (ws.length : Int) ≠ 0 by omega)
  have hm2 := Int.emod_lt_of_pos i W0
  obtain ⟨w, hw, pw⟩ := pick_ix (S := LAY C ts r rs) (vs := ws) (m := ws.length) (Int.le_refl _) hm1 hm2
  have dd := fun kd => K.dd (gr1 C ts r rs) g.wf (by omega) kd i w cd 9
  have hb : ∀ (rs' : List Rc) (x : PyData), back false (LAY C ts r rs).length (.d x) (LAY C ts r rs') = .ok (.d x) (LAY C ts r rs') := fun rs' x => back_len rfl
  have hset : ∀ rs', (LAY C ts r rs).set 3 (.lst (recsD rs')) = LAY C ts r rs' := fun _ => rfl
  have hQ := fun kd env x7 he => hQ env (deed rs kd i w cd 9) x7 he (g.deed kd i w cd 9 hc)
  simp only [hset] at dd
  have m2 : mkLst [.d (.int 0), .d (.int 3)] = .d (.list [.int 0, .int 3]) := rfl
  have z2 := sizeL (show 2 ≤ 1000000 by decide)
  have hne : ¬ ws = [] := fun e => by rw [e] at w0; exact absurd w0 (by decide)
  have fin : ∀ kd : Int, Wp (exs Φ F [.ite (.cmp .is_ (.var 5) (.lit .none)) [
        .ret (.lit (.bool false))] []] (EV ns ws cd (deed rs kd i w cd 9) (some (.d (.int i))) (some (.d (.str w))) x8 x9 x10 x11 x12 x13) (LAY C ts r (deed rs kd i w cd 9))) Q := by
    intro kd
    have hQ := hQ kd _ (some (.d (.str w))) rfl
    generalize LAY C ts r (deed rs kd i w cd 9) = S1 at *
    (refine wp_seq ?_; simp [-exs_cons])
    exact hQ
  generalize hL : (fun rs => LAY C ts r rs) = L at *
  have hLr : ∀ rs, LAY C ts r rs = L rs := fun rs => congrFun hL rs
  simp only [hLr] at *
  (refine wp_seq ?_; simp [-exs_cons, pw, hne, W0, w0])
  by_cases h0 : 0 < i
  · have bi : ∀ S : Store, bnop S .int [.d (.bool true)] = some (.d (.int 1)) := fun _ => rfl
    have i1 : ∀ S : Store, idxop S (.d (.list [.int 0, .int 3])) (.d (.int 1)) = some (.d (.int 3)) := fun S => rfl
    (refine wp_seq ?_; simp [-exs_cons, h0, m2, z2, bi, i1, dd, hb, -back_bool])
    exact fin 3
  · have bi : ∀ S : Store, bnop S .int [.d (.bool false)] = some (.d (.int 0)) := fun _ => rfl
    have i1 : ∀ S : Store, idxop S (.d (.list [.int 0, .int 3])) (.d (.int 0)) = some (.d (.int 0)) := fun S => rfl
    (refine wp_seq ?_; simp [-exs_cons, h0, m2, z2, bi, i1, dd, hb, -back_bool])
    exact fin 0
/-- what is looked at after a deed -/
theorem look_ok {Φ : Fns} (K : Kn Φ C) (ns : List Int) (ws : List Str) (cd : PyData) (ts : List PyData) (r : List Int) (rs : List Rc) (m : Nat) (hm : m < 90) (g : Gd m rs) (x6 x7 x8 x9 x10 x11 x12 x13 : Option PV) {Q : PW.Env × Fl → Store → Prop}
    (hQ : ∀ env x11, env = EV ns ws cd rs x6 x7 x8 x9 x10 x11 x12 x13 → Q (env, .next) (LAY C ts r rs)) :
    Wp (exs Φ F [
    .ite (.cmp .is_ (.var 5) (.lit .none)) [
      .ret (.lit (.bool false))] [],
    .asg (.slot 11) (.bn .tuple [(.comp false [12] (.slot 12) .of [(.var 5)] [(.call false 22 [(.var 5), (.idx (.var 12) (.lit (.int 0)))])] (.idx (.var 12) (.lit (.int 0))))]),
    .ite (.or (.not (.call false 26 [(.mcall false 33 8 "standing" (.var 4) [] []), (.var 11)])) (.not (.call false 24 [(.mcall false 33 12 "records" (.var 4) [] []), (.var 5)]))) [
      .ret (.lit (.bool false))] []] (EV ns ws cd rs x6 x7 x8 x9 x10 x11 x12 x13) (LAY C ts r rs)) Q := by
  have gl := g.ln
  have G := gr1 C ts r rs
  have f1 := inst_at (S := LAY C ts r rs) (m := "standing") K.c G.ob (lk_ne (.loc 3) (nk "standing" "_records" (by decide +kernel)))
  have f2 := inst_at (S := LAY C ts r rs) (m := "records") K.c G.ob (lk_ne (.loc 3) (nk "records" "_records" (by decide +kernel)))
  have e1 := K.std G g.wf (by omega)
  have e2 := K.recs G
  have st := fun i => K.st (S := LAY C ts r rs) g.wf (by omega) i
  have lo : lowOk (.tuple (stdD rs)) = true := (lw_tup (k := 0) fun y hy => by
    unfold stdD at hy
    obtain ⟨d, _, rfl⟩ := List.mem_map.mp hy
    exact lw_int _ _).low (by decide)
  have e3 := K.tp (S := LAY C ts r rs) lo
  have e4 := K.are rs (.d (.list (recsD rs))) (LAY C ts r rs) rfl g.lw
  have hb : ∀ x : PyData, back false (LAY C ts r rs).length (.d x) (LAY C ts r rs) = .ok (.d x) (LAY C ts r rs) := fun x => back_len rfl
  have i0 : ∀ (S : Store) i, (h : i < rs.length) → idxop S (.d ((rs[i]).d i)) (.d (.int 0)) = some (.d (.int ((i : Int) + 1))) := fun S i h => idx_seq (i := 0) (b := true) rfl rfl
  generalize LAY C ts r rs = S at *
  (refine wp_seq ?_; simp [-exs_cons])
  refine wp_seq ?_
  simp [-exs_cons]
  refine wp_call (P := fun ys S' => ys = (stdD rs).map .d ∧ S' = S) (wp_noErr (std_comp (w := ⟨(recsD rs).map .d, none⟩) trivial (fun i h => ?_) (fun i h => ?_) ⟨rfl, rfl⟩)) ?_
  · simp [killE, -back_bool, i0, h, st, hb]
  · simp [killE, i0, h]
  rintro ys S2 ⟨h1, h2⟩
  subst h1 h2
  have z := sizeL (show (stdD rs).length ≤ 1000000 by have := std_len rs; omega)
  simp [-exs_cons, z]
  refine wp_seq ?_
  simp [-exs_cons, f1, f2, e1, e2, e3, e4, hb, -back_bool]
  exact hQ _ _ rfl
abbrev lookB : List CS := [
    .ite (.cmp .is_ (.var 5) (.lit .none)) [
      .ret (.lit (.bool false))] [],
    .asg (.slot 11) (.bn .tuple [(.comp false [12] (.slot 12) .of [(.var 5)] [(.call false 22 [(.var 5), (.idx (.var 12) (.lit (.int 0)))])] (.idx (.var 12) (.lit (.int 0))))]),
    .ite (.or (.not (.call false 26 [(.mcall false 33 8 "standing" (.var 4) [] []), (.var 11)])) (.not (.call false 24 [(.mcall false 33 12 "records" (.var 4) [] []), (.var 5)]))) [
      .ret (.lit (.bool false))] []]
theorem turn2_ok {Φ : Fns} (K : Kn Φ C) (ns : List Int) (ws : List Str) (w0 : 0 < ws.length) (w1 : ws.length ≤ 100) (cd : PyData) (hc : Lw 4 cd) (ts : List PyData) (r : List Int) (rs : List Rc) (m : Nat) (hm : m < 80) (g : Gd m rs) (x6 x7 x8 x9 x10 x11 x12 x13 : Option PV) {Q : PW.Env × Fl → Store → Prop}
    (hQ : ∀ env rs' r' x7 x8 x9 x10 x11, env = EV ns ws cd rs' x6 x7 x8 x9 x10 x11 x12 x13 → Gd (m + 1) rs' → Q (env, .next) (LAY C ts r' rs')) :
    Wp (exs Φ F ([
    .asg (.slot 8) (.call false 14 [(.var 1), (.lit (.int 7))]),
    .asg (.slot 9) (.call false 20 [(.var 0), (.var 1), (.bn .len [(.var 5)])]),
    .asg (.slot 7) (.idx (.var 2) (.call false 14 [(.var 1), (.bn .len [(.var 2)])])),
    .asg (.slot 10) (.call false 14 [(.var 1), (.lit (.int 4))]),
    .asg (.slot 5) (.call false 29 [(.var 4), (.var 5), (.var 8), (.var 9), (.var 7), (.var 3), (.var 10)])] ++ lookB) (EV ns ws cd rs x6 x7 x8 x9 x10 x11 x12 x13) (LAY C ts r rs)) Q := by
  have gl := g.ln
  have t1 : ∀ (r : List Int) (m : Int), 0 < m → Φ 14 [.loc 0, .d (.int m)] (LAY C ts r rs) = .ok (.d (.int (tk r m))) (LAY C ts r.tail rs) := fun r m hm => K.t r (LAY C ts r rs).tail m hm
  have n1 : ∀ r : List Int, ∃ (i : Int) (r' : List Int), Φ 20 [.d (.list (ns.map .int)), .loc 0, .d (.int rs.length)] (LAY C ts r rs) = .ok (.d (.int i)) (LAY C ts r' rs) := fun r => K.num ns rs.length r (LAY C ts r rs).tail
  have dd := fun r kd i w q => K.dd (gr1 C ts r rs) g.wf (by omega) kd i w cd q
  have hset : ∀ r rs', (LAY C ts r rs).set 3 (.lst (recsD rs')) = LAY C ts r rs' := fun _ _ => rfl
  simp only [hset] at dd
  have hb : ∀ (r r' : List Int) (rs' : List Rc) (x : PyData), back false (LAY C ts r rs).length (.d x) (LAY C ts r' rs') = .ok (.d x) (LAY C ts r' rs') := fun r r' rs' x => back_len rfl
  have W0 : (0 : Int) < ws.length := by omega
  have hlen : (recsD rs).length = rs.length := recsD_len rs
  have lo := fun r rs' (g' : Gd (m + 1) rs') x7 x8 x9 x10 => look_ok (F := F) K ns ws cd ts r rs' (m + 1) (by omega) g' x6 x7 x8 x9 x10 x11 x12 x13 (Q := Q) (fun env x11 he => hQ env rs' r x7 x8 x9 x10 x11 he g')
  generalize hL : (fun r rs => LAY C ts r rs) = L at *
  have hLr : ∀ r rs, LAY C ts r rs = L r rs := fun r rs => congrFun (congrFun hL r) rs
  simp only [hLr] at *
  obtain ⟨nb, r2, en⟩ := n1 r.tail
  show Wp (exs Φ F (_ :: _ :: _ :: _ :: _ :: lookB) _ _) Q
  have lo : ∀ r rs' (g' : Gd (m + 1) rs') x7 x8 x9 x10, Wp (exs Φ F lookB (EV ns ws cd rs' x6 x7 x8 x9 x10 x11 x12 x13) (L r rs')) Q := lo
  generalize lookB = lookb at *
  (refine wp_seq ?_; simp [-exs_cons, t1, hb, -back_bool])
  (refine wp_seq ?_; simp [-exs_cons, hlen, en, hb, -back_bool])
  obtain ⟨b1, b2⟩ := tk_range (r := r2) W0
  obtain ⟨w, hw, pw⟩ := pick_ix (S := L r2.tail rs) (vs := ws) (m := ws.length) (Int.le_refl _) b1 b2
  (refine wp_seq ?_; simp [-exs_cons, t1, W0, w0, hb, pw, -back_bool])
  (refine wp_seq ?_; simp [-exs_cons, t1, hb, -back_bool])
  (refine wp_seq ?_; simp [-exs_cons, dd, hb, -back_bool])
  exact lo _ _ (g.deed _ _ _ _ _ hc) _ _ _ _

theorem slice_take {S : Store} (ds : List PyData) (k : Nat) : sliceV S (.d (.list ds)) none (some (k : Int)) = some (.d (.list (ds.take k))) := by
  by_cases h : k ≤ ds.length
  · exact slice_to ds k h
  · show some (mkLst (cutP (ds.map PV.d) none (some (k : Int)))) = _
    have e : cutP (ds.map PV.d) none (some (k : Int)) = (ds.take k).map .d := by
      unfold cutP
      rw [HT.sIx_none, HT.sIx_nat, List.length_map, Nat.min_eq_right (by omega)]
      rw [List.take_of_length_le (l := ds) (by omega)]
      simp
      exact List.take_of_length_le (by simp)
    rw [e, mkLst_map]
theorem back_zero {c0 rr : List PyData} {r : List Int} : back true 0 (.loc 2) [.lst c0, .lst rr, dr r] = .ok (.loc 0) [dr r] := rfl
abbrev turn2B : List CS := [
    .asg (.slot 8) (.call false 14 [(.var 1), (.lit (.int 7))]),
    .asg (.slot 9) (.call false 20 [(.var 0), (.var 1), (.bn .len [(.var 5)])]),
    .asg (.slot 7) (.idx (.var 2) (.call false 14 [(.var 1), (.bn .len [(.var 2)])])),
    .asg (.slot 10) (.call false 14 [(.var 1), (.lit (.int 4))]),
    .asg (.slot 5) (.call false 29 [(.var 4), (.var 5), (.var 8), (.var 9), (.var 7), (.var 3), (.var 10)])] ++ lookB
abbrev lastB : List CS := [
  .for_ (.slot 6) .rng1 [(.call false 14 [(.var 1), (.lit (.int 15))])] turn2B,
  .ret (.call false 31 [(.var 4), (.var 5), (.comp false [13] (.slot 13) .of [(.slice (.var 0) [] [(.lit (.int 4))])] [] (.bn .int [(.var 13)]))])]
theorem last_ok {Φ : Fns} (K : Kn Φ C) (ns : List Int) (ws : List Str) (w0 : 0 < ws.length) (w1 : ws.length ≤ 100) (cd : PyData) (hc : Lw 4 cd) (ts : List PyData) (r : List Int) (rs : List Rc) (m : Nat) (hm : m ≤ 20) (g : Gd m rs) (x6 x7 x8 x9 x10 x11 x12 x13 : Option PV) :
    Wp (exs Φ F lastB (EV ns ws cd rs x6 x7 x8 x9 x10 x11 x12 x13) (LAY C ts r rs)) (retQ fun v _ => v = .d (.bool true)) := by
  obtain ⟨b1, b2⟩ := tk_range (r := r) (m := 15) (by decide)
  obtain ⟨p, hp⟩ : ∃ p : Nat, tk r 15 = p := ⟨(tk r 15).toNat, by omega⟩
  have t1 : Φ 14 [.loc 0, .d (.int 15)] (LAY C ts r rs) = .ok (.d (.int p)) (LAY C ts r.tail rs) := by rw [← hp]; exact K.t r (LAY C ts r rs).tail 15 (by decide)
  have hb : ∀ (x : PyData), back false (LAY C ts r rs).length (.d x) (LAY C ts r.tail rs) = .ok (.d x) (LAY C ts r.tail rs) := fun x => back_len rfl
  have hwk := walkOf_rng (S := LAY C ts r.tail rs) p (by omega)
  have fin : ∀ (r : List Int) (rs : List Rc) (m : Nat) (hm : m ≤ 40) (g : Gd m rs) (x6 x7 x8 x9 x10 x11 : Option PV), Wp (exs Φ F [.ret (.call false 31 [(.var 4), (.var 5), (.comp false [13] (.slot 13) .of [(.slice (.var 0) [] [(.lit (.int 4))])] [] (.bn .int [(.var 13)]))])] (EV ns ws cd rs x6 x7 x8 x9 x10 x11 x12 x13) (LAY C ts r rs)) (retQ fun v _ => v = .d (.bool true)) := by
    intro r rs m hm g x6 x7 x8 x9 x10 x11
    have gl := g.ln
    have ar := K.arch (gr1 C ts r rs) g.wf (by omega) (lay_cl C ts r rs) (ns.take 4) (by have := List.length_take_le 4 ns; omega)
    have hb : ∀ (x : PyData), back false (LAY C ts r rs).length (.d x) (LAY C ts r rs) = .ok (.d x) (LAY C ts r rs) := fun x => back_len rfl
    generalize LAY C ts r rs = S at *
    have sl : sliceV S (.d (.list (ns.map .int))) none (some 4) = some (.d (.list ((ns.take 4).map .int))) := by
      have := slice_take (S := S) (ns.map .int) 4
      rw [← List.map_take] at this
      exact this
    obtain ⟨ks, hks⟩ : ∃ ks, ks = ns.take 4 := ⟨_, rfl⟩
    have hkl : ks.length ≤ 4 := by rw [hks]; exact List.length_take_le 4 ns
    rw [← hks] at sl ar
    refine wp_seq ?_
    simp [-exs_cons, sl]
    refine wp_call (P := fun ys S' => ys = (ks.map PyData.int).map .d ∧ S' = S) (wp_noErr (comp_map ks (fun i => .int i) (fun i => .int i) rfl (by simp) (fun o ho => ?_) ⟨rfl, rfl⟩)) ?_
    · simp [killE]
    rintro ys S2 ⟨h1, h2⟩
    subst h1 h2
    have z := sizeL (show ks.length ≤ 1000000 by omega)
    have mm : mkLst (ks.map (PV.d ∘ PyData.int)) = .d (.list (ks.map .int)) := by rw [← List.map_map, mkLst_map]
    simp [-exs_cons, z, mm, ar, hb, -back_bool]
  refine wp_seq ?_
  generalize hL : (fun r rs => LAY C ts r rs) = L at *
  have hLr : ∀ r rs, LAY C ts r rs = L r rs := fun r rs => congrFun (congrFun hL r) rs
  have tn := turn2_ok (F := F) K ns ws w0 w1 cd hc ts
  simp only [hLr] at *
  simp [-exs_cons, t1, hb, hwk, -back_bool]
  refine wp_forQ (fun xs env S' => ∃ (rs : List Rc) (r : List Int) (k : Nat) (x6 x7 x8 x9 x10 x11 : Option PV), env = EV ns ws cd rs x6 x7 x8 x9 x10 x11 x12 x13 ∧ S' = L r rs ∧ Gd k rs ∧ k + xs.length ≤ 35) ⟨rs, r.tail, m, x6, x7, x8, x9, x10, x11, rfl, rfl, g, by rw [intsP_len]; omega⟩ ?_ ?_
  · rintro x rr env S' Q' ⟨rs, r, k, x6, x7, x8, x9, x10, x11, rfl, rfl, g, hk⟩ hN _ _ _
    rw [List.length_cons] at hk
    rw [bodyM_slot]
    exact tn r rs k (by omega) g _ x7 x8 x9 x10 x11 x12 x13 fun env rs' r' x7 x8 x9 x10 x11 he hg => hN _ _ trivial ⟨rs', r', k + 1, _, x7, x8, x9, x10, x11, he, rfl, hg, by omega⟩
  · rintro env S' ⟨rs, r, k, x6, x7, x8, x9, x10, x11, rfl, rfl, g, hk⟩
    rw [seqQ_next]
    exact fin r rs k (by simp at hk; omega) g x6 x7 x8 x9 x10 x11
theorem law_true (cl : List Addr) (ns : List Int) (hcl : cl.length = clss.length) (hn : ns.length ≤ 63) : ∃ F S, callN (fdsC defs cl) F 30 32 [.d (.list (ns.map .int))] [] = .ok (.d (.bool true)) S := by
  obtain ⟨C, rfl⟩ : ∃ C, cl = [C] := by
    match cl, hcl with
    | [C], _ => exact ⟨C, rfl⟩
  refine ⟨200, ?_⟩
  suffices h : Wp (callN (TT C) 200 30 32 [.d (.list (ns.map .int))] []) fun v _ => v = .d (.bool true) by
    obtain ⟨_, S, e, rfl⟩ := h
    exact ⟨S, e⟩
  refine wp_fn (d := d_law.fd) rfl rfl ?_
  show Wp (exs _ _ b_law [some (.d (.list (ns.map .int))), none, none, none, none, none, none, none, none, none, none, none, none, none] []) _
  unfold b_law
  obtain ⟨r0, c0, rr, _, hd⟩ := draws_ok (T := TT C) (F := 200) (n := 28) (j := 13) rfl ns 91 (by decide) hn
  have hd' : callN (TT C) 200 29 13 [.d (.list (ns.map .int)), .d (.int 91)] [] = .ok (.loc 2) [.lst c0, .lst rr, dr r0] := hd
  have K := kn_ok (C := C) (n := 22)
  have pl : ∀ (m : Nat) (_ : 1 ≤ m) (_ : m ≤ 1000) (r : List Int), ∃ (ws : List Str) (r' : List Int), ws ≠ [] ∧ ws.length ≤ m ∧ PoolW ws ∧ ∃ v S2, callN (TT C) 200 29 16 [.d (.list (ns.map .int)), .loc 0, .d (.int m)] [dr r] = .ok v S2 ∧ back false 1 v S2 = .ok (.d (.list (ws.map .str))) [dr r'] := fun m h1 h2 r => poolC_ok (T := TT C) (F := 200) (n := 27) (j := 16) (jt := 14) (jw := 15) (S := []) rfl rfl rfl ns m h1 h2 r rfl
  have wl : ∀ (fs ws : List Str) (_ : fs.length ≤ 20) (_ : ws.length ≤ 20) (r : List Int), ∃ (ts : List PyData) (r' : List Int), ts ≠ [] ∧ ts.length ≤ 200 ∧ (∀ t ∈ ts, Tw fs ws t) ∧ callN (TT C) 200 29 17 [.loc 0, .d (.list (fs.map .str)), .d (.list (ws.map .str))] [dr r] = .ok (WV fs ws 1) [dr r', .lst ts] := fun fs ws h1 h2 r => world_ok (T := TT C) (F := 200) (n := 27) (j := 17) (jt := 14) (S := []) rfl rfl fs ws h1 h2 r
  have ini : ∀ (S : Store), callN (TT C) 200 29 1 [.loc S.length, .d (.tuple [])] (S ++ [.inst C []]) = .ok (.d .none) (S ++ [.inst C [("_records", .loc (S.length + 1))], .lst []]) := fun S => initG_ok (T := TT C) (F := 200) (n := 27) (j := 1) (jc := 33) rfl rfl []
  clear hd
  obtain ⟨Φ, hΦ⟩ : ∃ Φ, Φ = callN (TT C) 200 29 := ⟨_, rfl⟩
  have e1 : callN (TT C) 200 (22 + 7) = Φ := hΦ.symm
  rw [e1] at K
  rw [← hΦ] at hd' pl wl ini ⊢
  clear e1 hΦ
  refine wp_seq ?_
  simp [-exs_cons, hd', back_zero]
  obtain ⟨ws, r2, w0, w1, _, v, S2, e1, e2⟩ := pl 3 (by decide) (by decide) r0
  have e1 : Φ 16 [.d (.list (ns.map .int)), .loc 0, .d (.int 3)] [dr r0] = .ok v S2 := e1
  (refine wp_seq ?_; simp [-exs_cons, e1, e2])
  have W0 : 0 < ws.length := List.length_pos_iff.mpr w0
  obtain ⟨ts, r3, t0, t1, tw, e1⟩ := wl (ws.take 2) ws (by have := List.length_take_le 2 ws; omega) (by omega) r2
  have X : Wld (ws.take 2) ws ts := ⟨by rw [List.length_take]; omega, by have := List.length_take_le 2 ws; omega, W0, by omega, List.length_pos_iff.mpr t0, t1, tw⟩
  have sl : sliceV [dr r2] (.d (.list (ws.map .str))) none (some 2) = some (.d (.list ((ws.take 2).map .str))) := by
    have := slice_take (S := [dr r2]) (ws.map .str) 2
    rw [← List.map_take] at this
    exact this
  obtain ⟨cd, r4, hcd, e2⟩ := K.leaf ns X (l := 0) (S := [.lst ts]) rfl rfl r3
  have e2 : Φ 19 [.d (.list (ns.map .int)), .loc 0, WV (ws.take 2) ws 1] [dr r3, .lst ts] = .ok (.d cd) [dr r4, .lst ts] := e2
  have hb : back false 2 (.d cd) [dr r4, .lst ts] = .ok (.d cd) [dr r4, .lst ts] := back_len rfl
  have hc := lf_lw hcd
  have bm : back false 1 (WV (ws.take 2) ws 1) [dr r3, .lst ts] = .ok (WV (ws.take 2) ws 1) [dr r3, .lst ts] := rfl
  generalize WV (ws.take 2) ws 1 = wv at *
  generalize hfs : (ws.take 2).map PyData.str = fsd at *
  (refine wp_seq ?_; simp [-exs_cons, sl, e1, bm, e2, hb, -back_bool])
  have m1 := make_at (Φ := Φ) (jc := 33) (C := C) (run := fun S2 => Φ 1 (.loc 2 :: ([] ++ [PyData.tuple []].map PV.d)) S2) (S := [dr r4, .lst ts]) K.c (ini [dr r4, .lst ts])
  have m1 : makeR Φ 33 (fun S2 => Φ 1 [.loc 2, .d (.tuple [])] S2) [dr r4, .lst ts] = .ok (.loc 2) [dr r4, .lst ts, .inst C [("_records", .loc 3)], .lst []] := m1
  (refine wp_seq ?_; simp [-exs_cons, m1])
  have ml0 : mkLst [] = .d (.list []) := rfl
  (refine wp_seq ?_; simp [-exs_cons, ml0])
  have LL := fun r rs m hm g x6 x7 => last_ok (F := 200) K ns ws W0 (by omega) cd hc ts r rs m hm g x6 x7 none none none none none none
  have T1 := turn1_ok (F := 200) K ns ws W0 (by omega) cd hc ts
  have t1 : ∀ (r : List Int) (rs : List Rc) (m : Int), 0 < m → Φ 14 [.loc 0, .d (.int m)] (LAY C ts r rs) = .ok (.d (.int (tk r m))) (LAY C ts r.tail rs) := fun r rs m hm => K.t r (LAY C ts r rs).tail m hm
  have hb : ∀ (r r' : List Int) (rs : List Rc) (x : PyData), back false (LAY C ts r rs).length (.d x) (LAY C ts r' rs) = .ok (.d x) (LAY C ts r' rs) := fun r r' rs x => back_len rfl
  have g0 : Gd 0 [] := ⟨wf_nil, fun _ h => (nomatch h), Nat.le_refl _⟩
  show Wp (exs Φ 200 (_ :: lastB) (EV ns ws cd [] none none none none none none none none) (LAY C ts r4 [])) _
  generalize lastB = lb at *
  generalize hL : (fun r rs => LAY C ts r rs) = L at *
  have hLr : ∀ r rs, LAY C ts r rs = L r rs := fun r rs => congrFun (congrFun hL r) rs
  simp only [hLr] at *
  have hr0 : recsD [] = [] := rfl
  refine wp_seq ?_
  by_cases h6 : tk r4 6 = 2
  · obtain ⟨b1, b2⟩ := tk_range (r := r4.tail) (m := 9) (by decide)
    obtain ⟨p, hp⟩ : ∃ p : Nat, tk r4.tail 9 = p := ⟨(tk r4.tail 9).toNat, by omega⟩
    have hwk := walkOf_rng (S := L r4.tail.tail []) (2 + p) (by omega)
    have hwk : walkOf (L r4.tail.tail []) .rng1 [.d (.int (2 + (p : Int)))] = some ⟨intsP 0 (2 + p), none⟩ := by rw [← hwk]; simp
    simp [-exs_cons, t1, hb, h6, -back_bool]
    refine wp_seq ?_
    simp [-exs_cons, t1, hb, hp, hwk, -back_bool]
    refine wp_forQ (fun xs env S' => ∃ (rs : List Rc) (k : Nat) (x6 x7 : Option PV), env = EV ns ws cd rs x6 x7 none none none none none none ∧ S' = L r4.tail.tail rs ∧ Gd k rs ∧ k + xs.length ≤ 11 ∧ ∀ x ∈ xs, ∃ i : Int, x = .d (.int i)) ⟨[], 0, none, none, rfl, rfl, g0, by rw [intsP_len]; omega, intsP_all _ _⟩ ?_ ?_
    · rintro x rr env S' Q' ⟨rs, k, x6, x7, rfl, rfl, g, hk, hx⟩ hN _ _ _
      rw [List.length_cons] at hk
      obtain ⟨i, rfl⟩ := hx x List.mem_cons_self
      rw [bodyM_slot]
      exact T1 r4.tail.tail rs k (by omega) g i x7 none none none none none none fun env rs' x7 he hg => hN _ _ trivial ⟨rs', k + 1, _, x7, he, rfl, hg, by omega, fun y hy => hx y (List.mem_cons_of_mem _ hy)⟩
    · rintro env S' ⟨rs, k, x6, x7, rfl, rfl, g, hk, _⟩
      rw [seqQ_next]
      simp [-exs_cons]
      exact LL _ rs k (by simp at hk; omega) g x6 x7
  · simp [-exs_cons, t1, hb, h6, -back_bool]
    exact LL _ [] 0 (by decide) g0 none none
end LawX

open PySem PySem.W PyProof.Rows
set_option maxHeartbeats 0 in
theorem PySem.Challenge.cw_whomaywhat_k27_chains_and_revoking_holds : PySem.Challenge.rw_whomaywhat_k27_chains_and_revoking.Holds := by
  w_on; o_law; k_head; (case hw => w_witness2)
  k_fill
  refine L2.walk_of (l := PySem.Challenge.rw_whomaywhat_k27_chains_and_revoking) (n := 63) (k := 2 * 30) (x := "_law_script") (CX := fun w => L2.CX PySem.Challenge.rw_whomaywhat_k27_chains_and_revoking.prog w) (sp := fun w => PW.spLaw _ LawX.defs LawX.clss.length 30 32) rfl (by decide) rfl ⟨rfl, by decide, by decide⟩ (fun w h Y => PySem.W.kIn_of Y) ?F (fun _ H a ns hl _ hS => PW.law_spC LawX.law_true H a ns hl hS) (fun _ _ _ _ _ h => PW.no_exc h)
  case F =>
    intro w mg fa h KX G hmg
    refine' LawX.fin_mk KX G hmg ?ca0 ?cg0 ?ch0 ?cp0 ?cs0 ?cm0 ?ck0 ?cf0_0 ?ea0 ?ed0 ?et0 ?es0 ?er0 ?ea1 ?ed1 ?et1 ?es1 ?er1 ?ea2 ?ed2 ?et2 ?es2 ?er2 ?ea3 ?ed3 ?et3 ?es3 ?er3 ?ea4 ?ed4 ?et4 ?es4 ?er4 ?ea5 ?ed5 ?et5 ?es5 ?er5 ?ea6 ?ed6 ?et6 ?es6 ?er6 ?ea7 ?ed7 ?et7 ?es7 ?er7 ?ea8 ?ed8 ?et8 ?es8 ?er8 ?ea9 ?ed9 ?et9 ?es9 ?er9 ?ea10 ?ed10 ?et10 ?es10 ?er10 ?ea11 ?ed11 ?et11 ?es11 ?er11 ?ea12 ?ed12 ?et12 ?es12 ?er12 ?ea13 ?ed13 ?et13 ?es13 ?er13 ?ex8 ?ek8 ?eg8 ?eh8 ?ec8 ?em8 ?eo8_0 ?eo8_1 ?eo8_2 ?eo8_3 ?eo8_4 ?eo8_5 ?eo8_6 ?eo8_7 ?eo8_8 ?eo8_9 ?eo8_10 ?eo8_11 ?eo8_12 ?eo8_13 ?ex9 ?ek9 ?eg9 ?eh9 ?ec9 ?em9 ?eo9_0 ?eo9_1 ?eo9_2 ?eo9_3 ?eo9_4 ?eo9_5 ?eo9_6 ?eo9_7 ?eo9_8 ?eo9_9 ?eo9_10 ?eo9_11 ?eo9_12 ?eo9_13 ?xn ?xt ?a0 ?l0 ?c0 ?k0 ?a1 ?i1 ?l1 ?c1 ?k1 ?lt1 ?le1_0 ?a2 ?i2 ?l2 ?c2 ?k2 ?a3 ?i3 ?l3 ?c3 ?k3 ?a4 ?i4 ?l4 ?c4 ?k4 ?a5 ?i5 ?l5 ?c5 ?k5 ?a6 ?i6 ?l6 ?c6 ?k6 ?a7 ?i7 ?l7 ?c7 ?k7 ?a8 ?i8 ?l8 ?c8 ?k8 ?a9 ?i9 ?l9 ?c9 ?k9 ?a10 ?i10 ?l10 ?c10 ?k10 ?a11 ?i11 ?l11 ?c11 ?k11 ?a12 ?i12 ?l12 ?c12 ?k12 ?a13 ?l13 ?c13 ?k13 ?a14 ?l14 ?c14 ?k14 ?a15 ?l15 ?c15 ?k15 ?a16 ?l16 ?c16 ?k16 ?a17 ?l17 ?c17 ?k17 ?a18 ?l18 ?c18 ?k18 ?a19 ?l19 ?c19 ?k19 ?a20 ?l20 ?c20 ?k20 ?a21 ?l21 ?c21 ?k21 ?a22 ?l22 ?c22 ?k22 ?a23 ?l23 ?c23 ?k23 ?a24 ?l24 ?c24 ?k24 ?a25 ?l25 ?c25 ?k25 ?a26 ?l26 ?c26 ?k26 ?a27 ?l27 ?c27 ?k27 ?a28 ?l28 ?c28 ?k28 ?a29 ?l29 ?c29 ?k29 ?a30 ?l30 ?c30 ?k30 ?a31 ?l31 ?c31 ?k31 ?a32 ?l32 ?c32 ?k32 ?z0 ?z1 ?z2 ?z3 ?z4 ?z5 ?z6 ?z7 ?z8 ?z9 ?z10 ?z11 ?z12 ?z13 ?z14 ?z15 ?z16 ?z17
    (case ca0 => k_is); (case cg0 => k_is); (case ch0 => k_is); (case cp0 => k_is); (case cs0 => k_is); (case cm0 => k_is); (case ck0 => k_is); (case cf0_0 => k_is); (case ea0 => k_is); (case ed0 => k_is); (case et0 => k_is); (case es0 => k_is); (case er0 => k_is); (case ea1 => k_is); (case ed1 => k_is); (case et1 => k_is); (case es1 => k_is); (case er1 => k_is); (case ea2 => k_is); (case ed2 => k_is); (case et2 => k_is); (case es2 => k_is); (case er2 => k_is); (case ea3 => k_is); (case ed3 => k_is); (case et3 => k_is); (case es3 => k_is); (case er3 => k_is); (case ea4 => k_is); (case ed4 => k_is); (case et4 => k_is); (case es4 => k_is); (case er4 => k_is); (case ea5 => k_is); (case ed5 => k_is); (case et5 => k_is); (case es5 => k_is); (case er5 => k_is); (case ea6 => k_is); (case ed6 => k_is); (case et6 => k_is); (case es6 => k_is); (case er6 => k_is); (case ea7 => k_is); (case ed7 => k_is); (case et7 => k_is); (case es7 => k_is); (case er7 => k_is); (case ea8 => k_is); (case ed8 => k_is); (case et8 => k_is); (case es8 => k_is); (case er8 => k_is); (case ea9 => k_is); (case ed9 => k_is); (case et9 => k_is); (case es9 => k_is); (case er9 => k_is); (case ea10 => k_is); (case ed10 => k_is); (case et10 => k_is); (case es10 => k_is); (case er10 => k_is); (case ea11 => k_is); (case ed11 => k_is); (case et11 => k_is); (case es11 => k_is); (case er11 => k_is); (case ea12 => k_is); (case ed12 => k_is); (case et12 => k_is); (case es12 => k_is); (case er12 => k_is); (case ea13 => k_is); (case ed13 => k_is); (case et13 => k_is); (case es13 => k_is); (case er13 => k_is); (case ex8 => k_exc); (case ek8 => k_is); (case eg8 => k_is); (case eh8 => k_is); (case ec8 => k_is); (case em8 => k_is); (case eo8_0 => k_is); (case eo8_1 => k_is); (case eo8_2 => k_is); (case eo8_3 => k_is); (case eo8_4 => k_is); (case eo8_5 => k_is); (case eo8_6 => k_is); (case eo8_7 => k_is); (case eo8_8 => k_is); (case eo8_9 => k_is); (case eo8_10 => k_is); (case eo8_11 => k_is); (case eo8_12 => k_is); (case eo8_13 => k_is); (case ex9 => k_exc); (case ek9 => k_is); (case eg9 => k_is); (case eh9 => k_is); (case ec9 => k_is); (case em9 => k_is); (case eo9_0 => k_is); (case eo9_1 => k_is); (case eo9_2 => k_is); (case eo9_3 => k_is); (case eo9_4 => k_is); (case eo9_5 => k_is); (case eo9_6 => k_is); (case eo9_7 => k_is); (case eo9_8 => k_is); (case eo9_9 => k_is); (case eo9_10 => k_is); (case eo9_11 => k_is); (case eo9_12 => k_is); (case eo9_13 => k_is); (case xn => k_is); (case xt => k_is); (case a0 => k_is); (case l0 => k_is); (case c0 => k_is); (case k0 => k_is); (case a1 => k_is); (case i1 => k_is); (case l1 => k_is); (case c1 => k_is); (case k1 => k_is); (case lt1 => k_is); (case le1_0 => k_is); (case a2 => k_is); (case i2 => k_is); (case l2 => k_is); (case c2 => k_is); (case k2 => k_is); (case a3 => k_is); (case i3 => k_is); (case l3 => k_is); (case c3 => k_is); (case k3 => k_is); (case a4 => k_is); (case i4 => k_is); (case l4 => k_is); (case c4 => k_is); (case k4 => k_is); (case a5 => k_is); (case i5 => k_is); (case l5 => k_is); (case c5 => k_is); (case k5 => k_is); (case a6 => k_is); (case i6 => k_is); (case l6 => k_is); (case c6 => k_is); (case k6 => k_is); (case a7 => k_is); (case i7 => k_is); (case l7 => k_is); (case c7 => k_is); (case k7 => k_is); (case a8 => k_is); (case i8 => k_is); (case l8 => k_is); (case c8 => k_is); (case k8 => k_is); (case a9 => k_is); (case i9 => k_is); (case l9 => k_is); (case c9 => k_is); (case k9 => k_is); (case a10 => k_is); (case i10 => k_is); (case l10 => k_is); (case c10 => k_is); (case k10 => k_is); (case a11 => k_is); (case i11 => k_is); (case l11 => k_is); (case c11 => k_is); (case k11 => k_is); (case a12 => k_is); (case i12 => k_is); (case l12 => k_is); (case c12 => k_is); (case k12 => k_is); (case a13 => k_is); (case l13 => k_is); (case c13 => k_is); (case k13 => k_is); (case a14 => k_is); (case l14 => k_is); (case c14 => k_is); (case k14 => k_is); (case a15 => k_is); (case l15 => k_is); (case c15 => k_is); (case k15 => k_is); (case a16 => k_is); (case l16 => k_is); (case c16 => k_is); (case k16 => k_is); (case a17 => k_is); (case l17 => k_is); (case c17 => k_is); (case k17 => k_is); (case a18 => k_is); (case l18 => k_is); (case c18 => k_is); (case k18 => k_is); (case a19 => k_is); (case l19 => k_is); (case c19 => k_is); (case k19 => k_is); (case a20 => k_is); (case l20 => k_is); (case c20 => k_is); (case k20 => k_is); (case a21 => k_is); (case l21 => k_is); (case c21 => k_is); (case k21 => k_is); (case a22 => k_is); (case l22 => k_is); (case c22 => k_is); (case k22 => k_is); (case a23 => k_is); (case l23 => k_is); (case c23 => k_is); (case k23 => k_is); (case a24 => k_is); (case l24 => k_is); (case c24 => k_is); (case k24 => k_is); (case a25 => k_is); (case l25 => k_is); (case c25 => k_is); (case k25 => k_is); (case a26 => k_is); (case l26 => k_is); (case c26 => k_is); (case k26 => k_is); (case a27 => k_is); (case l27 => k_is); (case c27 => k_is); (case k27 => k_is); (case a28 => k_is); (case l28 => k_is); (case c28 => k_is); (case k28 => k_is); (case a29 => k_is); (case l29 => k_is); (case c29 => k_is); (case k29 => k_is); (case a30 => k_is); (case l30 => k_is); (case c30 => k_is); (case k30 => k_is); (case a31 => k_is); (case l31 => k_is); (case c31 => k_is); (case k31 => k_is); (case a32 => k_is); (case l32 => k_is); (case c32 => k_is); (case k32 => k_is); (case z0 => k_is); (case z1 => k_is); (case z2 => k_is); (case z3 => k_is); (case z4 => k_is); (case z5 => k_is); (case z6 => k_is); (case z7 => k_is); (case z8 => k_is); (case z9 => k_is); (case z10 => k_is); (case z11 => k_is); (case z12 => k_is); (case z13 => k_is); (case z14 => k_is); (case z15 => k_is); (case z16 => k_is); (case z17 => k_is)
