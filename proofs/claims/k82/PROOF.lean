import PyProof.Rows.All
import Wide.All
import OpenK.AllK
import Wide.FinOn
import HandS.ForMost
import HandS.Lambda
import HandS.ExcInit
import HandS.TupAny
import HandS.Style
import HandS.RaiseMore
import HandS.Zip
import PyProof.ReprReads
import HandS.IsInst
import HandS.Conv
import HandS.ExcField
import HandS.ExcIs
import KE.KExcIs
import HandS.MapJoin
import HandS.Comp
import HandS.HeadWalk
import HandS.EndTab
import HandS.HeadHook4
import HandS.Head0
import HandS.Head1
import HandS.Head2
import HandS.HeadEnd
import HandS.HeadHook1
import HandS.HeadHook2
import HandS.HeadHook3
import PyProof.Rows.StrSplitCount
import PyProof.Rows.StrSplitAre
import PyProof.Rows.RegFStrParts
import KE.KStateDown
import PySem.Challenge.RW_everyoneup_k82_whole_asks_written
set_option Elab.async false
set_option linter.all false
/-! A1: pure data, code, its evaluator. -/
namespace EvO
open PySem

/-- immutable data -/
inductive D where
  | non | bl (b : Bool) | int (i : Int) | str (s : Str)
  | tup (xs : List D) | lst (xs : List D)
  | exn (c : Str) (v : D)
  /-- the script itself -/
  | scr (ns : List Int)

/-! plain data of the model (no error in it) -/
mutual
def D.py : D → Option PyData
  | .non => some .none
  | .bl b => some (.bool b)
  | .int i => some (.int i)
  | .str s => some (.str s)
  | .tup xs => (D.pys xs).map PyData.tuple
  | .lst xs => (D.pys xs).map PyData.list
  | .exn _ _ => none
  | .scr _ => none
def D.pys : List D → Option (List PyData)
  | [] => some []
  | x :: xs => match D.py x, D.pys xs with
    | some a, some b => some (a :: b)
    | _, _ => none
end

inductive Slot where
  | no | dat (d : D) | own (l : List D) | io (l : List D)
abbrev Env := List Slot
/-- a value: data, or the mutable list of a slot -/
inductive Val where
  | d (x : D) | s (i : Nat)

inductive Out (α : Type) where
  | ok (a : α) (r : Env) | err (c : Str) (v : D) | bad

def Out.bind {α β : Type} (x : Out α) (f : α → Env → Out β) : Out β := match x with
  | .ok a r => f a r
  | .err c v => .err c v
  | .bad => .bad
@[simp] theorem Out.bind_ok {α β : Type} (a : α) (r : Env) (f : α → Env → Out β) : (Out.ok a r).bind f = f a r := rfl
@[simp] theorem Out.bind_err {α β : Type} (c : Str) (v : D) (f : α → Env → Out β) : (Out.err c v : Out α).bind f = .err c v := rfl
@[simp] theorem Out.bind_bad {α β : Type} (f : α → Env → Out β) : (Out.bad : Out α).bind f = .bad := rfl

/-- what a def gives -/
inductive Res where
  | ok (d : D) | err (c : Str) (v : D) | bad
/-- .. one whose first parameter is a list that it changes -/
inductive ResP where
  | ok (d : D) (l : List D) | err (c : Str) (v : D) | bad
structure Sig where
  fresh : Bool
  run : List D → Res
structure SigP where
  run : List D → List D → ResP

inductive Bop where
  | add | sub | mul | fdiv | mod | pow
  deriving DecidableEq
inductive Cop where
  | eq | ne | lt | le | gt | ge | isin | notin | is_ | isnot
  deriving DecidableEq
inductive Prim where
  | isTup | isInt | isBool | isStr | isLst | isExn (c : Str)
  | len | toInt | toStr | repr | abs | sum | all | any | min2 | max2 | list | tuple | listRange
inductive Mth where
  | join | split

mutual
inductive C where
  | var (i : Nat)
  | cst (d : D)
  | bin (o : Bop) (a b : C)
  | neg (a : C)
  | cmp (o : Cop) (a b : C)
  | chain (o1 o2 : Cop) (a b c : C)
  | and (a b : C)
  | or (a b : C)
  | not (a : C)
  | ite (t a b : C)
  | tup (as : Cs)
  | lst (as : Cs)
  | idx (a b : C)
  | slc (a : C) (lo hi : Co)
  | rev (a : C)
  | prim (p : Prim) (as : Cs)
  | call (sg : Sig) (as : Cs)
  | callP (sg : SigP) (i : Nat) (as : Cs)
  | mth (m : Mth) (a b : C)
  | pop (i : Nat)
  | app (i : Nat) (a : C)
  | ext (i : Nat) (a : C)
  | comp (t : Tg) (it : It) (ifs : Cs) (elt : C) (ws : List Nat)
  | heard (a : C)
  | fld (a : C)
inductive Co where
  | no | so (a : C)
inductive Cs where
  | nil | cons (a : C) (as : Cs)
inductive It where
  | val (a : C) | rng1 (a : C) | rng2 (a b : C) | zip (a b : C)
/-- targets -/
inductive Tg where
  | nm (i : Nat) | sub (i : Nat) (a : C) | tup (ts : Tgs)
inductive Tgs where
  | nil | cons (t : Tg) (ts : Tgs)
end

def Tgs.length : Tgs → Nat
  | .nil => 0
  | .cons _ ts => ts.length + 1
mutual
def Tg.names : Tg → List Nat
  | .nm i => [i]
  | .sub _ _ => []
  | .tup ts => Tgs.names ts
def Tgs.names : Tgs → List Nat
  | .nil => []
  | .cons t ts => Tg.names t ++ Tgs.names ts
end

mutual
inductive Sm where
  | asg (t : Tg) (a : C)
  | set (i : Nat) (a : C)
  | par (i j : Nat) (a b : C)
  | ex (a : C)
  | ifs (a : C) (x y : Sms)
  | whl (a : C) (x : Sms)
  | for_ (t : Tg) (it : It) (x : Sms)
  | ret (a : C)
  | retF (a : C)
  | raise (c : Str) (a : C)
  | pass | brk | cont
inductive Sms where
  | nil | cons (s : Sm) (ss : Sms)
end

/-! ### operations -/
/-- the largest size of a text, a list -/
abbrev big : Nat := 16777216
def okI (i : Int) : Bool := decide (-(2 ^ 64) < i ∧ i < 2 ^ 64)
def binD : Bop → D → D → Option D
  | .add, .int a, .int b => some (.int (a + b))
  | .add, .str a, .str b => if a.length + b.length ≤ big then some (.str (a ++ b)) else none
  | .add, .tup a, .tup b => if a.length + b.length ≤ big then some (.tup (a ++ b)) else none
  | .add, .lst a, .lst b => if a.length + b.length ≤ big then some (.lst (a ++ b)) else none
  | .sub, .int a, .int b => some (.int (a - b))
  | .mul, .int a, .int b => if okI a || okI b then some (.int (a * b)) else none
  | .fdiv, .int a, .int b => if b ≠ 0 ∧ b.natAbs < 1073741824 then some (.int (a.fdiv b)) else none
  | .mod, .int a, .int b => if b ≠ 0 then some (.int (a.fmod b)) else none
  | .pow, .int a, .int b => if 0 ≤ b ∧ (Builtin.Int.intBits a : Int) * b ≤ 134217728 then some (.int (a ^ b.toNat)) else none
  | _, _, _ => none
/-- flat data -/
def D.flat : D → Bool
  | .non | .bl _ | .int _ | .str _ => true
  | _ => false
def flatEq : D → D → Bool
  | .non, .non => true
  | .bl a, .bl b => a == b
  | .int a, .int b => a == b
  | .bl a, .int b => (if a then 1 else 0) == b
  | .int a, .bl b => a == (if b then 1 else 0)
  | .str a, .str b => a == b
  | _, _ => false
def eqP (a b : D) : Option Bool := match D.py a, D.py b with
  | some x, some y => if PyData.canLay0 x && PyData.canLay0 y && decide (min x.depth y.depth ≤ 64) then some (PyData.eqv x y) else none
  | _, _ => none
def eqD : D → D → Option Bool
  | .str x, .str y => some (decide (x = y))
  | a, b => eqP a b
def inL (x : D) (xs : List D) : Option Bool := if x.flat && xs.all D.flat then some (xs.any fun y => flatEq y x) else none
def inD (x : D) : D → Option Bool
  | .tup xs => inL x xs
  | .lst xs => inL x xs
  | .str z => match x with
    | .str y => some (!(Builtin.Str.occurrences z y 0 z.length 1).isEmpty)
    | _ => none
  | _ => none
def isNonD : D → Bool
  | .non => true
  | _ => false
def isBlD (b : Bool) : D → Bool
  | .bl a => a == b
  | _ => false
def isD (a b : D) : Option Bool := match b with
  | .non => some (isNonD a)
  | .bl b => some (isBlD b a)
  | _ => none
def intsD : List D → Option (List Int)
  | [] => some []
  | .int i :: r => (intsD r).map (i :: ·)
  | _ => none
def cmpD : Cop → D → D → Option Bool
  | .eq, a, b => eqD a b
  | .ne, a, b => (eqD a b).map (!·)
  | .lt, .int a, .int b => some (decide (a < b))
  | .le, .int a, .int b => some (decide (a ≤ b))
  | .gt, .int a, .int b => some (decide (b < a))
  | .ge, .int a, .int b => some (decide (b ≤ a))
  | .lt, .tup a, .tup b => match intsD a, intsD b with
    | some x, some y => some (HT.lexLt x y)
    | _, _ => none
  | .isin, a, b => inD a b
  | .notin, a, b => (inD a b).map (!·)
  | .is_, a, b => isD a b
  | .isnot, a, b => (isD a b).map (!·)
  | _, _, _ => none
def strsD : List D → Option (List Str)
  | [] => some []
  | .str x :: r => (strsD r).map (x :: ·)
  | _ => none
def blsD : List D → Option (List Bool)
  | [] => some []
  | .bl x :: r => (blsD r).map (x :: ·)
  | _ => none
def D.items : D → Option (List D)
  | .tup xs => some xs
  | .lst xs => some xs
  | .str z => if z.length ≤ big then some (z.cps.toList.map fun c => .str ⟨#[c]⟩) else none
  | _ => none
def D.isExn (c : Str) : D → Bool
  | .exn d _ => decide (d = c)
  | _ => false
def primD : Prim → List D → Option D
  | .isTup, [x] => some (.bl (match x with | .tup _ => true | _ => false))
  | .isInt, [x] => some (.bl (match x with | .int _ => true | .bl _ => true | _ => false))
  | .isBool, [x] => some (.bl (match x with | .bl _ => true | _ => false))
  | .isStr, [x] => some (.bl (match x with | .str _ => true | _ => false))
  | .isLst, [x] => some (.bl (match x with | .lst _ => true | .scr _ => true | _ => false))
  | .isExn c, [x] => some (.bl (x.isExn c))
  | .len, [.tup xs] => some (.int xs.length)
  | .len, [.lst xs] => some (.int xs.length)
  | .len, [.scr xs] => some (.int xs.length)
  | .len, [.str z] => if z.length ≤ big then some (.int z.length) else none
  | .toInt, [.int i] => some (.int i)
  | .toInt, [.bl b] => some (.int (if b then 1 else 0))
  | .toInt, [.str z] => if z.length ≤ 640 then (intText? z).map .int else none
  | .toStr, [.int i] => if i.natAbs.log2 < 1920 then some (.str (toString i)) else none
  | .toStr, [.str z] => some (.str z)
  | .repr, [.str x] => if (PyData.str x).shown.length ≤ big then some (.str (PyData.str x).shown) else none
  | .repr, [x] => match D.py x with
    | some p => if SeqAt.shaped p && PyData.showable p && decide (p.shown.length ≤ big) then some (.str p.shown) else none
    | none => none
  | .abs, [.int i] => some (.int (if i < 0 then -i else i))
  | .sum, [.lst xs] => (intsD xs).map fun l => .int l.sum
  | .all, [.lst xs] => (blsD xs).map fun l => .bl (l.all id)
  | .any, [.lst xs] => (blsD xs).map fun l => .bl (l.any id)
  | .min2, [.int a, .int b] => some (.int (if b < a then b else a))
  | .max2, [.int a, .int b] => some (.int (if b > a then b else a))
  | .list, [.tup xs] => some (.lst xs)
  | .list, [.lst xs] => some (.lst xs)
  | .tuple, [.tup xs] => some (.tup xs)
  | .tuple, [.lst xs] => some (.tup xs)
  | .listRange, [.int n] => if 0 ≤ n ∧ n ≤ big then some (.lst ((List.range n.toNat).map fun (i : Nat) => .int i)) else none
  | _, _ => none
def idxD : D → D → Option D
  | .tup xs, .int i => L2.atI xs i
  | .lst xs, .int i => L2.atI xs i
  | .scr xs, .int i => (L2.atI xs i).map .int
  | .str z, .int i => if z.length ≤ big then (L2.atI z.cps.toList i).map fun c => .str ⟨#[c]⟩ else none
  | _, _ => none
def cutD {α : Type} (xs : List α) (lo hi : Option Int) : List α := (xs.drop (HT.sIx xs.length 0 lo)).take (HT.sIx xs.length xs.length hi - HT.sIx xs.length 0 lo)
def slcD (d : D) (lo hi : Option Int) : Option D := match d with
  | .tup xs => some (.tup (cutD xs lo hi))
  | .lst xs => some (.lst (cutD xs lo hi))
  | .scr xs => some (.lst ((cutD xs lo hi).map .int))
  | .str z => if z.length ≤ big then some (.str ⟨(cutD z.cps.toList lo hi).toArray⟩) else none
  | _ => none
def revD : D → Option D
  | .lst xs => some (.lst xs.reverse)
  | _ => none
def mthD : Mth → D → D → Option D
  | .join, .str z, .lst xs => match strsD xs with
    | some l => if (l.map (·.length)).sum + l.length * z.length ≤ 16777216 then some (.str (Txt.join z l)) else none
    | none => none
  | .split, .str z, .str y => if y.length ≠ 0 ∧ z.length + 2 ≤ big then some (.lst ((Txt.split z y).map .str)) else none
  | _, _, _ => none

/-! ### slots -/
/-- what a value holds now -/
def rd (r : Env) : Val → Option D
  | .d x => some x
  | .s i => match r[i]? with
    | some (.own l) => some (.lst l)
    | some (.io l) => some (.lst l)
    | some (.dat x) => some x
    | _ => none
/-- a value as data from now on -/
def fz (r : Env) : Val → Option (D × Env)
  | .d x => some (x, r)
  | .s i => match r[i]? with
    | some (.own l) => some (.lst l, r.set i (.dat (.lst l)))
    | some (.dat x) => some (x, r)
    | _ => none
def fzs : List Val → Env → Option (List D × Env)
  | [], r => some ([], r)
  | v :: vs, r => match fz r v with
    | some (x, r1) => match fzs vs r1 with
      | some (xs, r2) => some (x :: xs, r2)
      | none => none
    | none => none
/-- the list of a slot that may change -/
def mli (r : Env) (i : Nat) : Option (List D) := match r[i]? with
  | some (.own l) => some l
  | some (.io l) => some l
  | _ => none
/-- the slot's list changed -/
def put (r : Env) (i : Nat) (l : List D) : Env := match r[i]? with
  | some (.io _) => r.set i (.io l)
  | _ => r.set i (.own l)
/-- a name's slot gets data (never a parameter that is handed back) -/
def setS (r : Env) (i : Nat) (x : Slot) : Option Env := match r[i]? with
  | some (.io _) => none
  | some _ => some (r.set i x)
  | none => none
def hideS : Slot → Slot
  | .own _ => .no
  | .io _ => .no
  | s => s
def hide (r : Env) : Env := r.map hideS
def wipeE (r : Env) : List Nat → Env
  | [] => r
  | i :: is => (wipeE r is).set i .no

def ofO {α : Type} (o : Option α) (r : Env) : Out α := match o with
  | some a => .ok a r
  | none => .bad
@[simp] theorem ofO_some {α : Type} (a : α) (r : Env) : ofO (some a) r = .ok a r := rfl
@[simp] theorem ofO_none {α : Type} (r : Env) : ofO (none : Option α) r = .bad := rfl

/-- does the code make a new list, wherever it gives a list? -/
def C.isF : C → Bool
  | .lst _ | .comp .. | .slc .. | .rev _ => true
  | .bin .add _ _ => true
  | .prim .list _ | .prim .listRange _ => true
  | .mth .split _ _ => true
  | .call sg _ => sg.fresh
  | _ => false

/-- a comprehension over items: f binds, tests, gives the element *)-/
def loopC (f : D → Env → Out (Option D)) : List D → List D → Env → Out (List D)
  | [], acc, r => .ok acc r
  | x :: xs, acc, r => (f x r).bind fun o r1 => match o with
    | some y => if acc.length < big then loopC f xs (acc ++ [y]) r1 else .bad
    | none => loopC f xs acc r1
/-- no error comes -/
def Out.nox {α : Type} : Out α → Out α
  | .err _ _ => .bad
  | x => x
@[simp] theorem Out.nox_ok {α : Type} (a : α) (r : Env) : (Out.ok a r).nox = .ok a r := rfl

def truth (v : Val) (r : Env) : Out Bool := match rd r v with
  | some (.bl b) => .ok b r
  | _ => .bad
def asInt (v : Val) (r : Env) : Out Int := match rd r v with
  | some (.int b) => .ok b r
  | _ => .bad
theorem truth_cases (v : Val) (r : Env) : (∃ b, rd r v = some (.bl b) ∧ truth v r = .ok b r) ∨ truth v r = .bad := by
  unfold truth
  split
  · rename_i b e
    exact .inl ⟨b, e, rfl⟩
  · exact .inr rfl
theorem asInt_cases (v : Val) (r : Env) : (∃ b, rd r v = some (.int b) ∧ asInt v r = .ok b r) ∨ asInt v r = .bad := by
  unfold asInt
  split
  · rename_i b e
    exact .inl ⟨b, e, rfl⟩
  · exact .inr rfl

mutual
def evE : C → Env → Out Val
  | .var i, r => match r[i]? with
    | some (.dat x) => .ok (.d x) r
    | some (.own _) => .ok (.s i) r
    | some (.io _) => .ok (.s i) r
    | _ => .bad
  | .cst d, r => .ok (.d d) r
  | .bin o a b, r => (evE a r).bind fun v r1 => (evE b r1).bind fun w r2 => match rd r2 v, rd r2 w with
    | some x, some y => ofO ((binD o x y).map .d) r2
    | _, _ => .bad
  | .neg a, r => (evE a r).bind fun v r1 => match rd r1 v with
    | some (.int i) => .ok (.d (.int (-i))) r1
    | _ => .bad
  | .cmp o a b, r => (evE a r).bind fun v r1 => (evE b r1).bind fun w r2 => match rd r2 v, rd r2 w with
    | some x, some y => ofO ((cmpD o x y).map fun k => .d (.bl k)) r2
    | _, _ => .bad
  | .chain o1 o2 a b c, r => (evE a r).bind fun v r1 => (evE b r1).bind fun w r2 => match rd r2 v, rd r2 w with
    | some x, some y => match cmpD o1 x y with
      | some true => (evE c r2).bind fun u r3 => match rd r3 w, rd r3 u with
        | some y, some z => ofO ((cmpD o2 y z).map fun k => .d (.bl k)) r3
        | _, _ => .bad
      | some false => .ok (.d (.bl false)) r2
      | none => .bad
    | _, _ => .bad
  | .and a b, r => (evE a r).bind fun v r1 => (truth v r1).bind fun k r2 => if k then evE b r2 else .ok (.d (.bl false)) r2
  | .or a b, r => (evE a r).bind fun v r1 => (truth v r1).bind fun k r2 => if k then .ok (.d (.bl true)) r2 else evE b r2
  | .not a, r => (evE a r).bind fun v r1 => (truth v r1).bind fun k r2 => .ok (.d (.bl (!k))) r2
  | .ite t a b, r => (evE t r).bind fun v r1 => (truth v r1).bind fun k r2 => if k then evE a r2 else evE b r2
  | .tup as, r => (evEs as r).bind fun vs r1 => match fzs vs r1 with
    | some (ds, r2) => if ds.length ≤ big then .ok (.d (.tup ds)) r2 else .bad
    | none => .bad
  | .lst as, r => (evEs as r).bind fun vs r1 => match fzs vs r1 with
    | some (ds, r2) => if ds.length ≤ big then .ok (.d (.lst ds)) r2 else .bad
    | none => .bad
  | .idx a b, r => (evE a r).bind fun v r1 => (evE b r1).bind fun w r2 => match rd r2 v, rd r2 w with
    | some x, some y => ofO ((idxD x y).map .d) r2
    | _, _ => .bad
  | .slc a lo hi, r => (evE a r).bind fun v r1 => (evO lo r1).bind fun l r2 => (evO hi r2).bind fun h r3 => match rd r3 v with
    | some x => ofO ((slcD x l h).map .d) r3
    | none => .bad
  | .rev a, r => (evE a r).bind fun v r1 => match rd r1 v with
    | some x => ofO ((revD x).map .d) r1
    | none => .bad
  | .prim p as, r => (evEs as r).bind fun vs r1 => match vs.mapM (rd r1) with
    | some ds => ofO ((primD p ds).map .d) r1
    | none => .bad
  | .call sg as, r => (evEs as r).bind fun vs r1 => match fzs vs r1 with
    | some (ds, r2) => match sg.run ds with
      | .ok d => .ok (.d d) r2
      | .err c v => .err c v
      | .bad => .bad
    | none => .bad
  | .callP sg i as, r => match mli r i with
    | none => .bad
    | some _ => (evEs as r).bind fun vs r1 => match fzs vs r1 with
      | some (ds, r2) => match mli r2 i with
        | some l => match sg.run l ds with
          | .ok d l2 => .ok (.d d) (put r2 i l2)
          | .err c v => .err c v
          | .bad => .bad
        | none => .bad
      | none => .bad
  | .mth m a b, r => (evE a r).bind fun v r1 => match rd r1 v with
    | some (.str z) => (evE b r1).bind fun w r2 => match rd r2 w with
      | some y => ofO ((mthD m (.str z) y).map .d) r2
      | none => .bad
    | _ => .bad
  | .pop i, r => match mli r i with
    | some l => match l.getLast? with
      | some x => .ok (.d x) (put r i l.dropLast)
      | none => .bad
    | none => .bad
  | .app i a, r => match mli r i with
    | none => .bad
    | some _ => (evE a r).bind fun v r1 => match fz r1 v with
      | some (x, r2) => match mli r2 i with
        | some l => if l.length < big then .ok (.d .non) (put r2 i (l ++ [x])) else .bad
        | none => .bad
      | none => .bad
  | .ext i a, r => match mli r i with
    | none => .bad
    | some _ => (evE a r).bind fun v r1 => match fz r1 v with
      | some (.lst xs, r2) => match mli r2 i with
        | some l => if l.length + xs.length ≤ big then .ok (.d .non) (put r2 i (l ++ xs)) else .bad
        | none => .bad
      | _ => .bad
  | .comp t it ifs elt ws, r => (evI it r).bind fun ds r1 =>
      (loopC (fun x r2 => (stT t x (wipeE r2 ws)).nox.bind fun _ r3 => (evTs ifs r3).nox.bind fun k r4 =>
        if k then (evE elt r4).nox.bind fun v r5 => match fz r5 v with
          | some (y, r6) => .ok (some y) r6
          | none => .bad
        else .ok none r4) ds [] r1).bind fun l r7 => .ok (.d (.lst l)) (wipeE r7 ws)
  | .heard a, r => match evE a (hide r) with
    | .ok (.d x) _ => .ok (.d (.tup [.non, x])) r
    | .err c v => .ok (.d (.tup [.exn c v, .non])) r
    | _ => .bad
  | .fld a, r => (evE a r).bind fun v r1 => match rd r1 v with
    | some (.exn _ x) => .ok (.d x) r1
    | _ => .bad
def evO : Co → Env → Out (Option Int)
  | .no, r => .ok none r
  | .so a, r => (evE a r).bind fun v r1 => (asInt v r1).bind fun i r2 => .ok (some i) r2
def evEs : Cs → Env → Out (List Val)
  | .nil, r => .ok [] r
  | .cons a as, r => (evE a r).bind fun v r1 => (evEs as r1).bind fun vs r2 => .ok (v :: vs) r2
/-- all tests -/
def evTs : Cs → Env → Out Bool
  | .nil, r => .ok true r
  | .cons a as, r => (evE a r).bind fun v r1 => (truth v r1).bind fun k r2 => if k then evTs as r2 else .ok false r2
def evI : It → Env → Out (List D)
  | .val a, r => (evE a r).bind fun v r1 => match fz r1 v with
    | some (x, r2) => ofO x.items r2
    | none => .bad
  | .rng1 a, r => (evE a r).bind fun v r1 => (asInt v r1).bind fun n r2 => if -(big : Int) ≤ n ∧ n ≤ big then .ok ((List.range n.toNat).map fun (i : Nat) => .int i) r2 else .bad
  | .rng2 a b, r => (evE a r).bind fun v r1 => (asInt v r1).bind fun m r2 => (evE b r2).bind fun w r3 => (asInt w r3).bind fun n r4 =>
      if -(big : Int) ≤ m ∧ m ≤ big ∧ -(big : Int) ≤ n ∧ n ≤ big then .ok ((List.range (n - m).toNat).map fun (i : Nat) => .int (m + i)) r4 else .bad
  | .zip a b, r => (evE a r).bind fun v r1 => (evE b r1).bind fun w r2 => match fz r2 v with
    | some (x, r3) => match fz r3 w with
      | some (y, r4) => match x, y with
        | .tup xs, .tup ys => .ok ((xs.zip ys).map fun p => .tup [p.1, p.2]) r4
        | .lst xs, .lst ys => .ok ((xs.zip ys).map fun p => .tup [p.1, p.2]) r4
        | _, _ => .bad
      | none => .bad
    | none => .bad
/-- data stored to a target -/
def stT : Tg → D → Env → Out Unit
  | .nm i, x, r => match setS r i (.dat x) with
    | some r1 => .ok () r1
    | none => .bad
  | .sub i a, x, r => match mli r i with
    | none => .bad
    | some _ => (evE a r).bind fun v r1 => (asInt v r1).bind fun k r2 => match mli r2 i with
      | some l => match L2.ixN l.length k with
        | some j => .ok () (put r2 i (l.set j x))
        | none => .bad
      | none => .bad
  | .tup ts, x, r => match x with
    | .tup xs => if xs.length = ts.length then stTs ts xs r else .bad
    | _ => .bad
def stTs : Tgs → List D → Env → Out Unit
  | .nil, [], r => .ok () r
  | .cons t ts, x :: xs, r => (stT t x r).bind fun _ r1 => stTs ts xs r1
  | _, _, _ => .bad
end

/-- what a statement leads to -/
inductive SOut where
  | nx (r : Env) | ret (d : D) (r : Env) | brk (r : Env) | cont (r : Env) | err (c : Str) (v : D) | bad
def Out.thn {α : Type} (x : Out α) (f : α → Env → SOut) : SOut := match x with
  | .ok a r => f a r
  | .err c v => .err c v
  | .bad => .bad
@[simp] theorem Out.thn_ok {α : Type} (a : α) (r : Env) (f : α → Env → SOut) : (Out.ok a r).thn f = f a r := rfl
@[simp] theorem Out.thn_err {α : Type} (c : Str) (v : D) (f : α → Env → SOut) : (Out.err c v : Out α).thn f = .err c v := rfl
@[simp] theorem Out.thn_bad {α : Type} (f : α → Env → SOut) : (Out.bad : Out α).thn f = .bad := rfl

/-- what a slot gets from a code: its own new list, or data -/
def slotD (v : Val) (r : Env) : Out Slot := match fz r v with
  | some (x, r1) => .ok (.dat x) r1
  | none => .bad
def slotOf (a : C) (v : Val) (r : Env) : Out Slot := match a.isF, v with
  | true, .d (.lst l) => .ok (.own l) r
  | _, v => slotD v r

def loopW (t : Env → Out Bool) (b : Env → SOut) : Nat → Env → SOut
  | 0, _ => .bad
  | n + 1, r => (t r).thn fun k r1 => if k then (match b r1 with
      | .nx r2 => loopW t b n r2
      | .cont r2 => loopW t b n r2
      | .brk r2 => .nx r2
      | .ret d r2 => .ret d r2
      | .err c v => .err c v
      | .bad => .bad) else .nx r1
def loopF (b : D → Env → SOut) : List D → Env → SOut
  | [], r => .nx r
  | x :: xs, r => match b x r with
    | .nx r2 => loopF b xs r2
    | .cont r2 => loopF b xs r2
    | .brk r2 => .nx r2
    | .ret d r2 => .ret d r2
    | .err c v => .err c v
    | .bad => .bad

mutual
/-- N: how many turns a while may take -/
def evS (N : Nat) : Sm → Env → SOut
  | .asg t a, r => (evE a r).thn fun v r1 => match fz r1 v with
    | some (x, r2) => (stT t x r2).thn fun _ r3 => .nx r3
    | none => .bad
  | .set i a, r => (evE a r).thn fun v r1 => (slotOf a v r1).thn fun s r2 => match setS r2 i s with
    | some r3 => .nx r3
    | none => .bad
  | .par i j a b, r => (evE a r).thn fun v r1 => (evE b r1).thn fun w r2 => (slotOf a v r2).thn fun s r3 => (slotOf b w r3).thn fun u r4 => match setS r4 i s with
    | some r5 => match setS r5 j u with
      | some r6 => .nx r6
      | none => .bad
    | none => .bad
  | .ex a, r => (evE a r).thn fun _ r1 => .nx r1
  | .ifs a x y, r => (evE a r).thn fun v r1 => (truth v r1).thn fun k r2 => if k then evSs N x r2 else evSs N y r2
  | .whl a x, r => loopW (fun r => (evE a r).bind truth) (evSs N x) N r
  | .for_ t it x, r => (evI it r).thn fun ds r1 => loopF (fun d r2 => (stT t d r2).thn fun _ r3 => evSs N x r3) ds r1
  | .ret a, r => (evE a r).thn fun v r1 => match fz r1 v with
    | some (x, r2) => .ret x r2
    | none => .bad
  | .retF a, r => (evE a r).thn fun v r1 => match v with
    | .s i => (match r1[i]? with
      | some (.own l) => .ret (.lst l) r1
      | _ => .bad)
    | .d (.lst l) => if a.isF then .ret (.lst l) r1 else .bad
    | _ => .bad
  | .raise c a, r => (evE a r).thn fun v r1 => match fz r1 v with
    | some (x, _) => .err c x
    | none => .bad
  | .pass, r => .nx r
  | .brk, r => .brk r
  | .cont, r => .cont r
def evSs (N : Nat) : Sms → Env → SOut
  | .nil, r => .nx r
  | .cons s ss, r => match evS N s r with
    | .nx r1 => evSs N ss r1
    | x => x
end
end EvO

set_option Elab.async false
set_option linter.all false
set_option maxRecDepth 10000
/-! A2: data in the heap, slots, what a code's reading is. -/
namespace EvO
open PySem PySem.Spec L2

structure Cfg where
  P : Program
  w : World
  K : PySem.W.Frag
  mg : Str → Option Value
  base : Heap
  T : List (Addr × Str)
  cA : Str → Addr
  cls : List Str

/-- an error object: its class at C, its dict at x -/
def exnO (a C x : Addr) : HO := .ext fun h => ∃ oe vs, h.get? a = some oe ∧ oe.cls = .ref C ∧ oe.dict = some x ∧ oe.data = .fields vs
theorem exnO_ne_tbl {a C x : Addr} {ps : Array Value} : exnO a C x ≠ .tbl ps := fun z => by
  have z' : HO.ext _ = HO.tbl ps := z
  cases z'

mutual
inductive Den (S : Cfg) (G : Hp) : V → D → Prop
  | non : Den S G .non .non
  | bl (b : Bool) : Den S G (.bl b) (.bl b)
  | int (i : Int) : Den S G (.int i) (.int i)
  | str (x : Str) : Den S G (.str x) (.str x)
  | tup {a : Addr} {vs : List V} {ds : List D} : SqT S.K G a vs → Dens S G vs ds → Den S G (.ref a) (.tup ds)
  | lst {a : Addr} {vs : List V} {ds : List D} : G a = some (.lst vs) → Dens S G vs ds → Den S G (.ref a) (.lst ds)
  | scr {a : Addr} {ns : List Int} : SqL S.K G a (ns.map V.int) → Den S G (.ref a) (.scr ns)
  | exn {a x : Addr} {c : Str} {u : V} {d : D} : c ∈ S.cls → G a = some (exnO a (S.cA c) x) → G x = some (.xd [(("value" : Str), u)]) → Den S G u d → Den S G (.ref a) (.exn c d)
inductive Dens (S : Cfg) (G : Hp) : List V → List D → Prop
  | nil : Dens S G [] []
  | cons {v : V} {vs : List V} {d : D} {ds : List D} : Den S G v d → Dens S G vs ds → Dens S G (v :: vs) (d :: ds)
end

def Ex (H H' : Hp) : Prop := ∀ a o, H a = some o → H' a = some o
theorem Ex.refl (H : Hp) : Ex H H := fun _ _ h => h
theorem Ex.trans {H H1 H2 : Hp} (a : Ex H H1) (b : Ex H1 H2) : Ex H H2 := fun x o h => b x o (a x o h)
theorem Ex.new {H : Hp} {p : Addr} {o : HO} (h : H p = none) : Ex H (upd H p o) := fun a u e => by
  rw [upd_ne (ne_of_none e h)]
  exact e
theorem Ex.both {G H : Hp} {p : Addr} {o : HO} (e : Ex G H) : Ex (upd G p o) (upd H p o) := fun a u h => by
  by_cases ha : a = p
  · subst ha
    rw [upd_same] at h ⊢
    exact h
  · rw [upd_ne ha] at h ⊢
    exact e a u h
theorem Ex.out {G H : Hp} {p : Addr} {o : HO} (e : Ex G H) (h : G p = none) : Ex G (upd H p o) := fun a u ha => by
  rw [upd_ne (ne_of_none ha h)]
  exact e a u ha
theorem Ex.free {G H : Hp} {p : Addr} (e : Ex G H) (h : H p = none) : G p = none := by
  cases q : G p with
  | none => rfl
  | some o =>
    rw [e p o q] at h
    cases h
theorem ex_rd {H H' : Hp} {a : Addr} {u : HO} (e : Ex H H') (h : Rd H a u) : Rd H' a u := by
  rcases h with h | ⟨o, h⟩
  · exact .inl (e a _ h)
  · exact .inr ⟨o, e a _ h⟩
theorem ex_l {K : PySem.W.Frag} {H H' : Hp} {a : Addr} {xs : List V} (e : Ex H H') (h : SqL K H a xs) : SqL K H' a xs := by
  rcases h with h | h
  · exact .inl (ex_rd e h)
  · exact .inr h
theorem ex_t {K : PySem.W.Frag} {H H' : Hp} {a : Addr} {xs : List V} (e : Ex H H') (h : SqT K H a xs) : SqT K H' a xs := by
  rcases h with h | h
  · exact .inl (ex_rd e h)
  · exact .inr h
mutual
theorem Den.mono {S : Cfg} {G G' : Hp} (e : Ex G G') : ∀ {v : V} {d : D}, Den S G v d → Den S G' v d
  | _, _, .non => .non
  | _, _, .bl b => .bl b
  | _, _, .int i => .int i
  | _, _, .str x => .str x
  | _, _, .tup h r => .tup (ex_t e h) (Dens.mono e r)
  | _, _, .lst h r => .lst (e _ _ h) (Dens.mono e r)
  | _, _, .scr h => .scr (ex_l e h)
  | _, _, .exn h0 h1 h2 r => .exn h0 (e _ _ h1) (e _ _ h2) (Den.mono e r)
theorem Dens.mono {S : Cfg} {G G' : Hp} (e : Ex G G') : ∀ {vs : List V} {ds : List D}, Dens S G vs ds → Dens S G' vs ds
  | _, _, .nil => .nil
  | _, _, .cons h r => .cons (Den.mono e h) (Dens.mono e r)
end
section
variable {S : Cfg} {G : Hp}
theorem Dens.length : ∀ {vs : List V} {ds : List D}, Dens S G vs ds → vs.length = ds.length
  | _, _, .nil => rfl
  | _, _, .cons _ r => congrArg (· + 1) r.length
theorem Dens.get : ∀ {vs : List V} {ds : List D} {i : Nat} {d : D}, Dens S G vs ds → ds[i]? = some d → ∃ v, vs[i]? = some v ∧ Den S G v d
  | _, _, _, _, .nil, e => by simp at e
  | _, _, 0, _, .cons h _, e => by
    simp at e
    subst e
    exact ⟨_, rfl, h⟩
  | _, _, i + 1, _, .cons _ r, e => by
    obtain ⟨v, h1, h2⟩ := Dens.get (i := i) r (by simpa using e)
    exact ⟨v, by simpa using h1, h2⟩
theorem Dens.getV : ∀ {vs : List V} {ds : List D} {i : Nat} {v : V}, Dens S G vs ds → vs[i]? = some v → ∃ d, ds[i]? = some d ∧ Den S G v d
  | _, _, _, _, .nil, e => by simp at e
  | _, _, 0, _, .cons h _, e => by
    simp at e
    subst e
    exact ⟨_, rfl, h⟩
  | _, _, i + 1, _, .cons _ r, e => by
    obtain ⟨v, h1, h2⟩ := Dens.getV (i := i) r (by simpa using e)
    exact ⟨v, by simpa using h1, h2⟩
theorem Dens.append : ∀ {vs ws : List V} {ds es : List D}, Dens S G vs ds → Dens S G ws es → Dens S G (vs ++ ws) (ds ++ es)
  | _, _, _, _, .nil, r => r
  | _, _, _, _, .cons h t, r => .cons h (t.append r)
theorem Dens.take : ∀ {vs : List V} {ds : List D} (n : Nat), Dens S G vs ds → Dens S G (vs.take n) (ds.take n)
  | _, _, 0, _ => .nil
  | _, _, _ + 1, .nil => .nil
  | _, _, n + 1, .cons h t => .cons h (t.take n)
theorem Dens.drop : ∀ {vs : List V} {ds : List D} (n : Nat), Dens S G vs ds → Dens S G (vs.drop n) (ds.drop n)
  | _, _, 0, r => r
  | _, _, _ + 1, .nil => .nil
  | _, _, n + 1, .cons _ t => t.drop n
theorem Dens.set : ∀ {vs : List V} {ds : List D} {v : V} {d : D} (i : Nat), Den S G v d → Dens S G vs ds → Dens S G (vs.set i v) (ds.set i d)
  | _, _, _, _, _, _, .nil => .nil
  | _, _, _, _, 0, h, .cons _ t => .cons h t
  | _, _, _, _, i + 1, h, .cons q t => .cons q (Dens.set i h t)
theorem Dens.dropLast {vs : List V} {ds : List D} (h : Dens S G vs ds) : Dens S G vs.dropLast ds.dropLast := by
  rw [List.dropLast_eq_take, List.dropLast_eq_take, h.length]
  exact h.take _
theorem Dens.reverse : ∀ {vs : List V} {ds : List D}, Dens S G vs ds → Dens S G vs.reverse ds.reverse
  | _, _, .nil => .nil
  | _, _, .cons h t => by
    rw [List.reverse_cons, List.reverse_cons]
    exact t.reverse.append (.cons h .nil)
theorem Dens.cut {vs : List V} {ds : List D} (h : Dens S G vs ds) (lo hi : Option Int) : Dens S G (cutV vs lo hi) (cutD ds lo hi) := by
  unfold cutV cutD
  rw [h.length]
  exact (h.drop _).take _
theorem Dens.ints : ∀ {ds : List D} {vs : List V} {l : List Int}, Dens S G vs ds → intsD ds = some l → vs = l.map V.int
  | [], _, l, .nil, e => by
    cases e
    rfl
  | d :: ds, _, l, .cons h t, e => by
    cases d with
    | int i =>
      simp only [intsD, Option.map_eq_some_iff] at e
      obtain ⟨l', e1, rfl⟩ := e
      cases h
      rw [t.ints e1]
      rfl
    | _ => simp [intsD] at e
theorem Dens.strs : ∀ {ds : List D} {vs : List V} {l : List Str}, Dens S G vs ds → strsD ds = some l → vs = l.map V.str
  | [], _, l, .nil, e => by
    cases e
    rfl
  | d :: ds, _, l, .cons h t, e => by
    cases d with
    | str i =>
      simp only [strsD, Option.map_eq_some_iff] at e
      obtain ⟨l', e1, rfl⟩ := e
      cases h
      rw [t.strs e1]
      rfl
    | _ => simp [strsD] at e
theorem Dens.bls : ∀ {ds : List D} {vs : List V} {l : List Bool}, Dens S G vs ds → blsD ds = some l → vs = l.map V.bl
  | [], _, l, .nil, e => by
    cases e
    rfl
  | d :: ds, _, l, .cons h t, e => by
    cases d with
    | bl i =>
      simp only [blsD, Option.map_eq_some_iff] at e
      obtain ⟨l', e1, rfl⟩ := e
      cases h
      rw [t.bls e1]
      rfl
    | _ => simp [blsD] at e
theorem dens_ints : ∀ (l : List Int), Dens S G (l.map V.int) (l.map D.int)
  | [] => .nil
  | _ :: r => .cons (.int _) (dens_ints r)
theorem dens_strs : ∀ (l : List Str), Dens S G (l.map V.str) (l.map D.str)
  | [] => .nil
  | _ :: r => .cons (.str _) (dens_strs r)
end

/-! ### the heap's state -/
/-- S: what stands; B: bystanders; G: what is immutable from now on -/
structure Hps (S : Cfg) (B G H : Hp) : Prop where
  gx : Ex G H
  bx : Ex B H
  dj : ∀ a, B a = none ∨ G a = none
  tabs : LamX.Tabs S.T H
  gt : ∀ a ps, G a ≠ some (.tbl ps)
  bt : ∀ a ps, B a ≠ some (.tbl ps)

def Slot.isM : Slot → Bool
  | .own _ => true
  | .io _ => true
  | _ => false
structure MutAt (S : Cfg) (B G H : Hp) (σ : L2.St) (i : Nat) (p : Addr) (vs : List V) (ds : List D) : Prop where
  at_ : σ[i]? = some (some (.ref p))
  h : H p = some (.lst vs)
  g : G p = none
  b : B p = none
  r : Dens S G vs ds
def SlotOk (S : Cfg) (io : Nat → Option Addr) (B G H : Hp) (σ : L2.St) (i : Nat) : Slot → Prop
  | .no => True
  | .dat d => ∃ v, σ[i]? = some (some v) ∧ Den S G v d
  | .own ds => ∃ p vs, MutAt S B G H σ i p vs ds
  | .io ds => ∃ p vs, io i = some p ∧ MutAt S B G H σ i p vs ds
structure Rep (S : Cfg) (io : Nat → Option Addr) (B G : Hp) (σ : L2.St) (H : Hp) (r : Env) : Prop where
  hp : Hps S B G H
  len : r.length = σ.length
  slot : ∀ (i : Nat) (s : Slot), r[i]? = some s → SlotOk S io B G H σ i s
  inj : ∀ (i j : Nat) (s t : Slot) (p : Addr), i ≠ j → r[i]? = some s → s.isM = true → r[j]? = some t → t.isM = true → σ[i]? = some (some (V.ref p)) → σ[j]? ≠ some (some (V.ref p))

/-- p is no list of a slot -/
def NotOwn (σ : L2.St) (r : Env) (p : Addr) : Prop := ∀ (i : Nat) (s : Slot), r[i]? = some s → s.isM = true → σ[i]? ≠ some (some (V.ref p))
/-- what a value is -/
def VOk (S : Cfg) (B G H : Hp) (σ : L2.St) (r : Env) (f : Bool) (u : V) : Val → Prop
  | .s i => σ[i]? = some (some u)
  | .d x => (f = true ∧ ∃ p vs ds, x = .lst ds ∧ u = .ref p ∧ H p = some (.lst vs) ∧ G p = none ∧ B p = none ∧ NotOwn σ r p ∧ Dens S G vs ds) ∨ ((f = true → ∀ ds, x ≠ .lst ds) ∧ Den S G u x)
theorem VOk.of {S : Cfg} {B G H : Hp} {σ : L2.St} {r : Env} {u : V} {x : D} (h : Den S G u x) : VOk S B G H σ r false u (.d x) := .inr ⟨fun e => (by cases e), h⟩
theorem VOk.ofN {S : Cfg} {B G H : Hp} {σ : L2.St} {r : Env} {u : V} {x : D} {f : Bool} (n : ∀ ds, x ≠ .lst ds) (h : Den S G u x) : VOk S B G H σ r f u (.d x) := .inr ⟨fun _ => n, h⟩

/-- what is to be so for a wish about errors -/
def ErrP (S : Cfg) (B G : Hp) (E : XK) (c : Str) (x : D) : Prop :=
  ∀ d u G' H', c ∈ S.cls → Ex G G' → Hps S B G' H' → G' d = none → B d = none → H' d = some (.xd [(("value" : Str), u)]) → Den S G' u x → E (.ref (S.cA c)) (some d) H'
def Post {α : Type} (S : Cfg) (B : Hp) (E : XK) (G : Hp) (x : Out α) (Q : α → Env → Hp → Prop) : Prop := match x with
  | .ok a r => ∀ G', Ex G G' → Q a r G'
  | .err c v => ErrP S B G E c v
  | .bad => False
theorem ErrP.mono {S : Cfg} {B G G1 : Hp} {E : XK} {c : Str} {x : D} (h : ErrP S B G E c x) (e : Ex G G1) : ErrP S B G1 E c x := fun d u G' H' z a b i j k l => h d u G' H' z (e.trans a) b i j k l
theorem Post.mono {α : Type} {S : Cfg} {B G G1 : Hp} {E : XK} {x : Out α} {Q : α → Env → Hp → Prop} (h : Post S B E G x Q) (e : Ex G G1) : Post S B E G1 x Q := by
  cases x with
  | ok a r => exact fun G' q => h G' (e.trans q)
  | err c v => exact ErrP.mono h e
  | bad => exact h
theorem Post.imp {α : Type} {S : Cfg} {B G : Hp} {E : XK} {x : Out α} {Q Q' : α → Env → Hp → Prop} (h : Post S B E G x Q) (e : ∀ a r G', Ex G G' → Q a r G' → Q' a r G') : Post S B E G x Q' := by
  cases x with
  | ok a r => exact fun G' q => e a r G' q (h G' q)
  | err c v => exact h
  | bad => exact h
/-- one after another -/
theorem Post.bind {α β : Type} {S : Cfg} {B G : Hp} {E : XK} {x : Out α} {f : α → Env → Out β} {Q : β → Env → Hp → Prop} (h : Post S B E G (x.bind f) Q) :
    Post S B E G x fun a r G' => Post S B E G' (f a r) Q := by
  cases x with
  | ok a r => exact fun G' q => Post.mono (x := f a r) h q
  | err c v => exact h
  | bad => exact h.elim

/-! ### readings -/
section
variable (S : Cfg) (io : Nat → Option Addr) (B : Hp) (E : XK)
def QV (σ : L2.St) (f : Bool) (Q : VK) : Val → Env → Hp → Prop := fun v r G' => ∀ u H', Rep S io B G' σ H' r → VOk S B G' H' σ r f u v → Q u H'
/-- an expression; f: a list that it gives is new -/
def tV (f : Bool) (c : C) : TE := fun σ H Q => ∃ r G, Rep S io B G σ H r ∧ Post S B E G (evE c r) (QV S io B σ f Q)
def tT (c : C) : TT := fun σ H Q => ∃ r G, Rep S io B G σ H r ∧ Post S B E G ((evE c r).bind truth) fun b r G' => ∀ H', Rep S io B G' σ H' r → Q b H'
def VsOk (G H : Hp) (σ : L2.St) (r : Env) : List V → List Val → Prop
  | [], [] => True
  | u :: us, v :: vs => VOk S B G H σ r false u v ∧ VsOk G H σ r us vs
  | _, _ => False
def tA (cs : Cs) : TA := fun σ H Q => ∃ r G, Rep S io B G σ H r ∧ Post S B E G (evEs cs r) fun vs r G' => ∀ us H', Rep S io B G' σ H' r → VsOk S B G' H' σ r us vs → Q us H'
def RetOk (G H : Hp) (fr : Bool) (u : V) (d : D) : Prop := match fr with
  | true => (∃ p vs ds, d = .lst ds ∧ u = .ref p ∧ H p = some (.lst vs) ∧ G p = none ∧ B p = none ∧ Dens S G vs ds) ∨ ((∀ ds, d ≠ .lst ds) ∧ Den S G u d)
  | false => Den S G u d
def PostS (fr : Bool) (G : Hp) (D : Ends) : SOut → Prop
  | .nx r => ∀ G', Ex G G' → ∀ σ H, Rep S io B G' σ H r → D.nx σ H
  | .brk r => ∀ G', Ex G G' → ∀ σ H, Rep S io B G' σ H r → D.bk σ H
  | .cont r => ∀ G', Ex G G' → ∀ σ H, Rep S io B G' σ H r → D.ct σ H
  | .ret d r => ∀ G', Ex G G' → ∀ u σ H, Rep S io B G' σ H r → RetOk S B G' H fr u d → D.rt u H
  | .err c v => ErrP S B G E c v
  | .bad => False
def tS (fr : Bool) (N : Nat) (s : Sm) : TS := fun D σ H => ∃ r G, Rep S io B G σ H r ∧ PostS S io B E fr G D (evS N s r)
def tSs (fr : Bool) (N : Nat) (s : Sms) : TS := fun D σ H => ∃ r G, Rep S io B G σ H r ∧ PostS S io B E fr G D (evSs N s r)
end
theorem PE.imp {X : Cx} {e : Expr} {t t' : TE} (h : PE X e t) (i : ∀ σ H Q, t' σ H Q → t σ H Q) : PE X e t' := ⟨fun pins s σ H Q I q => h.run pins s σ H Q I (i σ H Q q)⟩
theorem PT.imp {X : Cx} {e : Expr} {t t' : TT} (h : PT X e t) (i : ∀ σ H Q, t' σ H Q → t σ H Q) : PT X e t' := ⟨fun pins s σ H Q I q => h.run pins s σ H Q I (i σ H Q q)⟩
theorem PA.imp {X : Cx} {e : List Expr} {t t' : TA} (h : PA X e t) (i : ∀ σ H Q, t' σ H Q → t σ H Q) : PA X e t' := ⟨fun pos pins s σ H Q I q => h.run pos pins s σ H Q I (i σ H Q q)⟩
theorem PS.imp {X : Cx} {e : Stmt} {t t' : TS} (h : PS X e t) (i : ∀ D σ H, t' D σ H → t D σ H) : PS X e t' := ⟨fun pins s σ H D I q => h.run pins s σ H D I (i D σ H q)⟩
theorem PSs.imp {X : Cx} {e : List Stmt} {t t' : TS} (h : PSs X e t) (i : ∀ D σ H, t' D σ H → t D σ H) : PSs X e t' := ⟨fun pins s σ H D I q => h.run pins s σ H D I (i D σ H q)⟩
theorem PE.or {X : Cx} {e : Expr} {t t' : TE} (h : PE X e t) (h' : PE X e t') : PE X e fun σ H Q => t σ H Q ∨ t' σ H Q :=
  ⟨fun pins s σ H Q I q => q.elim (h.run pins s σ H Q I) (h'.run pins s σ H Q I)⟩
theorem PS.or {X : Cx} {e : Stmt} {t t' : TS} (h : PS X e t) (h' : PS X e t') : PS X e fun D σ H => t D σ H ∨ t' D σ H :=
  ⟨fun pins s σ H D I q => q.elim (h.run pins s σ H D I) (h'.run pins s σ H D I)⟩
end EvO

set_option Elab.async false
set_option linter.all false
set_option maxRecDepth 10000
/-! A3: what keeps a state's likeness. -/
namespace EvO
open PySem PySem.Spec L2

section
variable {S : Cfg} {io : Nat → Option Addr} {B G G' H H' : Hp} {σ : L2.St} {r : Env} {p : Addr} {o : HO} {u : V} {v : Val} {d x : D}

theorem Hps.fresh (h : Hps S B G H) (hp : H p = none) (hg : G p = none) (hB : B p = none) : (∀ ps, o ≠ .tbl ps) → Hps S B (upd G p o) (upd H p o) := fun ho => {
  gx := h.gx.both
  bx := h.bx.out hB
  dj := fun a => by
    by_cases ha : a = p
    · exact .inl (by rw [ha]; exact hB)
    · rw [upd_ne ha]
      exact h.dj a
  tabs := h.tabs.ext (Ex.new hp)
  gt := fun a ps e => by
    by_cases ha : a = p
    · subst ha
      rw [upd_same] at e
      exact ho ps (Option.some.inj e)
    · rw [upd_ne ha] at e
      exact h.gt a ps e
  bt := h.bt }
/-- a new object that may change -/
theorem Hps.newH (h : Hps S B G H) (hp : H p = none) : Hps S B G (upd H p o) := ⟨h.gx.out (h.gx.free hp), h.bx.out (h.bx.free hp), h.dj, h.tabs.ext (Ex.new hp), h.gt, h.bt⟩
theorem tabs_ne (t : LamX.Tabs S.T H) {xs : List V} (h : H p = some (.lst xs)) : ∀ q ∈ S.T, q.1 ≠ p := fun q hq e => by
  obtain ⟨ps, z, _⟩ := t q hq
  rw [e, h] at z
  cases z
theorem tabs_mut (t : LamX.Tabs S.T H) {xs ys : List V} (h : H p = some (.lst xs)) : LamX.Tabs S.T (upd H p (.lst ys)) := fun q hq => by
  obtain ⟨ps, h1, h2, h3⟩ := t q hq
  refine ⟨ps, by rw [upd_ne (tabs_ne t h q hq)]; exact h1, h2, fun pos cv hc => ?_⟩
  obtain ⟨c, e1, e2⟩ := h3 pos cv hc
  refine ⟨c, e1, ?_⟩
  rw [upd_ne]
  · exact e2
  · intro z
    rw [z, h] at e2
    have z2 := Option.some.inj e2
    unfold LamX.CodeO at z2
    cases z2
/-- a list that is neither known for good nor a bystander changes -/
theorem Hps.mutL (h : Hps S B G H) {xs ys : List V} (hp : H p = some (.lst xs)) (hg : G p = none) (hB : B p = none) : Hps S B G (upd H p (.lst ys)) :=
  ⟨h.gx.out hg, h.bx.out hB, h.dj, tabs_mut h.tabs hp, h.gt, h.bt⟩
theorem Hps.frz (h : Hps S B G H) {xs : List V} (hp : H p = some (.lst xs)) (hg : G p = none) (hB : B p = none) : Hps S B (upd G p (.lst xs)) H := {
  gx := fun a u e => by
    by_cases ha : a = p
    · subst ha
      rw [upd_same] at e
      rw [hp]
      exact e
    · rw [upd_ne ha] at e
      exact h.gx a u e
  bx := h.bx
  dj := fun a => by
    by_cases ha : a = p
    · exact .inl (by rw [ha]; exact hB)
    · rw [upd_ne ha]
      exact h.dj a
  tabs := h.tabs
  gt := fun a ps e => by
    by_cases ha : a = p
    · subst ha
      rw [upd_same] at e
      cases e
    · rw [upd_ne ha] at e
      exact h.gt a ps e
  bt := h.bt }

theorem SlotOk.mut {i : Nat} {s : Slot} (h : SlotOk S io B G H σ i s) (m : s.isM = true) : ∃ p vs ds, MutAt S B G H σ i p vs ds ∧ (s = .own ds ∨ s = .io ds) := by
  cases s with
  | no => cases m
  | dat d => cases m
  | own ds =>
    obtain ⟨p, vs, q⟩ := h
    exact ⟨p, vs, ds, q, .inl rfl⟩
  | io ds =>
    obtain ⟨p, vs, _, q⟩ := h
    exact ⟨p, vs, ds, q, .inr rfl⟩
/-- the mutable lists stand as they stood -/
theorem Rep.to (R : Rep S io B G σ H r) (e : Ex G G') (h : Hps S B G' H') (k : ∀ (i : Nat) (s : Slot) (p : Addr), r[i]? = some s → s.isM = true → σ[i]? = some (some (V.ref p)) → H p ≠ none → G p = none → B p = none → H' p = H p ∧ G' p = none) : Rep S io B G' σ H' r := by
  refine ⟨h, R.len, fun i s hi => ?_, R.inj⟩
  have q := R.slot i s hi
  have go : ∀ {p vs ds}, s.isM = true → MutAt S B G H σ i p vs ds → MutAt S B G' H' σ i p vs ds := fun {p vs ds} m z => by
    obtain ⟨e1, e2⟩ := k i s p hi m z.at_ (by rw [z.h]; simp) z.g z.b
    exact ⟨z.at_, by rw [e1]; exact z.h, e2, z.b, z.r.mono e⟩
  cases s with
  | no => trivial
  | dat d =>
    obtain ⟨v, h1, h2⟩ := q
    exact ⟨v, h1, h2.mono e⟩
  | own ds =>
    obtain ⟨p, vs, z⟩ := q
    exact ⟨p, vs, go rfl z⟩
  | io ds =>
    obtain ⟨p, vs, e1, z⟩ := q
    exact ⟨p, vs, e1, go rfl z⟩
theorem Rep.fresh (R : Rep S io B G σ H r) (hp : H p = none) (ho : ∀ ps, o ≠ .tbl ps) : Rep S io B (upd G p o) σ (upd H p o) r :=
  R.to (Ex.new (R.hp.gx.free hp)) (R.hp.fresh hp (R.hp.gx.free hp) (R.hp.bx.free hp) ho) fun i s q _ _ _ h g _ => by
    have ne : q ≠ p := fun z => h (by rw [z]; exact hp)
    rw [upd_ne ne, upd_ne ne]
    exact ⟨rfl, g⟩
theorem Rep.newH (R : Rep S io B G σ H r) (hp : H p = none) : Rep S io B G σ (upd H p o) r :=
  R.to (Ex.refl G) (R.hp.newH hp) fun i s q _ _ _ h g _ => by
    have ne : q ≠ p := fun z => h (by rw [z]; exact hp)
    rw [upd_ne ne]
    exact ⟨rfl, g⟩
theorem Rep.notOwn (R : Rep S io B G σ H r) (hp : H p = none) : NotOwn σ r p := fun i s hi m e => by
  obtain ⟨q, vs, ds, z, _⟩ := (R.slot i s hi).mut m
  have e2 := z.at_
  rw [e] at e2
  cases e2
  rw [z.h] at hp
  cases hp
/-- a list of no slot becomes data -/
theorem Rep.frzN (R : Rep S io B G σ H r) {xs : List V} (hp : H p = some (.lst xs)) (hg : G p = none) (hB : B p = none) (n : NotOwn σ r p) : Rep S io B (upd G p (.lst xs)) σ H r :=
  R.to (Ex.new hg) (R.hp.frz hp hg hB) fun i s q hi m e h g _ => by
    have ne : q ≠ p := fun z => n i s hi m (by rw [← z]; exact e)
    rw [upd_ne ne]
    exact ⟨rfl, g⟩
theorem getElem?_set_cases {α : Type} {l : List α} {i j : Nat} {a b : α} (h : (l.set i a)[j]? = some b) : (j = i ∧ b = a ∧ i < l.length) ∨ (j ≠ i ∧ l[j]? = some b) := by
  by_cases e : i = j
  · subst e
    by_cases hl : i < l.length
    · rw [List.getElem?_set_self hl] at h
      exact .inl ⟨rfl, (Option.some.inj h).symm, hl⟩
    · rw [List.getElem?_eq_none (by rw [List.length_set]; omega)] at h
      cases h
  · rw [List.getElem?_set_ne e] at h
    exact .inr ⟨fun z => e z.symm, h⟩
/-- a slot's own list becomes data -/
theorem Rep.freeze (R : Rep S io B G σ H r) {i : Nat} {ds : List D} (hi : r[i]? = some (.own ds)) :
    ∃ p vs, σ[i]? = some (some (V.ref p)) ∧ G p = none ∧ Ex G (upd G p (.lst vs)) ∧ Den S (upd G p (.lst vs)) (.ref p) (.lst ds) ∧ Rep S io B (upd G p (.lst vs)) σ H (r.set i (.dat (.lst ds))) := by
  obtain ⟨p, vs, z⟩ := R.slot i _ hi
  have e := Ex.new (o := .lst vs) z.g
  have dn : Den S (upd G p (.lst vs)) (.ref p) (.lst ds) := .lst upd_same (z.r.mono e)
  refine ⟨p, vs, z.at_, z.g, e, dn, ?_⟩
  refine ⟨R.hp.frz z.h z.g z.b, by rw [List.length_set]; exact R.len, fun j s hj => ?_, fun j k s t q ne hj m hk m' => ?_⟩
  · rcases getElem?_set_cases hj with ⟨rfl, rfl, _⟩ | ⟨ne, hj⟩
    · exact ⟨_, z.at_, dn⟩
    · have q := R.slot j s hj
      have go : ∀ {q ws es}, s.isM = true → MutAt S B G H σ j q ws es → MutAt S B (upd G p (.lst vs)) H σ j q ws es := fun {q ws es} m y => by
        have nq : q ≠ p := fun w => R.inj j i s _ q ne hj m hi rfl y.at_ (by rw [w]; exact z.at_)
        exact ⟨y.at_, y.h, by rw [upd_ne nq]; exact y.g, y.b, y.r.mono e⟩
      cases s with
      | no => trivial
      | dat d =>
        obtain ⟨v, h1, h2⟩ := q
        exact ⟨v, h1, h2.mono e⟩
      | own ds =>
        obtain ⟨p, vs, y⟩ := q
        exact ⟨p, vs, go rfl y⟩
      | io ds =>
        obtain ⟨p, vs, e1, y⟩ := q
        exact ⟨p, vs, e1, go rfl y⟩
  · rcases getElem?_set_cases hj with ⟨_, rfl, _⟩ | ⟨_, hj⟩
    · cases m
    · rcases getElem?_set_cases hk with ⟨_, rfl, _⟩ | ⟨_, hk⟩
      · cases m'
      · exact R.inj j k s t q ne hj m hk m'
/-- a slot's list changes -/
theorem Rep.mutate (R : Rep S io B G σ H r) {i : Nat} {ds es : List D} {ws : List V} (hi : mli r i = some ds) (hw : Dens S G ws es) :
    ∃ p vs, σ[i]? = some (some (V.ref p)) ∧ H p = some (.lst vs) ∧ Dens S G vs ds ∧ Rep S io B G σ (upd H p (.lst ws)) (put r i es) := by
  have key : ∃ s, r[i]? = some s ∧ ((s = .own ds ∧ put r i es = r.set i (.own es)) ∨ (s = .io ds ∧ put r i es = r.set i (.io es))) := by
    unfold mli at hi
    unfold put
    cases h : r[i]? with
    | none =>
      rw [h] at hi
      cases hi
    | some s =>
      rw [h] at hi
      cases s with
      | own l =>
        cases hi
        exact ⟨_, rfl, .inl ⟨rfl, rfl⟩⟩
      | io l =>
        cases hi
        exact ⟨_, rfl, .inr ⟨rfl, rfl⟩⟩
      | _ => cases hi
  obtain ⟨s, hs, key⟩ := key
  obtain ⟨p, vs, z, hio⟩ : ∃ p vs, MutAt S B G H σ i p vs ds ∧ (s = .io ds → io i = some p) := by
    rcases key with ⟨rfl, _⟩ | ⟨rfl, _⟩
    · obtain ⟨p, vs, z⟩ := R.slot i _ hs
      exact ⟨p, vs, z, fun e => by cases e⟩
    · obtain ⟨p, vs, e, z⟩ := R.slot i _ hs
      exact ⟨p, vs, z, fun _ => e⟩
  have sm : s.isM = true := by rcases key with ⟨rfl, _⟩ | ⟨rfl, _⟩ <;> rfl
  obtain ⟨s', em, es', hput⟩ : ∃ s', s'.isM = true ∧ (s' = .own es ∨ (s' = .io es ∧ s = .io ds)) ∧ put r i es = r.set i s' := by
    rcases key with ⟨_, e⟩ | ⟨h, e⟩
    · exact ⟨_, rfl, .inl rfl, e⟩
    · exact ⟨_, rfl, .inr ⟨rfl, h⟩, e⟩
  refine ⟨p, vs, z.at_, z.h, z.r, ?_⟩
  rw [hput]
  have new : MutAt S B G (upd H p (.lst ws)) σ i p ws es := ⟨z.at_, upd_same, z.g, z.b, hw⟩
  refine ⟨R.hp.mutL z.h z.g z.b, by rw [List.length_set]; exact R.len, fun j t hj => ?_, fun j k t t' q ne hj m hk m' e1 e2 => ?_⟩
  · rcases getElem?_set_cases hj with ⟨rfl, rfl, _⟩ | ⟨ne, hj⟩
    · rcases es' with rfl | ⟨rfl, e⟩
      · exact ⟨p, ws, new⟩
      · exact ⟨p, ws, hio e, new⟩
    · have q := R.slot j t hj
      have go : ∀ {q ws' es'}, t.isM = true → MutAt S B G H σ j q ws' es' → MutAt S B G (upd H p (.lst ws)) σ j q ws' es' := fun {q ws' es'} m y => by
        have nq : q ≠ p := fun w => R.inj j i t s q ne hj m hs sm y.at_ (by rw [w]; exact z.at_)
        exact ⟨y.at_, by rw [upd_ne nq]; exact y.h, y.g, y.b, y.r⟩
      cases t with
      | no => trivial
      | dat d => exact q
      | own ds =>
        obtain ⟨p, vs, y⟩ := q
        exact ⟨p, vs, go rfl y⟩
      | io ds =>
        obtain ⟨p, vs, e1, y⟩ := q
        exact ⟨p, vs, e1, go rfl y⟩
  · have old : ∀ {j : Nat} {t : Slot}, (r.set i s')[j]? = some t → t.isM = true → ∃ t', r[j]? = some t' ∧ t'.isM = true := fun {j t} hj m => by
      rcases getElem?_set_cases hj with ⟨rfl, _, _⟩ | ⟨_, hj⟩
      · exact ⟨s, hs, sm⟩
      · exact ⟨t, hj, m⟩
    obtain ⟨t1, a1, b1⟩ := old hj m
    obtain ⟨t2, a2, b2⟩ := old hk m'
    exact R.inj j k t1 t2 q ne a1 b1 a2 b2 e1 e2
theorem setS_eq {i : Nat} {s : Slot} {r1 : Env} (h : setS r i s = some r1) : r1 = r.set i s ∧ i < r.length := by
  unfold setS at h
  cases e : r[i]? with
  | none =>
    rw [e] at h
    cases h
  | some t =>
    rw [e] at h
    have hl := (List.getElem?_eq_some_iff.mp e).1
    cases t <;> first
      | (cases h; exact ⟨rfl, hl⟩)
      | cases h
/-- a name's slot is given a value -/
theorem Rep.store (R : Rep S io B G σ H r) {i : Nat} {s : Slot} {r1 : Env} (h : setS r i s = some r1) (hs : (∃ d, s = .dat d ∧ Den S G u d) ∨ (∃ p vs ds, s = .own ds ∧ u = .ref p ∧ H p = some (.lst vs) ∧ G p = none ∧ B p = none ∧ NotOwn σ r p ∧ Dens S G vs ds)) :
    Rep S io B G (σ.set i (some u)) H r1 := by
  obtain ⟨rfl, hl⟩ := setS_eq h
  have hlσ : i < σ.length := by rw [← R.len]; exact hl
  refine ⟨R.hp, by rw [List.length_set, List.length_set]; exact R.len, fun j t hj => ?_, fun j k t t' q ne hj m hk m' e1 e2 => ?_⟩
  · rcases getElem?_set_cases hj with ⟨rfl, rfl, _⟩ | ⟨ne, hj⟩
    · rcases hs with ⟨d, rfl, hd⟩ | ⟨p, vs, ds, rfl, rfl, h1, h2, h3, h4, h5⟩
      · exact ⟨u, List.getElem?_set_self hlσ, hd⟩
      · exact ⟨p, vs, List.getElem?_set_self hlσ, h1, h2, h3, h5⟩
    · have q := R.slot j t hj
      have e : (σ.set i (some u))[j]? = σ[j]? := List.getElem?_set_ne (fun z => ne z.symm)
      have go : ∀ {q ws' es'}, MutAt S B G H σ j q ws' es' → MutAt S B G H (σ.set i (some u)) j q ws' es' := fun {q ws' es'} y => ⟨by rw [e]; exact y.at_, y.h, y.g, y.b, y.r⟩
      cases t with
      | no => trivial
      | dat d =>
        obtain ⟨v, h1, h2⟩ := q
        exact ⟨v, by rw [e]; exact h1, h2⟩
      | own ds =>
        obtain ⟨p, vs, y⟩ := q
        exact ⟨p, vs, go y⟩
      | io ds =>
        obtain ⟨p, vs, e1, y⟩ := q
        exact ⟨p, vs, e1, go y⟩
  · rcases getElem?_set_cases hj with ⟨rfl, rfl, _⟩ | ⟨nj, hj'⟩
    · rcases hs with ⟨d, rfl, hd⟩ | ⟨p, vs, ds, rfl, rfl, h1, h2, h3, h4, h5⟩
      · cases m
      · rcases getElem?_set_cases hk with ⟨rfl, _, _⟩ | ⟨nk, hk⟩
        · exact ne rfl
        · rw [List.getElem?_set_self hlσ] at e1
          rw [List.getElem?_set_ne (fun z => nk z.symm)] at e2
          cases e1
          exact h4 k t' hk m' e2
    · rw [List.getElem?_set_ne (fun z => nj z.symm)] at e1
      rcases getElem?_set_cases hk with ⟨rfl, rfl, _⟩ | ⟨nk, hk⟩
      · rcases hs with ⟨d, rfl, hd⟩ | ⟨p, vs, ds, rfl, rfl, h1, h2, h3, h4, h5⟩
        · cases m'
        · rw [List.getElem?_set_self hlσ] at e2
          cases e2
          exact h4 j t hj' m e1
      · rw [List.getElem?_set_ne (fun z => nk z.symm)] at e2
        exact R.inj j k t t' q ne hj' m hk m' e1 e2
/-- a name is forgotten -/
theorem Rep.forget (R : Rep S io B G σ H r) (i : Nat) (w : Option V) : Rep S io B G (σ.set i w) H (r.set i .no) := by
  refine ⟨R.hp, by rw [List.length_set, List.length_set]; exact R.len, fun j t hj => ?_, fun j k t t' q ne hj m hk m' e1 e2 => ?_⟩
  · rcases getElem?_set_cases hj with ⟨rfl, rfl, _⟩ | ⟨ne, hj⟩
    · trivial
    · have q := R.slot j t hj
      have e : (σ.set i w)[j]? = σ[j]? := List.getElem?_set_ne (fun z => ne z.symm)
      have go : ∀ {q ws' es'}, MutAt S B G H σ j q ws' es' → MutAt S B G H (σ.set i w) j q ws' es' := fun {q ws' es'} y => ⟨by rw [e]; exact y.at_, y.h, y.g, y.b, y.r⟩
      cases t with
      | no => trivial
      | dat d =>
        obtain ⟨v, h1, h2⟩ := q
        exact ⟨v, by rw [e]; exact h1, h2⟩
      | own ds =>
        obtain ⟨p, vs, y⟩ := q
        exact ⟨p, vs, go y⟩
      | io ds =>
        obtain ⟨p, vs, e1, y⟩ := q
        exact ⟨p, vs, e1, go y⟩
  · rcases getElem?_set_cases hj with ⟨rfl, rfl, _⟩ | ⟨nj, hj⟩
    · cases m
    · rcases getElem?_set_cases hk with ⟨rfl, rfl, _⟩ | ⟨nk, hk⟩
      · cases m'
      · rw [List.getElem?_set_ne (fun z => nj z.symm)] at e1
        rw [List.getElem?_set_ne (fun z => nk z.symm)] at e2
        exact R.inj j k t t' q ne hj m hk m' e1 e2
theorem Rep.wipe (R : Rep S io B G σ H r) : ∀ ws : List Nat, Rep S io B G (L2.wipe σ ws) H (wipeE r ws) := fun ws => by
  induction ws with
  | nil => exact R
  | cons i ws ih => exact ih.forget i none

/-! ### values -/
/-- what a value is at this moment -/
def Now (S : Cfg) (G H : Hp) (u : V) (d : D) : Prop := (∃ ds p vs, d = .lst ds ∧ u = .ref p ∧ H p = some (.lst vs) ∧ Dens S G vs ds) ∨ Den S G u d
theorem Now.lst {ds : List D} (h : Now S G H u (.lst ds)) (e : Ex G H) : ∃ p vs, u = .ref p ∧ H p = some (.lst vs) ∧ Dens S G vs ds := by
  rcases h with ⟨ds', p, vs, e1, h⟩ | h
  · cases e1
    exact ⟨p, vs, h⟩
  · cases h with
    | lst h r => exact ⟨_, _, rfl, e _ _ h, r⟩
theorem Now.den (h : Now S G H u d) (n : ∀ ds, d ≠ .lst ds) : Den S G u d := by
  rcases h with ⟨ds', p, vs, e1, h⟩ | h
  · exact (n _ e1).elim
  · exact h
theorem VOk.keep {B' H' : Hp} {r' : Env} (h : VOk S B G H σ r false u v) (e : Ex G G') : VOk S B' G' H' σ r' false u v := by
  cases v with
  | s i => exact h
  | d x =>
    rcases h with ⟨z, _⟩ | ⟨_, h⟩
    · cases z
    · exact .of (h.mono e)
theorem rd_now (R : Rep S io B G σ H r) (h : VOk S B G H σ r false u v) (e : rd r v = some d) : Now S G H u d := by
  cases v with
  | d x =>
    cases e
    rcases h with ⟨z, _⟩ | ⟨_, h⟩
    · cases z
    · exact .inr h
  | s i =>
    have h : σ[i]? = some (some u) := h
    unfold rd at e
    cases q : r[i]? with
    | none =>
      simp only [q] at e
      cases e
    | some s =>
      simp only [q] at e
      have z := R.slot i s q
      cases s with
      | no => cases e
      | dat y =>
        cases e
        obtain ⟨v, h1, h2⟩ := z
        rw [h] at h1
        cases h1
        exact .inr h2
      | own l =>
        cases e
        obtain ⟨p, vs, y⟩ := z
        have h1 := y.at_
        rw [h] at h1
        cases h1
        exact .inl ⟨_, _, _, rfl, rfl, y.h, y.r⟩
      | io l =>
        cases e
        obtain ⟨p, vs, _, y⟩ := z
        have h1 := y.at_
        rw [h] at h1
        cases h1
        exact .inl ⟨_, _, _, rfl, rfl, y.h, y.r⟩
theorem fz_ok {r1 : Env} (R : Rep S io B G σ H r) (h : VOk S B G H σ r false u v) (e : fz r v = some (x, r1)) : ∃ G1, Ex G G1 ∧ Rep S io B G1 σ H r1 ∧ Den S G1 u x := by
  cases v with
  | d y =>
    cases e
    rcases h with ⟨z, _⟩ | ⟨_, h⟩
    · cases z
    · exact ⟨G, Ex.refl G, R, h⟩
  | s i =>
    have h : σ[i]? = some (some u) := h
    unfold fz at e
    cases q : r[i]? with
    | none =>
      simp only [q] at e
      cases e
    | some s =>
      simp only [q] at e
      cases s with
      | dat y =>
        cases e
        obtain ⟨v, h1, h2⟩ := R.slot i _ q
        rw [h] at h1
        cases h1
        exact ⟨G, Ex.refl G, R, h2⟩
      | own l =>
        cases e
        obtain ⟨p, vs, h1, _, e1, h2, h3⟩ := R.freeze q
        rw [h] at h1
        cases h1
        exact ⟨_, e1, h3, h2⟩
      | _ => cases e
theorem VsOk.keep {B' H' : Hp} {r' : Env} : ∀ {us : List V} {vs : List Val}, VsOk S B G H σ r us vs → Ex G G' → VsOk S B' G' H' σ r' us vs
  | [], [], _, _ => trivial
  | _ :: _, _ :: _, h, e => ⟨h.1.keep e, h.2.keep e⟩
  | [], _ :: _, h, _ => h.elim
  | _ :: _, [], h, _ => h.elim
theorem fzs_ok : ∀ {vs : List Val} {us : List V} {G : Hp} {r r1 : Env} {ds : List D}, Rep S io B G σ H r → VsOk S B G H σ r us vs → fzs vs r = some (ds, r1) → ∃ G1, Ex G G1 ∧ Rep S io B G1 σ H r1 ∧ Dens S G1 us ds
  | [], [], G, r, r1, ds, R, _, e => by
    cases e
    exact ⟨G, Ex.refl G, R, .nil⟩
  | [], _ :: _, _, _, _, _, _, h, _ => h.elim
  | _ :: _, [], _, _, _, _, _, h, _ => h.elim
  | v :: vs, u :: us, G, r, r1, ds, R, h, e => by
    unfold fzs at e
    cases q : fz r v with
    | none =>
      simp only [q] at e
      cases e
    | some z =>
      obtain ⟨x, r2⟩ := z
      simp only [q] at e
      obtain ⟨G1, e1, R1, d1⟩ := fz_ok R h.1 q
      cases q2 : fzs vs r2 with
      | none =>
        simp only [q2] at e
        cases e
      | some z =>
        obtain ⟨xs, r3⟩ := z
        simp only [q2] at e
        cases e
        obtain ⟨G2, e2, R2, d2⟩ := fzs_ok R1 (h.2.keep e1) q2
        exact ⟨G2, e1.trans e2, R2, .cons (d1.mono e2) d2⟩
theorem rds_ok : ∀ {vs : List Val} {us : List V} {ds : List D}, Rep S io B G σ H r → VsOk S B G H σ r us vs → vs.mapM (rd r) = some ds → Paired (Now S G H) us ds
  | [], [], ds, R, _, e => by
    cases e
    exact .nil
  | [], _ :: _, _, _, h, _ => h.elim
  | _ :: _, [], _, _, h, _ => h.elim
  | v :: vs, u :: us, ds, R, h, e => by
    rw [List.mapM_cons] at e
    cases q : rd r v with
    | none =>
      rw [q] at e
      cases e
    | some x =>
      rw [q] at e
      cases q2 : vs.mapM (rd r) with
      | none =>
        rw [q2] at e
        cases e
      | some xs =>
        rw [q2] at e
        cases e
        exact .cons (rd_now R h.1 q) (rds_ok R h.2 q2)

/-! ### from new to data -/
variable {E : XK} {f : Bool} {c : C} {Q : VK}
theorem tV_of {σ : L2.St} (h : tV S io B E false c σ H Q) : tV S io B E true c σ H Q := by
  obtain ⟨r, G, R, h⟩ := h
  refine ⟨r, G, R, ?_⟩
  cases e : evE c r with
  | ok v r' =>
    rw [e] at h
    intro G' e1 u H' R' w
    cases v with
    | s i => exact h G' e1 u H' R' w
    | d x =>
      rcases w with ⟨_, p, vs, ds, rfl, rfl, h1, h2, h3, h4, h5⟩ | ⟨_, w⟩
      · exact h _ (e1.trans (Ex.new h2)) _ H' (R'.frzN h1 h2 h3 h4) (VOk.of (.lst upd_same (h5.mono (Ex.new h2))))
      · exact h G' e1 u H' R' (.of w)
  | err c v =>
    rw [e] at h
    exact h
  | bad =>
    rw [e] at h
    exact h
theorem pe_false {X : Cx} {e : Expr} (h : PE X e (tV S io B E f c)) : PE X e (tV S io B E false c) := by
  cases f with
  | false => exact h
  | true => exact PE.imp h fun σ H Q q => tV_of q
end
end EvO

set_option Elab.async false
set_option linter.all false
set_option maxRecDepth 10000
/-! A4: the operations by HandS's rules. -/
namespace EvO
open PySem PySem.Spec L2

section
variable {S : Cfg} {io : Nat → Option Addr} {B G G' H H' : Hp} {σ : L2.St} {r : Env} {p : Addr} {o : HO} {u : V} {v : Val} {d x z : D} {E : XK} {Q : VK} {vs : List V} {ds : List D} {X : Cx}

theorem big_eq : big = sizeLine := by rw [sizeLine_eq]
/-- the answer z is what is wanted -/
def QR (S : Cfg) (io : Nat → Option Addr) (B : Hp) (σ : L2.St) (G : Hp) (r : Env) (z : D) (Q : VK) : Prop := ∀ G', Ex G G' → QV S io B σ true Q (.d z) r G'
theorem QR.den (q : QR S io B σ G r z Q) (R : Rep S io B G σ H r) (h : Den S G u z) (n : ∀ ds, z ≠ .lst ds := by intro _ e; cases e) : Q u H := q G (Ex.refl G) u H R (VOk.ofN n h)
theorem QR.tup (q : QR S io B σ G r (.tup ds) Q) (R : Rep S io B G σ H r) (hp : H p = none) (h : Dens S G vs ds) : Q (.ref p) (upd H p (.tup vs)) :=
  q _ (Ex.new (R.hp.gx.free hp)) _ _ (R.fresh hp fun _ e => by cases e) (VOk.ofN (fun _ e => by cases e) (.tup (SqT.of upd_same) (h.mono (Ex.new (R.hp.gx.free hp)))))
theorem QR.lst (q : QR S io B σ G r (.lst ds) Q) (R : Rep S io B G σ H r) (hp : H p = none) (h : Dens S G vs ds) : Q (.ref p) (upd H p (.lst vs)) :=
  q _ (Ex.refl G) _ _ (R.newH hp) (.inl ⟨rfl, p, vs, ds, rfl, rfl, upd_same, R.hp.gx.free hp, R.hp.bx.free hp, R.notOwn hp, h⟩)

theorem Now.tup (h : Now S G H u (.tup ds)) (e : Ex G H) : ∃ a vs, u = .ref a ∧ SqT S.K H a vs ∧ Dens S G vs ds := by
  cases h.den (fun _ e => by cases e) with
  | tup h1 r => exact ⟨_, _, rfl, ex_t e h1, r⟩
theorem Now.int {i : Int} (h : Now S G H u (.int i)) : u = .int i := by
  cases h.den (fun _ e => by cases e)
  rfl
theorem Now.str {i : Str} (h : Now S G H u (.str i)) : u = .str i := by
  cases h.den (fun _ e => by cases e)
  rfl
theorem Now.bl {i : Bool} (h : Now S G H u (.bl i)) : u = .bl i := by
  cases h.den (fun _ e => by cases e)
  rfl
theorem Now.non (h : Now S G H u .non) : u = .non := by
  cases h.den (fun _ e => by cases e)
  rfl
theorem Now.scr {ns : List Int} (h : Now S G H u (.scr ns)) (e : Ex G H) : ∃ a, u = .ref a ∧ SqL S.K H a (ns.map V.int) := by
  cases h.den (fun _ e => by cases e) with
  | scr h1 => exact ⟨_, rfl, ex_l e h1⟩

def bopOf : Bop → Operator
  | .add => .Add
  | .sub => .Sub
  | .mul => .Mult
  | .fdiv => .FloorDiv
  | .mod => .Mod
  | .pow => .Pow
theorem okI_ok {i : Int} (h : okI i = true) : -(2 ^ 64) < i ∧ i < 2 ^ 64 := of_decide_eq_true h
theorem op_powW : OpR X (binaryOp .Pow) (rI (fun i j => 0 ≤ j ∧ (Builtin.Int.intBits i : Int) * j ≤ 134217728) fun i j => .int (i ^ j.toNat)) := opI fun _ _ _ _ _ _ _ hc q => PyProof.Rows.pow_int hc.1 (by have := hc.2; omega) q
/-- an operator: its reading, and that the reading is met -/
theorem bop_ok (X : Cx) (hK : X.K = S.K) (o : Bop) : ∃ R2, OpR X (binaryOp (bopOf o)) R2 ∧ ∀ {io : Nat → Option Addr} {B G H : Hp} {σ : L2.St} {r : Env} {x y : V} {d e z : D} {Q : VK}, Rep S io B G σ H r → Now S G H x d → Now S G H y e → binD o d e = some z → QR S io B σ G r z Q → R2 x y H Q := by
  cases o with
  | add =>
    refine ⟨_, (op_add (X := X)).or (op_add_str.or (op_catA.or op_cat)), ?_⟩
    intro io B G H σ r x y d e z Q R hx hy hz q
    unfold binD at hz
    split at hz <;> try contradiction
    · cases hz
      exact .inl ⟨_, _, hx.int, hy.int, q.den R (.int _)⟩
    · split at hz <;> cases hz
      rename_i hl
      exact .inr (.inl ⟨_, _, hx.str, hy.str, by rw [← big_eq]; exact hl, q.den R (.str _)⟩)
    · split at hz <;> cases hz
      rename_i xs ys _ _ hl
      obtain ⟨a, vs, rfl, ha, da⟩ := hx.tup R.hp.gx
      obtain ⟨b, ws, rfl, hb, db⟩ := hy.tup R.hp.gx
      have dall := da.append db
      refine .inr (.inr (.inl ⟨a, b, vs, ws, rfl, rfl, by rw [hK]; exact ha, by rw [hK]; exact hb, by rw [da.length, db.length, ← big_eq]; exact hl, fun e => ?_, fun _ e => ?_, fun _ _ p hp => q.tup R hp dall⟩))
      · subst e
        cases da
        exact q.den R (hy.den fun _ e => by cases e)
      · subst e
        cases db
        rw [List.append_nil] at q
        exact q.den R (hx.den fun _ e => by cases e)
    · split at hz <;> cases hz
      rename_i hl
      obtain ⟨a, vs, rfl, ha, da⟩ := hx.lst R.hp.gx
      obtain ⟨b, ws, rfl, hb, db⟩ := hy.lst R.hp.gx
      exact .inr (.inr (.inr ⟨a, b, vs, ws, rfl, rfl, ha, hb, by rw [da.length, db.length, ← big_eq]; exact hl, fun p hp => q.lst R hp (da.append db)⟩))
  | sub =>
    refine ⟨_, op_sub (X := X), ?_⟩
    intro io B G H σ r x y d e z Q R hx hy hz q
    unfold binD at hz
    split at hz <;> try contradiction
    cases hz
    exact ⟨_, _, hx.int, hy.int, q.den R (.int _)⟩
  | mul =>
    refine ⟨_, op_mul (X := X), ?_⟩
    intro io B G H σ r x y d e z Q R hx hy hz q
    unfold binD at hz
    split at hz <;> try contradiction
    split at hz <;> cases hz
    rename_i h
    refine ⟨_, _, hx.int, hy.int, ?_, q.den R (.int _)⟩
    rcases Bool.or_eq_true_iff.mp h with h | h
    · exact .inl (okI_ok h)
    · exact .inr (okI_ok h)
  | fdiv =>
    refine ⟨_, op_fdivN (X := X), ?_⟩
    intro io B G H σ r x y d e z Q R hx hy hz q
    unfold binD at hz
    split at hz <;> try contradiction
    split at hz <;> cases hz
    rename_i h
    exact ⟨_, _, hx.int, hy.int, h, q.den R (.int _)⟩
  | mod =>
    refine ⟨_, op_modN (X := X), ?_⟩
    intro io B G H σ r x y d e z Q R hx hy hz q
    unfold binD at hz
    split at hz <;> try contradiction
    split at hz <;> cases hz
    rename_i h
    exact ⟨_, _, hx.int, hy.int, h, q.den R (.int _)⟩
  | pow =>
    refine ⟨_, op_powW (X := X), ?_⟩
    intro io B G H σ r x y d e z Q R hx hy hz q
    unfold binD at hz
    split at hz <;> try contradiction
    split at hz <;> cases hz
    rename_i h
    exact ⟨_, _, hx.int, hy.int, h, q.den R (.int _)⟩

/-! ### comparisons -/
mutual
theorem den_dp {S : Cfg} {G : Hp} : ∀ {u : V} {d : D} {q : PyData}, Den S G u d → D.py d = some q → Dp S.K G u q
  | _, _, _, .non, e => by cases e; exact .non
  | _, _, _, .bl b, e => by cases e; exact .bl b
  | _, _, _, .int b, e => by cases e; exact .int b
  | _, _, _, .str b, e => by cases e; exact .str b
  | _, _, _, .tup h r, e => by
    unfold D.py at e
    obtain ⟨l, e1, rfl⟩ := Option.map_eq_some_iff.mp e
    exact .tup h (dens_dp r e1)
  | _, _, _, .lst h r, e => by
    unfold D.py at e
    obtain ⟨l, e1, rfl⟩ := Option.map_eq_some_iff.mp e
    exact .lst (SqL.of h) (dens_dp r e1)
  | _, _, _, .scr _, e => by cases e
  | _, _, _, .exn _ _ _ _, e => by cases e
theorem dens_dp {S : Cfg} {G : Hp} : ∀ {us : List V} {ds : List D} {qs : List PyData}, Dens S G us ds → D.pys ds = some qs → DpAll S.K G us qs
  | _, _, _, .nil, e => by cases e; exact .nil
  | _, _, _, .cons (d := d) (ds := ds) h r, e => by
    unfold D.pys at e
    split at e
    · rename_i a b e1 e2
      cases e
      exact .cons (den_dp h e1) (dens_dp r e2)
    · cases e
end
mutual
theorem Dp.ex {K : PySem.W.Frag} {G H : Hp} (e : Ex G H) : ∀ {u : V} {q : PyData}, Dp K G u q → Dp K H u q
  | _, _, .non => .non
  | _, _, .bl b => .bl b
  | _, _, .int b => .int b
  | _, _, .str b => .str b
  | _, _, .tup h r => .tup (ex_t e h) (DpAll.ex e r)
  | _, _, .lst h r => .lst (ex_l e h) (DpAll.ex e r)
theorem DpAll.ex {K : PySem.W.Frag} {G H : Hp} (e : Ex G H) : ∀ {u : List V} {q : List PyData}, DpAll K G u q → DpAll K H u q
  | _, _, .nil => .nil
  | _, _, .cons h r => .cons (Dp.ex e h) (DpAll.ex e r)
end
theorem Now.dp {q : PyData} (h : Now S G H u d) (e : Ex G H) (hq : D.py d = some q) : Dp S.K H u q := by
  rcases h with ⟨ds, p, vs, rfl, rfl, h1, h2⟩ | h
  · unfold D.py at hq
    obtain ⟨l, e1, rfl⟩ := Option.map_eq_some_iff.mp hq
    exact .lst (SqL.of h1) (DpAll.ex e (dens_dp h2 e1))
  · exact Dp.ex e (den_dp h hq)
theorem flat_flat (h : Den S G u d) (f : d.flat = true) : flatV u = true := by
  cases h <;> first | rfl | cases f
theorem flats_flat : ∀ {us : List V} {ds : List D}, Dens S G us ds → ds.all D.flat = true → us.all flatV = true
  | _, _, .nil, _ => rfl
  | _, _, .cons h r, f => by
    rw [List.all_cons, Bool.and_eq_true] at f ⊢
    exact ⟨flat_flat h f.1, flats_flat r f.2⟩
theorem flatEq_eqV {u' : V} {d' : D} (h : Den S G u d) (h' : Den S G u' d') (f : d.flat = true) (f' : d'.flat = true) : eqV u u' = flatEq d d' := by
  cases h <;> cases h' <;> first | rfl | cases f | cases f'
theorem flatEq_any (h : Den S G u d) (f : d.flat = true) : ∀ {us : List V} {ds : List D}, Dens S G us ds → ds.all D.flat = true → inV u us = ds.any fun y => flatEq y d
  | _, _, .nil, _ => rfl
  | _, _, .cons h' r, f' => by
    rw [List.all_cons, Bool.and_eq_true] at f'
    have ih := flatEq_any h f r f'.2
    unfold inV at ih ⊢
    rw [List.any_cons, List.any_cons, ih, flatEq_eqV h' h f'.1 f]
def copOf : Cop → CmpOp
  | .eq => .Eq
  | .ne => .NotEq
  | .lt => .Lt
  | .le => .LtE
  | .gt => .Gt
  | .ge => .GtE
  | .isin => .In
  | .notin => .NotIn
  | .is_ => .Is
  | .isnot => .IsNot
theorem eqD_ok {e : D} {k : Bool} (h : eqD d e = some k) : (∃ a b, d = .str a ∧ e = .str b ∧ k = decide (a = b)) ∨ ∃ a b, D.py d = some a ∧ D.py e = some b ∧ (a.canLay0 = true ∧ b.canLay0 = true ∧ min a.depth b.depth ≤ 64) ∧ k = PyData.eqv a b := by
  unfold eqD at h
  split at h
  · cases h
    exact .inl ⟨_, _, rfl, rfl, rfl⟩
  · unfold eqP at h
    split at h
    · rename_i a b e1 e2
      split at h
      · rename_i hs
        obtain ⟨h12, h3⟩ := Bool.and_eq_true_iff.mp hs
        obtain ⟨h1, h2⟩ := Bool.and_eq_true_iff.mp h12
        cases h
        exact .inr ⟨a, b, e1, e2, ⟨h1, h2, of_decide_eq_true h3⟩, rfl⟩
      · cases h
    · cases h
def rEqM (K : PySem.W.Frag) : R2 := fun x y H Q => ∃ d e, Dp K H x d ∧ Dp K H y e ∧ (d.canLay0 = true ∧ e.canLay0 = true ∧ min d.depth e.depth ≤ 64) ∧ Q (.bl (PyData.eqv d e)) H
def rNeM (K : PySem.W.Frag) : R2 := fun x y H Q => ∃ d e, Dp K H x d ∧ Dp K H y e ∧ (d.canLay0 = true ∧ e.canLay0 = true ∧ min d.depth e.depth ≤ 64) ∧ Q (.bl (!PyData.eqv d e)) H
theorem op_eqM (hu : X.A.units + 64 < cLine) : OpR X (compareOp .Eq) (rEqM X.K) := by
  intro pins s σ H x y v u Q I rx ry h
  obtain ⟨d, e, hd, he, ⟨s1, s2, s3⟩, q⟩ := h
  obtain ⟨as, r1⟩ := Dp.reads I d x v hd rx
  obtain ⟨bs, r2⟩ := Dp.reads I e y u he ry
  exact SeqAt.compareEq_reads r1 r2 s1 s2 (by omega) ⟨.bl _, H, I, rfl, q⟩
theorem op_neM (hu : X.A.units + 64 < cLine) : OpR X (compareOp .NotEq) (rNeM X.K) := by
  intro pins s σ H x y v u Q I rx ry h
  obtain ⟨d, e, hd, he, ⟨s1, s2, s3⟩, q⟩ := h
  obtain ⟨as, r1⟩ := Dp.reads I d x v hd rx
  obtain ⟨bs, r2⟩ := Dp.reads I e y u he ry
  exact SeqAt.compareNe_reads r1 r2 s1 s2 (by omega) ⟨.bl _, H, I, rfl, q⟩
theorem now_seq {xs : List D} (h : Now S G H u d) (e : Ex G H) (hd : d = .tup xs ∨ d = .lst xs) : ∃ p vs, u = .ref p ∧ (SqL S.K H p vs ∨ SqT S.K H p vs) ∧ Dens S G vs xs := by
  rcases hd with rfl | rfl
  · obtain ⟨a, vs, e1, h1, h2⟩ := h.tup e
    exact ⟨a, vs, e1, .inr h1, h2⟩
  · obtain ⟨a, vs, e1, h1, h2⟩ := h.lst e
    exact ⟨a, vs, e1, .inl (SqL.of h1), h2⟩
theorem inD_ok {e : D} {k : Bool} (h : inD d e = some k) : (∃ xs, (e = .tup xs ∨ e = .lst xs) ∧ d.flat = true ∧ xs.all D.flat = true ∧ k = xs.any fun y => flatEq y d) ∨ ∃ y z, d = .str y ∧ e = .str z ∧ k = !(Builtin.Str.occurrences z y 0 z.length 1).isEmpty := by
  unfold inD at h
  split at h
  · rename_i xs
    unfold inL at h
    split at h <;> cases h
    rename_i hs
    obtain ⟨h1, h2⟩ := Bool.and_eq_true_iff.mp hs
    exact .inl ⟨xs, .inl rfl, h1, h2, rfl⟩
  · rename_i xs
    unfold inL at h
    split at h <;> cases h
    rename_i hs
    obtain ⟨h1, h2⟩ := Bool.and_eq_true_iff.mp hs
    exact .inl ⟨xs, .inr rfl, h1, h2, rfl⟩
  · split at h <;> cases h
    exact .inr ⟨_, _, rfl, rfl, rfl⟩
  · cases h
theorem isN_ok (h : Now S G H u d) : decide (u = V.non) = isNonD d := by
  rcases h with ⟨ds, p, vs, rfl, rfl, h1, h2⟩ | h
  · exact decide_eq_false (fun e => by cases e)
  · cases h <;> first | exact decide_eq_true rfl | exact decide_eq_false (fun e => by cases e)
/-- is, is not of a bool constant, the other side anything -/
def rIsC : R2 := fun x y H Q => ∃ b : Bool, y = .bl b ∧ Q (.bl (decide (x = .bl b))) H
def rNotC : R2 := fun x y H Q => ∃ b : Bool, y = .bl b ∧ Q (.bl (!decide (x = .bl b))) H
theorem relV_bl {x : V} {v : Value} {b : Bool} (r : RelV x v) : v = Value.bool b ↔ x = .bl b := by
  constructor
  · intro e
    subst e
    cases x with
    | bl c => cases r; rfl
    | non => cases r
    | int _ => obtain ⟨_, z⟩ := r; cases z
    | str _ => obtain ⟨_, z⟩ := r; cases z
    | byt _ => obtain ⟨_, z⟩ := r; cases z
    | flt _ => obtain ⟨_, z⟩ := r; cases z
    | ref _ => cases r
    | ty _ => cases r
  · intro e
    subst e
    exact r
theorem plain_bl {x : V} {v : Value} (b : Bool) (r : RelV x v) : PySem.plainIs v (.bool b) = true := by
  cases x with
  | bl c => cases (show v = Value.bool c from r); rfl
  | non => cases (show v = Value.none from r); rfl
  | int _ => obtain ⟨_, z⟩ := r; cases z; rfl
  | str _ => obtain ⟨_, z⟩ := r; cases z; rfl
  | byt _ => obtain ⟨_, z⟩ := r; cases z; rfl
  | flt _ => obtain ⟨_, z⟩ := r; cases z; rfl
  | ref a => cases (show v = Value.ref a from r); rfl
  | ty n => cases (show v = Value.type n from r); rfl
theorem op_isC : OpR X (compareOp .Is) rIsC := by
  intro pins s σ H x y v u Q I rx ry h
  obtain ⟨b, rfl, q⟩ := h
  cases (show u = Value.bool b from ry)
  by_cases e : x = .bl b
  · subst e
    cases (show v = Value.bool b from rx)
    exact wpAny_is_self rfl ⟨.bl true, H, I, rfl, by simpa using q⟩
  · exact wpAny_is_other (plain_bl b rx) (fun z => e ((relV_bl rx).mp z)) ⟨.bl false, H, I, rfl, by simpa [e] using q⟩
theorem op_notC : OpR X (compareOp .IsNot) rNotC := by
  intro pins s σ H x y v u Q I rx ry h
  obtain ⟨b, rfl, q⟩ := h
  cases (show u = Value.bool b from ry)
  by_cases e : x = .bl b
  · subst e
    cases (show v = Value.bool b from rx)
    exact wpAny_isNot_self rfl ⟨.bl false, H, I, rfl, by simpa using q⟩
  · exact wpAny_isNot_other (plain_bl b rx) (fun z => e ((relV_bl rx).mp z)) ⟨.bl true, H, I, rfl, by simpa [e] using q⟩
theorem isB_ok {b : Bool} (h : Now S G H u d) : decide (u = V.bl b) = isBlD b d := by
  rcases h with ⟨ds, p, vs, rfl, rfl, h1, h2⟩ | h
  · exact decide_eq_false (fun e => by cases e)
  · cases h <;> first
      | exact decide_eq_false (fun e => by cases e)
      | (rename_i c; cases c <;> cases b <;> rfl)
theorem cop_ok (X : Cx) (hK : X.K = S.K) {k : Nat} (hr : Room k X.A) (o : Cop) : ∃ R2, OpR X (compareOp (copOf o)) R2 ∧ ∀ {G H : Hp} {x y : V} {d e : D} {z : Bool} {Q : VK}, Ex G H → Now S G H x d → Now S G H y e → cmpD o d e = some z → Q (.bl z) H → R2 x y H Q := by
  cases o with
  | eq =>
    refine ⟨_, (op_eq (X := X)).or (op_eqM hr.units), ?_⟩
    intro G H x y d e z Q R hx hy hz q
    rcases eqD_ok (show eqD d e = some z by unfold cmpD at hz; exact hz) with ⟨a, b, rfl, rfl, rfl⟩ | ⟨a, b, e1, e2, s1, rfl⟩
    · rw [hx.str, hy.str]
      refine .inl ⟨rfl, ?_⟩
      have e : decide (V.str a = V.str b) = decide (a = b) := by simp
      rw [e]
      exact q
    · rw [hK]
      exact .inr ⟨a, b, hx.dp R e1, hy.dp R e2, s1, q⟩
  | ne =>
    refine ⟨_, (op_ne (X := X)).or (op_neM hr.units), ?_⟩
    intro G H x y d e z Q R hx hy hz q
    obtain ⟨k, hk, rfl⟩ := Option.map_eq_some_iff.mp (show (eqD d e).map (!·) = some z by unfold cmpD at hz; exact hz)
    rcases eqD_ok hk with ⟨a, b, rfl, rfl, rfl⟩ | ⟨a, b, e1, e2, s1, rfl⟩
    · rw [hx.str, hy.str]
      refine .inl ⟨rfl, ?_⟩
      have e : decide (V.str a = V.str b) = decide (a = b) := by simp
      rw [e]
      exact q
    · rw [hK]
      exact .inr ⟨a, b, hx.dp R e1, hy.dp R e2, s1, q⟩
  | lt =>
    refine ⟨_, (op_lt (X := X)).or (op_ltT hr.units0), ?_⟩
    intro G H x y d e z Q R hx hy hz q
    unfold cmpD at hz
    split at hz <;> try contradiction
    all_goals try cases hz
    · exact .inl ⟨_, _, hx.int, hy.int, q⟩
    · split at hz <;> try contradiction
      cases hz
      rename_i l1 l2 e1 e2
      obtain ⟨a, vs, rfl, ha, da⟩ := hx.tup R
      obtain ⟨b, ws, rfl, hb, db⟩ := hy.tup R
      have f1 := da.ints e1
      have f2 := db.ints e2
      subst f1 f2
      exact .inr ⟨a, b, _, _, rfl, rfl, by rw [hK]; exact ha, by rw [hK]; exact hb, q⟩
  | le =>
    refine ⟨_, op_le (X := X), ?_⟩
    intro G H x y d e z Q R hx hy hz q
    unfold cmpD at hz
    split at hz <;> try contradiction
    all_goals try cases hz
    exact ⟨_, _, hx.int, hy.int, q⟩
  | gt =>
    refine ⟨_, op_gt (X := X), ?_⟩
    intro G H x y d e z Q R hx hy hz q
    unfold cmpD at hz
    split at hz <;> try contradiction
    all_goals try cases hz
    exact ⟨_, _, hx.int, hy.int, q⟩
  | ge =>
    refine ⟨_, op_ge (X := X), ?_⟩
    intro G H x y d e z Q R hx hy hz q
    unfold cmpD at hz
    split at hz <;> try contradiction
    all_goals try cases hz
    exact ⟨_, _, hx.int, hy.int, q⟩
  | isin =>
    refine ⟨_, (op_in_seq (X := X)).or op_in_str, ?_⟩
    intro G H x y d e z Q R hx hy hz q
    rcases inD_ok (show inD d e = some z by unfold cmpD at hz; exact hz) with ⟨xs, hd, f1, f2, rfl⟩ | ⟨a, b, rfl, rfl, rfl⟩
    · obtain ⟨p, vs, rfl, hs, hv⟩ := now_seq hy R hd
      have hx' := hx.den (fun ds e => by subst e; cases f1)
      refine .inl ⟨p, vs, rfl, by rw [hK]; exact hs, flat_flat hx' f1, flats_flat hv f2, ?_⟩
      rw [if_neg Bool.false_ne_true, flatEq_any hx' f1 hv f2]
      exact q
    · exact .inr ⟨_, _, hx.str, hy.str, q⟩
  | notin =>
    refine ⟨_, (op_notIn_seq (X := X)).or op_notin_str, ?_⟩
    intro G H x y d e z Q R hx hy hz q
    obtain ⟨k, hk, rfl⟩ := Option.map_eq_some_iff.mp (show (inD d e).map (!·) = some z by unfold cmpD at hz; exact hz)
    rcases inD_ok hk with ⟨xs, hd, f1, f2, rfl⟩ | ⟨a, b, rfl, rfl, rfl⟩
    · obtain ⟨p, vs, rfl, hs, hv⟩ := now_seq hy R hd
      have hx' := hx.den (fun ds e => by subst e; cases f1)
      refine .inl ⟨p, vs, rfl, by rw [hK]; exact hs, flat_flat hx' f1, flats_flat hv f2, ?_⟩
      rw [if_pos rfl, flatEq_any hx' f1 hv f2]
      exact q
    · exact .inr ⟨_, _, hx.str, hy.str, q⟩
  | is_ =>
    refine ⟨_, (op_isN (X := X)).or op_isC, ?_⟩
    intro G H x y d e z Q R hx hy hz q
    have hz := show isD d e = some z by unfold cmpD at hz; exact hz
    unfold isD at hz
    split at hz <;> try contradiction
    · cases hz
      exact .inl ⟨hy.non, by rw [isN_ok hx]; exact q⟩
    · cases hz
      exact .inr ⟨_, hy.bl, by rw [isB_ok hx]; exact q⟩
  | isnot =>
    refine ⟨_, (op_notN (X := X)).or op_notC, ?_⟩
    intro G H x y d e z Q R hx hy hz q
    obtain ⟨k, hk, rfl⟩ := Option.map_eq_some_iff.mp (show (isD d e).map (!·) = some z by unfold cmpD at hz; exact hz)
    unfold isD at hk
    split at hk <;> try contradiction
    · cases hk
      exact .inl ⟨hy.non, by rw [isN_ok hx]; exact q⟩
    · cases hk
      exact .inr ⟨_, hy.bl, by rw [isB_ok hx]; exact q⟩
end
end EvO

set_option Elab.async false
set_option linter.all false
set_option maxRecDepth 10000
/-! A5: expressions. -/
namespace EvO
open PySem PySem.Spec L2

/-- what the context must be -/
structure XOk (S : Cfg) (N : List Str) (sc : Scope) (g : Bool) (k : Nat) (E : XK) (X : Cx) : Prop where
  eP : X.prog = S.P
  ew : X.w = S.w
  eK : X.K = S.K
  em : X.mg = S.mg
  eb : X.base = S.base
  eN : X.N = N
  nd : N.Nodup
  eS : X.env.scope = sc
  calm : X.calm = true
  room : Room k X.A
  tk : L2.Takes X (fun cls d _ H => E cls d H)
  own : PassesOwn (model X.prog X.w) X.A X.env X.xe
  gd : g = true → X.A.guards = some []

theorem XOk.pass {S : Cfg} {N : List Str} {sc : Scope} {g : Bool} {k : Nat} {E : XK} {X : Cx} (h : XOk S N sc g k E X) : Passes (L2.CX X.prog X.w) X E := passes_call h.tk fun _ _ _ _ q => q

/-! ### forms of the text -/
def noStar : Expr → Bool
  | .Starred .. => false
  | _ => true
theorem starEach_cons {e : Expr} {es : List Expr} {env : PySem.Env} (h : noStar e = true) : starEach (e :: es) env = (false, eval e env) :: starEach es env := by
  cases e <;> first | rfl | cases h
theorem starEach_any {env : PySem.Env} {pos : Pos} : ∀ {es : List Expr}, es.all noStar = true → (backTo pos (starEach es env)).any (·.1) = false
  | [], _ => rfl
  | e :: es, h => by
    obtain ⟨h1, h2⟩ := Bool.and_eq_true_iff.mp (show (noStar e && es.all noStar) = true from h)
    rw [starEach_cons h1]
    show (false || (backTo pos (starEach es env)).any (·.1)) = false
    rw [starEach_any h2]
    rfl
def baseOk : Expr → Bool
  | .Call (.Name _ _) [] [] _ => false
  | _ => true
theorem base_ok {o : Expr} {n : Str} {env : PySem.Env} (h : baseOk o = true) : attributeBase o n env (eval o env) = eval o env := by
  cases o <;> first
    | rfl
    | (rename_i f as ks pos
       cases f <;> first
        | rfl
        | (cases as <;> first
            | rfl
            | (cases ks <;> first | rfl | cases h)))
def notSlice : Expr → Bool
  | .Slice .. => false
  | _ => true
theorem plainIx_ok {b : Expr} (h : notSlice b = true) : PlainIx b := by
  intro o i
  cases b <;> first | rfl | cases h
def notSet : Expr → Bool
  | .Set .. => false
  | _ => true
theorem behind_ok {op : CmpOp} {b : Expr} (h : notSet b = true) : behindInMarks op b = false := by
  cases b <;> first | rfl | cases h
theorem last_ok {o1 o2 : CmpOp} {b c : Expr} (h : notSet c = true) : lastMarks [o1, o2] [b, c] = false := by
  show behindInMarks o2 c = false
  exact behind_ok h
theorem folded_ok {e : Expr} {env : PySem.Env} (h : notSet e = true) (x : Value) : foldedSetIterable e env x = pure x := by
  cases e <;> first | rfl | cases h
/-- a test by its value's truth -/
def plainT : Expr → Bool
  | .UnaryOp .Not _ _ => false
  | .BoolOp .. => false
  | .IfExp .. => false
  | .Compare .. => false
  | _ => true
theorem plainT_ok {e : Expr} {env : PySem.Env} (h : plainT e = true) (whole : Sem Value) : isTrue e env whole = (do let v ← whole; standAt e.pos; holding [v] (truthy v)) := by
  cases e <;> first
    | rfl
    | cases h
    | (rename_i op _ _; cases op <;> first | rfl | cases h)

section
variable {S : Cfg} {io : Nat → Option Addr} {B : Hp} {E : XK} {X : Cx} {N : List Str} {sc : Scope} {g : Bool} {k : Nat} {a b c e : Expr} {ca cb cc ce : C} {pos : Pos} {f : Bool}

/-! ### names, constants -/
theorem g_var (hX : XOk S N sc g k E X) {i : Nat} {x : Str} (hN : N[i]? = some x) (hv : Vis sc x) (hd : (x == ("__debug__" : Str)) = false) (hcd : (x == ("__classdict__" : Str)) = false) : PE X (.Name x pos) (tV S io B E false (.var i)) := by
  refine PE.imp (pe_var (i := i) (by rw [hX.eN]; exact hN) (by rw [hX.eS]; exact hv) hd hcd) fun σ H Q h => ?_
  obtain ⟨r, G, R, h⟩ := h
  simp only [evE] at h
  split at h
  · rename_i d e
    obtain ⟨v, h1, h2⟩ := R.slot i _ e
    exact ⟨v, h1, h G (Ex.refl G) v H R (.of h2)⟩
  · rename_i d e
    obtain ⟨p, vs, z⟩ := R.slot i _ e
    exact ⟨_, z.at_, h G (Ex.refl G) _ H R z.at_⟩
  · rename_i d e
    obtain ⟨p, vs, _, z⟩ := R.slot i _ e
    exact ⟨_, z.at_, h G (Ex.refl G) _ H R z.at_⟩
  · exact h.elim
theorem g_cst {v : V} {d : D} (h : PE X e (tC v)) (hd : ∀ G, Den S G v d) : PE X e (tV S io B E false (.cst d)) := by
  refine PE.imp h fun σ H Q h => ?_
  obtain ⟨r, G, R, h⟩ := h
  simp only [evE] at h
  exact h G (Ex.refl G) v H R (.of (hd G))

/-! ### operators -/
theorem g_bin (hX : XOk S N sc g k E X) (o : Bop) (ha : PE X a (tV S io B E false ca)) (hb : PE X b (tV S io B E false cb)) : PE X (.BinOp a (bopOf o) b pos) (tV S io B E true (.bin o ca cb)) := by
  obtain ⟨R2, ho, hr⟩ := bop_ok (S := S) X hX.eK o
  refine PE.imp (pe_op ho ha hb) fun σ H Q h => ?_
  obtain ⟨r, G, R, h⟩ := h
  simp only [evE] at h
  refine ⟨r, G, R, (Post.bind h).imp fun v r1 G1 e1 h2 u H1 R1 w1 => ⟨r1, G1, R1, (Post.bind h2).imp fun v2 r2 G2 e2 h3 u2 H2 R2 w2 => ?_⟩⟩
  split at h3
  · rename_i x y q1 q2
    cases q : binD o x y with
    | none =>
      rw [q] at h3
      exact h3.elim
    | some z =>
      rw [q] at h3
      exact hr R2 (rd_now R2 (w1.keep e2) q1) (rd_now R2 w2 q2) q h3
  · exact h3.elim
theorem g_neg (ha : PE X a (tV S io B E false ca)) : PE X (.UnaryOp .USub a pos) (tV S io B E false (.neg ca)) := by
  refine PE.imp (pe_un un_neg ha) fun σ H Q h => ?_
  obtain ⟨r, G, R, h⟩ := h
  simp only [evE] at h
  refine ⟨r, G, R, (Post.bind h).imp fun v r1 G1 e1 h2 u H1 R1 w1 => ?_⟩
  split at h2
  · rename_i i q
    exact ⟨i, (rd_now R1 w1 q).int, h2 G1 (Ex.refl G1) _ H1 R1 (.of (.int _))⟩
  · exact h2.elim
theorem g_cmp (hX : XOk S N sc g k E X) (o : Cop) (ha : PE X a (tV S io B E false ca)) (hb : PE X b (tV S io B E false cb)) (hs : notSet b = true) :
    ∃ t : TE, PE X (.Compare a [copOf o] [b] pos) t ∧ PT X (.Compare a [copOf o] [b] pos) (tTest t) ∧ ∀ σ H Q, tV S io B E false (.cmp o ca cb) σ H Q → t σ H Q := by
  obtain ⟨R2, ho, hr⟩ := cop_ok (S := S) X hX.eK hX.room o
  refine ⟨_, pe_cmpR ho ha hb (behind_ok hs), pt_cmpR ho ha hb (behind_ok hs), fun σ H Q h => ?_⟩
  obtain ⟨r, G, R, h⟩ := h
  simp only [evE] at h
  refine ⟨r, G, R, (Post.bind h).imp fun v r1 G1 e1 h2 u H1 R1 w1 => ⟨r1, G1, R1, (Post.bind h2).imp fun v2 r2 G2 e2 h3 u2 H2 R2 w2 => ?_⟩⟩
  split at h3
  · rename_i x y q1 q2
    cases q : cmpD o x y with
    | none =>
      rw [q] at h3
      exact h3.elim
    | some z =>
      rw [q] at h3
      exact hr R2.hp.gx (rd_now R2 (w1.keep e2) q1) (rd_now R2 w2 q2) q (h3 G2 (Ex.refl G2) _ H2 R2 (.of (.bl _)))
  · exact h3.elim
theorem g_chain (hX : XOk S N sc g k E X) (o1 o2 : Cop) (ha : PE X a (tV S io B E false ca)) (hb : PE X b (tV S io B E false cb)) (hc : PE X c (tV S io B E false cc)) (hs : notSet c = true) :
    ∃ t : TE, PE X (.Compare a [copOf o1, copOf o2] [b, c] pos) t ∧ PT X (.Compare a [copOf o1, copOf o2] [b, c] pos) (tTest t) ∧ ∀ σ H Q, tV S io B E false (.chain o1 o2 ca cb cc) σ H Q → t σ H Q := by
  obtain ⟨R2, ho, hr⟩ := cop_ok (S := S) X hX.eK hX.room o1
  obtain ⟨R3, ho', hr'⟩ := cop_ok (S := S) X hX.eK hX.room o2
  refine ⟨_, pe_chain ho ho' ha hb hc (last_ok hs), pt_chain ho ho' ha hb hc (last_ok hs), fun σ H Q h => ?_⟩
  obtain ⟨r, G, R, h⟩ := h
  simp only [evE] at h
  refine ⟨r, G, R, (Post.bind h).imp fun v r1 G1 e1 h2 u H1 R1 w1 => ⟨r1, G1, R1, (Post.bind h2).imp fun v2 r2 G2 e2 h3 u2 H2 R2 w2 => ?_⟩⟩
  split at h3
  · rename_i x y q1 q2
    split at h3
    · rename_i q
      refine hr R2.hp.gx (rd_now R2 (w1.keep e2) q1) (rd_now R2 w2 q2) q ⟨true, rfl, ?_⟩
      rw [if_pos rfl]
      refine ⟨r2, G2, R2, (Post.bind h3).imp fun v3 r3 G3 e3 h4 u3 H3 R3 w3 => ?_⟩
      split at h4
      · rename_i y' z' q3 q4
        cases q5 : cmpD o2 y' z' with
        | none =>
          rw [q5] at h4
          exact h4.elim
        | some z =>
          rw [q5] at h4
          exact hr' R3.hp.gx (rd_now R3 (w2.keep e3) q3) (rd_now R3 w3 q4) q5 (h4 G3 (Ex.refl G3) _ H3 R3 (.of (.bl _)))
      · exact h4.elim
    · rename_i q
      refine hr R2.hp.gx (rd_now R2 (w1.keep e2) q1) (rd_now R2 w2 q2) q ⟨false, rfl, ?_⟩
      rw [if_neg Bool.false_ne_true]
      exact h3 G2 (Ex.refl G2) _ H2 R2 (.of (.bl _))
    · exact h3.elim
  · exact h3.elim

/-! ### tests -/
theorem tT_tV {σ : L2.St} {H : Hp} {Q : Bool → Hp → Prop} (h : tT S io B E ca σ H Q) : tV S io B E false ca σ H fun x H' => ∃ k, x = .bl k ∧ Q k H' := by
  obtain ⟨r, G, R, h⟩ := h
  refine ⟨r, G, R, (Post.bind h).imp fun v r1 G1 e1 h2 u H1 R1 w1 => ?_⟩
  rcases truth_cases v r1 with ⟨b, q, z⟩ | z
  · rw [z] at h2
    exact ⟨b, (rd_now R1 w1 q).bl, h2 G1 (Ex.refl G1) H1 R1⟩
  · rw [z] at h2
    exact h2.elim
theorem t_plain (he : PE X e (tV S io B E false ce)) (hp : plainT e = true) : PT X e (tT S io B E ce) :=
  PT.imp (pt_val he (plainT_ok hp)) fun σ H Q h => tT_tV h
theorem t_cmp {t : TE} (h : PT X e (tTest t)) (i : ∀ σ H Q, tV S io B E false ce σ H Q → t σ H Q) : PT X e (tT S io B E ce) := PT.imp h fun σ H Q q => i σ H _ (tT_tV q)
/-- the truth of a value that has come, handed on -/
theorem Post.truth {α : Type} {σ : L2.St} {G H : Hp} {r : Env} {u : V} {v : Val} {f : Bool → Env → Out α} {Q : α → Env → Hp → Prop} (R : Rep S io B G σ H r) (w : VOk S B G H σ r false u v) (h : Post S B E G ((EvO.truth v r).bind f) Q) :
    ∃ k, u = .bl k ∧ Post S B E G (f k r) Q := by
  rcases truth_cases v r with ⟨b, q, z⟩ | z
  · rw [z] at h
    exact ⟨b, (rd_now R w q).bl, h⟩
  · rw [z] at h
    exact h.elim
theorem tT_of {σ : L2.St} {G H : Hp} {r : Env} {Q : Bool → Hp → Prop} {α : Type} {f : Bool → Env → Out α} {Z : α → Env → Hp → Prop} (R : Rep S io B G σ H r) (h : Post S B E G ((evE ca r).bind fun v r1 => (EvO.truth v r1).bind f) Z)
    (g : ∀ b r1 G1 H1, Ex G G1 → Rep S io B G1 σ H1 r1 → Post S B E G1 (f b r1) Z → Q b H1) : tT S io B E ca σ H Q := by
  refine ⟨r, G, R, ?_⟩
  cases q : evE ca r with
  | ok v r1 =>
    rw [q] at h
    show Post S B E G (EvO.truth v r1) _
    have h : Post S B E G ((EvO.truth v r1).bind f) Z := h
    exact (Post.bind h).imp fun b r2 G1 e1 h2 H1 R1 => g b r2 G1 H1 e1 R1 h2
  | err c v =>
    rw [q] at h
    exact h
  | bad =>
    rw [q] at h
    exact h
theorem t_not (ha : PT X a (tT S io B E ca)) : PT X (.UnaryOp .Not a pos) (tT S io B E (.not ca)) := by
  refine PT.imp (pt_not ha) fun σ H Q h => ?_
  obtain ⟨r, G, R, h⟩ := h
  have h : Post S B E G (((evE ca r).bind fun v r1 => (EvO.truth v r1).bind fun k r2 => Out.ok (Val.d (.bl (!k))) r2).bind EvO.truth) (fun b r G' => ∀ H', Rep S io B G' σ H' r → Q b H') := by simp only [evE] at h; exact h
  refine ⟨r, G, R, ?_⟩
  cases q : evE ca r with
  | ok v r1 =>
    rw [q] at h
    show Post S B E G (EvO.truth v r1) _
    rcases truth_cases v r1 with ⟨b, q1, z⟩ | z
    · rw [z]
      have h : Post S B E G (((EvO.truth v r1).bind fun k r2 => Out.ok (Val.d (.bl (!k))) r2).bind EvO.truth) (fun b r G' => ∀ H', Rep S io B G' σ H' r → Q b H') := h
      rw [z] at h
      exact fun G1 e1 H1 R1 => h G1 e1 H1 R1
    · have h : Post S B E G (((EvO.truth v r1).bind fun k r2 => Out.ok (Val.d (.bl (!k))) r2).bind EvO.truth) (fun b r G' => ∀ H', Rep S io B G' σ H' r → Q b H') := h
      rw [z] at h
      exact h.elim
  | err c v =>
    rw [q] at h
    exact h
  | bad =>
    rw [q] at h
    exact h
theorem g_not (ha : PE X a (tV S io B E false ca)) : PE X (.UnaryOp .Not a pos) (tV S io B E false (.not ca)) := by
  refine PE.imp (pe_not ha) fun σ H Q h => ?_
  obtain ⟨r, G, R, h⟩ := h
  simp only [evE] at h
  refine ⟨r, G, R, (Post.bind h).imp fun v r1 G1 e1 h2 u H1 R1 w1 => ?_⟩
  obtain ⟨k, rfl, h3⟩ := Post.truth R1 w1 h2
  exact ⟨k, rfl, h3 G1 (Ex.refl G1) _ H1 R1 (.of (.bl _))⟩
theorem g_and {rest : List Expr} (ha : PE X a (tV S io B E false ca)) (hb : PE X (.BoolOp .And (b :: rest) pos) (tV S io B E false cb)) : PE X (.BoolOp .And (a :: b :: rest) pos) (tV S io B E false (.and ca cb)) := by
  refine PE.imp (pe_and ha hb) fun σ H Q h => ?_
  obtain ⟨r, G, R, h⟩ := h
  simp only [evE] at h
  refine ⟨r, G, R, (Post.bind h).imp fun v r1 G1 e1 h2 u H1 R1 w1 => ?_⟩
  obtain ⟨k, rfl, h3⟩ := Post.truth R1 w1 h2
  refine ⟨k, rfl, ?_⟩
  cases k with
  | true => exact ⟨r1, G1, R1, h3⟩
  | false => exact h3 G1 (Ex.refl G1) _ H1 R1 (.of (.bl _))
theorem g_or {rest : List Expr} (ha : PE X a (tV S io B E false ca)) (hb : PE X (.BoolOp .Or (b :: rest) pos) (tV S io B E false cb)) : PE X (.BoolOp .Or (a :: b :: rest) pos) (tV S io B E false (.or ca cb)) := by
  refine PE.imp (pe_or ha hb) fun σ H Q h => ?_
  obtain ⟨r, G, R, h⟩ := h
  simp only [evE] at h
  refine ⟨r, G, R, (Post.bind h).imp fun v r1 G1 e1 h2 u H1 R1 w1 => ?_⟩
  obtain ⟨k, rfl, h3⟩ := Post.truth R1 w1 h2
  refine ⟨k, rfl, ?_⟩
  cases k with
  | true => exact h3 G1 (Ex.refl G1) _ H1 R1 (.of (.bl _))
  | false => exact ⟨r1, G1, R1, h3⟩
theorem g_one {op : BoolOp} (ha : PE X a (tV S io B E f ca)) : PE X (.BoolOp op [a] pos) (tV S io B E f ca) := pe_one ha
theorem w_and1 (ha : PT X a (tT S io B E ca)) : PW X (.BoolOp .And [a] pos) (tT S io B E ca) := pw_and1 ha
theorem w_or1 (ha : PT X a (tT S io B E ca)) : PW X (.BoolOp .Or [a] pos) (tT S io B E ca) := pw_or1 ha
theorem PW.imp {X : Cx} {e : Expr} {t t' : TT} (h : PW X e t) (i : ∀ σ H Q, t' σ H Q → t σ H Q) : PW X e t' := ⟨fun w pins s σ H Q I q => h.run w pins s σ H Q I (i σ H Q q)⟩
theorem Out.bind_assoc {α β γ : Type} (x : Out α) (f : α → Env → Out β) (g : β → Env → Out γ) : (x.bind f).bind g = x.bind fun a r => (f a r).bind g := by cases x <;> rfl
theorem w_and {rest : List Expr} (ha : PT X a (tT S io B E ca)) (hb : PW X (.BoolOp .And (b :: rest) pos) (tT S io B E cb)) : PW X (.BoolOp .And (a :: b :: rest) pos) (tT S io B E (.and ca cb)) := by
  refine PW.imp (pw_and ha hb) fun σ H Q h => ?_
  obtain ⟨r, G, R, h⟩ := h
  simp only [evE] at h
  rw [Out.bind_assoc] at h
  simp only [Out.bind_assoc] at h
  refine tT_of R h fun k r1 G1 H1 e1 R1 h2 => ?_
  cases k with
  | true => exact ⟨r1, G1, R1, h2⟩
  | false => exact h2 G1 (Ex.refl G1) H1 R1
theorem w_or {rest : List Expr} (ha : PT X a (tT S io B E ca)) (hb : PW X (.BoolOp .Or (b :: rest) pos) (tT S io B E cb)) : PW X (.BoolOp .Or (a :: b :: rest) pos) (tT S io B E (.or ca cb)) := by
  refine PW.imp (pw_or ha hb) fun σ H Q h => ?_
  obtain ⟨r, G, R, h⟩ := h
  simp only [evE] at h
  rw [Out.bind_assoc] at h
  simp only [Out.bind_assoc] at h
  refine tT_of R h fun k r1 G1 H1 e1 R1 h2 => ?_
  cases k with
  | true => exact h2 G1 (Ex.refl G1) H1 R1
  | false => exact ⟨r1, G1, R1, h2⟩
theorem g_ite (hc : PT X c (tT S io B E cc)) (ha : PE X a (tV S io B E false ca)) (hb : PE X b (tV S io B E false cb)) : PE X (.IfExp c a b pos) (tV S io B E false (.ite cc ca cb)) := by
  refine PE.imp (pe_ifExp hc ha hb) fun σ H Q h => ?_
  obtain ⟨r, G, R, h⟩ := h
  simp only [evE] at h
  refine tT_of R h fun k r1 G1 H1 e1 R1 h2 => ?_
  cases k with
  | true => exact ⟨r1, G1, R1, h2⟩
  | false => exact ⟨r1, G1, R1, h2⟩

/-! ### arguments, displays -/
variable {es : List Expr} {cs : Cs}
theorem a_nil : PA X [] (tA S io B E .nil) := PA.imp pa_nil fun σ H Q h => by
  obtain ⟨r, G, R, h⟩ := h
  simp only [evEs] at h
  exact h G (Ex.refl G) [] H R True.intro
theorem a_cons (ha : PE X a (tV S io B E false ca)) (hr : PA X es (tA S io B E cs)) (hs : noStar a = true) : PA X (a :: es) (tA S io B E (.cons ca cs)) := by
  refine PA.imp (pa_cons ha hr (starEach_cons hs)) fun σ H Q h => ?_
  obtain ⟨r, G, R, h⟩ := h
  simp only [evEs] at h
  refine ⟨r, G, R, (Post.bind h).imp fun v r1 G1 e1 h2 u H1 R1 w1 => ⟨r1, G1, R1, (Post.bind h2).imp fun vs r2 G2 e2 h3 us H2 R2 w2 => ?_⟩⟩
  exact h3 G2 (Ex.refl G2) _ H2 R2 ⟨w1.keep e2, w2⟩
theorem vs_len {G H : Hp} {σ : L2.St} {r : Env} : ∀ {us : List V} {vs : List Val}, VsOk S B G H σ r us vs → us.length = vs.length
  | [], [], _ => rfl
  | _ :: _, _ :: _, h => congrArg (· + 1) (vs_len h.2)
  | [], _ :: _, h => h.elim
  | _ :: _, [], h => h.elim
theorem g_tup {x1 : Nat} (h : PA X es (tA S io B E cs)) : PE X (.Tuple es x1 pos) (tV S io B E false (.tup cs)) := by
  refine PE.imp (pe_tup h) fun σ H Q h => ?_
  obtain ⟨r, G, R, h⟩ := h
  simp only [evE] at h
  refine ⟨r, G, R, (Post.bind h).imp fun vs r1 G1 e1 h2 us H1 R1 w1 => ?_⟩
  split at h2
  · rename_i ds r2 q
    split at h2
    · rename_i hl
      obtain ⟨G2, e2, R2, d2⟩ := fzs_ok R1 w1 q
      refine ⟨by rw [d2.length, ← big_eq]; exact hl, fun p hp => ?_⟩
      have gp := R2.hp.gx.free hp
      exact h2 _ (e2.trans (Ex.new gp)) _ _ (R2.fresh hp fun _ e => by cases e) (.of (.tup (SqT.of upd_same) (d2.mono (Ex.new gp))))
    · exact h2.elim
  · exact h2.elim
theorem g_lst (h : PA X es (tA S io B E cs)) : PE X (.List es pos) (tV S io B E true (.lst cs)) := by
  refine PE.imp (pe_lst h) fun σ H Q h => ?_
  obtain ⟨r, G, R, h⟩ := h
  simp only [evE] at h
  refine ⟨r, G, R, (Post.bind h).imp fun vs r1 G1 e1 h2 us H1 R1 w1 => ?_⟩
  split at h2
  · rename_i ds r2 q
    split at h2
    · rename_i hl
      obtain ⟨G2, e2, R2, d2⟩ := fzs_ok R1 w1 q
      refine ⟨by rw [d2.length, ← big_eq]; exact hl, fun p hp => ?_⟩
      exact QR.lst (G := G2) (fun G' e' => h2 G' (e2.trans e')) R2 hp d2
    · exact h2.elim
  · exact h2.elim

/-! ### items, slices -/
theorem at_den {G : Hp} {vs : List V} {ds : List D} {i : Int} {d : D} (h : Dens S G vs ds) (e : L2.atI ds i = some d) : ∃ v, L2.atI vs i = some v ∧ Den S G v d := by
  unfold L2.atI at e ⊢
  rw [h.length]
  cases q : L2.ixN ds.length i with
  | none =>
    rw [q] at e
    cases e
  | some j =>
    rw [q] at e
    exact h.get e
theorem at_map {α β : Type} (g : α → β) (l : List α) (i : Int) : L2.atI (l.map g) i = (L2.atI l i).map g := by
  unfold L2.atI
  rw [List.length_map]
  cases L2.ixN l.length i with
  | none => rfl
  | some j =>
    show (l.map g)[j]? = (l[j]?).map g
    rw [List.getElem?_map]
theorem g_idx (hX : XOk S N sc g k E X) (ha : PE X a (tV S io B E false ca)) (hb : PE X b (tV S io B E false cb)) (hs : notSlice b = true) : PE X (.Subscript a b pos) (tV S io B E false (.idx ca cb)) := by
  refine PE.imp (pe_ix ix_seq ha hb (plainIx_ok hs)) fun σ H Q h => ?_
  obtain ⟨r, G, R, h⟩ := h
  simp only [evE] at h
  refine ⟨r, G, R, (Post.bind h).imp fun v r1 G1 e1 h2 u H1 R1 w1 => ⟨r1, G1, R1, (Post.bind h2).imp fun v2 r2 G2 e2 h3 u2 H2 R2 w2 => ?_⟩⟩
  split at h3
  · rename_i x y q1 q2
    have nx := rd_now R2 (w1.keep e2) q1
    have ny := rd_now R2 w2 q2
    cases q : idxD x y with
    | none =>
      rw [q] at h3
      exact h3.elim
    | some z =>
      rw [q] at h3
      have fin : ∀ u3, Den S G2 u3 z → Q u3 H2 := fun u3 d3 => h3 G2 (Ex.refl G2) u3 H2 R2 (.of d3)
      unfold idxD at q
      split at q <;> try contradiction
      · obtain ⟨p, vs, rfl, hs, hv⟩ := nx.tup R2.hp.gx
        obtain ⟨v, hv1, hv2⟩ := at_den hv q
        exact .inr (.inl ⟨p, vs, _, v, rfl, ny.int, by rw [hX.eK]; exact hs, hv1, fin v hv2⟩)
      · obtain ⟨p, vs, rfl, hs, hv⟩ := nx.lst R2.hp.gx
        obtain ⟨v, hv1, hv2⟩ := at_den hv q
        exact .inl ⟨p, vs, _, v, rfl, ny.int, by rw [hX.eK]; exact SqL.of hs, hv1, fin v hv2⟩
      · obtain ⟨p, rfl, hs⟩ := nx.scr R2.hp.gx
        obtain ⟨i, hi, rfl⟩ := Option.map_eq_some_iff.mp q
        exact .inl ⟨p, _, _, .int i, rfl, ny.int, by rw [hX.eK]; exact hs, by rw [at_map, hi]; rfl, fin _ (.int i)⟩
      · split at q <;> try contradiction
        rename_i hl
        obtain ⟨i, hi, rfl⟩ := Option.map_eq_some_iff.mp q
        exact .inr (.inr ⟨_, _, i, nx.str, ny.int, by rw [← big_eq]; exact hl, hi, fin _ (.str _)⟩)
  · exact h3.elim
def tO (S : Cfg) (io : Nat → Option Addr) (B : Hp) (E : XK) (c : Co) : TO := fun σ H Q => ∃ r G, Rep S io B G σ H r ∧ Post S B E G (evO c r) fun o r G' => ∀ H', Rep S io B G' σ H' r → Q o H'
theorem PO.imp {X : Cx} {e : Option Expr} {t t' : TO} (h : PO X e t) (i : ∀ σ H Q, t' σ H Q → t σ H Q) : PO X e t' := ⟨fun pins s σ H Q I q => h.run pins s σ H Q I (i σ H Q q)⟩
theorem o_no : PO X none (tO S io B E .no) := PO.imp po_none fun σ H Q h => by
  obtain ⟨r, G, R, h⟩ := h
  simp only [evO] at h
  exact h G (Ex.refl G) H R
theorem Post.int {α : Type} {σ : L2.St} {G H : Hp} {r : Env} {u : V} {v : Val} {f : Int → Env → Out α} {Q : α → Env → Hp → Prop} (R : Rep S io B G σ H r) (w : VOk S B G H σ r false u v) (h : Post S B E G ((EvO.asInt v r).bind f) Q) :
    ∃ k, u = .int k ∧ Post S B E G (f k r) Q := by
  rcases asInt_cases v r with ⟨b, q, z⟩ | z
  · rw [z] at h
    exact ⟨b, (rd_now R w q).int, h⟩
  · rw [z] at h
    exact h.elim
theorem o_so (ha : PE X a (tV S io B E false ca)) : PO X (some a) (tO S io B E (.so ca)) := PO.imp (po_some ha) fun σ H Q h => by
  obtain ⟨r, G, R, h⟩ := h
  simp only [evO] at h
  refine ⟨r, G, R, (Post.bind h).imp fun v r1 G1 e1 h2 u H1 R1 w1 => ?_⟩
  obtain ⟨i, rfl, h3⟩ := Post.int R1 w1 h2
  exact ⟨i, rfl, h3 G1 (Ex.refl G1) H1 R1⟩
theorem cut_map {α β : Type} (g : α → β) (l : List α) (lo hi : Option Int) : cutD (l.map g) lo hi = (cutD l lo hi).map g := by
  unfold cutD
  rw [List.length_map, List.map_take, List.map_drop]
theorem g_slc (hX : XOk S N sc g k E X) {lo hi : Option Expr} {cl ch : Co} {p2 : Pos} (ha : PE X a (tV S io B E false ca)) (hl : PO X lo (tO S io B E cl)) (hh : PO X hi (tO S io B E ch)) : PE X (.Subscript a (.Slice lo hi none p2) pos) (tV S io B E true (.slc ca cl ch)) := by
  refine PE.imp (pe_slice (SlR.or sl_list (SlR.or sl_tupA sl_str)) ha hl hh) fun σ H Q h => ?_
  obtain ⟨r, G, R, h⟩ := h
  simp only [evE] at h
  refine ⟨r, G, R, (Post.bind h).imp fun v r1 G1 e1 h2 u H1 R1 w1 => ⟨r1, G1, R1, (Post.bind h2).imp fun l r2 G2 e2 h3 H2 R2 => ⟨r2, G2, R2, (Post.bind h3).imp fun m r3 G3 e3 h4 H3 R3 => ?_⟩⟩⟩
  split at h4
  · rename_i x q1
    have nx := rd_now R3 (w1.keep (e2.trans e3)) q1
    cases q : slcD x l m with
    | none =>
      rw [q] at h4
      exact h4.elim
    | some z =>
      rw [q] at h4
      have h5 : QR S io B σ G3 r3 z Q := h4
      unfold slcD at q
      split at q
      · rename_i xs
        cases q
        obtain ⟨p, vs, rfl, hs, hv⟩ := nx.tup R3.hp.gx
        have hc := hv.cut l m
        refine .inr (.inl ⟨p, vs, rfl, by rw [hX.eK]; exact hs, fun hw => ?_, fun _ p hp => h5.tup R3 hp hc⟩)
        have e : cutD xs l m = xs := by
          unfold cutD
          rw [← hv.length, hw.1, hw.2, hv.length]
          simp
        rw [e] at h5
        exact h5.den R3 (nx.den fun _ e => by cases e)
      · cases q
        obtain ⟨p, vs, rfl, hs, hv⟩ := nx.lst R3.hp.gx
        exact .inl ⟨p, vs, rfl, by rw [hX.eK]; exact SqL.of hs, fun p hp => h5.lst R3 hp (hv.cut l m)⟩
      · rename_i ns
        cases q
        obtain ⟨p, rfl, hs⟩ := nx.scr R3.hp.gx
        refine .inl ⟨p, _, rfl, by rw [hX.eK]; exact hs, fun p hp => h5.lst R3 hp ?_⟩
        have e : cutV (List.map V.int ns) l m = (cutD ns l m).map V.int := cut_map V.int ns l m
        rw [e]
        exact dens_ints _
      · split at q <;> try contradiction
        rename_i hl
        cases q
        exact .inr (.inr ⟨_, nx.str, by rw [← big_eq]; exact hl, h5.den R3 (.str _)⟩)
      · cases q
  · exact h4.elim
theorem g_rev (hX : XOk S N sc g k E X) {j : Nat} {p1 p2 p3 : Pos} (ha : PE X a (tV S io B E false ca)) : PE X (.Subscript a (.Slice none none (some (.UnaryOp .USub (.Constant (.int 1) j p1) p2)) p3) pos) (tV S io B E true (.rev ca)) := by
  refine PE.imp (pe_revL ha) fun σ H Q h => ?_
  obtain ⟨r, G, R, h⟩ := h
  simp only [evE] at h
  refine ⟨r, G, R, (Post.bind h).imp fun v r1 G1 e1 h2 u H1 R1 w1 => ?_⟩
  split at h2
  · rename_i x q1
    have nx := rd_now R1 w1 q1
    unfold revD at h2
    split at h2
    · obtain ⟨p, vs, rfl, hs, hv⟩ := nx.lst R1.hp.gx
      exact ⟨p, vs, rfl, by rw [hX.eK]; exact SqL.of hs, fun p hp => QR.lst (ds := List.reverse _) (fun G' e' => h2 G' e') R1 hp hv.reverse⟩
    · exact h2.elim
  · exact h2.elim
end
end EvO

set_option Elab.async false
set_option linter.all false
set_option maxRecDepth 10000
/-! A6: calls of built-ins. -/
namespace EvO
open PySem PySem.Spec L2

theorem bt_isinstance : bootBuiltins "isinstance" = some (.builtin "isinstance") := by decide +kernel
/-- what stands of an error class of the program -/
structure ExC (K : PySem.W.Frag) (C : Addr) : Prop where
  cl : (PySem.W.clsIn K C).isSome = true
  ga : PySem.W.findIn K (.ref C) "__getattribute__" = some (some (.builtin "BaseException.__getattribute__"))
  gg : PySem.W.findIn K (.ref C) "__getattr__" = some none
  sb : PySem.W.subIn K (.ref C) (.type "BaseException") = some true
  ca : PySem.W.findIn K (.ref C) "__class__" = some (some (.builtin "object.__class__"))
  cg : PySem.W.specialIn K (.builtin "object.__class__") "__get__" = some (some (.builtin "getset_descriptor.__get__"))
  tk : PySem.W.takesIn K (.builtin "object.__class__") = some true
  mo : PySem.W.mroIn K C (.type "object") = some true
  hd : PySem.W.hasDictIn K C = true
  va : PySem.W.findIn K (.ref C) "value" = some none
  no : ∀ T ∈ (["tuple", "int", "bool", "str", "list"] : List String), PySem.W.kitOne K (.ref C) (.type T) = some false
  yes : ∀ T ∈ (["NoneType", "tuple", "int", "bool", "str", "list"] : List String), PySem.W.kitOne K (.type T) (.ref C) = some false
structure ClsOk (S : Cfg) : Prop where
  ex : ∀ c ∈ S.cls, ExC S.K (S.cA c)
  two : ∀ c ∈ S.cls, ∀ d ∈ S.cls, PySem.W.kitOne S.K (.ref (S.cA d)) (.ref (S.cA c)) = some (decide (d = c))

/-- a value's type -/
def tyD (S : Cfg) : D → Value
  | .non => .type "NoneType"
  | .bl _ => .type "bool"
  | .int _ => .type "int"
  | .str _ => .type "str"
  | .tup _ => .type "tuple"
  | .lst _ => .type "list"
  | .scr _ => .type "list"
  | .exn c _ => .ref (S.cA c)
section
variable {S : Cfg} {io : Nat → Option Addr} {B G H : Hp} {E : XK} {X : Cx} {N : List Str} {sc : Scope} {g : Bool} {k : Nat} {a b c e : Expr} {ca cb cc ce : C} {pos : Pos} {f : Bool} {pins : List (Addr × Obj)} {σ : L2.St} {s : Shared} {u : V} {d : D} {v : Value}
theorem kit_now (hC : ClsOk S) (hK : X.K = S.K) (I : Inv X pins σ H s) (e : Ex G H) (h : Now S G H u d) (r : RelV u v) : ∃ P : Heap → Prop, PySem.W.KitX X.K v (tyD S d) P ∧ P s.heap ∧ v ≠ .builtin "__main__.__loader__#opaque" := by
  rcases h with ⟨ds, p, vs, rfl, rfl, h1, _⟩ | h
  · exact kit_of I r (.base (.lst h1))
  · cases h with
    | non => exact kit_of I r (.base .non)
    | bl b => exact kit_of I r (.base (.bl b))
    | int b => exact kit_of I r (.base (.int b))
    | str b => exact kit_of I r (.base (.str b))
    | tup h1 _ =>
      cases (show v = Value.ref _ from r)
      obtain ⟨its, _, ⟨o, h2, h3, _⟩, _⟩ := I.tuple (show SqT X.K H _ _ from by rw [hK]; exact ex_t e h1)
      exact ⟨_, PySem.W.kitx_tuple, ⟨o, h2, h3⟩, fun z => nomatch z⟩
    | lst h1 _ => exact kit_of I r (.base (.lst (e _ _ h1)))
    | scr h1 =>
      cases (show v = Value.ref _ from r)
      obtain ⟨its, _, ⟨o, n, h2, h3, _⟩, _⟩ := I.list (show SqL X.K H _ _ from by rw [hK]; exact ex_l e h1)
      exact ⟨_, PySem.W.kitx_list, ⟨o, h2, h3⟩, fun z => nomatch z⟩
    | @exn a x c u' d' hc h1 h2 h3 =>
      cases (show v = Value.ref _ from r)
      obtain ⟨⟨oe, vs, q1, q2, q3, q4⟩, _⟩ := I.hok a _ (e _ _ h1)
      obtain ⟨mA, ⟨od, es, ep, q5, _⟩, _⟩ := (show ObjOk X.prog X.w H s.heap x (.xd [(("value" : Str), u')]) from I.hok x _ (e _ _ h2))
      have T := hC.ex c hc
      refine ⟨_, PySem.W.kitx_exc (K := X.K) (x := a) (C := S.cA c) (ox := oe) (od := some od) (by rw [hK]; exact T.cl) (by rw [hK]; exact T.ga) (by rw [hK]; exact T.gg) (by rw [hK]; exact T.sb) (by rw [hK]; exact T.ca) (by rw [hK]; exact T.cg) (by rw [hK]; exact T.tk) (by rw [hK]; exact T.mo), ?_, fun z => nomatch z⟩
      exact ⟨q1, q2, by unfold PySem.W.notCls; rw [q4] <;> rfl, by rw [q3]; exact q5⟩

/-! ### isinstance -/
def primCls (S : Cfg) : Prim → Option (V × Value)
  | .isTup => some (.ty "tuple", .type "tuple")
  | .isInt => some (.ty "int", .type "int")
  | .isBool => some (.ty "bool", .type "bool")
  | .isStr => some (.ty "str", .type "str")
  | .isLst => some (.ty "list", .type "list")
  | .isExn c => some (.ref (S.cA c), .ref (S.cA c))
  | _ => none
theorem prim_kit (hC : ClsOk S) {p : Prim} {x : V} {cv : Value} (hp : primCls S p = some (x, cv)) (hc : ∀ c, p = .isExn c → c ∈ S.cls) (hd : ∀ c v, d = .exn c v → c ∈ S.cls) : ∃ k, primD p [d] = some (.bl k) ∧ PySem.W.kitOne S.K (tyD S d) cv = some k := by
  cases p with
  | isExn c' =>
    cases hp
    have hc' := hc c' rfl
    cases d with
    | exn c v => exact ⟨_, rfl, hC.two _ hc' _ (hd c v rfl)⟩
    | _ => exact ⟨_, rfl, (hC.ex c' hc').yes _ (by simp)⟩
  | isTup | isInt | isBool | isStr | isLst =>
    cases hp
    cases d with
    | exn c v => exact ⟨_, rfl, (hC.ex c (hd c v rfl)).no _ (by simp)⟩
    | _ => first | exact ⟨true, rfl, kit_ty (by decide +kernel)⟩ | exact ⟨false, rfl, kit_ty (by decide +kernel)⟩
  | _ => cases hp
/-- isinstance(x, c), c a class that stands -/
def rIs (S : Cfg) : List V → Hp → VK → Prop := fun xs H Q => ∃ (x c : V) (cv : Value) (d : D) (G : Hp) (b : Bool), xs = [x, c] ∧ ClsV c cv ∧ Ex G H ∧ Now S G H x d ∧ PySem.W.kitOne S.K (tyD S d) cv = some b ∧ Q (.bl b) H
theorem call_is (hC : ClsOk S) (hK : X.K = S.K) : CallR X (.builtin "isinstance") (rIs S) := by
  intro pins s σ H xs us Q I r h
  obtain ⟨x, c, cv, d, G, b, rfl, k, ex, nw, e, q⟩ := h
  obtain ⟨u1, u2, rfl, r1, r2⟩ := vals2 r
  have e2 := k.eq r2
  subst e2
  obtain ⟨P, Z, p, hx⟩ := kit_now hC hK I ex nw r1
  exact PySem.W.kia_one Z I.kIn p (by rw [hK]; exact e) hx fun tk => ⟨.bl b, H, I.tok tk, rfl, q⟩
theorem exn_mem (h : Now S G H u d) : ∀ c v, d = .exn c v → c ∈ S.cls := fun c v e => by
  subst e
  cases h.den (fun _ e => by cases e) with
  | exn h0 _ _ _ => exact h0
/-- the script is no argument of isinstance -/
theorem g_isi (hX : XOk S N sc g k E X) (hC : ClsOk S) {p : Prim} {x : V} {cv : Value} {p1 : Pos} (hp : primCls S p = some (x, cv)) (hcl : ∀ c, p = .isExn c → c ∈ S.cls) (hk : ClsV x cv)
    (hg : sc.names.lookup ("isinstance" : Str) = some .globalImplicit) (hm : X.mg "isinstance" = none) (ha : PE X a (tV S io B E false ca)) (hb : PE X b (tC x)) (ns : noStar a = true) (nb : noStar b = true) :
    PE X (.Call (.Name "isinstance" p1) [a, b] [] pos) (tV S io B E false (.prim p (.cons ca .nil))) := by
  refine PE.imp (pe_callB (call_is hC hX.eK) (show X.env.kindOf "isinstance" = some .globalImplicit by unfold PySem.Env.kindOf; rw [hX.eS]; exact hg) hm bt_isinstance (pa_cons ha (pa_cons hb pa_nil (starEach_cons nb)) (starEach_cons ns)) (he := starEach_cons ns) (hpl := starEach_any (by show (noStar b && true) = true; rw [nb]; rfl))) fun σ H Q h => ?_
  obtain ⟨r, G, R, h⟩ := h
  simp only [evE, evEs, Out.bind_assoc, Out.bind_ok] at h
  refine ⟨r, G, R, (Post.bind h).imp fun v r1 G1 e1 h2 u H1 R1 w1 => ?_⟩
  simp only [List.mapM_cons, List.mapM_nil] at h2
  cases q : rd r1 v with
  | none =>
    rw [q] at h2
    exact h2.elim
  | some d =>
    rw [q] at h2
    have nw := rd_now R1 w1 q
    have h3 : Post S B E G1 (ofO ((primD p [d]).map Val.d) r1) (QV S io B σ false Q) := h2
    obtain ⟨k', e3, e4⟩ := prim_kit hC hp hcl (exn_mem nw)
    rw [e3] at h3
    exact ⟨u, x, cv, _, G1, k', rfl, hk, R1.hp.gx, nw, e4, h3 G1 (Ex.refl G1) _ H1 R1 (.of (.bl _))⟩

/-! ### the other built-ins, by values -/
/-- a call's reading is met by data -/
def CallM (S : Cfg) (p : Prim) (fr : Bool) (R : List V → Hp → VK → Prop) : Prop := ∀ {io : Nat → Option Addr} {B G H : Hp} {σ : L2.St} {r : Env} {us : List V} {ds : List D} {z : D} {Q : VK}, Rep S io B G σ H r → Paired (Now S G H) us ds → primD p ds = some z → (∀ G', Ex G G' → QV S io B σ fr Q (.d z) r G') → R us H Q
theorem pair1 {us : List V} {d : D} (h : Paired (Now S G H) us [d]) : ∃ u, us = [u] ∧ Now S G H u d := by
  cases h with
  | cons a b =>
    cases b
    exact ⟨_, rfl, a⟩
theorem pair2 {us : List V} {d d' : D} (h : Paired (Now S G H) us [d, d']) : ∃ u u', us = [u, u'] ∧ Now S G H u d ∧ Now S G H u' d' := by
  cases h with
  | cons a b =>
    cases b with
    | cons a' b =>
      cases b
      exact ⟨_, _, rfl, a, a'⟩
theorem fin_den {r : Env} {z : D} {Q : VK} {fr : Bool} (q : ∀ G', Ex G G' → QV S io B σ fr Q (.d z) r G') (R : Rep S io B G σ H r) (h : Den S G u z) (n : ∀ ds, z ≠ .lst ds := by intro _ e; cases e) : Q u H := q G (Ex.refl G) u H R (VOk.ofN n h)
theorem m_len (hK : X.K = S.K) : ∃ R, CallR X (.builtin "len") R ∧ CallM S .len false R := by
  refine ⟨_, (call_len_seq (X := X)).or call_len_str, ?_⟩
  intro io B G H σ r us ds z Q R hp hz q
  unfold primD at hz
  split at hz <;> try contradiction
  · cases hz
    obtain ⟨u, rfl, nw⟩ := pair1 hp
    obtain ⟨a, vs, rfl, h1, h2⟩ := nw.tup R.hp.gx
    refine .inl ⟨a, vs, rfl, .inr (by rw [hK]; exact h1), ?_⟩
    rw [h2.length]
    exact fin_den q R (.int _)
  · cases hz
    obtain ⟨u, rfl, nw⟩ := pair1 hp
    obtain ⟨a, vs, rfl, h1, h2⟩ := nw.lst R.hp.gx
    refine .inl ⟨a, vs, rfl, .inl (SqL.of h1), ?_⟩
    rw [h2.length]
    exact fin_den q R (.int _)
  · cases hz
    obtain ⟨u, rfl, nw⟩ := pair1 hp
    obtain ⟨a, rfl, h1⟩ := nw.scr R.hp.gx
    refine .inl ⟨a, _, rfl, .inl (by rw [hK]; exact h1), ?_⟩
    rw [List.length_map]
    exact fin_den q R (.int _)
  · split at hz <;> cases hz
    rename_i hl
    obtain ⟨u, rfl, nw⟩ := pair1 hp
    exact .inr ⟨_, by rw [nw.str], by rw [← big_eq]; exact hl, fin_den q R (.int _)⟩
theorem m_int : ∃ R, CallR X (.type "int") R ∧ CallM S .toInt false R := by
  refine ⟨_, (call_int1 (X := X)).or call_int_str, ?_⟩
  intro io B G H σ r us ds z Q R hp hz q
  unfold primD at hz
  split at hz <;> try contradiction
  · cases hz
    obtain ⟨u, rfl, nw⟩ := pair1 hp
    exact .inl (.inl ⟨_, by rw [nw.int], fin_den q R (.int _)⟩)
  · cases hz
    obtain ⟨u, rfl, nw⟩ := pair1 hp
    exact .inl (.inr ⟨_, by rw [nw.bl], fin_den q R (.int _)⟩)
  · split at hz <;> try contradiction
    rename_i hl
    obtain ⟨n, hn, rfl⟩ := Option.map_eq_some_iff.mp hz
    obtain ⟨u, rfl, nw⟩ := pair1 hp
    exact .inr ⟨_, n, by rw [nw.str], hn, hl, fin_den q R (.int _)⟩
theorem m_str : ∃ R, CallR X (.type "str") R ∧ CallM S .toStr false R := by
  refine ⟨_, (call_str_int (X := X)).or SkE.call_str_str, ?_⟩
  intro io B G H σ r us ds z Q R hp hz q
  unfold primD at hz
  split at hz <;> try contradiction
  · split at hz <;> cases hz
    rename_i hl
    obtain ⟨u, rfl, nw⟩ := pair1 hp
    exact .inl ⟨_, by rw [nw.int], hl, fin_den q R (.str _)⟩
  · cases hz
    obtain ⟨u, rfl, nw⟩ := pair1 hp
    exact .inr ⟨_, by rw [nw.str], fin_den q R (.str _)⟩
theorem m_abs : ∃ R, CallR X (.builtin "abs") R ∧ CallM S .abs false R := by
  refine ⟨_, call_abs (X := X), ?_⟩
  intro io B G H σ r us ds z Q R hp hz q
  unfold primD at hz
  split at hz <;> try contradiction
  cases hz
  obtain ⟨u, rfl, nw⟩ := pair1 hp
  exact ⟨_, by rw [nw.int], fin_den q R (.int _)⟩
theorem m_sum (hK : X.K = S.K) (hc : X.calm = true) : ∃ R, CallR X (.builtin "sum") R ∧ CallM S .sum false R := by
  refine ⟨_, cr_sum (X := X) hc, ?_⟩
  intro io B G H σ r us ds z Q R hp hz q
  unfold primD at hz
  split at hz <;> try contradiction
  obtain ⟨n, hn, rfl⟩ := Option.map_eq_some_iff.mp hz
  obtain ⟨u, rfl, nw⟩ := pair1 hp
  obtain ⟨a, vs, rfl, h1, h2⟩ := nw.lst R.hp.gx
  have e := h2.ints hn
  subst e
  exact ⟨a, n, rfl, SqL.of h1, fin_den q R (.int _)⟩
theorem m_all (hK : X.K = S.K) (hc : X.calm = true) : ∃ R, CallR X (.builtin "all") R ∧ CallM S .all false R := by
  refine ⟨_, cr_all (X := X) hc, ?_⟩
  intro io B G H σ r us ds z Q R hp hz q
  unfold primD at hz
  split at hz <;> try contradiction
  obtain ⟨n, hn, rfl⟩ := Option.map_eq_some_iff.mp hz
  obtain ⟨u, rfl, nw⟩ := pair1 hp
  obtain ⟨a, vs, rfl, h1, h2⟩ := nw.lst R.hp.gx
  have e := h2.bls hn
  subst e
  exact ⟨a, n, rfl, SqL.of h1, fin_den q R (.bl _)⟩
theorem m_any (hK : X.K = S.K) (hc : X.calm = true) : ∃ R, CallR X (.builtin "any") R ∧ CallM S .any false R := by
  refine ⟨_, cr_any (X := X) hc, ?_⟩
  intro io B G H σ r us ds z Q R hp hz q
  unfold primD at hz
  split at hz <;> try contradiction
  obtain ⟨n, hn, rfl⟩ := Option.map_eq_some_iff.mp hz
  obtain ⟨u, rfl, nw⟩ := pair1 hp
  obtain ⟨a, vs, rfl, h1, h2⟩ := nw.lst R.hp.gx
  have e := h2.bls hn
  subst e
  exact ⟨a, n, rfl, SqL.of h1, fin_den q R (.bl _)⟩
theorem m_min (hc : X.calm = true) : ∃ R, CallR X (.builtin "min") R ∧ CallM S .min2 false R := by
  refine ⟨_, call_min2 (X := X) hc, ?_⟩
  intro io B G H σ r us ds z Q R hp hz q
  unfold primD at hz
  split at hz <;> try contradiction
  cases hz
  obtain ⟨u, u', rfl, nw, nw'⟩ := pair2 hp
  exact ⟨_, _, by rw [nw.int, nw'.int], fin_den q R (.int _)⟩
theorem m_max (hc : X.calm = true) : ∃ R, CallR X (.builtin "max") R ∧ CallM S .max2 false R := by
  refine ⟨_, call_max2 (X := X) hc, ?_⟩
  intro io B G H σ r us ds z Q R hp hz q
  unfold primD at hz
  split at hz <;> try contradiction
  cases hz
  obtain ⟨u, u', rfl, nw, nw'⟩ := pair2 hp
  exact ⟨_, _, by rw [nw.int, nw'.int], fin_den q R (.int _)⟩
theorem m_list (hK : X.K = S.K) : ∃ R, CallR X (.type "list") R ∧ CallM S .list true R := by
  refine ⟨_, call_list_of (X := X), ?_⟩
  intro io B G H σ r us ds z Q R hp hz q
  unfold primD at hz
  split at hz <;> try contradiction
  all_goals cases hz
  · obtain ⟨u, rfl, nw⟩ := pair1 hp
    obtain ⟨a, vs, rfl, h1, h2⟩ := nw.tup R.hp.gx
    exact ⟨a, vs, rfl, .inr (by rw [hK]; exact h1), fun l hl => QR.lst q R hl h2⟩
  · obtain ⟨u, rfl, nw⟩ := pair1 hp
    obtain ⟨a, vs, rfl, h1, h2⟩ := nw.lst R.hp.gx
    exact ⟨a, vs, rfl, .inl (SqL.of h1), fun l hl => QR.lst q R hl h2⟩
theorem m_tuple (hK : X.K = S.K) : ∃ R, CallR X (.type "tuple") R ∧ CallM S .tuple true R := by
  refine ⟨_, call_tuple_of (X := X), ?_⟩
  intro io B G H σ r us ds z Q R hp hz q
  unfold primD at hz
  split at hz <;> try contradiction
  all_goals cases hz
  · obtain ⟨u, rfl, nw⟩ := pair1 hp
    obtain ⟨a, vs, rfl, h1, h2⟩ := nw.tup R.hp.gx
    exact ⟨a, vs, rfl, .inr ⟨by rw [hK]; exact h1, fin_den q R (nw.den fun _ e => by cases e)⟩⟩
  · obtain ⟨u, rfl, nw⟩ := pair1 hp
    obtain ⟨a, vs, rfl, h1, h2⟩ := nw.lst R.hp.gx
    exact ⟨a, vs, rfl, .inl ⟨SqL.of h1, fun l hl => QR.tup q R hl h2⟩⟩
/-- repr of data -/
def rRepr (S : Cfg) : List V → Hp → VK → Prop := fun xs H Q => ∃ (x : V) (G : Hp) (d : D) (p : PyData), xs = [x] ∧ Ex G H ∧ Now S G H x d ∧ D.py d = some p ∧ SeqAt.shaped p = true ∧ p.showable = true ∧ p.shown.length ≤ sizeLine ∧ Q (.str p.shown) H
theorem call_repr (hK : X.K = S.K) (hg : X.A.guards = some []) (hr : Room k X.A) : CallR X (.builtin "repr") (rRepr S) := by
  intro pins s σ H xs us Q I r h
  obtain ⟨x, G, d, p, rfl, ex, nw, hp, h1, h2, h3, q⟩ := h
  obtain ⟨v, rfl, rv⟩ := vals1 r
  have dp := nw.dp ex hp
  rw [← hK] at dp
  obtain ⟨as, rd⟩ := Dp.reads I p x v dp rv
  have hu := hr.un
  have hdep := SeqAt.depth_of_shaped h1
  cases x with
  | ref a =>
    cases (show v = Value.ref a from rv)
    refine PySem.repr_of_reads' rd h2 (PyData.noDict_hsm (PyData.hasDict_of_canLay p (SeqAt.canLay_of_shaped h1))) hg (by omega) (fun _ _ z => z) (fun h' u tk hk => ?_) h3
    exact ⟨.str _, H, I.kept (t' := tk) hk, ⟨_, rfl⟩, q⟩
  | non =>
    cases dp
    cases (show v = Value.none from rv)
    rw [PyData.shown_none] at q
    exact PySem.P.repr_of_none ⟨.str _, H, I.tok _, ⟨_, rfl⟩, q⟩
  | bl b =>
    cases dp
    cases (show v = Value.bool b from rv)
    rw [PyData.shown_bool] at q
    refine PySem.P.repr_of_bool ⟨.str _, H, I.tok _, ⟨_, rfl⟩, q⟩
  | int i =>
    cases dp
    obtain ⟨t, rfl⟩ := rv
    rw [PyData.shown_int] at q
    exact PySem.P.repr_of_int (by simpa [PyData.showable] using h2) ⟨.str _, H, I.tok _, ⟨_, rfl⟩, q⟩
  | str y =>
    cases dp
    obtain ⟨t, rfl⟩ := rv
    rw [PyData.shown_str] at q h3
    exact PySem.P.repr_of_str ⟨.str _, H, I.tok _, ⟨_, rfl⟩, q⟩ h3
  | byt _ => cases dp
  | flt _ => cases dp
  | ty _ => cases dp
def rReprS : List V → Hp → VK → Prop := fun xs H Q => ∃ y : Str, xs = [.str y] ∧ (PyData.str y).shown.length ≤ sizeLine ∧ Q (.str (PyData.str y).shown) H
theorem call_reprS : CallR X (.builtin "repr") rReprS := by
  intro pins s σ H xs us Q I r h
  obtain ⟨y, rfl, h3, q⟩ := h
  obtain ⟨v, rfl, rv⟩ := vals1 r
  obtain ⟨t, rfl⟩ := rv
  rw [PyData.shown_str] at q h3
  exact PySem.P.repr_of_str ⟨.str _, H, I.tok _, ⟨_, rfl⟩, q⟩ h3
theorem m_repr (hK : X.K = S.K) (hg : X.A.guards = some []) (hr : Room k X.A) : ∃ R, CallR X (.builtin "repr") R ∧ CallM S .repr false R := by
  refine ⟨_, (call_reprS (X := X)).or (call_repr (S := S) hK hg hr), ?_⟩
  intro io B G H σ r us ds z Q R hp hz q
  unfold primD at hz
  split at hz <;> try contradiction
  · split at hz <;> cases hz
    rename_i h3
    obtain ⟨u, rfl, nw⟩ := pair1 hp
    exact .inl ⟨_, by rw [nw.str], by rw [← big_eq]; exact h3, fin_den q R (.str _)⟩
  · split at hz <;> try contradiction
    rename_i p hpy
    split at hz <;> cases hz
    rename_i hh
    obtain ⟨hh, h3⟩ := Bool.and_eq_true_iff.mp hh
    obtain ⟨h1, h2⟩ := Bool.and_eq_true_iff.mp hh
    obtain ⟨u, rfl, nw⟩ := pair1 hp
    exact .inr ⟨u, G, _, p, rfl, R.hp.gx, nw, hpy, h1, h2, by rw [← big_eq]; exact of_decide_eq_true h3, fin_den q R (.str _)⟩
/-- the arguments' values -/
theorem prim_imp {p : Prim} {fr : Bool} {R : List V → Hp → VK → Prop} {cs : Cs} (hm : CallM S p fr R) {Q : VK} (h : tV S io B E fr (.prim p cs) σ H Q) : tCB R (tA S io B E cs) σ H Q := by
  obtain ⟨r, G, Rp, h⟩ := h
  simp only [evE] at h
  refine ⟨r, G, Rp, (Post.bind h).imp fun vs r1 G1 e1 h2 us H1 R1 w1 => ?_⟩
  cases q : vs.mapM (rd r1) with
  | none =>
    simp only [q] at h2
    exact h2.elim
  | some ds =>
    simp only [q] at h2
    cases q2 : primD p ds with
    | none =>
      rw [q2] at h2
      exact h2.elim
    | some z =>
      rw [q2] at h2
      exact hm R1 (rds_ok R1 w1 q) q2 h2
end
end EvO

set_option Elab.async false
set_option linter.all false
set_option maxRecDepth 10000
/-! A7: own defs: promises, calls, from a body to a promise. -/
namespace EvO
open PySem PySem.Spec L2
open Classical

section
variable {S : Cfg} {io : Nat → Option Addr} {B B' G G' H H' : Hp} {σ : L2.St} {r : Env} {p : Addr} {u : V} {d : D} {c : Str} {x : D}

/-- a caller's own lists stand by -/
noncomputable def ownB (σ : L2.St) (r : Env) (H B : Hp) : Hp := fun a => if NotOwn σ r a then B a else H a
theorem ownB_not {a : Addr} (h : NotOwn σ r a) : ownB σ r H B a = B a := if_pos h
theorem ownB_own {a : Addr} (h : ¬ NotOwn σ r a) : ownB σ r H B a = H a := if_neg h
theorem own_at (R : Rep S io B G σ H r) {a : Addr} (h : ¬ NotOwn σ r a) : ∃ i vs ds, MutAt S B G H σ i a vs ds := by
  unfold NotOwn at h
  simp only [not_forall] at h
  obtain ⟨i, s, h1, h2, h3⟩ := h
  have h3 := not_not.mp h3
  obtain ⟨p, vs, ds, z, _⟩ := (R.slot i s h1).mut h2
  have e := z.at_
  rw [h3] at e
  cases e
  exact ⟨i, vs, ds, z⟩
theorem Rep.callB (R : Rep S io B G σ H r) : Hps S (ownB σ r H B) G H := {
  gx := R.hp.gx
  bx := fun a o h => by
    by_cases n : NotOwn σ r a
    · rw [ownB_not n] at h
      exact R.hp.bx a o h
    · rw [ownB_own n] at h
      exact h
  dj := fun a => by
    by_cases n : NotOwn σ r a
    · rw [ownB_not n]
      exact R.hp.dj a
    · obtain ⟨i, vs, ds, z⟩ := own_at R n
      exact .inr z.g
  tabs := R.hp.tabs
  gt := R.hp.gt
  bt := fun a ps h => by
    by_cases n : NotOwn σ r a
    · rw [ownB_not n] at h
      exact R.hp.bt a ps h
    · obtain ⟨i, vs, ds, z⟩ := own_at R n
      rw [ownB_own n, z.h] at h
      cases h }
theorem Rep.exB (R : Rep S io B G σ H r) : Ex B (ownB σ r H B) := fun a o h => by
  by_cases n : NotOwn σ r a
  · rw [ownB_not n]
    exact h
  · obtain ⟨i, vs, ds, z⟩ := own_at R n
    rw [z.b] at h
    cases h
theorem Hps.wk (h : Hps S B' G H) (e : Ex B B') : Hps S B G H := ⟨h.gx, e.trans h.bx, fun a => by
  rcases h.dj a with q | q
  · exact .inl (e.free q)
  · exact .inr q, h.tabs, h.gt, fun a ps q => h.bt a ps (e a _ q)⟩
theorem ErrP.wk {E : XK} (h : ErrP S B G E c x) (e : Ex B B') : ErrP S B' G E c x := fun d u G' H' z a b i j k l => h d u G' H' z a (b.wk e) i (e.free j) k l
theorem Rep.back (R : Rep S io B G σ H r) (e : Ex G G') (h : Hps S (ownB σ r H B) G' H') : Rep S io B G' σ H' r :=
  R.to e (h.wk R.exB) fun i s p hi m hs hn hg hb => by
    have n : ¬ NotOwn σ r p := fun z => z i s hi m hs
    cases q : H p with
    | none => exact (hn q).elim
    | some o =>
      have b : ownB σ r H B p = some o := by rw [ownB_own n, q]
      refine ⟨h.bx p o b, ?_⟩
      rcases h.dj p with z | z
      · rw [b] at z
        cases z
      · exact z

/-! ### promises -/
def spD (S : Cfg) (sg : Sig) : Sp := fun vs H Q E => ∃ B G ds, Hps S B G H ∧ Dens S G vs ds ∧ match sg.run ds with
  | .ok d => ∀ G' u H', Ex G G' → Hps S B G' H' → RetOk S B G' H' sg.fresh u d → Q u H'
  | .err c v => ErrP S B G E c v
  | .bad => False
def spP (S : Cfg) (sg : SigP) : Sp := fun vs H Q E => ∃ B G p us ws l ds, vs = V.ref p :: us ∧ Hps S B G H ∧ H p = some (.lst ws) ∧ G p = none ∧ B p = none ∧ Dens S G ws l ∧ Dens S G us ds ∧ match sg.run l ds with
  | .ok d l2 => ∀ G' u H' ws', Ex G G' → Hps S B G' H' → H' p = some (.lst ws') → G' p = none → Dens S G' ws' l2 → Den S G' u d → Q u H'
  | .err c v => ErrP S B G E c v
  | .bad => False
/-- a def that stands; g: it wants to know that nothing is being shown -/
structure FnG (S : Cfg) (g : Bool) (k : Nat) (f : Addr) (fd : FuncData) (ps : List Str) (sp : Sp) : Prop where
  len : ∀ vs H Q E, sp vs H Q E → vs.length = ps.length
  run : ∀ (A : Around) (outer : List PySem.Env) (s : Shared) (H : Hp) (args : Args) (us : List Value) (vs : List V) (Q : VK) (E : XK), Room k A → (g = true → A.guards = some []) → Env0 S.P S.w S.K S.mg S.base A outer s H → BindsTo s fd args (ps.zip us) → Vals vs us → sp vs H Q E →
    codeAny (model S.P S.w) A (.call (.ref f) args) (CR (L2.CX S.P S.w) outer S.P S.w H s Q E) s
theorem FnG.mono {g : Bool} {j k : Nat} {f : Addr} {fd : FuncData} {ps : List Str} {sp : Sp} (F : FnG S g j f fd ps sp) (h : j ≤ k) : FnG S g k f fd ps sp := ⟨F.len, fun A outer s H args us vs Q E hr => F.run A outer s H args us vs Q E (hr.mono h)⟩
theorem FnG.weak {g : Bool} {k : Nat} {f : Addr} {fd : FuncData} {ps : List Str} {sp : Sp} (F : FnG S false k f fd ps sp) : FnG S g k f fd ps sp := ⟨F.len, fun A outer s H args us vs Q E hr _ => F.run A outer s H args us vs Q E hr (fun z => by cases z)⟩
/-- what a name called promises -/
def CallOk (S : Cfg) (X : Cx) (E : XK) (x : Str) (sp : Sp) : Prop := ∃ f, S.mg x = some (.ref f) ∧ PySem.W.keepIn S.K (.ref f) = true ∧ ∀ (pins : List (Addr × Obj)) (σ : L2.St) (H : Hp) (s : Shared) (us : List Value) (vs : List V) (Q : VK),
  Inv X pins σ H s → Vals vs us → sp vs H Q E → wpAny (model X.prog X.w) X.A (call (.ref f) us) (EP X pins σ Q) X.xe s
theorem callOk {E : XK} {X : Cx} {N : List Str} {sc : Scope} {g : Bool} {k : Nat} {f : Addr} {fd : FuncData} {ps : List Str} {sp : Sp} {n : Str} (hX : XOk S N sc g k E X) (F : FnG S g k f fd ps sp) (hm : S.mg n = some (.ref f)) (hk : PySem.W.keepIn S.K (.ref f) = true) (hb : L2.Binds S.K fd ps []) : CallOk S X E n sp := by
  refine ⟨f, hm, hk, fun pins σ H s us vs Q I r h => ?_⟩
  have hl : us.length = ps.length := by rw [← r.length]; exact F.len _ _ _ _ h
  have e0 := I.env0
  have hkIn := I.kIn
  have hx := hX.pass
  have hA := hX.gd
  have hr := hX.room
  rw [hX.eK] at hkIn
  rw [hX.eP, hX.ew, hX.eK, hX.em, hX.eb] at e0
  have b := hb s us hkIn (by rw [List.append_nil]; exact hl)
  rw [List.append_nil] at b
  have rn := F.run X.A X.stack s H ⟨us, []⟩ us vs Q E hr hA e0 b r h
  rw [← hX.eP, ← hX.ew] at rn
  refine wpAny_call (codeAny_mono rn fun r s' hq => ?_)
  cases r with
  | error e => exact hx pins σ H s e s' I hq
  | ok fl =>
    cases fl with
    | ret u => exact I.after hq
    | next => exact False.elim hq
    | brk => exact False.elim hq
    | cont => exact False.elim hq
def tCallE (sp : Sp) (E : XK) (t : TA) : TE := fun σ H Q => t σ H fun vs H1 => sp vs H1 Q E
theorem pe_callO {E : XK} {X : Cx} {N : List Str} {sc : Scope} {g : Bool} {k : Nat} {sp : Sp} {n : Str} {e : Expr} {es : List Expr} {t : TA} {p1 pos : Pos} (hX : XOk S N sc g k E X) (C : CallOk S X E n sp) (hg : Gl X n) (hdb : (n == ("__debug__" : Str)) = false) (ha : PA X (e :: es) t) (ns : noStar e = true) (nss : es.all noStar = true) :
    PE X (.Call (.Name n p1) (e :: es) [] pos) (tCallE sp E t) := by
  obtain ⟨f, hm, hk, run⟩ := C
  rw [← hX.em] at hm
  rw [← hX.eK] at hk
  refine ⟨fun pins s σ H Q I h => ?_⟩
  refine wpAny_Call_Name_kw (ld_glob I hg hm ?_ hdb)
  refine PySem.W.callWith_K (h₀ := X.base) I.ok.mod.kin hk (thn (ha.run pos pins s σ H _ I h) fun us s1 ⟨vs, H1, I1, r, q⟩ => ⟨I1.kIn, ?_⟩) (starEach_cons ns) (starEach_any nss)
  exact run pins σ H1 s1 us vs Q I1 r q
theorem pe_callO0 {E : XK} {X : Cx} {N : List Str} {sc : Scope} {g : Bool} {k : Nat} {sp : Sp} {n : Str} {p1 pos : Pos} (hX : XOk S N sc g k E X) (C : CallOk S X E n sp) (hg : Gl X n) (hdb : (n == ("__debug__" : Str)) = false) :
    PE X (.Call (.Name n p1) [] [] pos) (tCallE sp E tNil) := by
  obtain ⟨f, hm, hk, run⟩ := C
  rw [← hX.em] at hm
  rw [← hX.eK] at hk
  refine ⟨fun pins s σ H Q I h => ?_⟩
  refine wpAny_Call_Name_kw (ld_glob I hg hm ?_ hdb)
  exact PySem.W.callWith_K0 I.kIn hk (run pins σ H s [] [] Q I .nil h)
/-- a call's arguments are data -/
theorem callD_imp {E : XK} {sg : Sig} {cs : Cs} {Q : VK} (h : tV S io B E sg.fresh (.call sg cs) σ H Q) : tCallE (spD S sg) E (tA S io B E cs) σ H Q := by
  obtain ⟨r, G, R, h⟩ := h
  simp only [evE] at h
  refine ⟨r, G, R, (Post.bind h).imp fun vs r1 G1 e1 h2 us H1 R1 w1 => ?_⟩
  split at h2
  · rename_i ds r2 q
    obtain ⟨G2, e2, R2, d2⟩ := fzs_ok R1 w1 q
    refine ⟨ownB σ r2 H1 B, G2, ds, R2.callB, d2, ?_⟩
    cases q2 : sg.run ds with
    | ok z =>
      simp only [q2] at h2
      intro G3 u H3 e3 hh ho
      refine h2 G3 (e2.trans e3) u H3 (R2.back e3 hh) ?_
      cases hf : sg.fresh with
      | false =>
        rw [hf] at ho
        exact .of ho
      | true =>
        rw [hf] at ho
        rcases ho with ⟨p, vs, ds, rfl, rfl, a1, a2, a3, a4⟩ | ⟨a1, a2⟩
        · have n : NotOwn σ r2 p := Classical.byContradiction fun n => by
            obtain ⟨i, ws, es, z⟩ := own_at R2 n
            rw [ownB_own n, z.h] at a3
            cases a3
          rw [ownB_not n] at a3
          exact .inl ⟨rfl, p, vs, ds, rfl, rfl, a1, a2, a3, n, a4⟩
        · exact .inr ⟨fun _ => a1, a2⟩
    | err c v =>
      simp only [q2] at h2
      exact (ErrP.mono h2 e2).wk R2.exB
    | bad =>
      simp only [q2] at h2
      exact h2
  · exact h2.elim
theorem slot_out {i : Nat} (R : Rep S io B G σ H r) : Rep S io B G σ H (r.set i .no) := by
  have q := R.forget i (σ[i]?.getD none)
  have e : σ.set i (σ[i]?.getD none) = σ := by
    apply List.ext_getElem?
    intro j
    by_cases hj : i = j
    · subst hj
      by_cases hl : i < σ.length
      · rw [List.getElem?_set_self hl, List.getElem?_eq_getElem hl]
        rfl
      · rw [List.getElem?_eq_none (by rw [List.length_set]; omega), List.getElem?_eq_none (by omega)]
    · rw [List.getElem?_set_ne hj]
  rw [e] at q
  exact q
/-- behind a callee that changed the list of slot i -/
theorem Rep.backP {i : Nat} {l l2 : List D} {ws' : List V} (R : Rep S io B G σ H r) (hi : mli r i = some l) (e : Ex G G') (hp : σ[i]? = some (some (V.ref p))) (h : Hps S (ownB σ (r.set i .no) H B) G' H') (hl : H' p = some (.lst ws')) (hg : G' p = none) (hd : Dens S G' ws' l2) : Rep S io B G' σ H' (put r i l2) := by
  have key : ∃ s, r[i]? = some s ∧ s.isM = true ∧ (∃ s', put r i l2 = r.set i s' ∧ (s' = .own l2 ∨ (s' = .io l2 ∧ s = .io l))) := by
    unfold mli at hi
    unfold put
    cases h : r[i]? with
    | none =>
      rw [h] at hi
      cases hi
    | some s =>
      rw [h] at hi
      cases s with
      | own l =>
        cases hi
        exact ⟨_, rfl, rfl, _, rfl, .inl rfl⟩
      | io l =>
        cases hi
        exact ⟨_, rfl, rfl, _, rfl, .inr ⟨rfl, rfl⟩⟩
      | _ => cases hi
  obtain ⟨s, hs, sm, s', hput, hs'⟩ := key
  have hlen := (List.getElem?_eq_some_iff.mp hs).1
  have R0 := (slot_out (i := i) R).back e h
  obtain ⟨p', vs0, ds0, z, hsd⟩ := (R.slot i s hs).mut sm
  have pe : p' = p := by
    have q := z.at_
    rw [hp] at q
    cases q
    rfl
  subst pe
  have new : MutAt S B G' H' σ i p' ws' l2 := ⟨hp, hl, hg, z.b, hd⟩
  have hio : s = .io l → io i = some p' := fun q => by
    obtain ⟨p2, vs2, e2, z2⟩ := (by have := R.slot i s hs; rw [q] at this; exact this : SlotOk S io B G H σ i (.io l))
    have q2 := z2.at_
    rw [hp] at q2
    cases q2
    exact e2
  rw [hput]
  have old : ∀ {j : Nat} {t : Slot}, (r.set i s')[j]? = some t → t.isM = true → ∃ t', r[j]? = some t' ∧ t'.isM = true := fun {j t} hj m => by
    rcases getElem?_set_cases hj with ⟨rfl, _, _⟩ | ⟨_, hj⟩
    · exact ⟨s, hs, sm⟩
    · exact ⟨t, hj, m⟩
  refine ⟨R0.hp, by rw [List.length_set]; exact R.len, fun j t hj => ?_, fun j k t t' q ne hj m hk m' e1 e2 => ?_⟩
  · rcases getElem?_set_cases hj with ⟨rfl, rfl, _⟩ | ⟨ne, hj⟩
    · rcases hs' with rfl | ⟨rfl, e2⟩
      · exact ⟨p', ws', new⟩
      · exact ⟨p', ws', hio e2, new⟩
    · exact R0.slot j t (by rw [List.getElem?_set_ne (fun z => ne z.symm)]; exact hj)
  · obtain ⟨t1, a1, b1⟩ := old hj m
    obtain ⟨t2, a2, b2⟩ := old hk m'
    exact R.inj j k t1 t2 q ne a1 b1 a2 b2 e1 e2
theorem mli_var {i : Nat} {l : List D} (h : mli r i = some l) : evE (.var i) r = .ok (.s i) r := by
  unfold mli at h
  simp only [evE]
  cases e : r[i]? with
  | none =>
    rw [e] at h
    cases h
  | some s =>
    rw [e] at h
    cases s with
    | own l => rfl
    | io l => rfl
    | _ => cases h
theorem mli_at {i : Nat} {l : List D} (R : Rep S io B G σ H r) (h : mli r i = some l) : ∃ p vs, MutAt S B G H σ i p vs l := by
  unfold mli at h
  cases e : r[i]? with
  | none =>
    rw [e] at h
    cases h
  | some s =>
    rw [e] at h
    cases s with
    | own l =>
      cases h
      obtain ⟨p, vs, z⟩ := R.slot i _ e
      exact ⟨p, vs, z⟩
    | io l =>
      cases h
      obtain ⟨p, vs, _, z⟩ := R.slot i _ e
      exact ⟨p, vs, z⟩
    | _ => cases h
theorem mli_own {i : Nat} {l : List D} (R : Rep S io B G σ H r) (h : mli r i = some l) (hp : σ[i]? = some (some (V.ref p))) : NotOwn σ (r.set i .no) p := fun j s hj m e => by
  rcases getElem?_set_cases hj with ⟨_, rfl, _⟩ | ⟨ne, hj⟩
  · cases m
  · have : ∃ t, r[i]? = some t ∧ t.isM = true := by
      unfold mli at h
      cases e : r[i]? with
      | none =>
        rw [e] at h
        cases h
      | some t =>
        rw [e] at h
        cases t with
        | own l => exact ⟨_, rfl, rfl⟩
        | io l => exact ⟨_, rfl, rfl⟩
        | _ => cases h
    obtain ⟨t, h1, h2⟩ := this
    exact R.inj j i s t p ne hj m h1 h2 e hp
/-- the first argument: the list of slot i -/
theorem callP_imp {E : XK} {sg : SigP} {i : Nat} {cs : Cs} {f : Bool} {Q : VK} (h : tV S io B E f (.callP sg i cs) σ H Q) (hf : f = false) : tCallE (spP S sg) E (tCons (tV S io B E false (.var i)) (tA S io B E cs)) σ H Q := by
  subst hf
  obtain ⟨r, G, R, h⟩ := h
  simp only [evE] at h
  split at h
  · exact h.elim
  · rename_i l0 q0
    refine ⟨r, G, R, ?_⟩
    show Post S B E G (evE (.var i) r) _
    rw [mli_var q0]
    intro G0 e0 u0 H0 R0 w0
    refine ⟨r, G0, R0, (Post.bind (Post.mono h e0)).imp fun vs r1 G1 e1 h2 us H1 R1 w1 => ?_⟩
    split at h2
    · rename_i ds r2 q
      split at h2
      · rename_i l q3
        obtain ⟨G2, e2, R2, d2⟩ := fzs_ok R1 w1 q
        obtain ⟨p, ws, z⟩ := mli_at R2 q3
        have hu : u0 = .ref p := by
          have w0 : σ[i]? = some (some u0) := w0
          have e := z.at_
          rw [w0] at e
          cases e
          rfl
        subst hu
        have R3 := slot_out (i := i) R2
        refine ⟨ownB σ (r2.set i .no) H1 B, G2, p, us, ws, l, ds, rfl, R3.callB, z.h, z.g, ?_, z.r, d2, ?_⟩
        · rw [ownB_not (mli_own R2 q3 z.at_)]
          exact z.b
        cases q2 : sg.run l ds with
        | ok z2 l2 =>
          simp only [q2] at h2
          intro G3 u H3 ws' e3 hh h4 h5 h6 h7
          exact h2 G3 (e2.trans e3) u H3 (R2.backP q3 e3 z.at_ hh h4 h5 h6) (.of h7)
        | err c v =>
          simp only [q2] at h2
          exact (ErrP.mono h2 e2).wk R3.exB
        | bad =>
          simp only [q2] at h2
          exact h2
      · exact h2.elim
    · exact h2.elim
end
end EvO

set_option Elab.async false
set_option linter.all false
set_option maxRecDepth 10000
/-! A8: from a body to a promise. -/
namespace EvO
open PySem PySem.Spec L2

section
variable {S : Cfg}
/-- a def's run: its parameters' data, then the other names -/
def envD (n : Nat) (ds : List D) : Env := ds.map Slot.dat ++ List.replicate (n - ds.length) .no
def envP (n : Nat) (l : List D) (ds : List D) : Env := .io l :: (ds.map Slot.dat ++ List.replicate (n - (ds.length + 1)) .no)
def outD : SOut → Res
  | .nx _ => .ok .non
  | .ret d _ => .ok d
  | .err c v => .err c v
  | _ => .bad
def outP : SOut → ResP
  | .nx r => match r[0]? with
    | some (Slot.io l) => .ok .non l
    | _ => .bad
  | .ret d r => match r[0]? with
    | some (Slot.io l) => .ok d l
    | _ => .bad
  | .err c v => .err c v
  | _ => .bad
def runD (N n a : Nat) (b : Sms) (ds : List D) : Res := if ds.length = a then outD (evSs N b (envD n ds)) else .bad
def runP (N n a : Nat) (b : Sms) (l : List D) (ds : List D) : ResP := if ds.length + 1 = a then outP (evSs N b (envP n l ds)) else .bad

theorem start_at {N : List Str} {vs : List V} {i : Nat} {v : V} (h : vs[i]? = some v) : (L2.start N vs)[i]? = some (some v) := by
  unfold L2.start
  have hl := (List.getElem?_eq_some_iff.mp h).1
  rw [List.getElem?_append_left (by rw [List.length_map]; exact hl), List.getElem?_map, h]
  rfl
theorem slots_get {ds : List D} {n i : Nat} {s : Slot} (h : (ds.map Slot.dat ++ List.replicate n .no)[i]? = some s) : s = .no ∨ ∃ d, s = .dat d ∧ ds[i]? = some d := by
  by_cases hl : i < ds.length
  · rw [List.getElem?_append_left (by rw [List.length_map]; exact hl), List.getElem?_map, List.getElem?_eq_getElem hl] at h
    cases h
    exact .inr ⟨_, rfl, List.getElem?_eq_getElem hl⟩
  · rw [List.getElem?_append_right (by rw [List.length_map]; omega)] at h
    exact .inl (List.eq_of_mem_replicate (List.mem_of_getElem? h))
theorem rep_d {B G H : Hp} {N : List Str} {vs : List V} {ds : List D} (h : Hps S B G H) (d : Dens S G vs ds) (hn : ds.length ≤ N.length) : Rep S (fun _ => none) B G (L2.start N vs) H (envD N.length ds) := by
  refine ⟨h, ?_, fun i s hi => ?_, fun i j s t p _ hi m _ _ _ _ => ?_⟩
  · unfold envD L2.start
    rw [List.length_append, List.length_append, List.length_map, List.length_map, List.length_replicate, List.length_replicate, d.length]
  · rcases slots_get hi with rfl | ⟨x, rfl, e⟩
    · trivial
    · obtain ⟨v, h1, h2⟩ := d.get e
      exact ⟨v, start_at h1, h2⟩
  · rcases slots_get hi with rfl | ⟨x, rfl, e⟩ <;> cases m
theorem rep_p {B G H : Hp} {N : List Str} {p : Addr} {vs ws : List V} {ds l : List D} (h : Hps S B G H) (hl : H p = some (.lst ws)) (hg : G p = none) (hb : B p = none) (dl : Dens S G ws l) (d : Dens S G vs ds) (hn : ds.length + 1 ≤ N.length) :
    Rep S (fun i => if i = 0 then some p else none) B G (L2.start N (V.ref p :: vs)) H (envP N.length l ds) := by
  have only : ∀ {i : Nat} {s : Slot}, (envP N.length l ds)[i]? = some s → s.isM = true → i = 0 := fun {i s} hi m => by
    cases i with
    | zero => rfl
    | succ i =>
      have hi : (ds.map Slot.dat ++ List.replicate (N.length - (ds.length + 1)) .no)[i]? = some s := hi
      rcases slots_get hi with rfl | ⟨x, rfl, e⟩ <;> cases m
  refine ⟨h, ?_, fun i s hi => ?_, fun i j s t q ne hi m hj m' _ _ => ne ((only hi m).trans (only hj m').symm)⟩
  · unfold envP L2.start
    rw [List.length_cons, List.length_append, List.length_append, List.length_map, List.length_map, List.length_replicate, List.length_replicate, List.length_cons, d.length]
    omega
  · cases i with
    | zero =>
      cases hi
      exact ⟨p, ws, if_pos rfl, start_at rfl, hl, hg, hb, dl⟩
    | succ i =>
      have hi : (ds.map Slot.dat ++ List.replicate (N.length - (ds.length + 1)) .no)[i]? = some s := hi
      rcases slots_get hi with rfl | ⟨x, rfl, e⟩
      · trivial
      · obtain ⟨v, h1, h2⟩ := d.get e
        exact ⟨v, start_at (vs := V.ref p :: vs) (i := i + 1) h1, h2⟩

variable {g : Bool} {k : Nat} {f : Addr} {name qual : Str} {params : Arguments} {body : List Stmt} {scope : Scope} {dV kV doc pm cdv ct oc : Value} {an od : Option Addr} {osl : Array (Option Value)} {N ps : List Str}
theorem xok_cx {A : Around} {outer : List PySem.Env} {s : Shared} {H : Hp} {E : XK} (hr : Room k (A.deeper (PyProof.Rows.envOfC qual scope s.heap.objs.size f cdv))) (hg : g = true → A.guards = some []) (nd : N.Nodup) :
    XOk S N scope g k E (cxOf (L2.CX S.P S.w) S.P S.w S.K S.mg S.base N qual scope f cdv A outer s H E) where
  eP := rfl
  ew := rfl
  eK := rfl
  em := rfl
  eb := rfl
  eN := rfl
  nd := nd
  eS := rfl
  calm := rfl
  room := hr
  tk := takes_of rfl rfl rfl rfl
  own := passes_of rfl
  gd := hg
theorem fnD (lk : S.K.lookup f = some ⟨oc, od, .func (PySem.W.fnOf name qual params body scope dV kV doc pm an cdv ct), osl⟩) (hcd : PySem.W.codeIn S.K cdv qual = true) (F : FnScope N ps scope) {fr : Bool} {M : Nat} {b : Sms}
    (hb : ∀ (X : Cx) (E : XK) (io : Nat → Option Addr) (B : Hp), XOk S N scope g k E X → X.env.qual = qual ++ (".<locals>." : Str) → X.env.code = cdv → (∀ x, X.fn x = true) → PSs X body (tSs S io B E fr M b)) :
    FnG S g (k + 1) f (PySem.W.fnOf name qual params body scope dV kV doc pm an cdv ct) ps (spD S ⟨fr, runD M N.length ps.length b⟩) := by
  have hpn : ps.length ≤ N.length := by have := congrArg List.length F.pre; rw [List.length_take] at this; omega
  have hlen : ∀ vs H Q E, spD S ⟨fr, runD M N.length ps.length b⟩ vs H Q E → vs.length = ps.length := fun vs H Q E h => by
    obtain ⟨B, G, ds, h1, h2, h3⟩ := h
    unfold runD at h3
    rw [h2.length]
    by_cases e : ds.length = ps.length
    · exact e
    · simp only [if_neg e] at h3
  refine ⟨hlen, fun A outer s H args us vs Q E hr hA e0 hbi r h => ?_⟩
  have hl := hlen _ _ _ _ h
  refine LamX.run_ofS lk hcd F hr e0 hbi r hl fun hr' => ?_
  obtain ⟨B, G, ds, h1, h2, h3⟩ := h
  have hdl : ds.length = ps.length := by rw [← h2.length]; exact hl
  refine ⟨_, hb _ E (fun _ => none) B (xok_cx hr' hA F.nd) rfl rfl (fun _ => rfl), envD N.length ds, G, rep_d h1 h2 (by omega), ?_⟩
  unfold runD at h3
  simp only [if_pos hdl] at h3
  cases q : evSs M b (envD N.length ds) with
  | nx r1 =>
    rw [q] at h3
    intro G' e σ H' R'
    refine h3 G' .non H' e R'.hp ?_
    cases fr with
    | true => exact .inr ⟨(fun _ e => by cases e), .non⟩
    | false => exact .non
  | ret d r1 =>
    rw [q] at h3
    exact fun G' e u σ H' R' w => h3 G' u H' e R'.hp w
  | err c v =>
    rw [q] at h3
    exact h3
  | brk r1 =>
    rw [q] at h3
    exact (show False from h3).elim
  | cont r1 =>
    rw [q] at h3
    exact (show False from h3).elim
  | bad =>
    rw [q] at h3
    exact h3
theorem fnP (lk : S.K.lookup f = some ⟨oc, od, .func (PySem.W.fnOf name qual params body scope dV kV doc pm an cdv ct), osl⟩) (hcd : PySem.W.codeIn S.K cdv qual = true) (F : FnScope N ps scope) {M : Nat} {b : Sms}
    (hb : ∀ (X : Cx) (E : XK) (io : Nat → Option Addr) (B : Hp), XOk S N scope g k E X → X.env.qual = qual ++ (".<locals>." : Str) → X.env.code = cdv → (∀ x, X.fn x = true) → PSs X body (tSs S io B E false M b)) :
    FnG S g (k + 1) f (PySem.W.fnOf name qual params body scope dV kV doc pm an cdv ct) ps (spP S ⟨runP M N.length ps.length b⟩) := by
  have hpn : ps.length ≤ N.length := by have := congrArg List.length F.pre; rw [List.length_take] at this; omega
  have hlen : ∀ vs H Q E, spP S ⟨runP M N.length ps.length b⟩ vs H Q E → vs.length = ps.length := fun vs H Q E h => by
    obtain ⟨B, G, p, us, ws, l, ds, rfl, h1, h2, h3, h4, h5, h6, h7⟩ := h
    unfold runP at h7
    rw [List.length_cons, h6.length]
    by_cases e : ds.length + 1 = ps.length
    · exact e
    · simp only [if_neg e] at h7
  refine ⟨hlen, fun A outer s H args us vs Q E hr hA e0 hbi r h => ?_⟩
  have hl := hlen _ _ _ _ h
  refine LamX.run_ofS lk hcd F hr e0 hbi r hl fun hr' => ?_
  obtain ⟨B, G, p, us', ws, l, ds, rfl, h1, h2, h3, h4, h5, h6, h7⟩ := h
  have hdl : ds.length + 1 = ps.length := by rw [← h6.length]; exact hl
  refine ⟨_, hb _ E _ B (xok_cx hr' hA F.nd) rfl rfl (fun _ => rfl), envP N.length l ds, G, rep_p h1 h2 h3 h4 h5 h6 (by omega), ?_⟩
  unfold runP at h7
  simp only [if_pos hdl] at h7
  have ends : ∀ {G' : Hp} {σ : L2.St} {H' : Hp} {r1 : Env} {l2 : List D}, Rep S (fun i => if i = 0 then some p else none) B G' σ H' r1 → r1[0]? = some (.io l2) → ∃ ws', H' p = some (.lst ws') ∧ G' p = none ∧ Dens S G' ws' l2 := fun {G' σ H' r1 l2} R e => by
    obtain ⟨p', ws', e1, z⟩ := R.slot 0 _ e
    have e1 : some p = some p' := e1
    cases e1
    exact ⟨ws', z.h, z.g, z.r⟩
  cases q : evSs M b (envP N.length l ds) with
  | nx r1 =>
    rw [q] at h7
    intro G' e σ H' R'
    simp only [outP] at h7
    split at h7
    · rename_i z d l2 q2
      split at q2
      · rename_i q3
        cases q2
        obtain ⟨ws', a1, a2, a3⟩ := ends R' q3
        exact h7 G' .non H' ws' e R'.hp a1 a2 a3 .non
      · cases q2
    · rename_i q2
      split at q2 <;> cases q2
    · exact h7.elim
  | ret d r1 =>
    rw [q] at h7
    intro G' e u σ H' R' w
    simp only [outP] at h7
    split at h7
    · rename_i z d l2 q2
      split at q2
      · rename_i q3
        cases q2
        obtain ⟨ws', a1, a2, a3⟩ := ends R' q3
        exact h7 G' u H' ws' e R'.hp a1 a2 a3 w
      · cases q2
    · rename_i q2
      split at q2 <;> cases q2
    · exact h7.elim
  | err c v =>
    rw [q] at h7
    exact h7
  | brk r1 =>
    rw [q] at h7
    exact (show False from h7).elim
  | cont r1 =>
    rw [q] at h7
    exact (show False from h7).elim
  | bad =>
    rw [q] at h7
    exact h7
end
end EvO

set_option Elab.async false
set_option linter.all false
set_option maxRecDepth 10000
/-! A9: calls of names, methods, fields, what is walked, targets, comprehensions. -/
namespace EvO
open PySem PySem.Spec L2

section
variable {S : Cfg} {io : Nat → Option Addr} {B G H : Hp} {E : XK} {X : Cx} {N : List Str} {sc : Scope} {g : Bool} {k : Nat} {a b c e : Expr} {ca cb cc ce : C} {pos : Pos} {f : Bool} {es : List Expr} {cs : Cs} {σ : L2.St} {r : Env} {Q : VK} {u : V} {d : D}

/-! ### calls -/
theorem gl_of (hX : XOk S N sc g k E X) {n : Str} (h : sc.names.lookup n = some .globalImplicit) : Gl X n := by
  show X.env.kindOf n = some .globalImplicit
  unfold PySem.Env.kindOf
  rw [hX.eS]
  exact h
theorem g_call (hX : XOk S N sc g k E X) {sg : Sig} {n : Str} {p1 : Pos} (Ck : CallOk S X E n (spD S sg)) (hg : sc.names.lookup n = some .globalImplicit) (hdb : (n == ("__debug__" : Str)) = false) (ha : PA X (e :: es) (tA S io B E cs)) (ns : noStar e = true) (nss : es.all noStar = true) :
    PE X (.Call (.Name n p1) (e :: es) [] pos) (tV S io B E sg.fresh (.call sg cs)) :=
  PE.imp (pe_callO hX Ck (gl_of hX hg) hdb ha ns nss) fun σ H Q h => callD_imp h
theorem g_call0 (hX : XOk S N sc g k E X) {sg : Sig} {n : Str} {p1 : Pos} (Ck : CallOk S X E n (spD S sg)) (hg : sc.names.lookup n = some .globalImplicit) (hdb : (n == ("__debug__" : Str)) = false) :
    PE X (.Call (.Name n p1) [] [] pos) (tV S io B E sg.fresh (.call sg .nil)) :=
  PE.imp (pe_callO0 hX Ck (gl_of hX hg) hdb) fun σ H Q h => by
    obtain ⟨r, G, R, h⟩ := callD_imp h
    exact h G (Ex.refl G) [] H R True.intro
theorem g_callP (hX : XOk S N sc g k E X) {sg : SigP} {i : Nat} {n : Str} {p1 : Pos} (Ck : CallOk S X E n (spP S sg)) (hg : sc.names.lookup n = some .globalImplicit) (hdb : (n == ("__debug__" : Str)) = false) (h1 : PE X e (tV S io B E false (.var i))) (ha : PA X es (tA S io B E cs)) (ns : noStar e = true) (nss : es.all noStar = true) :
    PE X (.Call (.Name n p1) (e :: es) [] pos) (tV S io B E false (.callP sg i cs)) :=
  PE.imp (pe_callO hX Ck (gl_of hX hg) hdb (pa_cons h1 ha (starEach_cons ns)) ns nss) fun σ H Q h => callP_imp h rfl
/-- a built-in called -/
theorem g_prim (hX : XOk S N sc g k E X) {p : Prim} {fr : Bool} {n : Str} {bv : String} {p1 : Pos} (hR : ∃ R, CallR X (.builtin bv) R ∧ CallM S p fr R) (hb : bootBuiltins n = some (.builtin bv)) (hm : S.mg n = none) (hg : sc.names.lookup n = some .globalImplicit) (hdb : (n == ("__debug__" : Str)) = false) (hnn : n ≠ "__name__")
    (ha : PA X (e :: es) (tA S io B E cs)) (ns : noStar e = true) (nss : es.all noStar = true) : PE X (.Call (.Name n p1) (e :: es) [] pos) (tV S io B E fr (.prim p cs)) := by
  obtain ⟨R, h1, h2⟩ := hR
  exact PE.imp (pe_callB h1 (gl_of hX hg) (by rw [hX.em]; exact hm) hb ha (hdb := hdb) (hn := hnn) (he := starEach_cons ns) (hpl := starEach_any nss)) fun σ H Q h => prim_imp h2 h
theorem g_primT (hX : XOk S N sc g k E X) {p : Prim} {fr : Bool} {n : Str} {bv : String} {p1 : Pos} (hR : ∃ R, CallR X (.type bv) R ∧ CallM S p fr R) (hb : bootBuiltins n = some (.type bv)) (hm : S.mg n = none) (hg : sc.names.lookup n = some .globalImplicit) (hdb : (n == ("__debug__" : Str)) = false) (hnn : n ≠ "__name__")
    (ha : PA X (e :: es) (tA S io B E cs)) (ns : noStar e = true) (nss : es.all noStar = true) : PE X (.Call (.Name n p1) (e :: es) [] pos) (tV S io B E fr (.prim p cs)) := by
  obtain ⟨R, h1, h2⟩ := hR
  exact PE.imp (pe_callTy h1 (gl_of hX hg) (by rw [hX.em]; exact hm) hb ha (hdb := hdb) (hn := hnn) (he := starEach_cons ns) (hpl := starEach_any nss)) fun σ H Q h => prim_imp h2 h
/-- list(range(n)) -/
theorem g_listRange (hX : XOk S N sc g k E X) {p1 p2 p3 : Pos} (gl : sc.names.lookup ("list" : Str) = some .globalImplicit) (gr : sc.names.lookup ("range" : Str) = some .globalImplicit) (ml : S.mg "list" = none) (mr : S.mg "range" = none) (ha : PE X a (tV S io B E false ca)) (ns : noStar a = true) :
    PE X (.Call (.Name "list" p1) [.Call (.Name "range" p2) [a] [] p3] [] pos) (tV S io B E true (.prim .listRange (.cons ca .nil))) := by
  refine PE.imp (pe_listRg hX.calm (gl_of hX gl) (by rw [hX.em]; exact ml) (prg_1 (gl_of hX gr) (by rw [hX.em]; exact mr) ha (starEach_cons ns))) fun σ H Q h => ?_
  obtain ⟨r, G, R, h⟩ := h
  simp only [evE, evEs, Out.bind_assoc, Out.bind_ok] at h
  refine ⟨r, G, R, (Post.bind h).imp fun v r1 G1 e1 h2 u H1 R1 w1 => ?_⟩
  simp only [List.mapM_cons, List.mapM_nil] at h2
  cases q : rd r1 v with
  | none =>
    rw [q] at h2
    exact h2.elim
  | some d =>
    rw [q] at h2
    have h3 : Post S B E G1 (ofO ((primD .listRange [d]).map Val.d) r1) (QV S io B σ true Q) := h2
    have nw := rd_now R1 w1 q
    cases q2 : primD .listRange [d] with
    | none =>
      rw [q2] at h3
      exact h3.elim
    | some z =>
      rw [q2] at h3
      cases d with
      | int n =>
        have q2 : (if 0 ≤ n ∧ n ≤ (big : Int) then some (D.lst ((List.range n.toNat).map fun (i : Nat) => .int i)) else none) = some z := q2
        split at q2 <;> cases q2
        rename_i hn
        have e2 := nw.int
        subst e2
        have hn' : (0 : Int) ≤ n ∧ n ≤ 16777216 := hn
        refine ⟨_, rfl, ⟨by omega, by omega, by omega, by omega, by omega⟩, fun p hp => ?_⟩
        refine QR.lst (G := G1) h3 R1 hp ?_
        have e3 : rgV 0 n = ((List.range n.toNat).map fun (i : Nat) => (i : Int)).map V.int := by
          unfold rgV
          rw [List.map_map]
          simp [Function.comp_def]
        have e4 : ((List.range n.toNat).map fun (i : Nat) => D.int i) = ((List.range n.toNat).map fun (i : Nat) => (i : Int)).map D.int := by
          rw [List.map_map]
          rfl
        rw [e3, e4]
        exact dens_ints _
      | _ => cases q2

/-! ### methods -/
theorem star_allN {env : PySem.Env} {p : Pos} : ∀ {es : List Expr}, es.all noStar = true → (backTo p (starEach es env)).all (fun x => !x.1) = true
  | [], _ => rfl
  | e :: es, h => by
    obtain ⟨h1, h2⟩ := Bool.and_eq_true_iff.mp (show (noStar e && es.all noStar) = true from h)
    rw [starEach_cons h1]
    show (!false && (backTo p (starEach es env)).all (fun x => !x.1)) = true
    rw [star_allN h2]
    rfl
theorem few_ok {env : PySem.Env} {p : Pos} {e : Expr} (h : noStar e = true) : ((backTo p (starEach [e] env)).all (fun x => !x.1) && (backToKw p (keywordEach [] env)).all (fun x => x.1.isSome)
      && decide (([e] : List Expr).length + ([] : List Keyword).length + (if ([] : List Keyword).isEmpty then 0 else 1) < 30)) = true := by
  rw [star_allN (es := [e]) (by simp [h])]
  rfl
theorem lst_ty {p : Addr} {vs : List V} (h : H p = some (.lst vs)) (K : PySem.W.Frag) : tyV K "list" (.ref p) H := .inl ⟨rfl, vs, SqL.of h⟩
theorem g_pop (hX : XOk S N sc g k E X) {i : Nat} {apos : Pos} (h1 : PE X e (tV S io B E false (.var i))) (hb : baseOk e = true) (hl : (apos.endLine == pos.line) = true) : PE X (.Call (.Attribute e "pop" apos) [] [] pos) (tV S io B E false (.pop i)) := by
  refine PE.imp (pe_bm0 PySem.F.plainAttrs_list PySem.F.slot_list_pop PySem.F.type_list_pop mt_pop h1 (base_ok hb) hl) fun σ H Q h => ?_
  obtain ⟨r, G, R, h⟩ := h
  simp only [evE] at h
  split at h
  · rename_i l q
    split at h
    · rename_i x q2
      obtain ⟨p, vs, z⟩ := mli_at R q
      refine ⟨r, G, R, ?_⟩
      rw [mli_var q]
      intro G1 e1 u H1 R1 w1
      obtain ⟨p1, vs1, z1⟩ := mli_at R1 q
      have w1 : σ[i]? = some (some u) := w1
      have q3 := z1.at_
      rw [w1] at q3
      cases q3
      refine ⟨lst_ty z1.h _, ?_⟩
      obtain ⟨p2, vs2, a1, a2, a3, R2⟩ := R1.mutate (es := l.dropLast) (ws := vs1.dropLast) q z1.r.dropLast
      rw [w1] at a1
      cases a1
      rw [z1.h] at a2
      cases a2
      have gl : l[l.length - 1]? = some x := by rw [← List.getLast?_eq_getElem?]; exact q2
      obtain ⟨v, b1, b2⟩ := z1.r.get gl
      exact ⟨_, _, v, rfl, rfl, z1.h, by rw [z1.r.length]; exact b1, h G1 e1 v _ R2 (.of b2)⟩
    · exact h.elim
  · exact h.elim

theorem put_ne {i : Nat} {l : List D} : mli r i = some l → True := fun _ => trivial
theorem g_app (hX : XOk S N sc g k E X) {i : Nat} {apos : Pos} (h1 : PE X e (tV S io B E false (.var i))) (ha : PE X a (tV S io B E false ca)) (ns : noStar a = true) (hb : baseOk e = true) (hl : (apos.endLine == pos.line) = true) :
    PE X (.Call (.Attribute e "append" apos) [a] [] pos) (tV S io B E false (.app i ca)) := by
  refine PE.imp (pe_bm PySem.F.plainAttrs_list PySem.F.slot_list_append PySem.F.type_list_append mt_append h1 (pa_cons ha pa_nil (starEach_cons ns)) (base_ok hb) (few_ok ns) hl (starEach_cons ns)) fun σ H Q h => ?_
  obtain ⟨r, G, R, h⟩ := h
  simp only [evE] at h
  split at h
  · exact h.elim
  · rename_i l0 q0
    refine ⟨r, G, R, ?_⟩
    rw [mli_var q0]
    intro G0 e0 u0 H0 R0 w0
    obtain ⟨p0, vs0, z0⟩ := mli_at R0 q0
    have w0 : σ[i]? = some (some u0) := w0
    have q1 := z0.at_
    rw [w0] at q1
    cases q1
    refine ⟨lst_ty z0.h _, r, G0, R0, (Post.bind (Post.mono h e0)).imp fun v r1 G1 e1 h2 u H1 R1 w1 => ?_⟩
    split at h2
    · rename_i x r2 q2
      split at h2
      · rename_i l q3
        split at h2
        · rename_i hlen
          obtain ⟨G2, e2, R2, d2⟩ := fz_ok R1 w1 q2
          obtain ⟨p, ws, z⟩ := mli_at R2 q3
          have q4 := z.at_
          rw [w0] at q4
          cases q4
          obtain ⟨p2, vs2, a1, a2, a3, R3⟩ := R2.mutate (es := l ++ [x]) (ws := ws ++ [u]) q3 (z.r.append (.cons d2 .nil))
          rw [w0] at a1
          cases a1
          rw [z.h] at a2
          cases a2
          exact ⟨_, _, u, rfl, rfl, z.h, by rw [z.r.length, ← big_eq]; exact hlen, h2 G2 e2 .non _ R3 (.of .non)⟩
        · exact h2.elim
      · exact h2.elim
    · exact h2.elim
theorem g_ext (hX : XOk S N sc g k E X) {i : Nat} {apos : Pos} (h1 : PE X e (tV S io B E false (.var i))) (ha : PE X a (tV S io B E false ca)) (ns : noStar a = true) (hb : baseOk e = true) (hl : (apos.endLine == pos.line) = true) :
    PE X (.Call (.Attribute e "extend" apos) [a] [] pos) (tV S io B E false (.ext i ca)) := by
  refine PE.imp (pe_bm PySem.F.plainAttrs_list PySem.F.slot_list_extend PySem.F.type_list_extend mt_extend h1 (pa_cons ha pa_nil (starEach_cons ns)) (base_ok hb) (few_ok ns) hl (starEach_cons ns)) fun σ H Q h => ?_
  obtain ⟨r, G, R, h⟩ := h
  simp only [evE] at h
  split at h
  · exact h.elim
  · rename_i l0 q0
    refine ⟨r, G, R, ?_⟩
    rw [mli_var q0]
    intro G0 e0 u0 H0 R0 w0
    obtain ⟨p0, vs0, z0⟩ := mli_at R0 q0
    have w0 : σ[i]? = some (some u0) := w0
    have q1 := z0.at_
    rw [w0] at q1
    cases q1
    refine ⟨lst_ty z0.h _, r, G0, R0, (Post.bind (Post.mono h e0)).imp fun v r1 G1 e1 h2 u H1 R1 w1 => ?_⟩
    split at h2
    · rename_i xs r2 q2
      split at h2
      · rename_i l q3
        split at h2
        · rename_i hlen
          obtain ⟨G2, e2, R2, d2⟩ := fz_ok R1 w1 q2
          obtain ⟨p, ws, z⟩ := mli_at R2 q3
          have q4 := z.at_
          rw [w0] at q4
          cases q4
          cases d2 with
          | lst hb hd =>
            obtain ⟨p2, vs2, a1, a2, a3, R3⟩ := R2.mutate (es := l ++ xs) (ws := ws ++ _) q3 (z.r.append hd)
            rw [w0] at a1
            cases a1
            rw [z.h] at a2
            cases a2
            exact ⟨_, _, _, _, rfl, rfl, z.h, R2.hp.gx _ _ hb, by rw [z.r.length, hd.length, ← big_eq]; exact hlen, h2 G2 e2 .non _ R3 (.of .non)⟩
        · exact h2.elim
      · exact h2.elim
    · exact h2.elim
theorem g_split (hX : XOk S N sc g k E X) {apos : Pos} (ha : PE X a (tV S io B E false ca)) (hb : PE X b (tV S io B E false cb)) (ns : noStar b = true) (hba : baseOk a = true) (hl : (apos.endLine == pos.line) = true) :
    PE X (.Call (.Attribute a "split" apos) [b] [] pos) (tV S io B E true (.mth .split ca cb)) := by
  refine PE.imp (pe_split ha hb (starEach_cons ns) (base_ok hba) hl) fun σ H Q h => ?_
  obtain ⟨r, G, R, h⟩ := h
  simp only [evE] at h
  refine ⟨r, G, R, (Post.bind h).imp fun v r1 G1 e1 h2 u H1 R1 w1 => ?_⟩
  split at h2
  · rename_i z q1
    have eu := (rd_now R1 w1 q1).str
    subst eu
    refine ⟨⟨_, rfl⟩, r1, G1, R1, (Post.bind h2).imp fun v2 r2 G2 e2 h3 u2 H2 R2 w2 => ?_⟩
    split at h3
    · rename_i y q2
      have nw := rd_now R2 w2 q2
      cases y with
      | str y =>
        have h4 : Post S B E G2 (ofO ((if y.length ≠ 0 ∧ z.length + 2 ≤ big then some (D.lst ((Txt.split z y).map .str)) else none).map Val.d) r2) (QV S io B σ true Q) := h3
        split at h4
        · rename_i hh
          have eu := nw.str
          subst eu
          exact ⟨z, y, rfl, rfl, beq_eq_false_iff_ne.mpr hh.1, by rw [← big_eq]; exact hh.2, fun p hp => QR.lst (G := G2) h4 R2 hp (dens_strs _)⟩
        · exact h4.elim
      | _ => exact h3.elim
    · exact h3.elim
  · exact h2.elim
theorem g_join (hX : XOk S N sc g k E X) {apos : Pos} (ha : PE X a (tV S io B E false ca)) (hb : PE X b (tV S io B E false cb)) (ns : noStar b = true) (hba : baseOk a = true) (hl : (apos.endLine == pos.line) = true) :
    PE X (.Call (.Attribute a "join" apos) [b] [] pos) (tV S io B E false (.mth .join ca cb)) := by
  refine PE.imp (pe_m1 PySem.F.slot_str_join PySem.F.type_str_join mt_join ha hb (starEach_cons ns) (base_ok hba) hl) fun σ H Q h => ?_
  obtain ⟨r, G, R, h⟩ := h
  simp only [evE] at h
  refine ⟨r, G, R, (Post.bind h).imp fun v r1 G1 e1 h2 u H1 R1 w1 => ?_⟩
  split at h2
  · rename_i z q1
    have eu := (rd_now R1 w1 q1).str
    subst eu
    refine ⟨⟨_, rfl⟩, r1, G1, R1, (Post.bind h2).imp fun v2 r2 G2 e2 h3 u2 H2 R2 w2 => ?_⟩
    split at h3
    · rename_i y q2
      have nw := rd_now R2 w2 q2
      cases y with
      | lst xs =>
        cases q3 : strsD xs with
        | none =>
          have h4 : Post S B E G2 (ofO ((match strsD xs with
            | some (l : List Str) => if (l.map fun (y : Str) => y.length).sum + l.length * z.length ≤ 16777216 then some (D.str (Txt.join z l)) else none
            | none => none).map Val.d) r2) (QV S io B σ false Q) := h3
          rw [q3] at h4
          exact h4.elim
        | some l =>
          have h4 : Post S B E G2 (ofO ((match strsD xs with
            | some (l : List Str) => if (l.map fun (y : Str) => y.length).sum + l.length * z.length ≤ 16777216 then some (D.str (Txt.join z l)) else none
            | none => none).map Val.d) r2) (QV S io B σ false Q) := h3
          rw [q3] at h4
          dsimp only at h4
          split at h4
          · rename_i hh
            obtain ⟨p, vs, rfl, h5, h6⟩ := nw.lst R2.hp.gx
            have e := h6.strs q3
            subst e
            exact ⟨z, p, l, rfl, rfl, .inl (SqL.of h5), hh, h4 G2 (Ex.refl G2) _ H2 R2 (.of (.str _))⟩
          · exact h4.elim
      | _ => exact h3.elim
    · exact h3.elim
  · exact h2.elim

/-! ### an error's value -/
/-- the classes' reading of value -/
theorem g_fld (hX : XOk S N sc g k E X) (hC : ClsOk S) (ha : PE X a (tV S io B E false ca)) (hba : baseOk a = true) : PE X (.Attribute a "value" pos) (tV S io B E false (.fld ca)) := by
  refine ⟨fun pins s σ H Q I h => ?_⟩
  obtain ⟨r, G, R, h⟩ := h
  simp only [evE] at h
  refine attr_of (base_ok hba) (thn (ha.run pins s σ H (fun u H1 => ∃ (x C : Addr) (ux : V), u = .ref x ∧ ExC X.K C ∧ (∃ d, H1 x = some (exnO x C d) ∧ H1 d = some (.xd [(("value" : Str), ux)])) ∧ Q ux H1) I ⟨r, G, R, (Post.bind h).imp fun v r1 G1 e1 h2 u H1 R1 w1 => ?_⟩) fun u s1 hh => ?_)
  · split at h2
    · rename_i c x q1
      have nw := (rd_now R1 w1 q1).den (fun _ e => by cases e)
      cases nw with
      | @exn a' x' _ u' d' hc h1 h3 h4 => exact ⟨a', _, u', rfl, by rw [hX.eK]; exact hC.ex c hc, ⟨x', R1.hp.gx _ _ h1, R1.hp.gx _ _ h3⟩, h2 G1 (Ex.refl G1) u' H1 R1 (.of h4)⟩
    · exact h2.elim
  · obtain ⟨x, H1, I1, rx, a', C, ux, rfl, T, ⟨d, h1, h2⟩, q⟩ := hh
    obtain rfl : u = Value.ref a' := rx
    obtain ⟨⟨oe, vs, q1, q2, q3, q4⟩, _⟩ := I1.hok a' _ h1
    have hx : ObjOk X.prog X.w H1 s1.heap d (.xd [(("value" : Str), ux)]) := I1.hok d _ h2
    obtain ⟨mA, hns, hr⟩ := hx
    obtain ⟨od, ho, hl⟩ := lookIn_ns hns
    obtain ⟨u, hu, ru⟩ := RelO.some_of (v := ux) (o := mA "value") (by have := hr "value"; simpa using this)
    have J : PySem.W.InstAt s1.heap a' oe C (some od) := ⟨q1, q2, by unfold PySem.W.notCls; rw [q4] <;> rfl, by rw [q3]; exact ho⟩
    exact HandSPX.exc_get I1.kIn J T.ga T.gg T.sb (PySem.W.findObj_own T.hd T.va rfl (by rw [hl, hu])) (handed_of ru) ⟨ux, H1, I1.tok _, ru, q⟩
end
end EvO

set_option Elab.async false
set_option linter.all false
set_option maxRecDepth 10000
/-! A10: what is walked, targets, comprehensions. -/
namespace EvO
open PySem PySem.Spec L2

section
variable {S : Cfg} {io : Nat → Option Addr} {B G H : Hp} {E : XK} {X : Cx} {N : List Str} {sc : Scope} {g : Bool} {k : Nat} {a b c e tg : Expr} {ca cb cc ce : C} {pos : Pos} {f : Bool} {es : List Expr} {cs : Cs} {σ : L2.St} {r : Env} {Q : VK} {u : V} {d : D}

/-- J walks the data ds -/
def Wks (S : Cfg) (io : Nat → Option Addr) (G : Hp) (J : L2.It) (ds : List D) : Prop := ∀ (i : Nat) (B G' H : Hp) (σ : L2.St) (r : Env), Ex G G' → Rep S io B G' σ H r →
  (ds.length ≤ i → J.stop i H) ∧ ∀ d, ds[i]? = some d → J.go i H ∧ ∀ x H', J.yld i H x H' → ∃ G'', Ex G' G'' ∧ Rep S io B G'' σ H' r ∧ Den S G'' x d
theorem Wks.mono {G' : Hp} {J : L2.It} {ds : List D} (h : Wks S io G J ds) (e : Ex G G') : Wks S io G' J ds := fun i B G2 H σ r e2 R => h i B G2 H σ r (e.trans e2) R
def tI (S : Cfg) (io : Nat → Option Addr) (B : Hp) (E : XK) (it : EvO.It) : TI := fun σ H R => ∃ r G, Rep S io B G σ H r ∧ Post S B E G (evI it r) fun ds r' G' => ∀ J H', Rep S io B G' σ H' r' → Wks S io G' J ds → R J H'
theorem PI.imp {X : Cx} {tg e : Expr} {t t' : TI} (h : PI X tg e t) (i : ∀ σ H Q, t' σ H Q → t σ H Q) : PI X tg e t' := ⟨fun pins s σ H Q I q => h.run pins s σ H Q I (i σ H Q q)⟩
theorem PI.or {X : Cx} {tg e : Expr} {t t' : TI} (h : PI X tg e t) (h' : PI X tg e t') : PI X tg e fun σ H Q => t σ H Q ∨ t' σ H Q := ⟨fun pins s σ H Q I q => q.elim (h.run pins s σ H Q I) (h'.run pins s σ H Q I)⟩
theorem wk_lst {p : Addr} {vs : List V} {ds : List D} (h : G p = some (.lst vs)) (d : Dens S G vs ds) : Wks S io G (Itl S.K p) ds := fun i B G' H σ r e R => by
  have hp : SqL S.K H p vs := SqL.of (R.hp.gx _ _ (e _ _ h))
  refine ⟨fun hl => ⟨vs, hp, by rw [d.length]; exact hl⟩, fun x hx => ?_⟩
  obtain ⟨v, h1, h2⟩ := d.get hx
  refine ⟨⟨vs, v, hp, h1⟩, fun y H' hy => ?_⟩
  obtain ⟨rfl, hy⟩ := hy
  have := hy vs hp
  rw [h1] at this
  cases this
  exact ⟨G', Ex.refl G', R, h2.mono e⟩
theorem wk_tup {p : Addr} {vs : List V} {ds : List D} (h : SqT S.K G p vs) (d : Dens S G vs ds) : Wks S io G (Itt S.K p) ds := fun i B G' H σ r e R => by
  have hp : SqT S.K H p vs := ex_t R.hp.gx (ex_t e h)
  refine ⟨fun hl => ⟨vs, hp, by rw [d.length]; exact hl⟩, fun x hx => ?_⟩
  obtain ⟨v, h1, h2⟩ := d.get hx
  refine ⟨⟨vs, v, hp, h1⟩, fun y H' hy => ?_⟩
  obtain ⟨rfl, hy⟩ := hy
  have := hy vs hp
  rw [h1] at this
  cases this
  exact ⟨G', Ex.refl G', R, h2.mono e⟩
theorem wk_str {z : Str} : Wks S io G (Its z) (z.cps.toList.map fun c => .str ⟨#[c]⟩) := fun i B G' H σ r e R => by
  refine ⟨fun hl => (by rw [List.length_map] at hl; simpa using hl : z.cps.size ≤ i), fun x hx => ?_⟩
  rw [List.getElem?_map] at hx
  obtain ⟨c, hc, rfl⟩ := Option.map_eq_some_iff.mp hx
  have hc : z.cps[i]? = some c := by rw [← hc, Array.getElem?_toList]
  refine ⟨(Array.getElem?_eq_some_iff.mp hc).1, fun y H' hy => ?_⟩
  obtain ⟨rfl, c', hc', rfl⟩ := hy
  rw [hc] at hc'
  cases hc'
  exact ⟨G', Ex.refl G', R, .str _⟩
theorem wk_rng {lo : Int} {n : Nat} : Wks S io G (Itr lo n) ((List.range n).map fun (i : Nat) => .int (lo + i)) := fun i B G' H σ r e R => by
  refine ⟨fun hl => (by simpa using hl : n ≤ i), fun x hx => ?_⟩
  rw [List.getElem?_map] at hx
  obtain ⟨c, hc, rfl⟩ := Option.map_eq_some_iff.mp hx
  obtain ⟨hi, rfl⟩ := (List.getElem?_eq_some_iff.mp hc)
  have hi : i < n := by simpa using hi
  refine ⟨hi, fun y H' hy => ?_⟩
  obtain ⟨rfl, rfl⟩ := hy
  refine ⟨G', Ex.refl G', R, ?_⟩
  rw [List.getElem_range]
  exact .int _
theorem i_val (hX : XOk S N sc g k E X) (ha : PE X a (tV S io B E false ca)) : PI X tg a (tI S io B E (.val ca)) := by
  refine PI.imp ((PI.or (pi_list ha) (PI.or (pi_tup ha) (pi_str ha)))) fun σ H Q h => ?_
  obtain ⟨r, G, R, h⟩ := h
  simp only [evI] at h
  cases q : evE ca r with
  | bad =>
    rw [q] at h
    exact h.elim
  | err c v =>
    rw [q] at h
    exact .inl ⟨r, G, R, by rw [q]; exact h⟩
  | ok v r1 =>
    rw [q] at h
    simp only [Out.bind_ok] at h
    cases q2 : fz r1 v with
    | none =>
      rw [q2] at h
      exact h.elim
    | some z =>
      obtain ⟨x, r2⟩ := z
      rw [q2] at h
      cases x with
      | lst ds =>
        refine .inl ⟨r, G, R, ?_⟩
        rw [q]
        intro G1 e1 u H1 R1 w1
        obtain ⟨G2, e2, R2, d2⟩ := fz_ok R1 w1 q2
        cases d2 with
        | lst hb hd =>
          refine ⟨_, rfl, ⟨_, SqL.of (R2.hp.gx _ _ hb)⟩, ?_⟩
          rw [hX.eK]
          exact h G2 (e1.trans e2) _ H1 R2 (wk_lst hb hd)
      | tup ds =>
        refine .inr (.inl ⟨r, G, R, ?_⟩)
        rw [q]
        intro G1 e1 u H1 R1 w1
        obtain ⟨G2, e2, R2, d2⟩ := fz_ok R1 w1 q2
        cases d2 with
        | tup hb hd =>
          refine ⟨_, rfl, ⟨_, by rw [hX.eK]; exact ex_t R2.hp.gx hb⟩, ?_⟩
          rw [hX.eK]
          exact h G2 (e1.trans e2) _ H1 R2 (wk_tup hb hd)
      | str z =>
        refine .inr (.inr ⟨r, G, R, ?_⟩)
        rw [q]
        intro G1 e1 u H1 R1 w1
        obtain ⟨G2, e2, R2, d2⟩ := fz_ok R1 w1 q2
        cases d2
        have h2 : Post S B E G (ofO (if z.length ≤ big then some (z.cps.toList.map fun c => D.str ⟨#[c]⟩) else none) r2) _ := h
        split at h2
        · exact ⟨z, rfl, h2 G2 (e1.trans e2) _ H1 R2 wk_str⟩
        · exact h2.elim
      | _ => exact h.elim
theorem i_rng1 (hX : XOk S N sc g k E X) {p1 : Pos} (gr : sc.names.lookup ("range" : Str) = some .globalImplicit) (mr : S.mg "range" = none) (ha : PE X a (tV S io B E false ca)) (ns : noStar a = true) : PI X tg (.Call (.Name "range" p1) [a] [] pos) (tI S io B E (.rng1 ca)) := by
  refine PI.imp (pi_range1 (gl_of hX gr) (by rw [hX.em]; exact mr) (pa_cons ha pa_nil (starEach_cons ns)) (starEach_cons ns)) fun σ H Q h => ?_
  obtain ⟨r, G, R, h⟩ := h
  simp only [evI] at h
  refine ⟨r, G, R, (Post.bind h).imp fun v r1 G1 e1 h2 u H1 R1 w1 => ?_⟩
  obtain ⟨n, rfl, h3⟩ := Post.int R1 w1 h2
  split at h3
  · rename_i hn
    have hn : (-16777216 : Int) ≤ n ∧ n ≤ 16777216 := hn
    refine ⟨n, rfl, by omega, by omega, h3 G1 (Ex.refl G1) _ H1 R1 ?_⟩
    have e : ((List.range n.toNat).map fun (i : Nat) => D.int i) = ((List.range n.toNat).map fun (i : Nat) => D.int (0 + i)) := by simp
    rw [e]
    exact wk_rng
  · exact h3.elim
theorem i_rng2 (hX : XOk S N sc g k E X) {p1 : Pos} (gr : sc.names.lookup ("range" : Str) = some .globalImplicit) (mr : S.mg "range" = none) (ha : PE X a (tV S io B E false ca)) (hb : PE X b (tV S io B E false cb)) (ns : noStar a = true) (nb : noStar b = true) :
    PI X tg (.Call (.Name "range" p1) [a, b] [] pos) (tI S io B E (.rng2 ca cb)) := by
  refine PI.imp (pi_range2 (gl_of hX gr) (by rw [hX.em]; exact mr) (pa_cons ha (pa_cons hb pa_nil (starEach_cons nb)) (starEach_cons ns)) (by rw [starEach_cons ns, starEach_cons nb]; rfl) (by rw [starEach_cons nb]; rfl)) fun σ H Q h => ?_
  obtain ⟨r, G, R, h⟩ := h
  simp only [evI] at h
  refine ⟨r, G, R, (Post.bind h).imp fun v r1 G1 e1 h2 u H1 R1 w1 => ?_⟩
  obtain ⟨m, rfl, h3⟩ := Post.int R1 w1 h2
  refine ⟨r1, G1, R1, (Post.bind h3).imp fun v2 r2 G2 e2 h4 u2 H2 R2 w2 => ?_⟩
  obtain ⟨n, rfl, h5⟩ := Post.int R2 w2 h4
  split at h5
  · rename_i hn
    have hn : (-16777216 : Int) ≤ m ∧ m ≤ 16777216 ∧ (-16777216 : Int) ≤ n ∧ n ≤ 16777216 := hn
    exact ⟨m, n, rfl, ⟨by omega, by omega, by omega, by omega⟩, h5 G2 (Ex.refl G2) _ H2 R2 wk_rng⟩
  · exact h5.elim
theorem zip_get {α β : Type} {xs : List α} {ys : List β} {i : Nat} {p : α × β} (h : (xs.zip ys)[i]? = some p) : xs[i]? = some p.1 ∧ ys[i]? = some p.2 := by
  rw [List.getElem?_zip_eq_some] at h
  exact h
theorem wk_zipL {p q : Addr} {vs ws : List V} {ds es : List D} (h : G p = some (.lst vs)) (h' : G q = some (.lst ws)) (d : Dens S G vs ds) (d' : Dens S G ws es) : Wks S io G (Itz S.K p q) ((ds.zip es).map fun z => .tup [z.1, z.2]) := fun i B G' H σ r e R => by
  have hp : SqL S.K H p vs := SqL.of (R.hp.gx _ _ (e _ _ h))
  have hq : SqL S.K H q ws := SqL.of (R.hp.gx _ _ (e _ _ h'))
  refine ⟨fun hl => ⟨vs, ws, hp, hq, by rw [List.length_map, List.length_zip] at hl; rw [d.length, d'.length]; omega⟩, fun x hx => ?_⟩
  rw [List.getElem?_map] at hx
  obtain ⟨⟨x1, x2⟩, hz, rfl⟩ := Option.map_eq_some_iff.mp hx
  obtain ⟨hz1, hz2⟩ := zip_get hz
  obtain ⟨v, h1, h2⟩ := d.get hz1
  obtain ⟨w, k1, k2⟩ := d'.get hz2
  refine ⟨⟨vs, ws, v, w, hp, hq, h1, k1⟩, fun y H' hy => ?_⟩
  obtain ⟨T, x, y', rfl, hT, rfl, hx', hy'⟩ := hy
  have e1 := hx' vs hp
  have e2 := hy' ws hq
  rw [h1] at e1
  rw [k1] at e2
  cases e1
  cases e2
  have gT := R.hp.gx.free hT
  have en : Ex G' (upd G' T (.tup [v, w])) := Ex.new gT
  exact ⟨_, en, R.fresh hT (fun _ e => by cases e), .tup (SqT.of upd_same) (.cons (h2.mono (e.trans en)) (.cons (k2.mono (e.trans en)) .nil))⟩
theorem wk_zipT {p q : Addr} {vs ws : List V} {ds es : List D} (h : SqT S.K G p vs) (h' : SqT S.K G q ws) (d : Dens S G vs ds) (d' : Dens S G ws es) : Wks S io G (RZ.ItzT S.K p q) ((ds.zip es).map fun z => .tup [z.1, z.2]) := fun i B G' H σ r e R => by
  have hp : SqT S.K H p vs := ex_t R.hp.gx (ex_t e h)
  have hq : SqT S.K H q ws := ex_t R.hp.gx (ex_t e h')
  refine ⟨fun hl => ⟨vs, ws, hp, hq, by rw [List.length_map, List.length_zip] at hl; rw [d.length, d'.length]; omega⟩, fun x hx => ?_⟩
  rw [List.getElem?_map] at hx
  obtain ⟨⟨x1, x2⟩, hz, rfl⟩ := Option.map_eq_some_iff.mp hx
  obtain ⟨hz1, hz2⟩ := zip_get hz
  obtain ⟨v, h1, h2⟩ := d.get hz1
  obtain ⟨w, k1, k2⟩ := d'.get hz2
  refine ⟨⟨vs, ws, v, w, hp, hq, h1, k1⟩, fun y H' hy => ?_⟩
  obtain ⟨T, x, y', rfl, hT, rfl, hx', hy'⟩ := hy
  have e1 := hx' vs hp
  have e2 := hy' ws hq
  rw [h1] at e1
  rw [k1] at e2
  cases e1
  cases e2
  have gT := R.hp.gx.free hT
  have en : Ex G' (upd G' T (.tup [v, w])) := Ex.new gT
  exact ⟨_, en, R.fresh hT (fun _ e => by cases e), .tup (SqT.of upd_same) (.cons (h2.mono (e.trans en)) (.cons (k2.mono (e.trans en)) .nil))⟩

theorem i_zip (hX : XOk S N sc g k E X) {p1 tpos : Pos} {elts : List Expr} {kk : Nat} (gr : sc.names.lookup ("zip" : Str) = some .globalImplicit) (mr : S.mg "zip" = none) (ha : PE X a (tV S io B E false ca)) (hb : PE X b (tV S io B E false cb)) (ns : noStar a = true) (nb : noStar b = true) :
    PI X (.Tuple elts kk tpos) (.Call (.Name "zip" p1) [a, b] [] pos) (tI S io B E (.zip ca cb)) := by
  refine PI.imp (RZ.pi_zipA (gl_of hX gr) (by rw [hX.em]; exact mr) (pa_cons ha (pa_cons hb pa_nil (starEach_cons nb)) (starEach_cons ns)) (starEach_cons ns) (starEach_any (by show (noStar b && true) = true; rw [nb]; rfl))) fun σ H Q h => ?_
  obtain ⟨r, G, R, h⟩ := h
  simp only [evI] at h
  refine ⟨r, G, R, (Post.bind h).imp fun v r1 G1 e1 h2 u H1 R1 w1 => ⟨r1, G1, R1, (Post.bind h2).imp fun w r2 G2 e2 h3 u2 H2 R2 w2 => ?_⟩⟩
  split at h3
  · rename_i x r3 q1
    split at h3
    · rename_i y r4 q2
      obtain ⟨G3, e3, R3, d3⟩ := fz_ok R2 (w1.keep e2) q1
      obtain ⟨G4, e4, R4, d4⟩ := fz_ok R3 (w2.keep e3) q2
      split at h3
      · cases d3 with
        | tup a1 a2 =>
          cases d4 with
          | tup b1 b2 =>
            rw [hX.eK]
            exact ⟨_, _, _, _, rfl, .inr ⟨ex_t R4.hp.gx (ex_t e4 a1), ex_t R4.hp.gx b1, h3 G4 (e3.trans e4) _ H2 R4 (wk_zipT (ex_t e4 a1) b1 (a2.mono e4) b2)⟩⟩
      · cases d3 with
        | lst a1 a2 =>
          cases d4 with
          | lst b1 b2 =>
            rw [hX.eK]
            exact ⟨_, _, _, _, rfl, .inl ⟨SqL.of (R4.hp.gx _ _ (e4 _ _ a1)), SqL.of (R4.hp.gx _ _ b1), h3 G4 (e3.trans e4) _ H2 R4 (wk_zipL (e4 _ _ a1) b1 (a2.mono e4) b2)⟩⟩
      · exact h3.elim
    · exact h3.elim
  · exact h3.elim

/-! ### targets -/
/-- what a store may change -/
def Only (is : List Nat) (σ σ' : L2.St) : Prop := σ'.length = σ.length ∧ ∀ j, j ∉ is → σ'[j]? = σ[j]?
theorem Only.refl (is : List Nat) (σ : L2.St) : Only is σ σ := ⟨rfl, fun _ _ => rfl⟩
theorem Only.trans {is js : List Nat} {σ σ' σ2 : L2.St} (h : Only is σ σ') (h' : Only js σ' σ2) : Only (is ++ js) σ σ2 := ⟨h'.1.trans h.1, fun j hj => by
  rw [List.mem_append, not_or] at hj
  rw [h'.2 j hj.2, h.2 j hj.1]⟩
def tG (S : Cfg) (io : Nat → Option Addr) (B : Hp) (E : XK) (t : Tg) : TG := fun v σ H Q => ∃ r G d, Rep S io B G σ H r ∧ Den S G v d ∧ Post S B E G (stT t d r) fun _ r' G' => ∀ σ' H', Rep S io B G' σ' H' r' → Only t.names σ σ' → Q σ' H'
def tGs (S : Cfg) (io : Nat → Option Addr) (B : Hp) (E : XK) (t : Tgs) : TGs := fun v σ H Q => ∃ r G d, Rep S io B G σ H r ∧ Dens S G v d ∧ Post S B E G (stTs t d r) fun _ r' G' => ∀ σ' H', Rep S io B G' σ' H' r' → Only t.names σ σ' → Q σ' H'
theorem PG.imp {X : Cx} {tg : Expr} {t t' : TG} (h : PG X tg t) (i : ∀ v σ H Q, t' v σ H Q → t v σ H Q) : PG X tg t' := ⟨fun pins s σ H v u Q I r q => h.run pins s σ H v u Q I r (i v σ H Q q)⟩
theorem PGs.imp {X : Cx} {tg : List Expr} {t t' : TGs} (h : PGs X tg t) (i : ∀ v σ H Q, t' v σ H Q → t v σ H Q) : PGs X tg t' := ⟨fun pins s σ H v u Q I r q => h.run pins s σ H v u Q I r (i v σ H Q q)⟩
theorem assignEach_cons {e : Expr} {es : List Expr} {env : PySem.Env} (h : noStar e = true) : assignEach (e :: es) env = (false, assign e env) :: assignEach es env := by
  cases e <;> first | rfl | cases h
theorem assignEach_none {env : PySem.Env} : ∀ {es : List Expr}, es.all noStar = true → (assignEach es env).findIdx? (·.1) = none ∧ (assignEach es env).length = es.length
  | [], _ => ⟨rfl, rfl⟩
  | e :: es, h => by
    obtain ⟨h1, h2⟩ := Bool.and_eq_true_iff.mp (show (noStar e && es.all noStar) = true from h)
    obtain ⟨i1, i2⟩ := assignEach_none (env := env) h2
    rw [assignEach_cons h1]
    exact ⟨by simp [List.findIdx?_cons, i1], by simp [i2]⟩
theorem s_nm (hX : XOk S N sc g k E X) {i : Nat} {x : Str} (hN : N[i]? = some x) (hl : Loc sc x) (hf : X.fn x = true ∨ sc.names.lookup x = some .local) : PG X (.Name x pos) (tG S io B E (.nm i)) := by
  refine PG.imp (pg_name (i := i) (by rw [hX.eN]; exact hX.nd) (by rw [hX.eN]; exact hN) (by rw [hX.eS]; exact hl) (by rw [hX.eS]; exact hf)) fun v σ H Q h => ?_
  obtain ⟨r, G, d, R, dn, h⟩ := h
  simp only [stT] at h
  split at h
  · rename_i r1 q
    refine h G (Ex.refl G) _ H (R.store q (.inl ⟨d, rfl, dn⟩)) ⟨List.length_set .., fun j hj => ?_⟩
    rw [List.getElem?_set_ne]
    intro e
    exact hj (by rw [← e]; exact List.mem_singleton.mpr rfl)
  · exact h.elim
theorem sub_assign {o i : Expr} {env : PySem.Env} {v : Value} (h : notSlice i = true) : assign (.Subscript o i pos) env v = (do
      let ov ← holding [v] (eval o env)
      let iv ← holding [v, ov] (eval i env)
      standAt pos
      holding [v, ov, iv] (setItem ov iv v)
      release [v, ov, iv] []) := by
  cases i <;> first | rfl | cases h
theorem s_sub {i : Nat} (h1 : PE X e (tV S io B E false (.var i))) (ha : PE X a (tV S io B E false ca)) (ns : notSlice a = true) : PG X (.Subscript e a pos) (tG S io B E (.sub i ca)) := by
  refine PG.imp (pg_sub h1 ha set_list (fun v => sub_assign ns)) fun v σ H Q h => ?_
  obtain ⟨r, G, d, R, dn, h⟩ := h
  simp only [stT] at h
  split at h
  · exact h.elim
  · rename_i l0 q0
    refine ⟨r, G, R, ?_⟩
    rw [mli_var q0]
    intro G0 e0 u0 H0 R0 w0
    refine ⟨r, G0, R0, (Post.bind (Post.mono h e0)).imp fun w r1 G1 e1 h2 u H1 R1 w1 => ?_⟩
    obtain ⟨n, rfl, h3⟩ := Post.int R1 w1 h2
    split at h3
    · rename_i l q1
      split at h3
      · rename_i j q2
        obtain ⟨p, ws, z⟩ := mli_at R1 q1
        have w0 : σ[i]? = some (some u0) := w0
        have q3 := z.at_
        rw [w0] at q3
        cases q3
        obtain ⟨p2, vs2, a1, a2, a3, R3⟩ := R1.mutate (es := l.set j d) (ws := ws.set j v) q1 (z.r.set j (dn.mono (e0.trans e1)))
        rw [w0] at a1
        cases a1
        rw [z.h] at a2
        cases a2
        exact ⟨_, _, n, j, rfl, rfl, z.h, by rw [z.r.length]; exact q2, h3 G1 (Ex.refl G1) σ _ R3 (Only.refl _ _)⟩
      · exact h3.elim
    · exact h3.elim
theorem ss_nil : PGs X [] (tGs S io B E .nil) := PGs.imp pgs_nil fun v σ H Q h => by
  obtain ⟨r, G, d, R, dn, h⟩ := h
  cases d with
  | nil =>
    cases dn
    simp only [stTs] at h
    exact ⟨rfl, h G (Ex.refl G) σ H R (Only.refl _ _)⟩
  | cons x xs =>
    simp only [stTs] at h
    exact h.elim
theorem ss_cons {t : Tg} {ts : Tgs} (h1 : PG X e (tG S io B E t)) (h2 : PGs X es (tGs S io B E ts)) (ns : noStar e = true) : PGs X (e :: es) (tGs S io B E (.cons t ts)) := by
  refine PGs.imp (pgs_cons h1 h2 (by rw [assignEach_cons ns]; rfl)) fun v σ H Q h => ?_
  obtain ⟨r, G, d, R, dn, h⟩ := h
  cases d with
  | nil =>
    simp only [stTs] at h
    exact h.elim
  | cons x xs =>
    cases dn with
    | cons d1 d2 =>
      simp only [stTs] at h
      refine ⟨_, _, rfl, r, G, x, R, d1, (Post.bind h).imp fun _ r1 G1 e1 h3 σ1 H1 R1 o1 => ?_⟩
      exact ⟨r1, G1, xs, R1, d2.mono e1, h3.imp fun _ r2 G2 e2 h4 σ2 H2 R2 o2 => h4 σ2 H2 R2 (o1.trans o2)⟩
theorem s_tup (hX : XOk S N sc g k E X) {kk : Nat} {ts : Tgs} (h : PGs X es (tGs S io B E ts)) (ns : es.all noStar = true) (hl : es.length = ts.length) : PG X (.Tuple es kk pos) (tG S io B E (.tup ts)) := by
  refine PG.imp (pg_tup (n := es.length) hX.calm h (assignEach_none ns).2 (assignEach_none ns).1) fun v σ H Q h => ?_
  obtain ⟨r, G, d, R, dn, h⟩ := h
  simp only [stT] at h
  split at h
  · rename_i xs
    split at h
    · rename_i hx
      cases dn with
      | tup a1 a2 =>
        exact ⟨_, _, rfl, by rw [hX.eK]; exact ex_t R.hp.gx a1, by rw [a2.length, hx, hl], r, G, xs, R, a2, h⟩
    · exact h.elim
  · exact h.elim
end
end EvO

set_option Elab.async false
set_option linter.all false
set_option maxRecDepth 10000
/-! A11: comprehensions. -/
namespace EvO
open PySem PySem.Spec L2

section
variable {S : Cfg} {io : Nat → Option Addr} {B G H : Hp} {E : XK} {X : Cx} {N : List Str} {sc : Scope} {g : Bool} {k : Nat} {a b c e tg : Expr} {ca cb cc ce : C} {pos : Pos} {f : Bool} {es : List Expr} {cs : Cs} {σ σ' : L2.St} {r : Env} {Q : VK} {u : V} {d : D} {D : Addr} {vs ws : List V}

/-- a list of nobody's stands by -/
theorem Rep.stand (R : Rep S io B G σ H r) (h : H D = some (.lst vs)) (hg : G D = none) (n : NotOwn σ r D) : Rep S io (upd B D (.lst vs)) G σ H r := by
  refine ⟨⟨R.hp.gx, fun a o e => ?_, fun a => ?_, R.hp.tabs, R.hp.gt, fun a ps e => ?_⟩, R.len, fun i s hi => ?_, R.inj⟩
  · by_cases ha : a = D
    · subst ha
      rw [upd_same] at e
      rw [h]
      exact e
    · rw [upd_ne ha] at e
      exact R.hp.bx a o e
  · by_cases ha : a = D
    · exact .inr (by rw [ha]; exact hg)
    · rw [upd_ne ha]
      exact R.hp.dj a
  · by_cases ha : a = D
    · subst ha
      rw [upd_same] at e
      cases e
    · rw [upd_ne ha] at e
      exact R.hp.bt a ps e
  · have q := R.slot i s hi
    have go : ∀ {p ws ds}, s.isM = true → MutAt S B G H σ i p ws ds → MutAt S (upd B D (.lst vs)) G H σ i p ws ds := fun {p ws ds} m z => ⟨z.at_, z.h, z.g, by
      rw [upd_ne (fun e => n i s hi m (by rw [← e]; exact z.at_))]
      exact z.b, z.r⟩
    cases s with
    | no => trivial
    | dat d => exact q
    | own ds =>
      obtain ⟨p, vs, z⟩ := q
      exact ⟨p, vs, go rfl z⟩
    | io ds =>
      obtain ⟨p, vs, e1, z⟩ := q
      exact ⟨p, vs, e1, go rfl z⟩
theorem Rep.unstand (R : Rep S io (upd B D (.lst vs)) G σ H r) (hb : B D = none) : Rep S io B G σ H r ∧ H D = some (.lst vs) ∧ G D = none ∧ NotOwn σ r D := by
  have ex : Ex B (upd B D (.lst vs)) := Ex.new hb
  refine ⟨⟨R.hp.wk ex, R.len, fun i s hi => ?_, R.inj⟩, R.hp.bx D _ upd_same, ?_, fun i s hi m e => ?_⟩
  · have q := R.slot i s hi
    have go : ∀ {p ws ds}, MutAt S (upd B D (.lst vs)) G H σ i p ws ds → MutAt S B G H σ i p ws ds := fun {p ws ds} z => ⟨z.at_, z.h, z.g, ex.free z.b, z.r⟩
    cases s with
    | no => trivial
    | dat d => exact q
    | own ds =>
      obtain ⟨p, vs, z⟩ := q
      exact ⟨p, vs, go z⟩
    | io ds =>
      obtain ⟨p, vs, e1, z⟩ := q
      exact ⟨p, vs, e1, go z⟩
  · rcases R.hp.dj D with q | q
    · rw [upd_same] at q
      cases q
    · exact q
  · obtain ⟨p, ws, ds, z, _⟩ := (R.slot i s hi).mut m
    have e2 := z.at_
    rw [e] at e2
    cases e2
    have q := z.b
    rw [upd_same] at q
    cases q
/-- a list of nobody's changes -/
theorem Rep.setN (R : Rep S io B G σ H r) (h : H D = some (.lst vs)) (hg : G D = none) (hb : B D = none) (n : NotOwn σ r D) : Rep S io B G σ (upd H D (.lst ws)) r :=
  R.to (Ex.refl G) (R.hp.mutL h hg hb) fun i s p hi m e _ hp _ => by
    rw [upd_ne (fun z => n i s hi m (by rw [← z]; exact e))]
    exact ⟨rfl, hp⟩
/-- the slots that are told agree -/
theorem Rep.agree (R : Rep S io B G σ H r) (hl : σ'.length = σ.length) (h : ∀ (i : Nat) (s : Slot), r[i]? = some s → s ≠ .no → σ'[i]? = σ[i]?) : Rep S io B G σ' H r := by
  refine ⟨R.hp, by rw [hl]; exact R.len, fun i s hi => ?_, fun i j s t p ne hi m hj m' e1 e2 => ?_⟩
  · have q := R.slot i s hi
    cases s with
    | no => trivial
    | dat d =>
      obtain ⟨v, h1, h2⟩ := q
      exact ⟨v, by rw [h i _ hi (fun e => by cases e)]; exact h1, h2⟩
    | own ds =>
      obtain ⟨p, vs, z⟩ := q
      exact ⟨p, vs, by rw [h i _ hi (fun e => by cases e)]; exact z.at_, z.h, z.g, z.b, z.r⟩
    | io ds =>
      obtain ⟨p, vs, e1, z⟩ := q
      exact ⟨p, vs, e1, by rw [h i _ hi (fun e => by cases e)]; exact z.at_, z.h, z.g, z.b, z.r⟩
  · rw [h i s hi (fun e => by subst e; cases m)] at e1
    rw [h j t hj (fun e => by subst e; cases m')] at e2
    exact R.inj i j s t p ne hi m hj m' e1 e2
theorem notOwn_agree (n : NotOwn σ r D) (h : ∀ (i : Nat) (s : Slot), r[i]? = some s → s ≠ .no → σ'[i]? = σ[i]?) : NotOwn σ' r D := fun i s hi m e => by
  rw [h i s hi (fun z => by subst z; cases m)] at e
  exact n i s hi m e
theorem wipeE_get {i : Nat} {s : Slot} : ∀ {is : List Nat}, (wipeE r is)[i]? = some s → s ≠ .no → i ∉ is ∧ r[i]? = some s
  | [], h, _ => ⟨by simp, h⟩
  | j :: is, h, n => by
    unfold wipeE at h
    rcases getElem?_set_cases h with ⟨_, e, _⟩ | ⟨ne, h⟩
    · exact (n e).elim
    · obtain ⟨h1, h2⟩ := wipeE_get h n
      exact ⟨by rw [List.mem_cons, not_or]; exact ⟨ne, h1⟩, h2⟩
theorem wipe_get {i : Nat} : ∀ {is : List Nat}, i ∉ is → (L2.wipe σ is)[i]? = σ[i]?
  | [], _ => rfl
  | j :: is, h => by
    rw [List.mem_cons, not_or] at h
    unfold L2.wipe
    rw [List.getElem?_set_ne (fun e => h.1 e.symm)]
    exact wipe_get h.2
theorem wipeE_len : ∀ (is : List Nat), (wipeE r is).length = r.length
  | [] => rfl
  | _ :: is => by
    unfold wipeE
    rw [List.length_set, wipeE_len is]
theorem wipe_at {i : Nat} : ∀ {is : List Nat}, i ∈ is → i < σ.length → (L2.wipe σ is)[i]? = some none
  | j :: is, h, hl => by
    unfold L2.wipe
    by_cases e : j = i
    · subst e
      rw [List.getElem?_set_self (by rw [wipe_length]; exact hl)]
    · rw [List.getElem?_set_ne e]
      exact wipe_at (List.mem_of_ne_of_mem (fun z => e z.symm) h) hl
theorem wipe_only {is : List Nat} (h : σ'.length = σ.length) (e : ∀ j, j ∉ is → σ'[j]? = σ[j]?) : L2.wipe σ' is = L2.wipe σ is := by
  apply List.ext_getElem?
  intro i
  by_cases hi : i ∈ is
  · by_cases hl : i < σ.length
    · rw [wipe_at hi hl, wipe_at hi (by omega)]
    · rw [List.getElem?_eq_none (by rw [wipe_length]; omega), List.getElem?_eq_none (by rw [wipe_length]; omega)]
  · rw [wipe_get hi, wipe_get hi, e i hi]
theorem wipe_wipe (is : List Nat) : L2.wipe (L2.wipe σ is) is = L2.wipe σ is := wipe_only (wipe_length σ is) fun j hj => wipe_get hj

/-- no error in a comprehension -/
def E0 : XK := fun _ _ _ => False
theorem Post.nox {α : Type} {B B' : Hp} {E E' : XK} {x : Out α} {Q : α → Env → Hp → Prop} (h : Post S B E G x.nox Q) : Post S B' E' G x Q := by
  cases x with
  | ok a r => exact h
  | err c v => exact h.elim
  | bad => exact h.elim
theorem PG.ex {X : Cx} {tg : Expr} {ι : Type} {t : ι → TG} (h : ∀ i, PG X tg (t i)) : PG X tg fun v σ H Q => ∃ i, t i v σ H Q := ⟨fun pins s σ H v u Q I r ⟨i, q⟩ => (h i).run pins s σ H v u Q I r q⟩
theorem PE.ex {X : Cx} {e : Expr} {ι : Type} {t : ι → TE} (h : ∀ i, PE X e (t i)) : PE X e fun σ H Q => ∃ i, t i σ H Q := ⟨fun pins s σ H Q I ⟨i, q⟩ => (h i).run pins s σ H Q I q⟩
theorem PTs.ex {X : Cx} {e : List Expr} {ι : Type} {t : ι → TT} (h : ∀ i, PTs X e (t i)) : PTs X e fun σ H Q => ∃ i, t i σ H Q := ⟨fun pins s σ H Q I ⟨i, q⟩ => (h i).run pins s σ H Q I q⟩
theorem PTs.imp {X : Cx} {e : List Expr} {t t' : TT} (h : PTs X e t) (i : ∀ σ H Q, t' σ H Q → t σ H Q) : PTs X e t' := ⟨fun pins s σ H Q I q => h.run pins s σ H Q I (i σ H Q q)⟩
def tTs (S : Cfg) (io : Nat → Option Addr) (B : Hp) (E : XK) (cs : Cs) : TT := fun σ H Q => ∃ r G, Rep S io B G σ H r ∧ Post S B E G (evTs cs r) fun b r G' => ∀ H', Rep S io B G' σ H' r → Q b H'
theorem ts_nil : PTs X [] (tTs S io B E .nil) := PTs.imp pts_nil fun σ H Q h => by
  obtain ⟨r, G, R, h⟩ := h
  simp only [evTs] at h
  exact h G (Ex.refl G) H R
theorem ts_one (h1 : PT X e (tT S io B E ce)) : PTs X [e] (tTs S io B E (.cons ce .nil)) := PTs.imp (pts_one h1) fun σ H Q h => by
  obtain ⟨r, G, R, h⟩ := h
  simp only [evTs] at h
  refine tT_of R h fun k r1 G1 H1 e1 R1 h2 => ?_
  cases k with
  | true => exact h2 G1 (Ex.refl G1) H1 R1
  | false => exact h2 G1 (Ex.refl G1) H1 R1
/-- what must hold of a comprehension's own context -/
theorem xok_blk (hX : XOk S N sc g k E X) {scope : Scope} (s : Shared) (H : Hp) (C : Addr) (cl : List (Str × Addr)) (fp : List Addr) : XOk S N (relS scope sc) g k E0 (X.blk s H scope (PySem.compEnvC scope cl C X.env) fp) where
  eP := hX.eP
  ew := hX.ew
  eK := hX.eK
  em := hX.em
  eb := hX.eb
  eN := hX.eN
  nd := hX.nd
  eS := by rw [← hX.eS]; rfl
  calm := hX.calm
  room := hX.room
  tk := LamX.takes0
  own := PassesOwn.never
  gd := hX.gd
/-- a turn of the comprehension -/
def turnC (t : Tg) (ifs : Cs) (elt : C) (ws : List Nat) (x : EvO.D) (r2 : Env) : Out (Option EvO.D) := (stT t x (wipeE r2 ws)).nox.bind fun _ r3 => (evTs ifs r3).nox.bind fun k r4 =>
  if k then (evE elt r4).nox.bind fun v r5 => match fz r5 v with
    | some (y, r6) => .ok (some y) r6
    | none => .bad
  else .ok none r4
theorem ev_comp (t : Tg) (it : EvO.It) (ifs : Cs) (elt : C) (ws : List Nat) (r : Env) : evE (.comp t it ifs elt ws) r = (evI it r).bind fun ds r1 => (loopC (turnC t ifs elt ws) ds [] r1).bind fun l r7 => .ok (.d (.lst l)) (wipeE r7 ws) := by
  simp only [evE]
  rfl
/-- the reading of a comprehension -/
def tComp (S : Cfg) (io : Nat → Option Addr) (B : Hp) (E : XK) (t : Tg) (it : EvO.It) (ci : Cs) (ce : C) (ws : List Nat) : TE :=
  tLc (tI S io B E it) (fun v σ H Q => ∃ B' : Hp, tG S io B' E0 t v σ H Q) (fun σ H Q => ∃ B' : Hp, tTs S io B' E0 ci σ H Q) (fun σ H Q => ∃ B' : Hp, tV S io B' E0 false ce σ H Q) ws
theorem comp_imp {t : Tg} {it : EvO.It} {ci : Cs} {ws : List Nat} (ht : ∀ i ∈ t.names, i ∈ ws) (h : tV S io B E true (.comp t it ci ce ws) σ H Q) : tComp S io B E t it ci ce ws σ H Q := by
  obtain ⟨r, G, R, h⟩ := h
  rw [ev_comp] at h
  refine ⟨r, G, R, (Post.bind h).imp fun ds r1 G1 e1 h2 J H1 R1 wk D hD => ?_⟩
  refine ⟨fun i m H => ∃ acc r2 G2 vs, Ex G1 G2 ∧ Rep S io B G2 (L2.wipe σ ws) H (wipeE r2 ws) ∧ H D = some (.lst vs) ∧ G2 D = none ∧ B D = none ∧ NotOwn (L2.wipe σ ws) (wipeE r2 ws) D ∧ Dens S G2 vs acc ∧ m = ds.length - i ∧
    Post S B E G2 ((loopC (turnC t ci ce ws) (ds.drop i) acc r2).bind fun l r7 => .ok (.d (.lst l)) (wipeE r7 ws)) (QV S io B σ true Q), ?_, ?_⟩
  · have R2 := (R1.wipe ws).newH (o := .lst []) hD
    exact ⟨ds.length - 0, [], r1, G1, [], Ex.refl G1, R2, upd_same, R1.hp.gx.free hD, R1.hp.bx.free hD, (R1.wipe ws).notOwn hD, .nil, rfl, h2⟩
  · rintro i m H ⟨acc, r2, G2, vs, e2, R2, hD2, gD, bD, nD, dn, hm, hp⟩
    obtain ⟨wk1, wk2⟩ := wk i B G2 H (L2.wipe σ ws) (wipeE r2 ws) e2 R2
    by_cases hi : i < ds.length
    · obtain ⟨go, yl⟩ := wk2 ds[i] (List.getElem?_eq_getElem hi)
      refine .inr ⟨go, fun H' => ∃ acc r2 G2 vs, Ex G1 G2 ∧ Rep S io B G2 (L2.wipe σ ws) H' (wipeE r2 ws) ∧ H' D = some (.lst vs) ∧ G2 D = none ∧ B D = none ∧ NotOwn (L2.wipe σ ws) (wipeE r2 ws) D ∧ Dens S G2 vs acc ∧
        Post S B E G2 ((loopC (turnC t ci ce ws) (ds.drop (i + 1)) acc r2).bind fun l r7 => .ok (.d (.lst l)) (wipeE r7 ws)) (QV S io B σ true Q), ?_, ?_⟩
      · rintro H' ⟨acc, r2, G2, vs, a1, a2, a3, a4, a5, a6, a7, a8⟩
        exact ⟨ds.length - (i + 1), by omega, acc, r2, G2, vs, a1, a2, a3, a4, a5, a6, a7, rfl, a8⟩
      · intro x H' hy
        rw [List.drop_eq_getElem_cons hi] at hp
        have hp : Post S B E G2 (((turnC t ci ce ws ds[i] r2).bind fun o r1 => match o with
          | some y => if acc.length < big then loopC (turnC t ci ce ws) (ds.drop (i + 1)) (acc ++ [y]) r1 else .bad
          | none => loopC (turnC t ci ce ws) (ds.drop (i + 1)) acc r1).bind fun l r7 => .ok (.d (.lst l)) (wipeE r7 ws)) (QV S io B σ true Q) := hp
        unfold turnC at hp
        simp only [Out.bind_assoc] at hp
        -- the list stands by
        have R2' := R2.stand hD2 gD nD
        obtain ⟨G3, e3, R3, d3⟩ := ((wk i (upd B D (.lst vs)) G2 H (L2.wipe σ ws) (wipeE r2 ws) e2 R2').2 ds[i] (List.getElem?_eq_getElem hi)).2 x H' hy
        refine ⟨upd B D (.lst vs), wipeE r2 ws, G3, ds[i], R3, d3, (Post.nox (Post.bind (Post.mono hp e3))).imp fun _ r3 G4 e4 hp2 σ2 H2 R4 o4 => ?_⟩
        have wσ : L2.wipe σ2 ws = L2.wipe σ ws := by
          rw [← wipe_wipe (σ := σ) ws]
          exact wipe_only o4.1 fun j hj => o4.2 j fun z => hj (ht j z)
        refine ⟨wσ, upd B D (.lst vs), r3, G4, R4, (Post.nox (Post.bind hp2)).imp fun b r4 G5 e5 hp3 H3 R5 => ?_⟩
        have nw : ∀ {r : Env}, NotOwn σ2 r D → NotOwn (L2.wipe σ ws) (wipeE r ws) D := fun {r} n j s hj m e => by
          have ns : s ≠ .no := fun z => by subst z; cases m
          obtain ⟨a1, a2⟩ := wipeE_get hj ns
          rw [← wσ, wipe_get a1] at e
          exact n j s a2 m e
        cases b with
        | false =>
          obtain ⟨R5', hD5, gD5, nD5⟩ := R5.unstand bD
          have R6 := R5'.wipe ws
          rw [wσ] at R6
          exact ⟨acc, r4, G5, vs, e2.trans (e3.trans (e4.trans e5)), R6, hD5, gD5, bD, nw nD5, dn.mono (e3.trans (e4.trans e5)), hp3⟩
        | true =>
          have hp3 : Post S B E G5 ((evE ce r4).nox.bind fun v r5 => (match fz r5 v with
            | some (y, r6) => Out.ok (some y) r6
            | none => .bad).bind fun o r1 => (match o with
          | some y => if acc.length < big then loopC (turnC t ci ce ws) (ds.drop (i + 1)) (acc ++ [y]) r1 else .bad
          | none => loopC (turnC t ci ce ws) (ds.drop (i + 1)) acc r1).bind fun l r7 => .ok (.d (.lst l)) (wipeE r7 ws)) (QV S io B σ true Q) := by
            rw [if_pos rfl] at hp3
            simp only [Out.bind_assoc] at hp3
            exact hp3
          refine ⟨upd B D (.lst vs), r4, G5, R5, (Post.nox (Post.bind hp3)).imp fun v r5 G6 e6 hp4 y H4 R6 w6 => ?_⟩
          cases q : fz r5 v with
          | none =>
            rw [q] at hp4
            exact hp4.elim
          | some z =>
            obtain ⟨y', r6⟩ := z
            rw [q] at hp4
            simp only [Out.bind_ok] at hp4
            split at hp4
            · rename_i hlen
              obtain ⟨G7, e7, R7, d7⟩ := fz_ok R6 w6 q
              obtain ⟨R7', hD7, gD7, nD7⟩ := R7.unstand bD
              have R8 := R7'.wipe ws
              rw [wσ] at R8
              have ee := e3.trans (e4.trans (e5.trans (e6.trans e7)))
              exact ⟨vs, hD7, by rw [dn.length, ← big_eq]; exact hlen, acc ++ [y'], r6, G7, vs ++ [y], e2.trans ee, R8.setN hD7 gD7 bD (nw nD7), upd_same, gD7, bD, nw nD7, (dn.mono ee).append (.cons d7 .nil), Post.mono hp4 e7⟩
            · exact hp4.elim
    · have hi : ds.length ≤ i := by omega
      refine .inl ⟨wk1 hi, ?_⟩
      rw [List.drop_eq_nil_of_le hi] at hp
      have hp : Post S B E G2 (Out.ok (Val.d (.lst acc)) (wipeE r2 ws)) (QV S io B σ true Q) := hp
      have ag : ∀ (i : Nat) (s : Slot), (wipeE r2 ws)[i]? = some s → s ≠ .no → σ[i]? = (L2.wipe σ ws)[i]? := fun i s h n => (wipe_get (wipeE_get h n).1).symm
      exact hp G2 (Ex.refl G2) _ H (R2.agree (wipe_length σ ws).symm ag) (.inl ⟨rfl, D, vs, acc, rfl, rfl, hD2, gD, bD, notOwn_agree nD ag, dn⟩)
theorem g_comp (hX : XOk S N sc g k E X) {iter : Expr} {ifs : List Expr} {scope : Scope} {own : List (Str × Nat)} {it : EvO.It} {t : Tg} {ci : Cs} (ok : blkC N sc scope own = true) (hi : PI X tg iter (tI S io B E it)) (ht : ∀ i ∈ t.names, i ∈ own.map (·.2)) (hset : notSet iter = true)
    (h1 : ∀ (X' : Cx) (B' : Hp), XOk S N (relS scope sc) g k E0 X' → X'.fn = (fun x => scope.names.lookup x == some .cell) → PG X' tg (tG S io B' E0 t))
    (h2 : ∀ (X' : Cx) (B' : Hp), XOk S N (relS scope sc) g k E0 X' → PTs X' ifs (tTs S io B' E0 ci))
    (h3 : ∀ (X' : Cx) (B' : Hp), XOk S N (relS scope sc) g k E0 X' → PE X' e (tV S io B' E0 false ce)) :
    PE X (.ListComp e [⟨tg, iter, ifs, 0⟩] scope pos) (tV S io B E true (.comp t it ci ce (own.map (·.2)))) := by
  exact PE.imp (pe_lc hX.calm (by rw [hX.eN]; exact hX.nd) hi (blkOk_by (by rw [hX.eN, hX.eS]; exact ok)) (fun s H C cl fp => PG.ex fun B' => h1 _ B' (xok_blk hX s H C cl fp) rfl) (fun s H C cl fp => PTs.ex fun B' => h2 _ B' (xok_blk hX s H C cl fp)) (fun s H C cl fp => PE.ex fun B' => h3 _ B' (xok_blk hX s H C cl fp)) (fun x => folded_ok hset x)) fun σ H Q h => comp_imp ht h
end
end EvO

set_option Elab.async false
set_option linter.all false
set_option maxRecDepth 10000
/-! A12: statements. -/
namespace EvO
open PySem PySem.Spec L2

section
variable {S : Cfg} {io : Nat → Option Addr} {B G G' H : Hp} {E : XK} {X : Cx} {N : List Str} {sc : Scope} {g : Bool} {k M : Nat} {a b c e tg : Expr} {ca cb cc ce : C} {pos : Pos} {f fr : Bool} {es : List Expr} {cs : Cs} {σ σ' : L2.St} {r : Env} {Q : VK} {u : V} {d : D} {D : Ends}

theorem PostS.mono {x : SOut} (h : PostS S io B E fr G D x) (e : Ex G G') : PostS S io B E fr G' D x := by
  cases x with
  | nx r => exact fun G2 q => h G2 (e.trans q)
  | brk r => exact fun G2 q => h G2 (e.trans q)
  | cont r => exact fun G2 q => h G2 (e.trans q)
  | ret d r => exact fun G2 q => h G2 (e.trans q)
  | err c v => exact ErrP.mono h e
  | bad => exact h
theorem PostS.thn {α : Type} {x : Out α} {f : α → Env → SOut} (h : PostS S io B E fr G D (x.thn f)) : Post S B E G x fun a r G' => PostS S io B E fr G' D (f a r) := by
  cases x with
  | ok a r => exact fun G' q => PostS.mono (x := f a r) h q
  | err c v => exact h
  | bad => exact h.elim

/-! ### forms -/
def notComp : Expr → Bool
  | .ListComp .. | .SetComp .. | .DictComp .. => false
  | _ => true
theorem swaps_no {e : Expr} {t : Option Expr} {l : Nat} {env : PySem.Env} (h : notComp e = true) : swapsWith e t l env = pure false := by
  cases e <;> first | rfl | cases h
theorem swapsSole_no {e t : Expr} {l : Nat} {env : PySem.Env} (h : notComp e = true) : swapsWithSole [t] e l env = pure false := swaps_no h
def isName : Expr → Bool
  | .Name .. => true
  | _ => false
def notTup : Expr → Bool
  | .Tuple .. => false
  | _ => true
/-- no stores in another order -/
def noSwap (t e : Expr) : Bool := notTup e || (match t with
  | .Tuple ts _ _ => ts.any fun x => !isName x
  | .List .. => false
  | _ => true)
theorem noSwap_ok {t e : Expr} {env : PySem.Env} (h : noSwap t e = true) : swappedStores [t] e env = pure none := by
  have go : ∀ (ts vs : List Expr), (ts.any fun x => !isName x) = true → (do
      if !(ts.length == 2 || ts.length == 3) || vs.length != ts.length || env.blockKind != .function then return none
      if vs.any fun | .Starred .. => true | _ => false then return none
      let line := (ts.head?.map (·.pos.line)).getD 0
      let names := ts.filterMap fun
        | .Name id pos => if env.kindOf id == some .local && pos.line == line then some id else none
        | _ => none
      if names.length != ts.length || names.eraseDups.length != names.length then return none
      if vs.all (foldedForSure 8) then return none
      if vs.all (constantsAlone 8) then unsupported "assign.tuple-of-constant-expressions:order-of-the-stores"
      return some names : Sem (Option (List Str))) = pure none := fun ts vs hn => by
    have lt : ∀ (f : Expr → Option Str), (∀ x, isName x = false → f x = none) → (ts.filterMap f).length ≠ ts.length := fun f hf z => by
      obtain ⟨x, hx, hx2⟩ := List.any_eq_true.mp hn
      have hx2 : isName x = false := by simpa using hx2
      have key : ∀ l : List Expr, x ∈ l → (l.filterMap f).length < l.length := fun l => by
        induction l with
        | nil =>
          intro h
          cases h
        | cons y l ih =>
          intro h
          rcases List.mem_cons.mp h with rfl | h
          · rw [List.filterMap_cons_none (hf _ hx2)]
            exact Nat.lt_succ_of_le (List.length_filterMap_le f l)
          · have := ih h
            cases q : f y with
            | none =>
              rw [List.filterMap_cons_none q, List.length_cons]
              omega
            | some z =>
              rw [List.filterMap_cons_some q, List.length_cons, List.length_cons]
              omega
      have := key ts hx
      omega
    by_cases h1 : (!(ts.length == 2 || ts.length == 3) || vs.length != ts.length || env.blockKind != .function) = true
    · rw [if_pos h1]
    · rw [if_neg h1]
      by_cases h2 : (vs.any fun | .Starred .. => true | _ => false) = true
      · simp only [h2, if_true]
      · rw [Bool.not_eq_true] at h2
        simp only [h2, Bool.false_eq_true, if_false]
        rw [if_pos]
        · rw [Bool.or_eq_true]
          refine .inl (bne_iff_ne.mpr (lt _ fun x hx => ?_))
          cases x <;> first | rfl | cases hx
  cases e with
  | Tuple vs k p =>
    cases t with
    | Tuple ts k2 p2 =>
      have hn : (ts.any fun x => !isName x) = true := by
        rcases Bool.or_eq_true_iff.mp h with h | h
        · cases h
        · exact h
      exact go ts vs hn
    | List ts p2 =>
      rcases Bool.or_eq_true_iff.mp h with h | h <;> cases h
    | _ => rfl
  | _ => cases t <;> rfl

theorem fz_okN {v : Val} {x : EvO.D} {r1 : Env} (R : Rep S io B G σ H r) (h : VOk S B G H σ r false u v) (e : fz r v = some (x, r1)) : ∃ G1, Ex G G1 ∧ Rep S io B G1 σ H r1 ∧ Den S G1 u x ∧ ∀ p, G p = none → NotOwn σ r p → G1 p = none ∧ NotOwn σ r1 p := by
  cases v with
  | d y =>
    cases e
    rcases h with ⟨z, _⟩ | ⟨_, h⟩
    · cases z
    · exact ⟨G, Ex.refl G, R, h, fun p a b => ⟨a, b⟩⟩
  | s i =>
    have h : σ[i]? = some (some u) := h
    unfold fz at e
    cases q : r[i]? with
    | none =>
      simp only [q] at e
      cases e
    | some s =>
      simp only [q] at e
      cases s with
      | dat y =>
        cases e
        obtain ⟨v, h1, h2⟩ := R.slot i _ q
        rw [h] at h1
        cases h1
        exact ⟨G, Ex.refl G, R, h2, fun p a b => ⟨a, b⟩⟩
      | own l =>
        cases e
        obtain ⟨p, vs, h1, _, e1, h2, h3⟩ := R.freeze q
        rw [h] at h1
        cases h1
        refine ⟨_, e1, h3, h2, fun p2 a b => ⟨?_, fun j s hj m z => ?_⟩⟩
        · rw [upd_ne (fun z => b i _ q rfl (by rw [z]; exact h))]
          exact a
        · rcases getElem?_set_cases hj with ⟨_, rfl, _⟩ | ⟨_, hj⟩
          · cases m
          · exact b j s hj m z
      | _ => cases e

/-! ### small statements -/
theorem st_asg {t : Tg} (ha : PE X a (tV S io B E false ca)) (ht : PG X tg (tG S io B E t)) (nc : notComp a = true) (nsw : noSwap tg a = true) (ns : noStar tg = true) : PS X (.Assign [tg] a pos) (tS S io B E fr M (.asg t ca)) := by
  refine PS.imp (ps_asg ha ht (swapsSole_no nc) (noSwap_ok nsw) (by rw [assignEach_cons ns]; rfl)) fun D σ H h => ?_
  obtain ⟨r, G, R, h⟩ := h
  simp only [evS] at h
  refine ⟨r, G, R, (PostS.thn h).imp fun v r1 G1 e1 h2 u H1 R1 w1 => ?_⟩
  split at h2
  · rename_i x r2 q
    obtain ⟨G2, e2, R2, d2⟩ := fz_ok R1 w1 q
    exact ⟨r2, G2, x, R2, d2, (PostS.thn (PostS.mono h2 e2)).imp fun _ r3 G3 e3 h3 σ' H' R3 _ => h3 G3 (Ex.refl G3) σ' H' R3⟩
  · exact h2.elim
/-- what a slot is to get -/
theorem slot_ok {v : Val} {s : Slot} {r1 : Env} (R : Rep S io B G σ H r) (w : VOk S B G H σ r ca.isF u v) (h : slotOf ca v r = .ok s r1) :
    ∃ G1, Ex G G1 ∧ Rep S io B G1 σ H r1 ∧ ((∃ d, s = .dat d ∧ Den S G1 u d) ∨ (∃ p vs ds, s = .own ds ∧ u = .ref p ∧ H p = some (.lst vs) ∧ G1 p = none ∧ B p = none ∧ NotOwn σ r1 p ∧ Dens S G1 vs ds)) := by
  have dat : ∀ {v : Val}, VOk S B G H σ r false u v → slotD v r = .ok s r1 → ∃ G1, Ex G G1 ∧ Rep S io B G1 σ H r1 ∧ ∃ d, s = .dat d ∧ Den S G1 u d := fun {v} w h => by
    unfold slotD at h
    cases q : fz r v with
    | none =>
      rw [q] at h
      cases h
    | some z =>
      obtain ⟨x, r2⟩ := z
      rw [q] at h
      cases h
      obtain ⟨G1, e1, R1, d1⟩ := fz_ok R w q
      exact ⟨G1, e1, R1, x, rfl, d1⟩
  have lift : (∃ G1, Ex G G1 ∧ Rep S io B G1 σ H r1 ∧ ∃ d, s = .dat d ∧ Den S G1 u d) → ∃ G1, Ex G G1 ∧ Rep S io B G1 σ H r1 ∧ ((∃ d, s = .dat d ∧ Den S G1 u d) ∨ (∃ p vs ds, s = .own ds ∧ u = .ref p ∧ H p = some (.lst vs) ∧ G1 p = none ∧ B p = none ∧ NotOwn σ r1 p ∧ Dens S G1 vs ds)) :=
    fun ⟨G1, a, b, c⟩ => ⟨G1, a, b, .inl c⟩
  cases hf : ca.isF with
  | false =>
    rw [hf] at w
    refine lift (dat w ?_)
    unfold slotOf at h
    rw [hf] at h
    exact h
  | true =>
    rw [hf] at w
    unfold slotOf at h
    rw [hf] at h
    cases v with
    | s i => exact lift (dat (v := .s i) w h)
    | d x =>
      rcases w with ⟨_, p, vs, ds, rfl, rfl, a1, a2, a3, a4, a5⟩ | ⟨a1, a2⟩
      · cases h
        exact ⟨G, Ex.refl G, R, .inr ⟨p, vs, ds, rfl, rfl, a1, a2, a3, a4, a5⟩⟩
      · refine lift (dat (v := .d x) (.of a2) ?_)
        cases x with
        | lst l => exact (a1 rfl l rfl).elim
        | _ => exact h
theorem slot_cases (ca : C) (v : Val) (r : Env) : (∃ s r1, slotOf ca v r = .ok s r1) ∨ slotOf ca v r = .bad := by
  have dat : (∃ s r1, slotD v r = .ok s r1) ∨ slotD v r = .bad := by
    unfold slotD
    cases fz r v with
    | none => exact .inr rfl
    | some z => exact .inl ⟨_, _, rfl⟩
  unfold slotOf
  split
  · exact .inl ⟨_, _, rfl⟩
  · exact dat
theorem set_imp {i : Nat} (D : Ends) (h : tS S io B E fr M (.set i ca) D σ H) : tAsg (tV S io B E ca.isF ca) (gName i) D σ H := by
  obtain ⟨r, G, R, h⟩ := h
  simp only [evS] at h
  refine ⟨r, G, R, (PostS.thn h).imp fun v r1 G1 e1 h2 u H1 R1 w1 => ?_⟩
  rcases slot_cases ca v r1 with ⟨s, r2, q⟩ | q
  · rw [q] at h2
    simp only [Out.thn_ok] at h2
    obtain ⟨G2, e2, R2, hs⟩ := slot_ok R1 w1 q
    split at h2
    · rename_i r3 q2
      exact h2 G2 e2 _ H1 (R2.store q2 hs)
    · exact h2.elim
  · rw [q] at h2
    exact h2.elim
theorem st_set (hX : XOk S N sc g k E X) {i : Nat} {x : Str} {p1 : Pos} (ha : PE X a (tV S io B E ca.isF ca)) (hN : N[i]? = some x) (hl : Loc sc x) (hf : X.fn x = true ∨ sc.names.lookup x = some .local) (nc : notComp a = true) : PS X (.Assign [.Name x p1] a pos) (tS S io B E fr M (.set i ca)) :=
  PS.imp (ps_set (i := i) (by rw [hX.eN]; exact hX.nd) (by rw [hX.eN]; exact hN) (by rw [hX.eS]; exact hl) ha (swaps_no nc) (by rw [hX.eS]; exact hf)) fun D σ H h => set_imp D h
theorem st_ex (ha : PE X a (tV S io B E false ca)) (nc : notComp a = true) : PS X (.Expr a pos) (tS S io B E fr M (.ex ca)) :=
  PS.imp (ps_expr ha (swaps_no nc)) fun D σ H h => by
    obtain ⟨r, G, R, h⟩ := h
    simp only [evS] at h
    exact ⟨r, G, R, (PostS.thn h).imp fun v r1 G1 e1 h2 u H1 R1 w1 => h2 G1 (Ex.refl G1) σ H1 R1⟩
theorem st_doc {x : Str} {j : Nat} {p1 : Pos} : PS X (.Expr (.Constant (.str x) j p1) pos) (tS S io B E fr M .pass) :=
  PS.imp ps_doc fun D σ H h => by
    obtain ⟨r, G, R, h⟩ := h
    simp only [evS] at h
    exact h G (Ex.refl G) σ H R
theorem st_pass : PS X (.Pass pos) (tS S io B E fr M .pass) := PS.imp ps_pass fun D σ H h => by
  obtain ⟨r, G, R, h⟩ := h
  simp only [evS] at h
  exact h G (Ex.refl G) σ H R
theorem st_brk : PS X (.Break pos) (tS S io B E fr M .brk) := PS.imp ps_break fun D σ H h => by
  obtain ⟨r, G, R, h⟩ := h
  simp only [evS] at h
  exact h G (Ex.refl G) σ H R
theorem st_cont : PS X (.Continue pos) (tS S io B E fr M .cont) := PS.imp ps_continue fun D σ H h => by
  obtain ⟨r, G, R, h⟩ := h
  simp only [evS] at h
  exact h G (Ex.refl G) σ H R
theorem st_ret (ha : PE X a (tV S io B E false ca)) : PS X (.Return (some a) pos) (tS S io B E false M (.ret ca)) := PS.imp (ps_ret ha) fun D σ H h => by
  obtain ⟨r, G, R, h⟩ := h
  simp only [evS] at h
  refine ⟨r, G, R, (PostS.thn h).imp fun v r1 G1 e1 h2 u H1 R1 w1 => ?_⟩
  split at h2
  · rename_i x r2 q
    obtain ⟨G2, e2, R2, d2⟩ := fz_ok R1 w1 q
    exact h2 G2 e2 u σ H1 R2 d2
  · exact h2.elim
theorem st_retN : PS X (.Return none pos) (tS S io B E false M (.ret (.cst .non))) := PS.imp ps_retN fun D σ H h => by
  obtain ⟨r, G, R, h⟩ := h
  simp only [evS, evE, Out.thn_ok, fz] at h
  exact h G (Ex.refl G) .non σ H R .non
theorem st_retF (ha : PE X a (tV S io B E ca.isF ca)) : PS X (.Return (some a) pos) (tS S io B E true M (.retF ca)) := PS.imp (ps_ret ha) fun D σ H h => by
  obtain ⟨r, G, R, h⟩ := h
  simp only [evS] at h
  refine ⟨r, G, R, (PostS.thn h).imp fun v r1 G1 e1 h2 u H1 R1 w1 => ?_⟩
  split at h2
  · rename_i i
    split at h2
    · rename_i l q
      obtain ⟨p, vs, z⟩ := R1.slot i _ q
      have w1 : σ[i]? = some (some u) := w1
      have q2 := z.at_
      rw [w1] at q2
      cases q2
      exact h2 G1 (Ex.refl G1) _ σ H1 R1 (.inl ⟨p, vs, l, rfl, rfl, z.h, z.g, z.b, z.r⟩)
    · exact h2.elim
  · rename_i l
    split at h2
    · rename_i hf
      rw [hf] at w1
      rcases w1 with ⟨_, p, vs, ds, e, rfl, a1, a2, a3, a4, a5⟩ | ⟨a1, a2⟩
      · cases e
        exact h2 G1 (Ex.refl G1) _ σ H1 R1 (.inl ⟨p, vs, _, rfl, rfl, a1, a2, a3, a5⟩)
      · exact (a1 rfl l rfl).elim
    · exact h2.elim
  · exact h2.elim

/-! ### blocks -/
theorem ss_nil' : PSs X [] (tSs S io B E fr M .nil) := PSs.imp pss_nil fun D σ H h => by
  obtain ⟨r, G, R, h⟩ := h
  simp only [evSs] at h
  exact h G (Ex.refl G) σ H R
theorem ss_cons' {st : Stmt} {rest : List Stmt} {s : Sm} {ss : Sms} (h1 : PS X st (tS S io B E fr M s)) (h2 : PSs X rest (tSs S io B E fr M ss)) : PSs X (st :: rest) (tSs S io B E fr M (.cons s ss)) := PSs.imp (pss_cons h1 h2) fun D σ H h => by
  obtain ⟨r, G, R, h⟩ := h
  simp only [evSs] at h
  refine ⟨r, G, R, ?_⟩
  cases q : evS M s r with
  | nx r1 =>
    rw [q] at h
    exact fun G1 e1 σ1 H1 R1 => ⟨r1, G1, R1, PostS.mono (x := evSs M ss r1) h e1⟩
  | ret d r1 =>
    rw [q] at h
    exact h
  | brk r1 =>
    rw [q] at h
    exact h
  | cont r1 =>
    rw [q] at h
    exact h
  | err c v =>
    rw [q] at h
    exact h
  | bad =>
    rw [q] at h
    exact h
theorem st_if {x y : List Stmt} {sx sy : Sms} (ha : PT X a (tT S io B E ca)) (hx : PSs X x (tSs S io B E fr M sx)) (hy : PSs X y (tSs S io B E fr M sy)) : PS X (.If a x y pos) (tS S io B E fr M (.ifs ca sx sy)) := PS.imp (ps_if ha hx hy) fun D σ H h => by
  obtain ⟨r, G, R, h⟩ := h
  simp only [evS] at h
  refine ⟨r, G, R, ?_⟩
  have h : PostS S io B E fr G D (((evE ca r).bind truth).thn fun k r2 => if k then evSs M sx r2 else evSs M sy r2) := by
    cases q : evE ca r <;> rw [q] at h <;> exact h
  refine (PostS.thn h).imp fun b r1 G1 e1 h2 H1 R1 => ?_
  cases b with
  | true => exact ⟨r1, G1, R1, h2⟩
  | false => exact ⟨r1, G1, R1, h2⟩
theorem st_while (hX : XOk S N sc g k E X) {x : List Stmt} {sx : Sms} (ha : PT X a (tT S io B E ca)) (hx : PSs X x (tSs S io B E fr M sx)) : PS X (.While a x [] pos) (tS S io B E fr M (.whl ca sx)) := PS.imp (ps_while hX.own ha hx) fun D σ H h => by
  obtain ⟨r, G, R, h⟩ := h
  simp only [evS] at h
  refine ⟨fun m σ H => ∃ r G, Rep S io B G σ H r ∧ PostS S io B E fr G D (loopW (fun r => (evE ca r).bind truth) (evSs M sx) m r), ⟨M, r, G, R, h⟩, fun m σ H h => ?_⟩
  obtain ⟨r, G, R, h⟩ := h
  cases m with
  | zero => exact h.elim
  | succ m =>
    unfold loopW at h
    refine ⟨r, G, R, (PostS.thn h).imp fun b r1 G1 e1 h2 H1 R1 => ?_⟩
    cases b with
    | false => exact h2 G1 (Ex.refl G1) σ H1 R1
    | true =>
      rw [if_pos rfl]
      rw [if_pos rfl] at h2
      refine ⟨fun σ' H' => ∃ r G, Rep S io B G σ' H' r ∧ PostS S io B E fr G D (loopW (fun r => (evE ca r).bind truth) (evSs M sx) m r), fun σ' H' z => ⟨m, Nat.lt_succ_self m, z⟩, r1, G1, R1, ?_⟩
      cases q : evSs M sx r1 with
      | nx r2 =>
        rw [q] at h2
        exact fun G2 e2 σ2 H2 R2 => ⟨r2, G2, R2, PostS.mono h2 e2⟩
      | cont r2 =>
        rw [q] at h2
        exact fun G2 e2 σ2 H2 R2 => ⟨r2, G2, R2, PostS.mono h2 e2⟩
      | brk r2 =>
        rw [q] at h2
        exact h2
      | ret d r2 =>
        rw [q] at h2
        exact h2
      | err c v =>
        rw [q] at h2
        exact h2
      | bad =>
        rw [q] at h2
        exact h2
theorem st_for (hX : XOk S N sc g k E X) {x : List Stmt} {sx : Sms} {it : EvO.It} {t : Tg} (hi : PI X tg a (tI S io B E it)) (ht : PG X tg (tG S io B E t)) (hx : PSs X x (tSs S io B E fr M sx)) (ns : notSet a = true) : PS X (.For tg a x [] pos) (tS S io B E fr M (.for_ t it sx)) := PS.imp (ps_for hX.own hX.calm hi ht hx (fun v => folded_ok ns v)) fun D σ H h => by
  obtain ⟨r, G, R, h⟩ := h
  simp only [evS] at h
  refine ⟨r, G, R, (PostS.thn h).imp fun ds r1 G1 e1 h2 J H1 R1 wk => ?_⟩
  refine ⟨fun i m σ H => ∃ r G, Ex G1 G ∧ Rep S io B G σ H r ∧ m = ds.length - i ∧ PostS S io B E fr G D (loopF (fun d r2 => (stT t d r2).thn fun _ r3 => evSs M sx r3) (ds.drop i) r), ⟨ds.length - 0, r1, G1, Ex.refl G1, R1, rfl, h2⟩, fun i m σ H hw => ?_⟩
  obtain ⟨r2, G2, e2, R2, hm, h3⟩ := hw
  obtain ⟨wk1, wk2⟩ := wk i B G2 H σ r2 e2 R2
  by_cases hi : i < ds.length
  · obtain ⟨go, yl⟩ := wk2 ds[i] (List.getElem?_eq_getElem hi)
    refine .inr ⟨go, fun σ' H' => ∃ r G, Ex G1 G ∧ Rep S io B G σ' H' r ∧ PostS S io B E fr G D (loopF (fun d r2 => (stT t d r2).thn fun _ r3 => evSs M sx r3) (ds.drop (i + 1)) r), fun σ' H' ⟨r, G, z1, z2, z3⟩ => ⟨ds.length - (i + 1), by omega, r, G, z1, z2, rfl, z3⟩, fun v H' hy => ?_⟩
    obtain ⟨G3, e3, R3, d3⟩ := yl v H' hy
    rw [List.drop_eq_getElem_cons hi] at h3
    unfold loopF at h3
    refine ⟨r2, G3, ds[i], R3, d3, ?_⟩
    have h3 := PostS.mono h3 e3
    cases q : stT t ds[i] r2 with
    | ok z r3 =>
      rw [q] at h3
      simp only [Out.thn_ok] at h3
      intro G4 e4 σ4 H4 R4 _
      refine ⟨r3, G4, R4, ?_⟩
      cases q2 : evSs M sx r3 with
      | nx r5 =>
        rw [q2] at h3
        exact fun G5 e5 σ5 H5 R5 => ⟨r5, G5, e2.trans (e3.trans (e4.trans e5)), R5, PostS.mono h3 (e4.trans e5)⟩
      | cont r5 =>
        rw [q2] at h3
        exact fun G5 e5 σ5 H5 R5 => ⟨r5, G5, e2.trans (e3.trans (e4.trans e5)), R5, PostS.mono h3 (e4.trans e5)⟩
      | brk r5 =>
        rw [q2] at h3
        exact fun G5 e5 => h3 G5 (e4.trans e5)
      | ret d r5 =>
        rw [q2] at h3
        exact fun G5 e5 => h3 G5 (e4.trans e5)
      | err c v =>
        rw [q2] at h3
        exact ErrP.mono h3 e4
      | bad =>
        rw [q2] at h3
        exact h3
    | err c v =>
      rw [q] at h3
      exact h3
    | bad =>
      rw [q] at h3
      exact h3
  · have hi : ds.length ≤ i := by omega
    rw [List.drop_eq_nil_of_le hi] at h3
    exact .inl ⟨wk1 hi, h3 G2 (Ex.refl G2) σ H R2⟩
end
end EvO

set_option Elab.async false
set_option linter.all false
set_option maxRecDepth 10000
/-! A13: names stored in pairs, comprehensions stored, raising. -/
namespace EvO
open PySem PySem.Spec L2

section
variable {S : Cfg} {io : Nat → Option Addr} {B G G' H : Hp} {E : XK} {X : Cx} {N : List Str} {sc : Scope} {g : Bool} {k M : Nat} {a b c e tg : Expr} {ca cb cc ce : C} {pos : Pos} {f fr : Bool} {es : List Expr} {cs : Cs} {σ σ' : L2.St} {r : Env} {Q : VK} {u : V} {d : D} {D : Ends}

def notStarAll (es : List Expr) : Bool := es.all noStar
theorem swaps_par {env : PySem.Env} {x y : Str} {px py pt pt2 : Pos} {kt k2 : Nat} (hsc : env.scope = sc) (hk : decide (sc.kind = .function) = true) (hx : sc.names.lookup x = some .local) (hy : sc.names.lookup y = some .local) (hxy : (x == y) = false) (hl : (py.line == px.line) = true) (na : noStar a = true) (nb : noStar b = true)
    (h1 : ([a, b].all (foldedForSure 8)) = false) (h2 : ([a, b].all (constantsAlone 8)) = false) : swappedStores [.Tuple [.Name x px, .Name y py] kt pt] (.Tuple [a, b] k2 pt2) env = pure (some [x, y]) := by
  have kx : env.kindOf x = some .local := by unfold PySem.Env.kindOf; rw [hsc]; exact hx
  have ky : env.kindOf y = some .local := by unfold PySem.Env.kindOf; rw [hsc]; exact hy
  have kk : env.blockKind = .function := by
    unfold PySem.Env.blockKind
    rw [hsc, of_decide_eq_true hk]
    rfl
  have st : ([a, b].any fun | .Starred .. => true | _ => false) = false := by
    cases a <;> first
      | exact absurd na Bool.false_ne_true
      | (cases b <;> first | exact absurd nb Bool.false_ne_true | rfl)
  unfold swappedStores
  show (do
      if !(([Expr.Name x px, Expr.Name y py] : List Expr).length == 2 || ([Expr.Name x px, Expr.Name y py] : List Expr).length == 3) || ([a, b] : List Expr).length != ([Expr.Name x px, Expr.Name y py] : List Expr).length || env.blockKind != .function then return none
      if [a, b].any fun | .Starred .. => true | _ => false then return none
      let line := (([Expr.Name x px, Expr.Name y py] : List Expr).head?.map (·.pos.line)).getD 0
      let names := ([Expr.Name x px, Expr.Name y py] : List Expr).filterMap fun
        | .Name id pos => if env.kindOf id == some .local && pos.line == line then some id else none
        | _ => none
      if names.length != ([Expr.Name x px, Expr.Name y py] : List Expr).length || names.eraseDups.length != names.length then return none
      if [a, b].all (foldedForSure 8) then return none
      if [a, b].all (constantsAlone 8) then unsupported "assign.tuple-of-constant-expressions:order-of-the-stores"
      return some names : Sem (Option (List Str))) = pure (some [x, y])
  rw [kk, st, h1, h2]
  have e1 : (([Expr.Name x px, Expr.Name y py] : List Expr).filterMap fun
        | .Name id pos => if env.kindOf id == some .local && pos.line == (([Expr.Name x px, Expr.Name y py] : List Expr).head?.map (·.pos.line)).getD 0 then some id else none
        | _ => none) = [x, y] := by
    have l1 : ((some NameKind.local == some NameKind.local) && px.line == (([Expr.Name x px, Expr.Name y py] : List Expr).head?.map (·.pos.line)).getD 0) = true := by
      show ((some NameKind.local == some NameKind.local) && px.line == px.line) = true
      simp
    have l2 : ((some NameKind.local == some NameKind.local) && py.line == (([Expr.Name x px, Expr.Name y py] : List Expr).head?.map (·.pos.line)).getD 0) = true := by
      show ((some NameKind.local == some NameKind.local) && py.line == px.line) = true
      rw [hl]
      simp
    rw [List.filterMap_cons_some (b := x) (by dsimp only; rw [kx, l1]; rfl), List.filterMap_cons_some (b := y) (by dsimp only; rw [ky, l2]; rfl)]
    rfl
  dsimp only
  rw [e1]
  have e2 : ([x, y] : List Str).eraseDups.length = 2 := by
    have hxy' : (y == x) = false := by rw [Bool.beq_comm] <;> exact hxy
    simp [List.eraseDups_cons, hxy', hxy]
  simp [e2]
/-- x, y = a, b -/
theorem st_par (hX : XOk S N sc g k E X) {i j : Nat} {x y : Str} {px py pt pt2 : Pos} {kt k2 : Nat} (ha : PE X a (tV S io B E ca.isF ca)) (hb : ∀ B', PE X b (tV S io B' E cb.isF cb)) (hNi : N[i]? = some x) (hNj : N[j]? = some y) (hij : (i == j) = false) (hk : decide (sc.kind = .function) = true) (hx : sc.names.lookup x = some .local) (hy : sc.names.lookup y = some .local) (hxy : (x == y) = false) (hl : (py.line == px.line) = true) (na : noStar a = true) (nb : noStar b = true)
    (h1 : ([a, b].all (foldedForSure 8)) = false) (h2 : ([a, b].all (constantsAlone 8)) = false) : PS X (.Assign [.Tuple [.Name x px, .Name y py] kt pt] (.Tuple [a, b] k2 pt2) pos) (tS S io B E fr M (.par i j ca cb)) := by
  have hij : i ≠ j := beq_eq_false_iff_ne.mp hij
  refine PS.imp (ps_par (i := i) (j := j) hX.calm (by rw [hX.eN]; exact hX.nd) (by rw [hX.eN]; exact hNi) (by rw [hX.eN]; exact hNj) hij (by rw [hX.eS]; exact hx) (by rw [hX.eS]; exact hy) (pa_cons ha (pa_cons (PE.ex hb) pa_nil (starEach_cons nb)) (starEach_cons na)) (swaps_par hX.eS hk hx hy hxy hl na nb h1 h2)) fun D σ H h => ?_
  obtain ⟨r, G, R, h⟩ := h
  simp only [evS] at h
  refine ⟨r, G, R, (PostS.thn h).imp fun v r1 G1 e1 h2 u H1 R1 w1 => ?_⟩
  have h3 := PostS.thn h2
  -- the second, the first's new list standing by
  have fin : ∀ {r3 : Env} {G2 : Hp} {s t : Slot} {u2 : V} {H2 : Hp}, Rep S io B G2 σ H2 r3 → PostS S io B E fr G2 D (match setS r3 i s with
      | some r5 => (match setS r5 j t with | some r6 => .nx r6 | none => .bad)
      | none => .bad) → ((∃ d, s = .dat d ∧ Den S G2 u d) ∨ (∃ p vs ds, s = .own ds ∧ u = .ref p ∧ H2 p = some (.lst vs) ∧ G2 p = none ∧ B p = none ∧ NotOwn σ r3 p ∧ Dens S G2 vs ds)) →
      ((∃ d, t = .dat d ∧ Den S G2 u2 d) ∨ (∃ p vs ds, t = .own ds ∧ u2 = .ref p ∧ H2 p = some (.lst vs) ∧ G2 p = none ∧ B p = none ∧ NotOwn σ r3 p ∧ (∀ q ds', s = .own ds' → u = .ref q → q ≠ p) ∧ Dens S G2 vs ds)) → D.nx ((σ.set i (some u)).set j (some u2)) H2 := fun {r3 G2 s t u2 H2} R h hs ht => by
    cases q : setS r3 i s with
    | none =>
      rw [q] at h
      exact h.elim
    | some r5 =>
      rw [q] at h
      dsimp only at h
      cases q2 : setS r5 j t with
      | none =>
        rw [q2] at h
        exact h.elim
      | some r6 =>
        rw [q2] at h
        have R5 := R.store q hs
        refine h G2 (Ex.refl G2) _ H2 (R5.store q2 ?_)
        rcases ht with ht | ⟨p, vs, ds, rfl, rfl, a1, a2, a3, a4, a5, a6⟩
        · exact .inl ht
        · refine .inr ⟨p, vs, ds, rfl, rfl, a1, a2, a3, fun l z hl m el => ?_, a6⟩
          obtain ⟨rfl, hlt⟩ := setS_eq q
          rcases getElem?_set_cases hl with ⟨rfl, rfl, _⟩ | ⟨nl, hl⟩
          · rw [List.getElem?_set_self (by rw [← R.len]; exact hlt)] at el
            have el := Option.some.inj (Option.some.inj el)
            rcases hs with ⟨d, rfl, _⟩ | ⟨p', vs', ds', rfl, e', _⟩
            · cases m
            · rw [e'] at el
              cases el
              exact a5 _ _ rfl e' rfl
          · rw [List.getElem?_set_ne (fun z => nl z.symm)] at el
            exact a4 l z hl m el
  have plain : (¬ ∃ l, ca.isF = true ∧ v = .d (.lst l)) → tCons (fun σ H Q => ∃ B', tV S io B' E cb.isF cb σ H Q) tNil σ H1 fun xs H2 => ∃ v w, u :: xs = [v, w] ∧ D.nx ((σ.set i (some v)).set j (some w)) H2 := fun np => by
    have w0 : VOk S B G1 H1 σ r1 false u v := by
      cases hf : ca.isF with
      | false =>
        rw [hf] at w1
        exact w1
      | true =>
        rw [hf] at w1
        cases v with
        | s i => exact w1
        | d x =>
          rcases w1 with ⟨_, p, vs, ds, rfl, _⟩ | ⟨_, w1⟩
          · exact (np ⟨ds, hf, rfl⟩).elim
          · exact .of w1
    refine ⟨B, r1, G1, R1, h3.imp fun w r2 G2 e2 h4 u2 H2 R2 w2 => ?_⟩
    refine ⟨u, u2, rfl, ?_⟩
    have es : slotOf ca v r2 = slotD v r2 := by
      unfold slotOf
      split
      · rename_i l q1
        exact (np ⟨_, q1, rfl⟩).elim
      · rfl
    rw [es] at h4
    unfold slotD at h4
    cases q : fz r2 v with
    | none =>
      rw [q] at h4
      exact h4.elim
    | some z =>
      obtain ⟨x, r3⟩ := z
      rw [q] at h4
      simp only [Out.thn_ok] at h4
      obtain ⟨G3, e3, R3, d3, k3⟩ := fz_okN R2 (w0.keep e2) q
      have w3 : VOk S B G3 H2 σ r3 cb.isF u2 w := by
        cases w with
        | s i => exact w2
        | d y =>
          rcases w2 with ⟨z, p, vs, ds, rfl, rfl, a1, a2, a3, a4, a5⟩ | ⟨a1, a2⟩
          · obtain ⟨b1, b2⟩ := k3 p a2 a4
            exact .inl ⟨z, p, vs, ds, rfl, rfl, a1, b1, a3, b2, a5.mono e3⟩
          · exact .inr ⟨a1, a2.mono e3⟩
      rcases slot_cases cb w r3 with ⟨t, r4, q2⟩ | q2
      · rw [q2] at h4
        simp only [Out.thn_ok] at h4
        obtain ⟨G4, e4, R4, ht⟩ := slot_ok R3 w3 q2
        refine fin R4 (PostS.mono h4 (e3.trans e4)) (.inl ⟨x, rfl, d3.mono e4⟩) ?_
        rcases ht with ht | ⟨p, vs, ds, a0, a1, a2, a3, a4, a5, a6⟩
        · exact .inl ht
        · exact .inr ⟨p, vs, ds, a0, a1, a2, a3, a4, a5, (fun q ds' z => by cases z), a6⟩
      · rw [q2] at h4
        exact h4.elim
  by_cases np : ∃ l, ca.isF = true ∧ v = .d (.lst l)
  · obtain ⟨l, hf, rfl⟩ := np
    rw [hf] at w1
    rcases w1 with ⟨_, p, vs, ds, e, rfl, a1, a2, a3, a4, a5⟩ | ⟨a1, _⟩
    · cases e
      refine ⟨upd B p (.lst vs), r1, G1, R1.stand a1 a2 a4, ?_⟩
      have h3' : Post S (upd B p (.lst vs)) E G1 (evE cb r1) (fun w r2 G' => PostS S io B E fr G' D ((slotOf ca (.d (.lst l)) r2).thn fun s r3 => (slotOf cb w r3).thn fun u r4 => match setS r4 i s with
        | some r5 => (match setS r5 j u with
          | some r6 => .nx r6
          | none => .bad)
        | none => .bad)) := by
        cases q : evE cb r1 with
        | ok w r2 =>
          rw [q] at h3
          exact h3
        | err c v =>
          rw [q] at h3
          exact ErrP.wk h3 (Ex.new a3)
        | bad =>
          rw [q] at h3
          exact h3
      refine h3'.imp fun w r2 G2 e2 h4 u2 H2 R2 w2 => ⟨.ref p, u2, rfl, ?_⟩
      have es : slotOf ca (.d (.lst l)) r2 = .ok (.own l) r2 := by
        unfold slotOf
        rw [hf]
      rw [es] at h4
      simp only [Out.thn_ok] at h4
      rcases slot_cases cb w r2 with ⟨t, r4, q2⟩ | q2
      · rw [q2] at h4
        simp only [Out.thn_ok] at h4
        obtain ⟨G4, e4, R4, ht⟩ := slot_ok R2 w2 q2
        obtain ⟨R5, p5, g5, n5⟩ := R4.unstand a3
        refine fin R5 (PostS.mono h4 e4) (.inr ⟨p, vs, l, rfl, rfl, p5, g5, a3, n5, a5.mono (e2.trans e4)⟩) ?_
        rcases ht with ht | ⟨p2, vs2, ds2, b0, b1, b2, b3, b4, b5, b6⟩
        · exact .inl ht
        · have nb : p2 ≠ p := fun z => by
            rw [z, upd_same] at b4
            cases b4
          exact .inr ⟨p2, vs2, ds2, b0, b1, b2, b3, (Ex.new a3).free b4, b5, (fun q ds' _ e => by cases e; exact fun z => nb z.symm), b6⟩
      · rw [q2] at h4
        exact h4.elim
    · exact (a1 rfl l rfl).elim
  · exact plain np

/-! ### a comprehension stored -/
/-- is the store made inside of the comprehension? -/
def swB (sc : Scope) (y : Str) (py pos : Pos) (scope : Scope) : Bool := (sc.kind == .function || sc.kind.isAnnotationScope) && sc.names.lookup y == some .local && py.line == pos.line && !(scope.names.any fun (n, k) => n == y && (k == .local || k == .cell))
theorem swaps_lc (hsc : X.env.scope = sc) {y : Str} {py : Pos} {scope : Scope} {gens : List Comprehension} {l : Nat} : swapsWith (.ListComp e gens scope pos) (some (.Name y py)) l X.env = pure (swB sc y py pos scope) := by
  have h1 : (X.env.blockKind == .function) = (sc.kind == .function || sc.kind.isAnnotationScope) := by
    unfold PySem.Env.blockKind
    rw [hsc]
    cases sc.kind <;> rfl
  have h2 : X.env.kindOf y = sc.names.lookup y := by
    unfold PySem.Env.kindOf
    rw [hsc]
  show (pure (X.env.blockKind == .function && X.env.kindOf y == some .local && py.line == pos.line && !(scope.names.any fun (n, k) => n == y && (k == .local || k == .cell))) : Sem Bool) = _
  rw [h1, h2]
  rfl
theorem tAsg_imp {te te' : TE} {i : Nat} (h : ∀ Q, te σ H Q → te' σ H Q) : tAsg te (gName i) D σ H → tAsg te' (gName i) D σ H := fun q => h _ q
theorem st_setLc (hX : XOk S N sc g k E X) {iter : Expr} {ifs : List Expr} {scope : Scope} {own : List (Str × Nat)} {it : EvO.It} {t : Tg} {ci : Cs} {i : Nat} {y : Str} {py p2 : Pos} (ok : blkC N sc scope own = true) (hi : PI X tg iter (tI S io B E it)) (ht : ∀ i ∈ t.names, i ∈ own.map (·.2)) (hset : notSet iter = true)
    (h1 : ∀ (X' : Cx) (B' : Hp), XOk S N (relS scope sc) g k E0 X' → X'.fn = (fun x => scope.names.lookup x == some .cell) → PG X' tg (tG S io B' E0 t))
    (h2 : ∀ (X' : Cx) (B' : Hp), XOk S N (relS scope sc) g k E0 X' → PTs X' ifs (tTs S io B' E0 ci))
    (h3 : ∀ (X' : Cx) (B' : Hp), XOk S N (relS scope sc) g k E0 X' → PE X' e (tV S io B' E0 false ce))
    (hN : N[i]? = some y) (hl : sc.names.lookup y = some .local) :
    PS X (.Assign [.Name y py] (.ListComp e [⟨tg, iter, ifs, 0⟩] scope p2) pos) (tS S io B E fr M (.set i (.comp t it ci ce (own.map (·.2))))) := by
  cases hs : swB sc y py p2 scope with
  | true =>
    exact PS.imp (ps_setLc (i := i) hX.calm (by rw [hX.eN]; exact hX.nd) (by rw [hX.eN]; exact hN) (by rw [hX.eS]; exact hl) (by rw [swaps_lc hX.eS, hs]) hi (blkOk_by (by rw [hX.eN, hX.eS]; exact ok)) (fun s H C cl fp => PG.ex fun B' => h1 _ B' (xok_blk hX s H C cl fp) rfl) (fun s H C cl fp => PTs.ex fun B' => h2 _ B' (xok_blk hX s H C cl fp)) (fun s H C cl fp => PE.ex fun B' => h3 _ B' (xok_blk hX s H C cl fp)) (fun x => folded_ok hset x))
      fun D σ H h => tAsg_imp (fun Q q => comp_imp ht q) (set_imp D h)
  | false =>
    exact PS.imp (ps_set (i := i) (by rw [hX.eN]; exact hX.nd) (by rw [hX.eN]; exact hN) (by rw [hX.eS]; exact .inl hl) (g_comp hX ok hi ht hset h1 h2 h3) (by rw [swaps_lc hX.eS, hs]) (by rw [hX.eS]; exact .inr hl)) fun D σ H h => set_imp D h

/-! ### raising -/
/-- what a class of errors promises -/
def RaiseOk (S : Cfg) (X : Cx) (n : Str) : Prop := n ∈ S.cls ∧ ∃ sp : Sp, (∀ {e : Expr} {ta : TA} {p pos : Pos}, Gl X n → PA X [e] ta → noStar e = true → PMk X (.Call (.Name n p) [e] [] pos) (tMkO (S.cA n) sp [] ta)) ∧
  ∀ (u : V) (H1 : Hp) (Q : XK), (∀ d, H1 d = none → Q (.ref (S.cA n)) (some d) (upd H1 d (.xd [(("value" : Str), u)]))) → ∀ a, H1 a = none → sp (.ref a :: ([u] ++ [])) (upd H1 a (exo a (S.cA n) none))
    (fun v H2 => v = .non ∧ ∃ (d : Addr) (fs : List (Str × V)), H2 a = some (exo a (S.cA n) (some d)) ∧ H2 d = some (exd d fs) ∧ H1 d = none ∧ Q (.ref (S.cA n)) (some d) (upd (del H2 a) d (.xd fs))) (fun _ _ _ => False)
theorem PMk.imp {X : Cx} {e : Expr} {t t' : L2.St → Hp → XK → Prop} (h : PMk X e t) (i : ∀ σ H Q, t' σ H Q → t σ H Q) : PMk X e t' := fun pins s σ H Q I q => h pins s σ H Q I (i σ H Q q)
theorem st_raise (hX : XOk S N sc g k E X) {n : Str} {p1 p2 : Pos} (hR : RaiseOk S X n) (hg : sc.names.lookup n = some .globalImplicit) (ha : PE X a (tV S io B E false ca)) (na : noStar a = true) : PS X (.Raise (some (.Call (.Name n p1) [a] [] p2)) none pos) (tS S io B E fr M (.raise n ca)) :=
  by
  obtain ⟨hin, sp, mk, hsp⟩ := hR
  exact PS.imp (ps_raise hX.calm hX.tk (mk (gl_of hX hg) (pa_cons ha pa_nil (starEach_cons na)) na)) fun D σ H h => by
    obtain ⟨r, G, R, h⟩ := h
    simp only [evS] at h
    refine ⟨r, G, R, (PostS.thn h).imp fun v r1 G1 e1 h2 u H1 R1 w1 => ?_⟩
    split at h2
    · rename_i x r2 q
      obtain ⟨G2, e2, R2, d2⟩ := fz_ok R1 w1 q
      refine ⟨by simp, hsp u H1 _ fun d hd => ?_⟩
      have gd := R2.hp.gx.free hd
      exact h2 d u G2 _ hin e2 (R2.hp.newH hd) gd (R2.hp.bx.free hd) upd_same d2
    · exact h2.elim
end
end EvO

set_option Elab.async false
set_option linter.all false
set_option maxRecDepth 10000
/-! A14: error classes with an __init__ of their own. -/
namespace EvO
open PySem PySem.Spec L2

def oexB (K : PySem.W.Frag) (C : Addr) : Bool := (match K.lookup C with
  | some ⟨.type "type", _, .cls cd, sl⟩ => (match cd.mro, sl.toList with
    | .ref C' :: bm, [_, _, _, _, some (.builtin n), _] => C' == C && n == "ValueError.__new__" && cd.hasDict && !cd.hasDel && PySem.HandSPX.refsVE bm
    | _, _ => false)
  | _ => false) && (PySem.W.findIn K (.ref C) "__setattr__" == some (some (.builtin "object.__setattr__"))) && (PySem.W.subIn K (.ref C) (.type "BaseException") == some true) && (PySem.W.typeIn K (.ref C) == some (.type "type")) && PySem.W.keepIn K (.ref C)
theorem oexB_ok {K : PySem.W.Frag} {C : Addr} (h : oexB K C = true) : OexC K C := by
  unfold oexB at h
  rw [Bool.and_eq_true, Bool.and_eq_true, Bool.and_eq_true, Bool.and_eq_true] at h
  obtain ⟨⟨⟨⟨q, h2⟩, h3⟩, h4⟩, h5⟩ := h
  refine ⟨?_, beq_iff_eq.mp h2, beq_iff_eq.mp h3, beq_iff_eq.mp h4, h5⟩
  split at q
  · rename_i dd cd sl ho
    split at q
    · rename_i C' bm k0 k1 k2 k3 n k5 hm hs
      simp only [Bool.and_eq_true, beq_iff_eq, Bool.not_eq_true'] at q
      obtain ⟨⟨⟨⟨rfl, rfl⟩, hdict⟩, hdel⟩, ht⟩ := q
      obtain ⟨nm, bs, mro, ns, qn, hd, sn, sub, ab, col, del⟩ := cd
      dsimp only at hm hdel hdict
      subst hm hdel hdict
      have hsl : sl = #[k0, k1, k2, k3, some (.builtin "ValueError.__new__"), k5] := by
        obtain ⟨l⟩ := sl
        simp only at hs
        rw [hs]
      subst hsl
      exact ⟨nm, qn, ns, bs, bm, sn, sub, ab, col, dd, k0, k1, k2, k3, k5, ho, ht⟩
    · cases q
  · cases q
/-- an error class: what this layer wants of it -/
def excB (K : PySem.W.Frag) (C : Addr) : Bool :=
  (PySem.W.clsIn K C).isSome &&
  (PySem.W.findIn K (.ref C) "__getattribute__" == some (some (.builtin "BaseException.__getattribute__"))) &&
  (PySem.W.findIn K (.ref C) "__getattr__" == some none) &&
  (PySem.W.findIn K (.ref C) "__class__" == some (some (.builtin "object.__class__"))) &&
  (PySem.W.specialIn K (.builtin "object.__class__") "__get__" == some (some (.builtin "getset_descriptor.__get__"))) &&
  (PySem.W.takesIn K (.builtin "object.__class__") == some true) &&
  (PySem.W.mroIn K C (.type "object") == some true) &&
  PySem.W.hasDictIn K C &&
  (PySem.W.findIn K (.ref C) "value" == some none) &&
  ((["tuple", "int", "bool", "str", "list"] : List String).all fun T => PySem.W.kitOne K (.ref C) (.type T) == some false) &&
  ((["NoneType", "tuple", "int", "bool", "str", "list"] : List String).all fun T => PySem.W.kitOne K (.type T) (.ref C) == some false)
theorem excB_ok {K : PySem.W.Frag} {C : Addr} (h : excB K C = true) (o : OexC K C) : ExC K C := by
  unfold excB at h
  simp only [Bool.and_eq_true, beq_iff_eq, List.all_eq_true] at h
  obtain ⟨⟨⟨⟨⟨⟨⟨⟨⟨⟨h1, h2⟩, h3⟩, h4⟩, h5⟩, h6⟩, h7⟩, h8⟩, h9⟩, h10⟩, h11⟩ := h
  exact ⟨h1, h2, h3, o.exC, h4, h5, h6, h7, h8, h9, h10, h11⟩
/-- all of it; L: the class that a clause names; fI: the __init__ -/
def clsB (K : PySem.W.Frag) (cs : List Addr) (L fI : Addr) : Bool :=
  cs.all (fun C => oexB K C && excB K C && (PySem.W.findIn K (.ref C) "__init__" == some (some (.ref fI))) && (PySem.W.exmOne K (.ref C) (.ref L) == some true) && cs.all fun D => PySem.W.kitOne K (.ref D) (.ref C) == some (decide (D = C)))
    && (PySem.W.typeIn K (.ref fI) == some (.type "function")) &&
  (match PySem.W.findCls K (.type "ValueError") (.type "type") "__init__" with
    | some (.val (.builtin n)) => n == "ValueError.__init__"
    | _ => false)

section
variable {S : Cfg} {fI L : Addr} {name : Str} {params : Arguments} {body : List Stmt} {scope : Scope} {dV kV doc pm cdv ct oc : Value} {an od : Option Addr} {osl : Array (Option Value)} {qual : Str}
/-- the __init__ of the error classes -/
def spI (K : PySem.W.Frag) : Sp := fun vs H Q E => ∃ (a C : Addr) (y : V), vs = [.ref a, y] ∧ OexC K C ∧ PySem.W.findIn K (.ref C) "value" = some none ∧ H a = some (exo a C none) ∧ ∀ d, H d = none → d ≠ a → Q .non (upd (upd H d (exd d [(("value" : Str), y)])) a (exo a C (some d)))
theorem init_ok {P : Program} {w : World} {K : PySem.W.Frag} {mg : Str → Option Value} {base : Heap} {CX : CXT} {p1 p2 p3 p4 p5 p6 p7 p8 p9 p10 : Pos}
    (lk : K.lookup fI = some ⟨oc, od, .func (PySem.W.fnOf name qual params body scope dV kV doc pm an cdv ct), osl⟩) (hcd : PySem.W.codeIn K cdv qual = true) (F : FnScope ["self", "value"] ["self", "value"] scope)
    (hb : body = [.Expr (.Call (.Attribute (.Name "ValueError" p1) "__init__" p2) [.Name "self" p3, .Name "value" p4] [] p5) p6, .Assign [.Attribute (.Name "self" p7) "value" p8] (.Name "value" p9) p10])
    (hl : (p2.endLine == p5.line) = true) (hg : scope.names.lookup ("ValueError" : Str) = some .globalImplicit) (hm : mg "ValueError" = none) (vV : PySem.W.findCls K (.type "ValueError") (.type "type") "__init__" = some (.val (.builtin "ValueError.__init__"))) :
    FnOk P w K mg base CX 1 fI (PySem.W.fnOf name qual params body scope dV kV doc pm an cdv ct) ["self", "value"] (spI K) := by
  refine fn_of lk hcd F (fun vs H Q E ⟨a, C, y, e, _⟩ => by rw [e]; rfl) fun A outer s H vs Q E hr h => ?_
  obtain ⟨a, C, y, rfl, T, hno, ea, q⟩ := h
  have v0 : Vis scope "self" := by rcases F.par "self" (by simp) with z | z; exact .inl z; exact .inr (.inl z)
  have v1 : Vis scope "value" := by rcases F.par "value" (by simp) with z | z; exact .inl z; exact .inr (.inl z)
  subst hb
  have hc : ∀ env : PySem.Env, eval (.Call (.Attribute (.Name "ValueError" p1) "__init__" p2) [.Name "self" p3, .Name "value" p4] [] p5) env = (do
      let ov ← eval (.Name "ValueError" p1) env
      standAt p2.atName
      let (f, first) ← holding [ov] (getMethod ov "__init__" (do return (← importBound (.Name "ValueError" p1) env).getD true))
      callWith p5 f first (backTo p5 (starEach [.Name "self" p3, .Name "value" p4] env)) (backToKw p5 (keywordEach [] env))) := fun env => by
    show (do
      let ov ← eval (.Name "ValueError" p1) env
      standAt p2.atName
      methodCall (.Name "ValueError" p1) "__init__" p2 p5 env ov 2 (backTo p5 (starEach [.Name "self" p3, .Name "value" p4] env)) (backToKw p5 (keywordEach [] env))) = _
    unfold methodCall methodCallPos
    simp only [hl, Bool.or_true, if_true]
    rfl
  refine ⟨_, pss_cons (ps_expr (pe_veinit hg hm vV (pa_cons (pe_var (i := 0) rfl v0 (by decide) (by decide)) (pa_cons (pe_var (i := 1) rfl v1 (by decide) (by decide)) pa_nil)) (hc := hc _))) (pss_one (ps_ost (pe_var (i := 0) rfl v0 (by decide) (by decide)) (pe_var (i := 1) rfl v1 (by decide) (by decide)))), ?_⟩
  refine ⟨.ref a, rfl, y, rfl, a, C, [y], rfl, by simp, T, ea, ?_⟩
  refine ⟨y, rfl, .ref a, rfl, a, C, rfl, T, hno, .inl ⟨ea, fun dx n ne => ?_⟩⟩
  exact q dx n ne
theorem raise_ok {X : Cx} {N : List Str} {sc : Scope} {g : Bool} {k : Nat} {E : XK} {fd : FuncData} (hX : XOk S N sc g k E X) {n : Str} (hn : n ∈ S.cls) (T : OexC S.K (S.cA n)) (hv : PySem.W.findIn S.K (.ref (S.cA n)) "value" = some none) (iC : PySem.W.findIn S.K (.ref (S.cA n)) "__init__" = some (some (.ref fI))) (tI : PySem.W.typeIn S.K (.ref fI) = some (.type "function"))
    (F1 : FnOk S.P S.w S.K S.mg S.base (L2.CX S.P S.w) 1 fI fd ["self", "value"] (spI S.K)) (hb : Binds S.K fd ["self", "value"] []) (hm : S.mg n = some (.ref (S.cA n))) (hdb : (n == ("__debug__" : Str)) = false) (hk : 2 ≤ k) : RaiseOk S X n := by
  have e1 := hX.eK
  have hxf : Passes (L2.CX X.prog X.w) X (fun _ _ _ => False) := fun pins σ H s e s' I c => by
    obtain ⟨_, _, _, _, _, _, _, _, _, _, _, _, z⟩ := c
    exact z.elim
  have F2 : FnOk X.prog X.w X.K X.mg X.base (L2.CX X.prog X.w) 1 fI fd ["self", "value"] (spI S.K) := by
    rw [hX.eP, hX.ew, hX.eK, hX.em, hX.eb]
    exact F1
  refine ⟨hn, spI S.K, fun {e ta p pos} hg ha ns => pmk_oex (C := S.cA n) (ds := []) (dvs := []) (by rw [e1]; exact T) (by rw [e1]; exact iC) (by rw [e1]; exact tI) F2 (hX.room.mono hk) (by rw [e1]; exact hb) .nil hxf hg (by rw [hX.em]; exact hm) ha (hdb := hdb) (he := starEach_cons ns), fun u H1 Q h a ha => ?_⟩
  refine ⟨a, S.cA n, u, rfl, T, hv, upd_same, fun d hd hne => ⟨rfl, d, [(("value" : Str), u)], upd_same, ?_, ?_, ?_⟩⟩
  · rw [upd_ne hne, upd_same]
  · rw [upd_ne hne] at hd
    exact hd
  · rw [upd_ne hne] at hd
    have e : upd (del (upd (upd (upd H1 a (exo a (S.cA n) none)) d (exd d [(("value" : Str), u)])) a (exo a (S.cA n) (some d))) a) d (.xd [(("value" : Str), u)]) = upd H1 d (.xd [(("value" : Str), u)]) := by
      funext b
      by_cases hbd : b = d
      · subst hbd
        rw [upd_same, upd_same]
      · rw [upd_ne hbd, upd_ne hbd]
        by_cases hba : b = a
        · subst hba
          rw [del_same, ha]
        · rw [del_ne hba, upd_ne hba, upd_ne hbd, upd_ne hba]
    rw [e]
    exact h d hd
end
end EvO

set_option Elab.async false
set_option linter.all false
set_option maxRecDepth 10000
/-! A15: what is caught is told of behind the clause; a lambda handed to a def that catches. -/
namespace EvO
open PySem PySem.Spec L2

section
variable {X : Cx} {pins : List (Addr × Obj)} {σ : L2.St} {H : Hp} {s : Shared} {a : Addr} {oe : Obj} {o : HO}
/-- a record that lay apart is told of -/
theorem adopt (I : Inv X ((a, oe) :: pins) σ H s) (h0 : ∀ u, X.s_0.heap.get? a ≠ some u) (ho : ObjOk X.prog X.w (upd H a o) s.heap a o) (hp : ∀ p ∈ X.pn ++ pins, p.1 ≠ a) : Inv X pins σ (upd H a o) s := by
  obtain ⟨p1, p2, p3, p4, p5⟩ := I.pin (a, oe) (List.mem_append_right _ List.mem_cons_self)
  have ne : ∀ {b : Addr} {u : HO}, H b = some u → b ≠ a := fun {b u} e z => by
    rw [z, p2] at e
    cases e
  refine ⟨I.ok, I.os, I.bare, ⟨I.base.keep, I.base.slot, fun b u e n hx => ?_, I.base.there, fun b xs e => ?_, fun b u v e => ?_, fun b ps e => ?_⟩, I.loc, I.cell, ?_, fun x c e => ?_, fun p hp' => ?_, fun b u e => ?_, I.len⟩
  · rw [upd_ne (fun z => h0 u (by rw [← z]; exact e))]
    exact I.base.free b u e n hx
  · have q := I.base.tups b xs e
    rw [upd_ne (ne q)]
    exact q
  · have q := I.base.frzs b u v e
    rw [upd_ne (ne q)]
    exact q
  · obtain ⟨more, q⟩ := I.base.tbls b ps e
    exact ⟨more, by rw [upd_ne (ne q)]; exact q⟩
  · rw [upd_ne (fun z => p3 z.symm)]
    exact I.free
  · rw [upd_ne]
    · exact I.freeC x c e
    · intro z
      obtain ⟨v, o', q1, q2⟩ := I.cell x c e
      rw [z, p1] at q1
      cases q1
      exact p5 v q2
  · have hm : p ∈ X.pn ++ ((a, oe) :: pins) := by
      rcases List.mem_append.mp hp' with h | h
      · exact List.mem_append_left _ h
      · exact List.mem_append_right _ (List.mem_cons_of_mem _ h)
    obtain ⟨q1, q2, q3, q4, q5⟩ := I.pin p hm
    exact ⟨q1, by rw [upd_ne (hp p hp')]; exact q2, q3, q4, q5⟩
  · by_cases hb : b = a
    · subst hb
      rw [upd_same] at e
      cases e
      exact ho
    · rw [upd_ne hb] at e
      exact (I.hok b u e).stay (fun _ _ _ q => q) (fun c q => by rw [upd_ne (ne q)]; exact q) fun c xs q => by rw [upd_ne (ne q)]; exact q
theorem exnO_ok {P : Program} {w : World} {h : Heap} {C x : Addr} {vs : Array Value} (he : h.get? a = some oe) (h1 : oe.cls = .ref C) (h2 : oe.dict = some x) (h3 : oe.data = .fields vs) : ObjOk P w H h a (exnO a C x) :=
  ⟨⟨oe, vs, he, h1, h2, h3⟩, ⟨oe, he⟩, fun h1 h2 ⟨o, v, q1, q2⟩ k => ⟨o, v, k _ q1, q2⟩⟩
end

/-- the clause's wish: the object that was caught stays told of -/
def wTold (K : PySem.W.Frag) (c : Value) (i : Nat) (ts : Addr → Value → Option Addr → TS) (Wout : WX) (D : Ends) : WX := fun cls d σ H =>
  ∃ b, PySem.W.exmOne K cls c = some b ∧ (b = true → ∃ C x, cls = .ref C ∧ d = some x ∧ ∀ a, H a = none → ts a cls d { nx := fun σ' H' => H' a = none → D.nx (σ'.set i none) (upd H' a (exnO a C x)), rt := fun _ _ => False, bk := fun _ _ => False, ct := fun _ _ => False } (σ.set i (some (.ref a))) H) ∧
    (b = false → Wout cls d σ H)
section
variable {X : Cx} {x n : Str} {c : Value} {i : Nat} {body suite : List Stmt} {b₀ : Stmt} {np pos pos' : Pos} {tb : WX → TS} {ts : Addr → Value → Option Addr → TS} {Wout : WX}
theorem try_told (hs : X.stack = X.env :: X.outer) (hf : X.env.frame = some X.env.locals) (hex : X.ex = []) (hN : X.N.Nodup) (hi : X.N[i]? = some n) (hln : X.env.kindOf n = some .local) (hc : Names X x c) (tk : L2.Takes X Wout)
    (hb : ∀ (W : WX) (pn : List (Addr × Obj)) (xe : Value → Shared → Prop), L2.Takes (X.tr pn xe) W → PassesOwn (model X.prog X.w) X.A X.env xe → PSs (X.tr pn xe) body (tb W))
    (hsu : ∀ (a : Addr) (oe : Obj) (cls : Value) (d : Option Addr) (pn : List (Addr × Obj)), Zc cls d oe → (∃ vs, oe.data = .fields vs) → PSs (X.suite a ((a, oe) :: pn)) (b₀ :: suite) (ts a cls d)) :
    PS X (.Try body [.ExceptHandler (some (.Name x np)) (some n) (b₀ :: suite) pos'] [] [] pos) (fun D σ H => tb (wTold X.K c i ts Wout D) D σ H) := by
  refine ⟨fun pins s σ H D I h => ?_⟩
  have ok := I.ok
  have hfr : X.A.frames = some (X.env :: X.outer) := by rw [ok.frames, hs]
  refine wpAny_Try_except ?_
  refine wpAny_mono ((hb (wTold X.K c i ts Wout D) (X.pn ++ pins) (fun e s₁ => wpAny (model X.prog X.w) X.A (noteFrame e X.env) (fun _ s₂ => wpAny (model X.prog X.w) X.A (setFlight e none) (fun _ s₃ =>
    wpAny (model X.prog X.w) X.A (handleBy e X.env [.ExceptHandler (some (.Name x np)) (some n) (b₀ :: suite) pos']) (SP X pins D) X.xe s₃) X.xe s₂) X.xe s₁) (fun u s' xx => ?_) PassesOwn.looking).run [] s σ H D (I.toTry _) h) (fun f s1 hsp => ?_) (fun e s1 he => he)
  · obtain ⟨a, B, sI, pins', σ', H', cls, d, rfl, J', nb, up, sky, na, os, ag, b, hb1, hyes, hno⟩ := xx
    have J : Inv X pins σ' H' sI := J'.ofTry ok
    have sky' : Sky B (X.env :: X.outer) a (Zc cls d) X.env.locals s'.heap := by rw [← hs]; exact sky
    show wpAny (model X.prog X.w) X.A (noteFrame (.ref a) X.env) _ _ _
    refine Sky.land Zc.steady hfr hf sky' fun h3 fl3 up3 => ?_
    have J3 : Inv X pins σ' H' { s' with heap := h3 } := J.landed nb fl3.1 (up.trans up3) os ag
    obtain ⟨oe3, vs3, he3, hz3, hd3⟩ := fl3.there
    have nfr : a ∉ frs (X.env :: X.outer) := fun hm => by
      obtain ⟨_, o', e', hnf⟩ := fl3.2.2.1.mem hm
      rw [he3] at e'; cases e'
      exact hnf _ hd3
    have nL : a ≠ X.env.locals := fun z => nfr (List.mem_filterMap.mpr ⟨X.env, List.mem_cons_self, by rw [hf, z]⟩)
    have nF : a ∉ X.fs := fun hm => by
      obtain ⟨e, he, q⟩ := List.mem_filterMap.mp hm
      exact nfr (List.mem_filterMap.mpr ⟨e, List.mem_cons_of_mem _ he, q⟩)
    have noI : ∀ o, sI.heap.get? a ≠ some o := fun o e => by
      have q := nb a o e (by rw [hs]; exact nfr)
      rw [fl3.2.1] at q
      cases q
    have no0 : ∀ o, X.s_0.heap.get? a ≠ some o := fun o e => by
      obtain ⟨o', q⟩ := J.base.there a o e (by rw [hex]; simp)
      exact noI o' q
    have nop : ∀ p ∈ X.pn ++ pins, p.1 ≠ a := fun p hp z => noI p.2 (by rw [← z]; exact (J.pin p hp).1)
    have S3 := J3.suite he3 hd3 na nL nF
    refine wpAny_handleBy_cons (codeAny_handlers_test ?_) (by intro q; cases q)
    have LT : PySem.W.Looks (model X.prog X.w) h3 (typeOf (.ref a)) cls := fun A Q E s k q => wpAny_typeOf_ref (k _ _ he3) (by rw [hz3.1]; exact q)
    have LM := PySem.W.exm_one (M := model X.prog X.w) (J3.kIn) LT hb1
    have test : ∀ {Q : Value → Shared → Prop} {E : Value → Shared → Prop}, Q c { s' with heap := h3 } → wpAny (model X.prog X.w) (X.A.mark (some (.ref a))) (eval (.Name x np) X.env) Q E { s' with heap := h3 } := fun {Q E} q => by
      obtain ⟨hg, hdbg, hm | ⟨hm, hv, hnn⟩⟩ := hc
      · exact ld_glob (X := X.suite a ((a, oe3) :: (X.pn ++ pins))) S3 hg hm q hdbg
      · exact ld_blt (X := X.suite a ((a, oe3) :: (X.pn ++ pins))) S3 hg hm hv q hnn hdbg
    refine test (LM.here ?_)
    cases b with
    | true =>
      obtain ⟨C, xd, rfl, rfl, hyes⟩ := hyes rfl
      refine codeAny_handlers_suite_as ?_
      refine HandSPX.lands_againZ fl3 fun h4 fl4 up4 => ?_
      have J4 : Inv X pins σ' H' { s' with heap := h4 } := J.landed nb fl4.1 ((up.trans up3).trans up4) os ag
      obtain ⟨oe4, vs4, he4, hz4, hd4⟩ := fl4.there
      have S4 := J4.suite he4 hd4 na nL nF
      refine store_ok (X := X.suite a ((a, oe4) :: (X.pn ++ pins))) (v := .ref a) S4 hN hi (.inl hln) rfl (fun s5 S5 => ?_) (.inr hln)
      refine wpAny_mono ((hsu a oe4 (.ref C) (some xd) (X.pn ++ pins) hz4 ⟨_, hd4⟩).run [] s5 _ H' _ S5 (hyes a na)) (fun f s6 hsp => ?_) (fun _ _ z => False.elim z)
      cases f with
      | next =>
        obtain ⟨σ6, H6, S6, q6⟩ := hsp
        obtain ⟨p1, p2, p3, p4, p5⟩ := S6.pin (a, oe4) (List.mem_append_left _ List.mem_cons_self)
        have T6 : Inv X ((a, oe4) :: pins) σ6 H6 s6 := (S6.unsuite ok).pins_of fun p hp => by
          rcases List.mem_cons.mp hp with rfl | hp
          · exact ⟨p1, p2, p3, p4, p5⟩
          · exact (S6.unsuite ok).pin p (List.mem_append_right _ hp)
        refine gone_ok T6 hN hi hln fun s7 J7 => ?_
        obtain ⟨r1, r2, _⟩ := J7.pin (a, oe4) (List.mem_append_right _ List.mem_cons_self)
        exact ⟨_, _, adopt J7 no0 (exnO_ok r1 hz4.1 hz4.2 hd4) nop, q6 r2⟩
      | brk =>
        obtain ⟨σ6, H6, S6, q6⟩ := hsp
        exact (show False from q6).elim
      | cont =>
        obtain ⟨σ6, H6, S6, q6⟩ := hsp
        exact (show False from q6).elim
      | ret u =>
        obtain ⟨v6, σ6, H6, S6, r6, q6⟩ := hsp
        exact (show False from q6).elim
    | false =>
      show wpAny _ X.A (handleBy (.ref a) X.env []) _ _ _
      refine wpAny_handleBy_nil ?_
      obtain ⟨k1, k2, k3, oe, vs, T, oT, ts', he, hz, hd, h1, hr⟩ := id fl3
      unfold PySem.passOn
      refine wpAny_bind (wpAny_field he hd h1 ?_)
      rw [if_neg (show ¬ ((Value.ref T == Value.none) = true) from by simp)]
      have fin : wpAny (model X.prog X.w) X.A (setFlight (.ref a) X.env.frame) (fun _ s4 => wpAny (model X.prog X.w) X.A (throw (.ref a) : Sem Flow) (SP X pins D) X.xe s4) X.xe { s' with heap := h3 } := by
        rw [hf]
        refine HandSPX.setFlight_upZ fl3 fun h4 hh4 up4 => wpAny_throw (tk _ _ ?_)
        exact ⟨a, B, sI, pins, σ', H', cls, d, rfl, J, nb, (up.trans up3).trans up4, .inr (.inr (by rw [hs]; exact hh4)), na, os, ag, hno rfl⟩
      first
        | exact wpAny_bind (wpAny_pure (wpAny_bind fin))
        | exact wpAny_bind fin
  · cases f with
    | next =>
      obtain ⟨σ', H', J', q⟩ := hsp
      exact wpAny_execs_nil ⟨σ', H', J'.ofTry ok, q⟩
    | brk =>
      obtain ⟨σ', H', J', q⟩ := hsp
      exact ⟨σ', H', J'.ofTry ok, q⟩
    | cont =>
      obtain ⟨σ', H', J', q⟩ := hsp
      exact ⟨σ', H', J'.ofTry ok, q⟩
    | ret u =>
      obtain ⟨v, σ', H', J', r, q⟩ := hsp
      exact ⟨v, σ', H', J'.ofTry ok, r, q⟩
end
end EvO

set_option Elab.async false
set_option linter.all false
set_option maxRecDepth 10000
/-! A16: f(lambda: e), f a def that catches. -/
namespace EvO
open PySem PySem.Spec PyProof.Rows L2 LamX

section
variable {X : Cx} {pins : List (Addr × Obj)} {σ : L2.St} {H : Hp} {s : Shared}
/-- the lambda called, in the def that got it; the wish about exceptions at the very slots -/
theorem act_at {CXg : CXT} {Eg : XK} {Ng : List Str} {qg : Str} {sg : Scope} {g f c' : Addr} {cdg pm ctv : Value} {params : Arguments} {body : Expr} {scope : Scope} {k i : Nat} {a : Str} {pn : List (Addr × Obj)} {xe : Value → Shared → Prop} {W : WX} {tb : XK → TE} {p1 p2 : Pos}
    (I : Inv X pins σ H s) (L : LamS X.env.scope scope) (hf : s.heap.get? f = some (PySem.W.kla_obj "<lambda>" (X.env.qual ++ "<lambda>") params body scope (cloFrom X.env.cells scope.names []) pm c' ctv)) (hfn : H f = none) (hfr : f ∉ frs X.stack)
    (hbind : bindArgs (PySem.W.kla_fn "<lambda>" (X.env.qual ++ "<lambda>") params body scope (cloFrom X.env.cells scope.names []) pm (.ref c') ctv) ⟨[], []⟩ = pure [])
    (tk : L2.Takes ((cxOf CXg X.prog X.w X.K X.mg X.base Ng qg sg g cdg X.A X.stack s H Eg).tr pn xe) W) (hr : Room (k + 1) (X.A.deeper (envOfC qg sg s.heap.objs.size g cdg)))
    (hbody : ∀ (A : Around) (outer : List PySem.Env) (s : Shared) (H : Hp) (E : XK), Room k (A.deeper (lamEnv X scope s.heap.objs.size f c')) → PE (lamCx X A outer s H E scope f c') body (tb E))
    (hN : Ng[i]? = some a) (hv : Vis sg a) (hd : (a == ("__debug__" : Str)) = false) (hcd : (a == ("__classdict__" : Str)) = false) :
    PE ((cxOf CXg X.prog X.w X.K X.mg X.base Ng qg sg g cdg X.A X.stack s H Eg).tr pn xe) (.Call (.Name a p1) [] [] p2)
      (fun σZ HZ Q => ∃ E : XK, (∀ cls d H', E cls d H' → W cls d σZ H') ∧ σZ[i]? = some (some (.ref f)) ∧ HZ c' = some (CodeO c' (X.env.qual ++ "<lambda>")) ∧ tb E σ HZ Q) := by
  refine ⟨fun pinsZ sZ σZ HZ Q IZ h => ?_⟩
  obtain ⟨E, hW, hs, hc, ht⟩ := h
  refine wpAny_Call_Name_kw (thn ((pe_var (pos := p1) (i := i) hN hv hd hcd).run pinsZ sZ σZ HZ (fun v H1 => v = .ref f ∧ H1 = HZ) IZ ⟨.ref f, hs, rfl, rfl⟩) fun u s1 ⟨v, H1, I1, r1, q1⟩ => ?_)
  obtain ⟨ev, eH⟩ := q1
  subst ev
  rw [eH] at I1
  obtain rfl : u = Value.ref f := r1
  have of1 := I1.base.keep f _ hf hfn hfr (fun z => nomatch (show f ∈ ([] : List Addr) from z))
  refine PySem.W.callWith_F0 ⟨_, _, _, _, of1⟩ ?_
  have un : Un (frs X.stack) [] H HZ s.heap s1.heap := I1.base
  obtain ⟨⟨oc, vs, t, hoc, hdc, hvc⟩, _, _⟩ := I1.hok c' _ hc
  have rc : codeAny (model X.prog X.w) (X.A.deeper (envOfC qg sg s.heap.objs.size g cdg)) (.call (.ref f) ⟨[], []⟩) (CR (L2.CX X.prog X.w) (envOfC qg sg s.heap.objs.size g cdg :: X.stack) X.prog X.w HZ s1 Q E) s1 := by
    refine PySem.W.kla_callFunE hr.depth of1 rfl L.co L.gen rfl ⟨c', oc, vs, t, rfl, hoc, hdc, hvc⟩ ?_
    rw [hbind]
    refine wpAny_pure (wpAny_newFunctionEnv (fun y hy => (L.own y hy).2) (fun y hy => absurd hy (by simp)) (fun h₁ hns hsb => ⟨I1.nolimit.fresh _ hsb, ?_⟩) L.kind)
    show codeAny _ _ (.expr body (lamEnv X scope s1.heap.objs.size f c')) _ _
    have kp : ∀ b o, s1.heap.get? b = some o → h₁.get? b = some o := fun b o e => hsb.extBut b o (Nat.ne_of_lt (Heap.lt_size e)) (Heap.get?_push_of_some _ e)
    have J : Inv (lamCx X (X.A.deeper (envOfC qg sg s.heap.objs.size g cdg)) (envOfC qg sg s.heap.objs.size g cdg :: X.stack) s1 HZ E scope f c') [] σ HZ { s1 with heap := h₁, toks := s1.toks + ([] : List (Str × Value)).length } :=
      lam_start2 I L I1.env0 hr.hd un hns kp
    refine PySem.W.kla_codeExpr (wpAny_mono ((hbody _ _ s1 HZ E (hr.deeper _)).run [] _ _ HZ Q J ht) (fun v s' hq => ?_) fun e s' hq => hq)
    obtain ⟨w', H', J', rv, q⟩ := hq
    exact ⟨w', H', J'.os, J'.bare, J'.base, J'.hok, rv, q⟩
  refine wpAny_call (codeAny_mono rc fun r s' hq => ?_)
  cases r with
  | error e => exact tk e s' (XE.of_call I1 (fun cls d H' z => hW cls d H' z) hq)
  | ok fl =>
    cases fl with
    | ret u => exact I1.after hq
    | next => exact False.elim hq
    | brk => exact False.elim hq
    | cont => exact False.elim hq
/-- what the def makes of the lambda -/
def Hands (X : Cx) (Ng : List Str) (x : Str) (sg : Scope) (g : Addr) (cdg : Value) (bg : List Stmt) (a : Str) (q : Str) (TT : (XK → Hp → VK → Prop) → Hp → VK → Prop) : Prop :=
  ∀ (f c' : Addr) (s : Shared) (H : Hp) (Q : VK) (tl : XK → Hp → VK → Prop),
    (∀ (W : WX) (pn : List (Addr × Obj)) (xe : Value → Shared → Prop) (p1 p2 : Pos), L2.Takes ((cxOf C8.CX0 X.prog X.w X.K X.mg X.base Ng x sg g cdg X.A X.stack s H C8.E0).tr pn xe) W →
      PE ((cxOf C8.CX0 X.prog X.w X.K X.mg X.base Ng x sg g cdg X.A X.stack s H C8.E0).tr pn xe) (.Call (.Name a p1) [] [] p2) (fun σZ HZ Q => ∃ E : XK, (∀ cls d H', E cls d H' → W cls d σZ H') ∧ σZ[0]? = some (some (.ref f)) ∧ HZ c' = some (CodeO c' q) ∧ tl E HZ Q)) →
    H c' = some (CodeO c' q) → TT tl H Q →
    ∃ t, PSs (cxOf C8.CX0 X.prog X.w X.K X.mg X.base Ng x sg g cdg X.A X.stack s H C8.E0).nox bg t ∧ t { nx := fun _ H' => Q .non H', rt := Q } (L2.start Ng [.ref f]) H
theorem lam_call {T : List (Addr × Str)} {TT : (XK → Hp → VK → Prop) → Hp → VK → Prop} {x a : Str} {g c P : Addr} {k : Nat} {pg : Arguments} {bg : List Stmt} {sg : Scope} {dV kV doc pm cdv ct oc : Value} {an od : Option Addr} {osl : Array (Option Value)} {Ng : List Str}
    {params : Arguments} {body : Expr} {scope : Scope} {t : XK → TE} {p lpos pos : Pos} (hg : Gl X x) (hm : X.mg x = some (.ref g)) (hk : PySem.W.keepIn X.K (.ref g) = true)
    (lk : X.K.lookup g = some ⟨oc, od, .func (PySem.W.fnOf x x pg bg sg dV kV doc pm an cdv ct), osl⟩) (hcg : PySem.W.codeIn X.K cdv x = true) (hb : L2.Binds X.K (PySem.W.fnOf x x pg bg sg dV kV doc pm an cdv ct) [a] []) (Sg : FnScope Ng [a] sg) (hNg : Ng[0]? = some a) (hva : Vis sg a)
    (hG : Hands X Ng x sg g cdv bg a (X.env.qual ++ "<lambda>") TT)
    (TB : TabB X.base X.mg c P) (hcode : X.env.code = .ref c) (hmT : (P, X.env.qual ++ "<lambda>") ∈ T) (hu : ∀ p ∈ T, p.1 = P → p.2 = X.env.qual ++ "<lambda>") (hr : Room (k + 2) X.A) (L : LamS X.env.scope scope) (hdef : defaultsOf params X.env = ([], []))
    (hbind : ∀ (q : Str) (cl : List (Str × Addr)) (pm cv ctv : Value), bindArgs (PySem.W.kla_fn "<lambda>" q params body scope cl pm cv ctv) ⟨[], []⟩ = pure [])
    (hbody : ∀ (A : Around) (outer : List PySem.Env) (s : Shared) (H : Hp) (E : XK) (f c' : Addr), Room k (A.deeper (lamEnv X scope s.heap.objs.size f c')) → PE (lamCx X A outer s H E scope f c') body (t E))
    (hdb : (x == ("__debug__" : Str)) = false) (hd : (a == ("__debug__" : Str)) = false) (hcd : (a == ("__classdict__" : Str)) = false) :
    PE X (.Call (.Name x p) [.Lambda params body scope lpos] [] pos) (tLam T TT t) := by
  refine ⟨fun pins s σ H Q I h => ?_⟩
  obtain ⟨hT, h⟩ := h
  refine wpAny_Call_Name_kw (ld_glob I hg hm ?_ hdb)
  refine PySem.W.callWith_K (h₀ := X.base) I.ok.mod.kin hk ?_ (by rfl) (by rfl)
  show wpAny _ _ (spliced ((false, eval (.Lambda params body scope lpos) X.env) :: backTo pos (starEach [] X.env))) _ _ s
  refine Calls.spliced_cons (lam_make2 I TB hcode hmT hu hT hdef (L.has I.ok) fun f c' pm' ctv H1 s' I1 eN T1 hf hfn hfr hco => ?_)
  refine Calls.spliced_nil ⟨I1.kIn, ?_⟩
  have rc : codeAny (model X.prog X.w) X.A (.call (.ref g) ⟨[.ref f], []⟩) (CR C8.CX0 X.stack X.prog X.w H1 s' Q C8.E0) s' := by
    refine run_ofS (N := Ng) (ps := [a]) (us := [.ref f]) (vs := [.ref f]) lk hcg Sg hr I1.env0 (hb s' [.ref f] I1.kIn rfl) (.cons rfl .nil) rfl fun hr' => ?_
    obtain ⟨t', ht', hq'⟩ := hG f c' s' H1 Q (fun E H' Q' => t E σ H' Q') (fun W pn xe p1 p2 tk => act_at (tb := t) (i := 0) I1 L hf hfn hfr (hbind _ _ _ _ _) tk hr' (fun A outer s H E hr2 => hbody A outer s H E f c' hr2) hNg hva hd hcd) hco (h H1 eN T1)
    exact ⟨t', ht'.nox, hq'⟩
  refine wpAny_call (codeAny_mono rc fun r s2 hq => ?_)
  cases r with
  | error e => exact (show False from hq).elim
  | ok fl =>
    cases fl with
    | ret u => exact I1.after hq
    | next => exact False.elim hq
    | brk => exact False.elim hq
    | cont => exact False.elim hq
end
end EvO

set_option Elab.async false
set_option linter.all false
set_option maxRecDepth 10000
/-! A17: heard(lambda: e). -/
namespace EvO
open PySem PySem.Spec PyProof.Rows L2 LamX

theorem noSwap_folded {ts : List Expr} {vs : List Expr} {k k2 : Nat} {p p2 : Pos} {env : PySem.Env} (h : vs.all (foldedForSure 8) = true) : swappedStores [.Tuple ts k p] (.Tuple vs k2 p2) env = pure none := by
  show (do
      if !(ts.length == 2 || ts.length == 3) || vs.length != ts.length || env.blockKind != .function then return none
      if vs.any fun | .Starred .. => true | _ => false then return none
      let line := (ts.head?.map (·.pos.line)).getD 0
      let names := ts.filterMap fun
        | .Name id pos => if env.kindOf id == some .local && pos.line == line then some id else none
        | _ => none
      if names.length != ts.length || names.eraseDups.length != names.length then return none
      if vs.all (foldedForSure 8) then return none
      if vs.all (constantsAlone 8) then unsupported "assign.tuple-of-constant-expressions:order-of-the-stores"
      return some names : Sem (Option (List Str))) = pure none
  by_cases h1 : (!(ts.length == 2 || ts.length == 3) || vs.length != ts.length || env.blockKind != .function) = true
  · rw [if_pos h1]
  · rw [if_neg h1]
    by_cases h2 : (vs.any fun | .Starred .. => true | _ => false) = true
    · simp only [h2, if_true]
    · rw [Bool.not_eq_true] at h2
      simp only [h2, Bool.false_eq_true, if_false, h, if_true]
      split <;> rfl

/-- what a heard call gives -/
def TTh (K : PySem.W.Frag) (L : Addr) : (XK → Hp → VK → Prop) → Hp → VK → Prop := fun tl H Q => ∀ p0, H p0 = none →
  tl (fun cls d H' => ∃ C x, cls = .ref C ∧ d = some x ∧ PySem.W.exmOne K (.ref C) (.ref L) = some true ∧ ∀ a, H' a = none → ∀ p, upd H' a (exnO a C x) p = none → Q (.ref p) (upd (upd H' a (exnO a C x)) p (.tup [.ref a, .non])))
    (upd H p0 (.tup [.non, .non])) (fun v H1 => ∀ p, H1 p = none → Q (.ref p) (upd H1 p (.tup [.non, v])))
/-- the names of heard -/
structure HeardSc (sg : Scope) : Prop where
  a : sg.names.lookup ("call" : Str) = some .local
  c : sg.names.lookup ("caught" : Str) = some .local
  b : sg.names.lookup ("back" : Str) = some .local
  e : sg.names.lookup ("error" : Str) = some .local
  l : sg.names.lookup ("LiftError" : Str) = some .globalImplicit
theorem heard_hands {X : Cx} {x q : Str} {sg : Scope} {g L : Addr} {cdg : Value} {bg : List Stmt} {j1 j2 k1 k2 k3 : Nat} {q1 q2 q3 q4 q5 q6 q7 q8 q9 r1 r2 r3 r4 r5 r6 r7 r8 r9 s1 s2 s3 : Pos} (hs : HeardSc sg) (hL : X.mg "LiftError" = some (.ref L))
    (hb : bg = [.Assign [.Tuple [.Name "caught" q1, .Name "back" q2] k1 q3] (.Tuple [.Constant .none j1 q4, .Constant .none j2 q5] k2 q6) q7,
      .Try [.Assign [.Name "back" q8] (.Call (.Name "call" q9) [] [] r1) r2] [.ExceptHandler (some (.Name "LiftError" r3)) (some "error") [.Assign [.Name "caught" r4] (.Name "error" r5) r6] r7] [] [] r8,
      .Return (some (.Tuple [.Name "caught" r9, .Name "back" s1] k3 s2)) s3]) :
    Hands X ["call", "caught", "back", "error"] x sg g cdg bg "call" q (TTh X.K L) := by
  intro f c' s H Q tl act hc h
  subst hb
  have nd : (["call", "caught", "back", "error"] : List Str).Nodup := by decide +kernel
  refine ⟨_, pss_cons (X := (cxOf C8.CX0 X.prog X.w X.K X.mg X.base ["call", "caught", "back", "error"] x sg g cdg X.A X.stack s H C8.E0).nox) (ps_asg (pe_tup (pa_cons pe_non (pa_cons pe_non pa_nil))) (pg_tup (n := 2) rfl (pgs_cons (pg_name (i := 1) nd rfl (.inl hs.c)) (pgs_cons (pg_name (i := 2) nd rfl (.inl hs.b)) pgs_nil))) (hw := noSwap_folded (by rfl)))
    (pss_cons (try_told (i := 3) (c := .ref L) (Wout := fun _ _ _ _ => False) (tb := fun W D σ H => ∃ Ech : XK, (∀ cls d H', Ech cls d H' → W cls d σ H') ∧ σ[0]? = some (some (.ref f)) ∧ H c' = some (CodeO c' q) ∧ tl Ech H (fun v H' => D.nx (σ.set 2 (some v)) H'))
      rfl rfl rfl nd rfl hs.e ⟨hs.l, by decide +kernel, .inl hL⟩ LamX.takes0 (fun W pn xe tk _ => ?_) (fun a oe cls d pn _ _ => pss_one (ps_set (i := 1) nd rfl (.inl hs.c) (pe_var (i := 3) rfl (.inl hs.e) (by decide) (by decide)) (hf := .inr hs.c))))
      (pss_one (ps_ret (pe_tup (pa_cons (pe_var (i := 1) rfl (.inl hs.c) (by decide) (by decide)) (pa_cons (pe_var (i := 2) rfl (.inl hs.b) (by decide) (by decide)) pa_nil)))))), ?_⟩
  · refine ⟨fun pins s' σ H' D I h' => ?_⟩
    obtain ⟨Ech, hW, h1, h2, h3⟩ := h'
    have hq := pss_one (ps_set (i := 2) nd rfl (.inl hs.b) (act W pn xe q9 r1 tk) (hf := .inr hs.b) (pos := r2) (pos' := q8))
    exact hq.run pins s' σ H' D I ⟨Ech, hW, h1, h2, h3⟩
  · refine ⟨by show 2 ≤ sizeLine; rw [sizeLine_eq]; decide, fun p hp => ⟨p, [.non, .non], rfl, SqT.of upd_same, rfl, .non, [.non], rfl, .non, [], rfl, rfl, ?_⟩⟩
    have hpc : c' ≠ p := fun z => by
      rw [z, hp] at hc
      cases hc
    refine ⟨fun cls d H' => ∃ C x, cls = .ref C ∧ d = some x ∧ PySem.W.exmOne X.K (.ref C) (.ref L) = some true ∧ ∀ a, H' a = none → ∀ p, upd H' a (exnO a C x) p = none → Q (.ref p) (upd (upd H' a (exnO a C x)) p (.tup [.ref a, .non])), fun cls d H' hh => ?_, rfl, ?_, ?_⟩
    · obtain ⟨C, x, rfl, rfl, e, hh⟩ := hh
      refine ⟨true, e, fun _ => ⟨C, x, rfl, rfl, fun a na => ⟨.ref a, rfl, fun na' => ⟨.ref a, rfl, .non, rfl, ?_, fun p hp => ?_⟩⟩⟩, fun z => by cases z⟩
      · show 2 ≤ sizeLine
        rw [sizeLine_eq]
        decide
      · exact hh a na' p hp
    · rw [upd_ne hpc]
      exact hc
    · refine Eq.mp (congrArg (tl _ _) ?_) (h p hp)
      funext v H1
      refine propext ⟨fun z => ⟨.non, rfl, v, rfl, ?_, z⟩, fun z => ?_⟩
      · show 2 ≤ sizeLine
        rw [sizeLine_eq]
        decide
      · obtain ⟨v1, e1, v2, e2, _, z⟩ := z
        cases e1
        cases e2
        exact z

section
variable {S : Cfg} {io : Nat → Option Addr} {B G H : Hp} {E : XK} {X : Cx} {N : List Str} {sc : Scope} {g : Bool} {k : Nat} {a : Expr} {ca : C} {pos : Pos} {σ : L2.St} {r : Env} {Q : VK}

theorem hide_get {i : Nat} {s : Slot} (h : (hide r)[i]? = some s) : ∃ t, r[i]? = some t ∧ s = hideS t := by
  unfold hide at h
  rw [List.getElem?_map] at h
  obtain ⟨t, h1, rfl⟩ := Option.map_eq_some_iff.mp h
  exact ⟨t, h1, rfl⟩
/-- the lists that may change stand by -/
theorem Rep.hid (R : Rep S io B G σ H r) : Rep S (fun _ => none) (ownB σ r H B) G σ H (hide r) := by
  refine ⟨R.callB, by unfold hide; rw [List.length_map]; exact R.len, fun i s hi => ?_, fun i j s t p ne hi m hj m' _ _ => ?_⟩
  · obtain ⟨t, h1, rfl⟩ := hide_get hi
    cases t with
    | no => trivial
    | dat d => exact R.slot i _ h1
    | own l => trivial
    | io l => trivial
  · obtain ⟨t, h1, rfl⟩ := hide_get hi
    cases t <;> cases m
theorem Rep.extN {H1 : Hp} (R : Rep S io B G σ H r) (e : LamX.ExtN H H1) (t : LamX.Tabs S.T H1) : Rep S io B G σ H1 r := by
  refine R.to (Ex.refl G) ⟨fun a o h => e a o (R.hp.gx a o h) fun ps z => R.hp.gt a ps (by rw [h, z]), fun a o h => e a o (R.hp.bx a o h) fun ps z => R.hp.bt a ps (by rw [h, z]), R.hp.dj, t, R.hp.gt, R.hp.bt⟩ fun i s p hi m hs hn hg hb => ?_
  obtain ⟨q, vs, ds, z, _⟩ := (R.slot i s hi).mut m
  have z1 := z.at_
  rw [hs] at z1
  cases z1
  refine ⟨?_, hg⟩
  rw [z.h]
  exact e p _ z.h fun ps z => by cases z
/-- what the context of a heard call must know -/
structure HeardOk (S : Cfg) (L : Addr) : Prop where
  ex : ∀ c ∈ S.cls, PySem.W.exmOne S.K (.ref (S.cA c)) (.ref L) = some true
theorem heard_imp {L : Addr} {T : List (Addr × Str)} (hT : S.T = T) (hO : HeardOk S L) (h : tV S io B E false (.heard ca) σ H Q) : tLam T (TTh S.K L) (fun E' => fun σ H Q => ∃ B' : Hp, tV S (fun _ => none) B' E' false ca σ H Q) σ H Q := by
  obtain ⟨r, G, R, h⟩ := h
  simp only [evE] at h
  refine ⟨by rw [← hT]; exact R.hp.tabs, fun H1 eN T1 p0 hp0 => ?_⟩
  have R1 := R.extN eN (by rw [hT]; exact T1)
  have R2 := R1.newH (o := .tup [.non, .non]) hp0
  have R3 := R2.hid
  refine ⟨ownB σ r (upd H1 p0 (.tup [.non, .non])) B, hide r, G, R3, ?_⟩
  cases q : evE ca (hide r) with
  | ok v r1 =>
    rw [q] at h
    cases v with
    | s i => exact h.elim
    | d x =>
      intro G1 e1 u H4 R4 w4 p hp
      have d4 : Den S G1 u x := by
        rcases w4 with ⟨z, _⟩ | ⟨_, z⟩
        · cases z
        · exact z
      have R5 := R2.back e1 R4.hp
      have gp := R5.hp.gx.free hp
      have en : Ex G1 (upd G1 p (.tup [.non, u])) := Ex.new gp
      have h : Post S B E G (Out.ok (Val.d (.tup [.non, x])) r) (QV S io B σ false Q) := h
      exact h _ (e1.trans en) _ _ (R5.fresh hp fun _ z => by cases z) (.of (.tup (SqT.of upd_same) (.cons .non (.cons (d4.mono en) .nil))))
  | err c v =>
    rw [q] at h
    have h : Post S B E G (Out.ok (Val.d (.tup [.exn c v, .non])) r) (QV S io B σ false Q) := h
    intro d u G1 H4 hc e1 hh g1 b1 hd dn
    refine ⟨S.cA c, d, rfl, rfl, hO.ex c hc, fun a na p hp => ?_⟩
    have R5 := R2.back e1 hh
    -- the dict and the object are told of for good
    have dne : d ≠ a := fun z => by
      rw [z, na] at hd
      cases hd
    have R6 : Rep S io B (upd G1 d (.xd [(("value" : Str), u)])) σ H4 r := by
      refine R5.to (Ex.new g1) ⟨fun b o h => ?_, R5.hp.bx, fun b => ?_, R5.hp.tabs, fun b ps h => ?_, R5.hp.bt⟩ fun i s p hi m hs hn hg hb => ?_
      · by_cases hb : b = d
        · subst hb
          rw [upd_same] at h
          rw [hd]
          exact h
        · rw [upd_ne hb] at h
          exact R5.hp.gx b o h
      · by_cases hb : b = d
        · subst hb
          exact .inl (by
            cases q3 : B b with
            | none => rfl
            | some o =>
              have q4 := R2.exB b o q3
              rw [b1] at q4
              cases q4)
        · rw [upd_ne hb]
          exact R5.hp.dj b
      · by_cases hb : b = d
        · subst hb
          rw [upd_same] at h
          cases h
        · rw [upd_ne hb] at h
          exact R5.hp.gt b ps h
      · refine ⟨rfl, ?_⟩
        rw [upd_ne]
        · exact hg
        · intro z
          obtain ⟨q3, vs, ds, z3, _⟩ := (R5.slot i s hi).mut m
          have z4 := z3.at_
          rw [hs] at z4
          cases z4
          have z5 := z3.h
          rw [z, hd] at z5
          cases z5
    have R7 := R6.fresh (o := exnO a (S.cA c) d) na fun ps => exnO_ne_tbl
    have R8 := R7.fresh (o := .tup [.ref a, .non]) hp fun _ z => by cases z
    have ga := R6.hp.gx.free na
    have gp := R7.hp.gx.free hp
    have x1 : Ex G1 (upd G1 d (.xd [(("value" : Str), u)])) := Ex.new g1
    have x2 := Ex.new (o := exnO a (S.cA c) d) ga
    have x3 := Ex.new (o := .tup [.ref a, .non]) gp
    refine h _ (e1.trans (x1.trans (x2.trans x3))) _ _ R8 (.of (.tup (SqT.of upd_same) (.cons (Den.mono x3 ?_) (.cons .non .nil))))
    exact .exn hc upd_same (by rw [upd_ne dne, upd_same]) (dn.mono (x1.trans x2))
  | bad =>
    rw [q] at h
    exact h.elim
end
end EvO

set_option Elab.async false
set_option linter.all false
set_option maxRecDepth 10000
/-! A18: from text to code. -/
namespace EvO
open PySem PySem.Spec L2

inductive Ent where
  | cst (d : D) | fn (sg : Sig) | fnP (sg : SigP) | cls | heard
structure Cc where
  N : List Str
  G : List (Str × Ent)
  L : List (Str × Ent)
  lam : Bool
  rp : Bool
def ixOf (x : Str) : List Str → Option Nat
  | [] => none
  | y :: r => if y == x then some 0 else (ixOf x r).map (· + 1)
theorem ixOf_ok {x : Str} : ∀ {N : List Str} {i : Nat}, ixOf x N = some i → N[i]? = some x
  | [], i, h => by cases h
  | y :: r, i, h => by
    unfold ixOf at h
    split at h
    · rename_i e
      cases h
      rw [beq_iff_eq.mp e]
      rfl
    · obtain ⟨j, h1, rfl⟩ := Option.map_eq_some_iff.mp h
      rw [List.getElem?_cons_succ]
      exact ixOf_ok h1
def okName (x : Str) : Bool := !(x == ("__debug__" : Str)) && !(x == ("__classdict__" : Str)) && !(x == ("__name__" : Str))
def visB : Option NameKind → Bool
  | some .local | some .cell | some .free => true
  | _ => false
def locB : Option NameKind → Bool
  | some .local | some .cell => true
  | _ => false
def isLocal : Option NameKind → Bool
  | some .local => true
  | _ => false
def isGlob : Option NameKind → Bool
  | some .globalImplicit => true
  | _ => false
theorem visB_ok {sc : Scope} {x : Str} (h : visB (sc.names.lookup x) = true) : Vis sc x := by
  unfold visB at h
  split at h
  · rename_i e
    exact .inl e
  · rename_i e
    exact .inr (.inl e)
  · rename_i e
    exact .inr (.inr e)
  · cases h
theorem locB_ok {sc : Scope} {x : Str} (h : locB (sc.names.lookup x) = true) : Loc sc x := by
  unfold locB at h
  split at h
  · rename_i e
    exact .inl e
  · rename_i e
    exact .inr e
  · cases h
theorem isLocal_ok {o : Option NameKind} (h : isLocal o = true) : o = some .local := by
  unfold isLocal at h
  split at h
  · rfl
  · cases h
theorem isGlob_ok {o : Option NameKind} (h : isGlob o = true) : o = some .globalImplicit := by
  unfold isGlob at h
  split at h
  · rfl
  · cases h
theorem okName_ok {x : Str} (h : okName x = true) : (x == ("__debug__" : Str)) = false ∧ (x == ("__classdict__" : Str)) = false ∧ x ≠ "__name__" := by
  unfold okName at h
  simp only [Bool.and_eq_true, Bool.not_eq_true'] at h
  exact ⟨h.1.1, h.1.2, fun e => by rw [e] at h; exact absurd h.2 (by decide +kernel)⟩
def bop? : Operator → Option Bop
  | .Add => some .add
  | .Sub => some .sub
  | .Mult => some .mul
  | .FloorDiv => some .fdiv
  | .Mod => some .mod
  | .Pow => some .pow
  | _ => none
theorem bop?_ok {o : Operator} {b : Bop} (h : bop? o = some b) : o = bopOf b := by
  cases o <;> cases h <;> rfl
def cop? : CmpOp → Option Cop
  | .Eq => some .eq
  | .NotEq => some .ne
  | .Lt => some .lt
  | .LtE => some .le
  | .Gt => some .gt
  | .GtE => some .ge
  | .In => some .isin
  | .NotIn => some .notin
  | .Is => some .is_
  | .IsNot => some .isnot
theorem cop?_ok {o : CmpOp} {b : Cop} (h : cop? o = some b) : o = copOf b := by
  cases o <;> cases h <;> rfl
/-- a test's form is known -/
def testOk : Expr → Bool
  | .IfExp .. => false
  | _ => true
def guardO {α : Type} (b : Bool) (x : Option α) : Option α := if b then x else none
theorem guardO_some {α : Type} {b : Bool} {x : Option α} {y : α} (h : guardO b x = some y) : b = true ∧ x = some y := by
  unfold guardO at h
  split at h
  · rename_i e
    exact ⟨e, h⟩
  · cases h
theorem bind_some {α β : Type} {x : Option α} {f : α → Option β} {y : β} (h : x.bind f = some y) : ∃ a, x = some a ∧ f a = some y := Option.bind_eq_some_iff.mp h

/-- the built-ins that are called by name -/
inductive Bi where
  | b (id : String) | t (id : String)
def biTab : List (Str × (Nat × Prim × Bi)) := [("len", 1, .len, .b "len"), ("int", 1, .toInt, .t "int"), ("str", 1, .toStr, .t "str"), ("abs", 1, .abs, .b "abs"), ("sum", 1, .sum, .b "sum"), ("all", 1, .all, .b "all"), ("any", 1, .any, .b "any"),
  ("min", 2, .min2, .b "min"), ("max", 2, .max2, .b "max"), ("list", 1, .list, .t "list"), ("tuple", 1, .tuple, .t "tuple"), ("repr", 1, .repr, .b "repr")]
def isRepr : Prim → Bool
  | .repr => true
  | _ => false
def biOf (rp : Bool) (f : Str) (n : Nat) : Option (Prim × Bi) := match biTab.lookup f with
  | some (m, p, b) => guardO (n == m && (rp || !isRepr p)) (some (p, b))
  | none => none
def tyTab : List (Str × (Prim × String)) := [("tuple", .isTup, "tuple"), ("int", .isInt, "int"), ("bool", .isBool, "bool"), ("str", .isStr, "str"), ("list", .isLst, "list")]
def isTy (x : Str) : Option (Prim × String) := tyTab.lookup x
/-- names without entry: built-ins -/
def noEnt (c : Cc) (x : Str) : Bool := (c.G.lookup x).isNone && (c.L.lookup x).isNone
def tgLoc (c : Cc) (sc : Scope) (x : Str) : Option Nat := guardO (okName x && visB (sc.names.lookup x)) (ixOf x c.N)
def paramsNil (a : Arguments) : Bool := a.posonlyargs.isEmpty && a.args.isEmpty && a.vararg.isNone && a.kwonlyargs.isEmpty && a.kw_defaults.isEmpty && a.kwarg.isNone && a.defaults.isEmpty
def notName : Expr → Bool
  | .Name .. => false
  | _ => true

/-- the names of a comprehension's own -/
def ownOf (N : List Str) (scope : Scope) : List (Str × Nat) := (scope.names.filter fun y => isLocal (some y.2) && (ixOf y.1 N).isSome).map fun y => (y.1, (ixOf y.1 N).getD 0)
mutual
def cE : Nat → Cc → Scope → Expr → Option C
  | 0, _, _, _ => none
  | n + 1, c, sc, e => match e with
    | .Constant k _ _ => (match k with
      | .none => some (.cst .non)
      | .bool b => some (.cst (.bl b))
      | .int i => some (.cst (.int i))
      | .str x => some (.cst (.str x))
      | _ => none)
    | .Name x _ => guardO (okName x) (match sc.names.lookup x with
      | some .globalImplicit => (match c.G.lookup x with
        | some (.cst d) => some (.cst d)
        | _ => none)
      | some .local => (ixOf x c.N).map .var
      | some .cell => (ixOf x c.N).map .var
      | some .free => (ixOf x c.N).map .var
      | _ => none)
    | .BinOp a o b _ => (bop? o).bind fun o' => (cE n c sc a).bind fun ca => (cE n c sc b).bind fun cb => some (.bin o' ca cb)
    | .UnaryOp o a _ => (match o with
      | .USub => (cE n c sc a).bind fun ca => some (.neg ca)
      | .Not => guardO (testOk a) ((cE n c sc a).bind fun ca => some (.not ca))
      | _ => none)
    | .Compare a os bs _ => (match os, bs with
      | [o], [b] => guardO (notSet b) ((cop? o).bind fun o' => (cE n c sc a).bind fun ca => (cE n c sc b).bind fun cb => some (.cmp o' ca cb))
      | [o, p], [b, d] => guardO (notSet d) ((cop? o).bind fun o' => (cop? p).bind fun p' => (cE n c sc a).bind fun ca => (cE n c sc b).bind fun cb => (cE n c sc d).bind fun cd => some (.chain o' p' ca cb cd))
      | _, _ => none)
    | .BoolOp op es _ => cB n c sc op es
    | .IfExp t a b _ => guardO (testOk t) ((cE n c sc t).bind fun ct => (cE n c sc a).bind fun ca => (cE n c sc b).bind fun cb => some (.ite ct ca cb))
    | .Tuple es _ _ => guardO (es.all noStar) ((cA n c sc es).bind fun cs => some (.tup cs))
    | .List es _ => guardO (es.all noStar) ((cA n c sc es).bind fun cs => some (.lst cs))
    | .Subscript a i _ => (cE n c sc a).bind fun ca => (match i with
      | .Slice lo hi st _ => (match st with
        | none => (cO n c sc lo).bind fun cl => (cO n c sc hi).bind fun ch => some (.slc ca cl ch)
        | some s => (match lo, hi, s with
          | none, none, .UnaryOp .USub (.Constant (.int i) _ _) _ => guardO (decide (i = 1)) (some (.rev ca))
          | _, _, _ => none))
      | i => guardO (notSlice i) ((cE n c sc i).bind fun ci => some (.idx ca ci)))
    | .Attribute a m _ => guardO (m == ("value" : Str) && baseOk a) ((cE n c sc a).bind fun ca => some (.fld ca))
    | .Call f as ks pos => (match ks with
      | [] => (match f with
        | .Name x _ => guardO (okName x && isGlob (sc.names.lookup x) && as.all noStar) (match c.G.lookup x with
          | some (.fn sg) => (cA n c sc as).bind fun cs => some (.call sg cs)
          | some (.fnP sg) => (match as with
            | .Name y _ :: r => (tgLoc c sc y).bind fun i => (cA n c sc r).bind fun cs => some (.callP sg i cs)
            | _ => none)
          | some .heard => (match as with
            | [.Lambda ps b scope _] => guardO (c.lam && paramsNil ps && LamX.lamSB sc scope) ((cE n { c with G := c.L, lam := false, rp := false } scope b).bind fun cb => guardO (!cb.isF) (some (.heard cb)))
            | _ => none)
          | some _ => none
          | none => guardO (noEnt c x) (if x == "isinstance" then (match as with
            | [a, .Name y _] => (cE n c sc a).bind fun ca => (match c.G.lookup y with
              | some .cls => guardO (okName y && isGlob (sc.names.lookup y)) (some (.prim (.isExn y) (.cons ca .nil)))
              | some _ => none
              | none => guardO (noEnt c y && okName y && isGlob (sc.names.lookup y)) ((isTy y).bind fun p => some (.prim p.1 (.cons ca .nil))))
            | _ => none)
            else if x == "list" then (match as with
            | [.Call (.Name y _) [a] [] _] => if y == "range" then guardO (noEnt c y && isGlob (sc.names.lookup y) && noStar a) ((cE n c sc a).bind fun ca => some (.prim .listRange (.cons ca .nil)))
              else (cA n c sc as).bind fun cs => some (.prim .list cs)
            | [_] => (cA n c sc as).bind fun cs => some (.prim .list cs)
            | _ => none)
            else (biOf c.rp x as.length).bind fun p => (cA n c sc as).bind fun cs => some (.prim p.1 cs)))
        | .Attribute o m apos => guardO (baseOk o && (apos.endLine == pos.line) && as.all noStar) (if m == "pop" then (match o, as with
            | .Name y _, [] => (tgLoc c sc y).bind fun i => some (.pop i)
            | _, _ => none)
          else if m == "append" then (match o, as with
            | .Name y _, [a] => (tgLoc c sc y).bind fun i => (cE n c sc a).bind fun ca => some (.app i ca)
            | _, _ => none)
          else if m == "extend" then (match o, as with
            | .Name y _, [a] => (tgLoc c sc y).bind fun i => (cE n c sc a).bind fun ca => some (.ext i ca)
            | _, _ => none)
          else if m == "join" then (match as with
            | [a] => (cE n c sc o).bind fun co => (cE n c sc a).bind fun ca => some (.mth .join co ca)
            | _ => none)
          else if m == "split" then (match as with
            | [a] => (cE n c sc o).bind fun co => (cE n c sc a).bind fun ca => some (.mth .split co ca)
            | _ => none)
          else none)
        | _ => none)
      | _ => none)
    | .ListComp e gs scope _ => (match gs with
      | [⟨tg, iter, ifs, k⟩] => guardO (k == 0 && notSet iter) ((cI n c sc tg iter).bind fun it => (cG n { c with lam := false } (relS scope sc) true tg).bind fun t => (cF n { c with lam := false } (relS scope sc) ifs).bind fun ci => (cE n { c with lam := false } (relS scope sc) e).bind fun ce =>
        guardO (blkC c.N sc scope (ownOf c.N scope) && t.names.all fun i => decide (i ∈ (ownOf c.N scope).map (·.2))) (some (.comp t it ci ce ((ownOf c.N scope).map (·.2)))))
      | _ => none)
    | _ => none
def cA : Nat → Cc → Scope → List Expr → Option Cs
  | 0, _, _, _ => none
  | n + 1, c, sc, es => match es with
    | [] => some .nil
    | e :: r => (cE n c sc e).bind fun ce => (cA n c sc r).bind fun cr => some (.cons ce cr)
def cF : Nat → Cc → Scope → List Expr → Option Cs
  | 0, _, _, _ => none
  | n + 1, c, sc, es => match es with
    | [] => some .nil
    | [e] => guardO (testOk e) ((cE n c sc e).bind fun ce => some (.cons ce .nil))
    | _ => none
def cO : Nat → Cc → Scope → Option Expr → Option Co
  | 0, _, _, _ => none
  | n + 1, c, sc, e => match e with
    | none => some .no
    | some e => (cE n c sc e).bind fun ce => some (.so ce)
def cB : Nat → Cc → Scope → BoolOp → List Expr → Option C
  | 0, _, _, _, _ => none
  | n + 1, c, sc, op, es => match es with
    | [] => none
    | [e] => guardO (testOk e) ((cE n c sc e).bind fun ce => guardO (!ce.isF) (some ce))
    | e :: r => guardO (testOk e) ((cE n c sc e).bind fun ce => (cB n c sc op r).bind fun cr => some (match op with
      | .And => .and ce cr
      | .Or => .or ce cr))
def cI : Nat → Cc → Scope → Expr → Expr → Option It
  | 0, _, _, _, _ => none
  | n + 1, c, sc, tg, e => match e with
    | .Call (.Name x _) as [] _ => if x == "range" then guardO (noEnt c x && isGlob (sc.names.lookup x) && as.all noStar) (match as with
        | [a] => (cE n c sc a).bind fun ca => some (.rng1 ca)
        | [a, b] => (cE n c sc a).bind fun ca => (cE n c sc b).bind fun cb => some (.rng2 ca cb)
        | _ => none)
      else if x == "zip" then guardO (noEnt c x && isGlob (sc.names.lookup x) && as.all noStar) (match tg, as with
        | .Tuple _ _ _, [a, b] => (cE n c sc a).bind fun ca => (cE n c sc b).bind fun cb => some (.zip ca cb)
        | _, _ => none)
      else (cE n c sc e).bind fun ce => some (.val ce)
    | e => (cE n c sc e).bind fun ce => some (.val ce)
/-- l: plain locals alone -/
def cG : Nat → Cc → Scope → Bool → Expr → Option Tg
  | 0, _, _, _, _ => none
  | n + 1, c, sc, l, e => match e with
    | .Name x _ => guardO (okName x && (if l then isLocal (sc.names.lookup x) else locB (sc.names.lookup x))) ((ixOf x c.N).map .nm)
    | .Subscript o i _ => (match o with
      | .Name y _ => guardO (notSlice i) ((tgLoc c sc y).bind fun j => (cE n c sc i).bind fun ci => some (.sub j ci))
      | _ => none)
    | .Tuple es _ _ => guardO (es.all noStar) ((cGs n c sc l es).bind fun ts => guardO (decide (es.length = ts.length)) (some (.tup ts)))
    | _ => none
def cGs : Nat → Cc → Scope → Bool → List Expr → Option Tgs
  | 0, _, _, _, _ => none
  | n + 1, c, sc, l, es => match es with
    | [] => some .nil
    | e :: r => (cG n c sc l e).bind fun t => (cGs n c sc l r).bind fun ts => some (.cons t ts)
end
end EvO

set_option Elab.async false
set_option linter.all false
set_option maxRecDepth 10000
/-! A19: the code of a text says what the text does. -/
namespace EvO
open PySem PySem.Spec L2

/-- a def that catches what a lambda raises -/
def HrOk (S : Cfg) (n : Str) : Prop := ∃ (gA L : Addr) (pg : Arguments) (bg : List Stmt) (sg : Scope) (dV kV doc pm cdv ct oc : Value) (an od : Option Addr) (osl : Array (Option Value)), S.mg n = some (.ref gA) ∧ PySem.W.keepIn S.K (.ref gA) = true ∧
  S.K.lookup gA = some ⟨oc, od, .func (PySem.W.fnOf n n pg bg sg dV kV doc pm an cdv ct), osl⟩ ∧ PySem.W.codeIn S.K cdv n = true ∧ L2.Binds S.K (PySem.W.fnOf n n pg bg sg dV kV doc pm an cdv ct) ["call"] [] ∧ FnScope ["call", "caught", "back", "error"] ["call"] sg ∧ HeardSc sg ∧ S.mg "LiftError" = some (.ref L) ∧ HeardOk S L ∧
  ∃ (j1 j2 k1 k2 k3 : Nat) (q1 q2 q3 q4 q5 q6 q7 q8 q9 r1 r2 r3 r4 r5 r6 r7 r8 r9 s1 s2 s3 : Pos), bg = [.Assign [.Tuple [.Name "caught" q1, .Name "back" q2] k1 q3] (.Tuple [.Constant .none j1 q4, .Constant .none j2 q5] k2 q6) q7,
      .Try [.Assign [.Name "back" q8] (.Call (.Name "call" q9) [] [] r1) r2] [.ExceptHandler (some (.Name "LiftError" r3)) (some "error") [.Assign [.Name "caught" r4] (.Name "error" r5) r6] r7] [] [] r8,
      .Return (some (.Tuple [.Name "caught" r9, .Name "back" s1] k3 s2)) s3]
def EOk (S : Cfg) (g : Bool) (k : Nat) (n : Str) : Ent → Prop
  | .cst d => ∃ v val, S.mg n = some val ∧ RelV v val ∧ ∀ G, Den S G v d
  | .fn sg => ∃ f fd ps, FnG S g k f fd ps (spD S sg) ∧ S.mg n = some (.ref f) ∧ PySem.W.keepIn S.K (.ref f) = true ∧ L2.Binds S.K fd ps []
  | .fnP sg => ∃ f fd ps, FnG S g k f fd ps (spP S sg) ∧ S.mg n = some (.ref f) ∧ PySem.W.keepIn S.K (.ref f) = true ∧ L2.Binds S.K fd ps []
  | .cls => n ∈ S.cls ∧ S.mg n = some (.ref (S.cA n)) ∧ ∀ (X : Cx) (N : List Str) (sc : Scope) (E : XK), XOk S N sc g k E X → RaiseOk S X n
  | .heard => HrOk S n
def GOk (S : Cfg) (g : Bool) (k : Nat) (G : List (Str × Ent)) : Prop := ∀ n e, G.lookup n = some e → EOk S g k n e
def biNames : List Str := ["isinstance", "len", "int", "str", "abs", "sum", "all", "any", "min", "max", "list", "tuple", "repr", "range", "zip", "bool"]
structure COk (S : Cfg) (g : Bool) (k : Nat) (c : Cc) : Prop where
  ge : GOk S g k c.G
  le : c.lam = true → ∃ k', k' + 2 ≤ k ∧ GOk S false k' c.L
  bi : ∀ x ∈ biNames, S.mg x = none
  rp : c.rp = true → g = true
/-- the lambdas of a def -/
def LOk (S : Cfg) (X : Cx) : Prop := ∃ cA P, LamX.TabB S.base S.mg cA P ∧ X.env.code = .ref cA ∧ (P, X.env.qual ++ ("<lambda>" : Str)) ∈ S.T ∧ ∀ p ∈ S.T, p.1 = P → p.2 = X.env.qual ++ ("<lambda>" : Str)
structure SndE (S : Cfg) (io : Nat → Option Addr) (B : Hp) (E : XK) (X : Cx) (e : Expr) (c : C) : Prop where
  pe : PE X e (tV S io B E c.isF c)
  pt : testOk e = true → PT X e (tT S io B E c)
theorem SndE.pf {S : Cfg} {io : Nat → Option Addr} {B : Hp} {E : XK} {X : Cx} {e : Expr} {c : C} (h : SndE S io B E X e c) : PE X e (tV S io B E false c) := pe_false h.pe
theorem SndE.plain {S : Cfg} {io : Nat → Option Addr} {B : Hp} {E : XK} {X : Cx} {e : Expr} {c : C} (h : PE X e (tV S io B E c.isF c)) (hp : plainT e = true) : SndE S io B E X e c := ⟨h, fun _ => t_plain (pe_false h) hp⟩
structure Snd (S : Cfg) (n : Nat) : Prop where
  e : ∀ {g : Bool} {k : Nat} {c : Cc} {sc : Scope} {X : Cx} {E : XK} {io : Nat → Option Addr} {B : Hp} {e : Expr} {ce : C}, COk S g k c → XOk S c.N sc g k E X → (c.lam = true → LOk S X) → cE n c sc e = some ce → SndE S io B E X e ce
  a : ∀ {g : Bool} {k : Nat} {c : Cc} {sc : Scope} {X : Cx} {E : XK} {io : Nat → Option Addr} {B : Hp} {es : List Expr} {cs : Cs}, COk S g k c → XOk S c.N sc g k E X → (c.lam = true → LOk S X) → es.all noStar = true → cA n c sc es = some cs → PA X es (tA S io B E cs)
  f : ∀ {g : Bool} {k : Nat} {c : Cc} {sc : Scope} {X : Cx} {E : XK} {io : Nat → Option Addr} {B : Hp} {es : List Expr} {cs : Cs}, COk S g k c → XOk S c.N sc g k E X → (c.lam = true → LOk S X) → cF n c sc es = some cs → PTs X es (tTs S io B E cs)
  o : ∀ {g : Bool} {k : Nat} {c : Cc} {sc : Scope} {X : Cx} {E : XK} {io : Nat → Option Addr} {B : Hp} {e : Option Expr} {co : Co}, COk S g k c → XOk S c.N sc g k E X → (c.lam = true → LOk S X) → cO n c sc e = some co → PO X e (tO S io B E co)
  b : ∀ {g : Bool} {k : Nat} {c : Cc} {sc : Scope} {X : Cx} {E : XK} {io : Nat → Option Addr} {B : Hp} {op : BoolOp} {es : List Expr} {pos : Pos} {ce : C}, COk S g k c → XOk S c.N sc g k E X → (c.lam = true → LOk S X) → cB n c sc op es = some ce → PE X (.BoolOp op es pos) (tV S io B E false ce) ∧ PW X (.BoolOp op es pos) (tT S io B E ce) ∧ ce.isF = false
  i : ∀ {g : Bool} {k : Nat} {c : Cc} {sc : Scope} {X : Cx} {E : XK} {io : Nat → Option Addr} {B : Hp} {tg e : Expr} {it : EvO.It}, COk S g k c → XOk S c.N sc g k E X → (c.lam = true → LOk S X) → cI n c sc tg e = some it → PI X tg e (tI S io B E it)
  g : ∀ {g : Bool} {k : Nat} {c : Cc} {sc : Scope} {X : Cx} {E : XK} {io : Nat → Option Addr} {B : Hp} {l : Bool} {e : Expr} {t : Tg}, COk S g k c → XOk S c.N sc g k E X → (c.lam = true → LOk S X) → (l = false → ∀ x, X.fn x = true) → cG n c sc l e = some t → PG X e (tG S io B E t)
  gs : ∀ {g : Bool} {k : Nat} {c : Cc} {sc : Scope} {X : Cx} {E : XK} {io : Nat → Option Addr} {B : Hp} {l : Bool} {es : List Expr} {ts : Tgs}, COk S g k c → XOk S c.N sc g k E X → (c.lam = true → LOk S X) → (l = false → ∀ x, X.fn x = true) → es.all noStar = true → cGs n c sc l es = some ts → PGs X es (tGs S io B E ts)
section
variable {S : Cfg} {g : Bool} {k : Nat} {c : Cc} {sc : Scope} {X : Cx} {E : XK} {io : Nat → Option Addr} {B : Hp}
theorem tgLoc_ok (hX : XOk S c.N sc g k E X) {x : Str} {i : Nat} {p : Pos} (h : tgLoc c sc x = some i) : PE X (.Name x p) (tV S io B E false (.var i)) := by
  obtain ⟨h1, h2⟩ := guardO_some h
  obtain ⟨h3, h4⟩ := Bool.and_eq_true_iff.mp h1
  obtain ⟨n1, n2, _⟩ := okName_ok h3
  exact g_var hX (ixOf_ok h2) (visB_ok h4) n1 n2
theorem g_heard (hX : XOk S c.N sc g k E X) (hL : LOk S X) {n : Str} (hn : okName n = true) (hg : sc.names.lookup n = some .globalImplicit) (hH : HrOk S n) {k' : Nat} (hk : k' + 2 ≤ k) {ps : Arguments} (hp : paramsNil ps = true) {b : Expr} {scope : Scope} (hs : LamX.lamSB sc scope = true) {cb : C} {p1 p2 pos : Pos}
    (hb : ∀ (X' : Cx) (E' : XK) (B' : Hp), XOk S c.N scope false k' E' X' → PE X' b (tV S (fun _ => none) B' E' false cb)) : PE X (.Call (.Name n p1) [.Lambda ps b scope p2] [] pos) (tV S io B E false (.heard cb)) := by
  obtain ⟨gA, L, pg, bg, sg, dV, kV, doc, pm, cdv, ct, oc, an, od, osl, hm, hkp, lk, hcd, hbi, Sg, hSc, hmL, hO, j1, j2, k1, k2, k3, q1, q2, q3, q4, q5, q6, q7, q8, q9, r1, r2, r3, r4, r5, r6, r7, r8, r9, s1, s2, s3, hbg⟩ := hH
  obtain ⟨cA, P, TB, hcode, hmT, hu⟩ := hL
  obtain ⟨n1, n2, _⟩ := okName_ok hn
  have hps : ps = ⟨[], [], none, [], [], none, []⟩ := by
    obtain ⟨a1, a2, a3, a4, a5, a6, a7⟩ := ps
    unfold paramsNil at hp
    simp only [Bool.and_eq_true, List.isEmpty_iff, Option.isNone_iff_eq_none] at hp
    obtain ⟨⟨⟨⟨⟨⟨rfl, rfl⟩, rfl⟩, rfl⟩, rfl⟩, rfl⟩, rfl⟩ := hp
    rfl
  subst hps
  rw [← hX.eK] at hkp lk hcd hbi
  rw [← hX.em] at hm hmL
  rw [← hX.eb, ← hX.em] at TB
  refine PE.imp (lam_call (T := S.T) (TT := TTh X.K L) (Ng := ["call", "caught", "back", "error"]) (t := fun E' => fun σ H Q => ∃ B' : Hp, tV S (fun _ => none) B' E' false cb σ H Q) (k := k') (gl_of hX hg) hm hkp lk hcd hbi Sg rfl (.inl hSc.a) (heard_hands hSc hmL hbg) TB hcode hmT hu (hX.room.mono hk) (LamX.lamS_by (by rw [hX.eS]; exact hs)) (by rfl) (fun _ _ _ _ _ => rfl) (fun A outer s H E' f c' hr => PE.ex fun B' => hb _ E' B' ?_) n1 (by decide +kernel) (by decide +kernel)) fun σ H Q h => ?_
  · exact {
      eP := hX.eP
      ew := hX.ew
      eK := hX.eK
      em := hX.em
      eb := hX.eb
      eN := hX.eN
      nd := hX.nd
      eS := rfl
      calm := rfl
      room := hr
      tk := takes_of rfl rfl rfl rfl
      own := passes_of rfl
      gd := fun z => by cases z }
  · rw [hX.eK]
    exact heard_imp rfl hO h
end
end EvO

set_option Elab.async false
set_option linter.all false
set_option maxRecDepth 10000
/-! A20: the induction. -/
namespace EvO
open PySem PySem.Spec L2
section
variable {S : Cfg} {g : Bool} {k : Nat} {c : Cc} {sc : Scope} {X : Cx} {E : XK} {io : Nat → Option Addr} {B : Hp}
theorem cA_nil {n : Nat} {cs : Cs} (h : cA n c sc [] = some cs) : cs = .nil := by
  cases n with
  | zero =>
    unfold cA at h
    cases h
  | succ n =>
    unfold cA at h
    cases h
    rfl
theorem all_cons {e : Expr} {es : List Expr} (h : (e :: es).all noStar = true) : noStar e = true ∧ es.all noStar = true := Bool.and_eq_true_iff.mp h
theorem bts : bootBuiltins "len" = some (.builtin "len") ∧ bootBuiltins "int" = some (.type "int") ∧ bootBuiltins "str" = some (.type "str") ∧ bootBuiltins "abs" = some (.builtin "abs") ∧ bootBuiltins "sum" = some (.builtin "sum") ∧ bootBuiltins "all" = some (.builtin "all") ∧ bootBuiltins "any" = some (.builtin "any") ∧
    bootBuiltins "min" = some (.builtin "min") ∧ bootBuiltins "max" = some (.builtin "max") ∧ bootBuiltins "list" = some (.type "list") ∧ bootBuiltins "tuple" = some (.type "tuple") ∧ bootBuiltins "repr" = some (.builtin "repr") ∧ bootBuiltins "bool" = some (.type "bool") := by decide +kernel
theorem g_bi {N : List Str} (hX : XOk S N sc g k E X) (hbi : ∀ x ∈ biNames, S.mg x = none) {rp : Bool} (hrp : rp = true → g = true) {f : Str} {as : List Expr} {cs : Cs} {p : Prim} {b : Bi} {p1 pos : Pos} (h : biOf rp f as.length = some (p, b)) (ha : PA X as (tA S io B E cs)) (ns : as.all noStar = true) (hg : sc.names.lookup f = some .globalImplicit) (hn : okName f = true) :
    PE X (.Call (.Name f p1) as [] pos) (tV S io B E (C.prim p cs).isF (.prim p cs)) := by
  obtain ⟨n1, n2, n3⟩ := okName_ok hn
  obtain ⟨b1, b2, b3, b4, b5, b6, b7, b8, b9, b10, b11, b12, _⟩ := bts
  unfold biOf at h
  split at h
  · rename_i m p' b' e
    obtain ⟨h1, h2⟩ := guardO_some h
    cases h2
    obtain ⟨h1, h3⟩ := Bool.and_eq_true_iff.mp h1
    have hl : as.length = m := beq_iff_eq.mp h1
    have hm := PySem.mem_of_lookup e
    cases as with
    | nil =>
      simp only [biTab, List.mem_cons, List.not_mem_nil, or_false, Prod.mk.injEq] at hm
      simp only [List.length_nil] at hl
      omega
    | cons e es =>
      obtain ⟨ns1, ns2⟩ := all_cons ns
      simp only [biTab, List.mem_cons, List.not_mem_nil, or_false, Prod.mk.injEq] at hm
      rcases hm with ⟨rfl, _, rfl, rfl⟩ | ⟨rfl, _, rfl, rfl⟩ | ⟨rfl, _, rfl, rfl⟩ | ⟨rfl, _, rfl, rfl⟩ | ⟨rfl, _, rfl, rfl⟩ | ⟨rfl, _, rfl, rfl⟩ | ⟨rfl, _, rfl, rfl⟩ | ⟨rfl, _, rfl, rfl⟩ | ⟨rfl, _, rfl, rfl⟩ | ⟨rfl, _, rfl, rfl⟩ | ⟨rfl, _, rfl, rfl⟩ | ⟨rfl, _, rfl, rfl⟩
      · exact g_prim hX (m_len hX.eK) b1 (hbi _ (by simp [biNames])) hg n1 n3 ha ns1 ns2
      · exact g_primT hX m_int b2 (hbi _ (by simp [biNames])) hg n1 n3 ha ns1 ns2
      · exact g_primT hX m_str b3 (hbi _ (by simp [biNames])) hg n1 n3 ha ns1 ns2
      · exact g_prim hX m_abs b4 (hbi _ (by simp [biNames])) hg n1 n3 ha ns1 ns2
      · exact g_prim hX (m_sum hX.eK hX.calm) b5 (hbi _ (by simp [biNames])) hg n1 n3 ha ns1 ns2
      · exact g_prim hX (m_all hX.eK hX.calm) b6 (hbi _ (by simp [biNames])) hg n1 n3 ha ns1 ns2
      · exact g_prim hX (m_any hX.eK hX.calm) b7 (hbi _ (by simp [biNames])) hg n1 n3 ha ns1 ns2
      · exact g_prim hX (m_min hX.calm) b8 (hbi _ (by simp [biNames])) hg n1 n3 ha ns1 ns2
      · exact g_prim hX (m_max hX.calm) b9 (hbi _ (by simp [biNames])) hg n1 n3 ha ns1 ns2
      · exact g_primT hX (m_list hX.eK) b10 (hbi _ (by simp [biNames])) hg n1 n3 ha ns1 ns2
      · exact pe_false (g_primT hX (m_tuple hX.eK) b11 (hbi _ (by simp [biNames])) hg n1 n3 ha ns1 ns2)
      · have hrp' : rp = true := by simpa [isRepr] using h3
        exact g_prim hX (m_repr hX.eK (hX.gd (hrp hrp')) hX.room) b12 (hbi _ (by simp [biNames])) hg n1 n3 ha ns1 ns2
  · cases h
theorem ty_ok {N : List Str} (hX : XOk S N sc g k E X) (hbi : ∀ x ∈ biNames, S.mg x = none) {y : Str} {p : Prim × String} (h : isTy y = some p) (hg : sc.names.lookup y = some .globalImplicit) (hn : okName y = true) {p1 : Pos} : primCls S p.1 = some (.ty p.2, .type p.2) ∧ PE X (.Name y p1) (tC (.ty p.2)) ∧ ∀ c, p.1 ≠ .isExn c := by
  obtain ⟨n1, n2, n3⟩ := okName_ok hn
  obtain ⟨b1, b2, b3, b4, b5, b6, b7, b8, b9, b10, b11, b12, b13⟩ := bts
  have hm := PySem.mem_of_lookup h
  have go : ∀ {T : String}, bootBuiltins y = some (.type T) → S.mg y = none → PE X (.Name y p1) (tC (.ty T)) := fun {T} hb hm => pe_bltn (gl_of hX hg) (by rw [hX.em]; exact hm) hb (show RelV (.ty T) (.type T) from rfl) n3 n1
  simp only [tyTab, List.mem_cons, List.not_mem_nil, or_false, Prod.mk.injEq] at hm
  obtain ⟨q, T⟩ := p
  rcases hm with ⟨rfl, e⟩ | ⟨rfl, e⟩ | ⟨rfl, e⟩ | ⟨rfl, e⟩ | ⟨rfl, e⟩ <;> cases e
  · exact ⟨rfl, go b11 (hbi _ (by simp [biNames])), fun c z => by cases z⟩
  · exact ⟨rfl, go b2 (hbi _ (by simp [biNames])), fun c z => by cases z⟩
  · exact ⟨rfl, go b13 (hbi _ (by simp [biNames])), fun c z => by cases z⟩
  · exact ⟨rfl, go b3 (hbi _ (by simp [biNames])), fun c z => by cases z⟩
  · exact ⟨rfl, go b10 (hbi _ (by simp [biNames])), fun c z => by cases z⟩
end
end EvO

set_option Elab.async false
set_option linter.all false
set_option maxRecDepth 10000
set_option maxHeartbeats 4000000
/-! A21: the induction. -/
namespace EvO
open PySem PySem.Spec L2
section
variable {S : Cfg}
theorem bi_list (rp : Bool) : biOf rp "list" 1 = some (Prim.list, Bi.t "list") := by cases rp <;> rfl
/-- expressions -/
theorem snd_e (hC : ClsOk S) {n : Nat} (ih : Snd S n) {g : Bool} {k : Nat} {c : Cc} {sc : Scope} {X : Cx} {E : XK} {io : Nat → Option Addr} {B : Hp} {e : Expr} {ce : C} (hc : COk S g k c) (hX : XOk S c.N sc g k E X) (hl : c.lam = true → LOk S X) (h : cE (n + 1) c sc e = some ce) : SndE S io B E X e ce := by
  cases e with
  | Constant kk j p =>
    unfold cE at h
    dsimp only at h
    cases kk <;> first
      | cases h; done
      | (cases h; exact .plain (g_cst pe_non fun G => .non) rfl)
      | (cases h; exact .plain (g_cst pe_bl fun G => .bl _) rfl)
      | (cases h; exact .plain (g_cst pe_int fun G => .int _) rfl)
      | (cases h; exact .plain (g_cst pe_str fun G => .str _) rfl)
  | Name x p =>
    unfold cE at h
    dsimp only at h
    obtain ⟨h1, hh⟩ := guardO_some h; replace h := hh; clear hh
    obtain ⟨n1, n2, n3⟩ := okName_ok h1
    split at h
    · rename_i e1
      split at h
      · rename_i d e2
        cases h
        obtain ⟨v, val, hm, r, hd⟩ := hc.ge _ _ e2
        exact .plain (g_cst (pe_glob (gl_of hX e1) (by rw [hX.em]; exact hm) r n1) hd) rfl
      · cases h
    · rename_i e1
      obtain ⟨i, e2, rfl⟩ := Option.map_eq_some_iff.mp h
      exact .plain (g_var hX (ixOf_ok e2) (.inl e1) n1 n2) rfl
    · rename_i e1
      obtain ⟨i, e2, rfl⟩ := Option.map_eq_some_iff.mp h
      exact .plain (g_var hX (ixOf_ok e2) (.inr (.inl e1)) n1 n2) rfl
    · rename_i e1
      obtain ⟨i, e2, rfl⟩ := Option.map_eq_some_iff.mp h
      exact .plain (g_var hX (ixOf_ok e2) (.inr (.inr e1)) n1 n2) rfl
    · cases h
  | BinOp a o b p =>
    unfold cE at h
    dsimp only at h
    obtain ⟨o', h1, h⟩ := bind_some h
    obtain ⟨ca, h2, h⟩ := bind_some h
    obtain ⟨cb, h3, h⟩ := bind_some h
    cases h
    obtain rfl := bop?_ok h1
    have q : PE X (.BinOp a (bopOf o') b p) (tV S io B E true (.bin o' ca cb)) := g_bin hX o' (ih.e hc hX hl h2).pf (ih.e hc hX hl h3).pf
    refine .plain ?_ rfl
    cases o' <;> first | exact q | exact pe_false q
  | UnaryOp o a p =>
    unfold cE at h
    dsimp only at h
    cases o with
    | USub =>
      dsimp only at h
      obtain ⟨ca, h2, h⟩ := bind_some h
      cases h
      exact .plain (g_neg (ih.e hc hX hl h2).pf) rfl
    | Not =>
      dsimp only at h
      obtain ⟨h1, hh⟩ := guardO_some h; replace h := hh; clear hh
      obtain ⟨ca, h2, h⟩ := bind_some h
      cases h
      exact ⟨g_not (ih.e hc hX hl h2).pf, fun _ => t_not ((ih.e hc hX hl h2).pt h1)⟩
    | _ => cases h
  | Compare a os bs p =>
    unfold cE at h
    dsimp only at h
    split at h
    · obtain ⟨h0, hh⟩ := guardO_some h; replace h := hh; clear hh
      obtain ⟨o', h1, h⟩ := bind_some h
      obtain ⟨ca, h2, h⟩ := bind_some h
      obtain ⟨cb, h3, h⟩ := bind_some h
      cases h
      obtain rfl := cop?_ok h1
      obtain ⟨t, q1, q2, q3⟩ := g_cmp (pos := p) (io := io) (B := B) hX o' (ih.e hc hX hl h2).pf (ih.e hc hX hl h3).pf h0
      exact ⟨PE.imp q1 q3, fun _ => t_cmp q2 q3⟩
    · obtain ⟨h0, hh⟩ := guardO_some h; replace h := hh; clear hh
      obtain ⟨o', h1, h⟩ := bind_some h
      obtain ⟨p', h1', h⟩ := bind_some h
      obtain ⟨ca, h2, h⟩ := bind_some h
      obtain ⟨cb, h3, h⟩ := bind_some h
      obtain ⟨cd, h4, h⟩ := bind_some h
      cases h
      obtain rfl := cop?_ok h1
      obtain rfl := cop?_ok h1'
      obtain ⟨t, q1, q2, q3⟩ := g_chain (pos := p) (io := io) (B := B) hX o' p' (ih.e hc hX hl h2).pf (ih.e hc hX hl h3).pf (ih.e hc hX hl h4).pf h0
      exact ⟨PE.imp q1 q3, fun _ => t_cmp q2 q3⟩
    · cases h
  | BoolOp op es p =>
    unfold cE at h
    dsimp only at h
    obtain ⟨q1, q2, q3⟩ := ih.b (io := io) (B := B) (pos := p) hc hX hl h
    exact ⟨by rw [q3]; exact q1, fun _ => q2.pt⟩
  | IfExp t a b p =>
    unfold cE at h
    dsimp only at h
    obtain ⟨h0, hh⟩ := guardO_some h; replace h := hh; clear hh
    obtain ⟨ct, h1, h⟩ := bind_some h
    obtain ⟨ca, h2, h⟩ := bind_some h
    obtain ⟨cb, h3, h⟩ := bind_some h
    cases h
    exact ⟨g_ite ((ih.e hc hX hl h1).pt h0) (ih.e hc hX hl h2).pf (ih.e hc hX hl h3).pf, fun z => by cases z⟩
  | Tuple es kk p =>
    unfold cE at h
    dsimp only at h
    obtain ⟨h0, hh⟩ := guardO_some h; replace h := hh; clear hh
    obtain ⟨cs, h1, h⟩ := bind_some h
    cases h
    exact .plain (g_tup (ih.a hc hX hl h0 h1)) rfl
  | List es p =>
    unfold cE at h
    dsimp only at h
    obtain ⟨h0, hh⟩ := guardO_some h; replace h := hh; clear hh
    obtain ⟨cs, h1, h⟩ := bind_some h
    cases h
    exact .plain (g_lst (ih.a hc hX hl h0 h1)) rfl
  | Subscript a i p =>
    unfold cE at h
    dsimp only at h
    obtain ⟨ca, h0, h⟩ := bind_some h
    split at h
    · split at h
      · obtain ⟨cl, h1, h⟩ := bind_some h
        obtain ⟨ch, h2, h⟩ := bind_some h
        cases h
        exact .plain (g_slc hX (ih.e hc hX hl h0).pf (ih.o hc hX hl h1) (ih.o hc hX hl h2)) rfl
      · split at h
        · obtain ⟨h1, hh⟩ := guardO_some h; replace h := hh; clear hh
          cases h
          have h1 := of_decide_eq_true h1
          subst h1
          exact .plain (g_rev hX (ih.e hc hX hl h0).pf) rfl
        · cases h
    · obtain ⟨h1, hh⟩ := guardO_some h; replace h := hh; clear hh
      obtain ⟨ci, h2, h⟩ := bind_some h
      cases h
      exact .plain (g_idx hX (ih.e hc hX hl h0).pf (ih.e hc hX hl h2).pf h1) rfl
  | Attribute a m p =>
    unfold cE at h
    dsimp only at h
    obtain ⟨h0, hh⟩ := guardO_some h; replace h := hh; clear hh
    obtain ⟨ca, h1, h⟩ := bind_some h
    cases h
    obtain ⟨h2, h3⟩ := Bool.and_eq_true_iff.mp h0
    have h2 := beq_iff_eq.mp h2
    subst h2
    exact .plain (g_fld hX hC (ih.e hc hX hl h1).pf h3) rfl
  | ListComp e gs scope p =>
    unfold cE at h
    dsimp only at h
    split at h
    · rename_i tg iter ifs kk
      obtain ⟨h0, g1⟩ := guardO_some h
      obtain ⟨h01, h02⟩ := Bool.and_eq_true_iff.mp h0
      obtain ⟨it, h1, g2⟩ := bind_some g1
      obtain ⟨t, h2, g3⟩ := bind_some g2
      obtain ⟨ci, h3, g4⟩ := bind_some g3
      obtain ⟨ce', h4, g5⟩ := bind_some g4
      obtain ⟨h5, g6⟩ := guardO_some g5
      cases g6
      have hk := beq_iff_eq.mp h01
      subst hk
      obtain ⟨h51, h52⟩ := Bool.and_eq_true_iff.mp h5
      have nl : ∀ {P : Prop}, ({ c with lam := false } : Cc).lam = true → P := fun {P} z => absurd (show false = true from z) Bool.false_ne_true
      have hc' : COk S g k { c with lam := false } := ⟨hc.ge, nl, hc.bi, hc.rp⟩
      exact .plain (g_comp hX h51 (ih.i hc hX hl h1) (fun i hi => of_decide_eq_true (List.all_eq_true.mp h52 i hi)) h02 (fun X' B' hX' _ => ih.g hc' hX' nl (fun z => absurd z.symm Bool.false_ne_true) h2) (fun X' B' hX' => ih.f hc' hX' nl h3) fun X' B' hX' => (ih.e hc' hX' nl h4).pf) rfl
    · cases h
  | Call f as ks p =>
    unfold cE at h
    dsimp only at h
    split at h
    · split at h
      · -- a name called
        rename_i x p1
        obtain ⟨h0, hh⟩ := guardO_some h; replace h := hh; clear hh
        obtain ⟨h01, ns⟩ := Bool.and_eq_true_iff.mp h0
        obtain ⟨hn, hg⟩ := Bool.and_eq_true_iff.mp h01
        have hg := isGlob_ok hg
        obtain ⟨n1, n2, n3⟩ := okName_ok hn
        split at h
        · rename_i sg e1
          obtain ⟨cs, h1, h⟩ := bind_some h
          cases h
          obtain ⟨f, fd, ps, F, hm, hk, hb⟩ := hc.ge _ _ e1
          have Ck := callOk hX F hm hk hb
          refine .plain ?_ rfl
          cases as with
          | nil =>
            obtain rfl := cA_nil h1
            exact g_call0 hX Ck hg n1
          | cons e es =>
            obtain ⟨ns1, ns2⟩ := all_cons ns
            exact g_call hX Ck hg n1 (ih.a hc hX hl ns h1) ns1 ns2
        · rename_i sg e1
          split at h
          · rename_i y p2 r
            obtain ⟨i, h1, h⟩ := bind_some h
            obtain ⟨cs, h2, h⟩ := bind_some h
            cases h
            obtain ⟨f, fd, ps, F, hm, hk, hb⟩ := hc.ge _ _ e1
            obtain ⟨ns1, ns2⟩ := all_cons ns
            exact .plain (g_callP hX (callOk hX F hm hk hb) hg n1 (tgLoc_ok hX h1) (ih.a hc hX hl ns2 h2) ns1 ns2) rfl
          · cases h
        · rename_i e1
          split at h
          · rename_i ps b scope p2
            obtain ⟨h1, hh⟩ := guardO_some h; replace h := hh; clear hh
            obtain ⟨cb, h2, h⟩ := bind_some h
            obtain ⟨h3, hh⟩ := guardO_some h; replace h := hh; clear hh
            cases h
            obtain ⟨h11, hs⟩ := Bool.and_eq_true_iff.mp h1
            obtain ⟨hlm, hp⟩ := Bool.and_eq_true_iff.mp h11
            obtain ⟨k', hk, gl⟩ := hc.le hlm
            have nl : ∀ {P : Prop}, ({ c with G := c.L, lam := false, rp := false } : Cc).lam = true → P := fun {P} z => absurd (show false = true from z) Bool.false_ne_true
            have hc' : COk S false k' { c with G := c.L, lam := false, rp := false } := ⟨gl, nl, hc.bi, fun z => z⟩
            exact .plain (g_heard hX (hl hlm) hn hg (hc.ge _ _ e1) hk hp hs fun X' E' B' hX' => (ih.e hc' hX' nl h2).pf) rfl
          · cases h
        · cases h
        · obtain ⟨h1, hh⟩ := guardO_some h; replace h := hh; clear hh
          split at h
          · rename_i ex
            have ex := beq_iff_eq.mp ex
            subst ex
            split at h
            · rename_i a y p2
              obtain ⟨ca, h2, h⟩ := bind_some h
              obtain ⟨ns1, ns2⟩ := all_cons ns
              split at h
              · rename_i e2
                obtain ⟨h3, hh⟩ := guardO_some h; replace h := hh; clear hh
                cases h
                obtain ⟨h31, h32⟩ := Bool.and_eq_true_iff.mp h3
                obtain ⟨hin, hm, _⟩ := hc.ge _ _ e2
                exact .plain (g_isi hX hC (p := .isExn y) (x := .ref (S.cA y)) (cv := .ref (S.cA y)) rfl (fun c z => by cases z; exact hin) (.own _) hg (by rw [hX.em]; exact hc.bi _ (by simp [biNames])) (ih.e hc hX hl h2).pf (pe_glob (gl_of hX (isGlob_ok h32)) (by rw [hX.em]; exact hm) (show RelV (.ref (S.cA y)) (.ref (S.cA y)) from rfl) (okName_ok h31).1) ns1 rfl) rfl
              · cases h
              · obtain ⟨h3, hh⟩ := guardO_some h; replace h := hh; clear hh
                obtain ⟨q, h4, h⟩ := bind_some h
                cases h
                obtain ⟨h31, h32⟩ := Bool.and_eq_true_iff.mp h3
                obtain ⟨h33, h34⟩ := Bool.and_eq_true_iff.mp h31
                obtain ⟨t1, t2, t3⟩ := ty_ok (p1 := p2) hX hc.bi h4 (isGlob_ok h32) h34
                have q' : PE X (.Call (.Name "isinstance" p1) [a, .Name y p2] [] p) (tV S io B E false (.prim q.1 (.cons ca .nil))) := g_isi hX hC t1 (fun c z => (t3 c z).elim) (.ty _) hg (by rw [hX.em]; exact hc.bi _ (by simp [biNames])) (ih.e hc hX hl h2).pf t2 ns1 rfl
                have hm := PySem.mem_of_lookup h4
                have hf : (C.prim q.1 (.cons ca .nil)).isF = false := by
                  simp only [tyTab, List.mem_cons, List.not_mem_nil, or_false, Prod.mk.injEq] at hm
                  obtain ⟨q1, q2⟩ := q
                  rcases hm with ⟨_, e⟩ | ⟨_, e⟩ | ⟨_, e⟩ | ⟨_, e⟩ | ⟨_, e⟩ <;> cases e <;> rfl
                exact .plain (by rw [hf]; exact q') rfl
            · cases h
          · split at h
            · rename_i ex
              have ex := beq_iff_eq.mp ex
              subst ex
              split at h
              · rename_i y p2 a p3
                split at h
                · rename_i ey
                  have ey := beq_iff_eq.mp ey
                  subst ey
                  obtain ⟨h2, hh⟩ := guardO_some h; replace h := hh; clear hh
                  obtain ⟨ca, h3, h⟩ := bind_some h
                  cases h
                  obtain ⟨h21, h22⟩ := Bool.and_eq_true_iff.mp h2
                  obtain ⟨h23, h24⟩ := Bool.and_eq_true_iff.mp h21
                  exact .plain (g_listRange hX hg (isGlob_ok h24) (hc.bi _ (by simp [biNames])) (hc.bi _ (by simp [biNames])) (ih.e hc hX hl h3).pf h22) rfl
                · obtain ⟨cs, h2, h⟩ := bind_some h
                  cases h
                  exact .plain (g_bi hX hc.bi hc.rp (f := "list") (p := .list) (b := .t "list") (bi_list c.rp) (ih.a hc hX hl ns h2) ns hg hn) rfl
              · obtain ⟨cs, h2, h⟩ := bind_some h
                cases h
                exact .plain (g_bi hX hc.bi hc.rp (f := "list") (p := .list) (b := .t "list") (bi_list c.rp) (ih.a hc hX hl ns h2) ns hg hn) rfl
              · cases h
            · obtain ⟨q, h2, h⟩ := bind_some h
              obtain ⟨cs, h3, h⟩ := bind_some h
              cases h
              obtain ⟨q1, q2⟩ := q
              exact .plain (g_bi hX hc.bi hc.rp h2 (ih.a hc hX hl ns h3) ns hg hn) rfl
      · -- a method
        rename_i o m apos
        obtain ⟨h0, hh⟩ := guardO_some h; replace h := hh; clear hh
        obtain ⟨h01, ns⟩ := Bool.and_eq_true_iff.mp h0
        obtain ⟨hb, hli⟩ := Bool.and_eq_true_iff.mp h01
        split at h
        · rename_i em
          have em := beq_iff_eq.mp em
          subst em
          split at h
          · obtain ⟨i, h1, h⟩ := bind_some h
            cases h
            exact .plain (g_pop hX (tgLoc_ok hX h1) hb hli) rfl
          · cases h
        · split at h
          · rename_i em
            have em := beq_iff_eq.mp em
            subst em
            split at h
            · obtain ⟨i, h1, h⟩ := bind_some h
              obtain ⟨ca, h2, h⟩ := bind_some h
              cases h
              exact .plain (g_app hX (tgLoc_ok hX h1) (ih.e hc hX hl h2).pf (all_cons ns).1 hb hli) rfl
            · cases h
          · split at h
            · rename_i em
              have em := beq_iff_eq.mp em
              subst em
              split at h
              · obtain ⟨i, h1, h⟩ := bind_some h
                obtain ⟨ca, h2, h⟩ := bind_some h
                cases h
                exact .plain (g_ext hX (tgLoc_ok hX h1) (ih.e hc hX hl h2).pf (all_cons ns).1 hb hli) rfl
              · cases h
            · split at h
              · rename_i em
                have em := beq_iff_eq.mp em
                subst em
                split at h
                · obtain ⟨co, h1, h⟩ := bind_some h
                  obtain ⟨ca, h2, h⟩ := bind_some h
                  cases h
                  exact .plain (g_join hX (ih.e hc hX hl h1).pf (ih.e hc hX hl h2).pf (all_cons ns).1 hb hli) rfl
                · cases h
              · split at h
                · rename_i em
                  have em := beq_iff_eq.mp em
                  subst em
                  split at h
                  · obtain ⟨co, h1, h⟩ := bind_some h
                    obtain ⟨ca, h2, h⟩ := bind_some h
                    cases h
                    exact .plain (g_split hX (ih.e hc hX hl h1).pf (ih.e hc hX hl h2).pf (all_cons ns).1 hb hli) rfl
                  · cases h
                · cases h
      · cases h
    · cases h
  | _ =>
    unfold cE at h
    cases h
end
end EvO

set_option Elab.async false
set_option linter.all false
set_option maxRecDepth 10000
set_option maxHeartbeats 4000000
/-! A22: the induction; statements. -/
namespace EvO
open PySem PySem.Spec L2
section
variable {S : Cfg}
theorem snd_i {n : Nat} (ih : Snd S n) {g : Bool} {k : Nat} {c : Cc} {sc : Scope} {X : Cx} {E : XK} {io : Nat → Option Addr} {B : Hp} {tg e : Expr} {it : EvO.It} (hc : COk S g k c) (hX : XOk S c.N sc g k E X) (hl : c.lam = true → LOk S X) (h : cI (n + 1) c sc tg e = some it) : PI X tg e (tI S io B E it) := by
  unfold cI at h
  have val : ((cE n c sc e).bind fun ce => some (.val ce)) = some it → PI X tg e (tI S io B E it) := fun h => by
    obtain ⟨ce, h1, h⟩ := bind_some h
    cases h
    exact i_val hX (ih.e hc hX hl h1).pf
  split at h
  · rename_i x p1 as p2
    split at h
    · rename_i ex
      have ex := beq_iff_eq.mp ex
      obtain ⟨h0, hh⟩ := guardO_some h; replace h := hh; clear hh
      subst ex
      obtain ⟨h01, ns⟩ := Bool.and_eq_true_iff.mp h0
      obtain ⟨_, hg⟩ := Bool.and_eq_true_iff.mp h01
      split at h
      · obtain ⟨ca, h1, hh⟩ := bind_some h; replace h := hh; clear hh
        cases h
        exact i_rng1 hX (isGlob_ok hg) (hc.bi _ (by simp [biNames])) (ih.e hc hX hl h1).pf (all_cons ns).1
      · obtain ⟨ca, h1, hh⟩ := bind_some h; replace h := hh; clear hh
        obtain ⟨cb, h2, hh⟩ := bind_some h; replace h := hh; clear hh
        cases h
        exact i_rng2 hX (isGlob_ok hg) (hc.bi _ (by simp [biNames])) (ih.e hc hX hl h1).pf (ih.e hc hX hl h2).pf (all_cons ns).1 (all_cons (all_cons ns).2).1
      · cases h
    · split at h
      · rename_i ex
        have ex := beq_iff_eq.mp ex
        obtain ⟨h0, hh⟩ := guardO_some h; replace h := hh; clear hh
        subst ex
        obtain ⟨h01, ns⟩ := Bool.and_eq_true_iff.mp h0
        obtain ⟨_, hg⟩ := Bool.and_eq_true_iff.mp h01
        split at h
        · obtain ⟨ca, h1, hh⟩ := bind_some h; replace h := hh; clear hh
          obtain ⟨cb, h2, hh⟩ := bind_some h; replace h := hh; clear hh
          cases h
          exact i_zip hX (isGlob_ok hg) (hc.bi _ (by simp [biNames])) (ih.e hc hX hl h1).pf (ih.e hc hX hl h2).pf (all_cons ns).1 (all_cons (all_cons ns).2).1
        · cases h
      · exact val h
  · exact val h
theorem snd_g {n : Nat} (ih : Snd S n) {g : Bool} {k : Nat} {c : Cc} {sc : Scope} {X : Cx} {E : XK} {io : Nat → Option Addr} {B : Hp} {l : Bool} {e : Expr} {t : Tg} (hc : COk S g k c) (hX : XOk S c.N sc g k E X) (hl : c.lam = true → LOk S X) (hf : l = false → ∀ x, X.fn x = true) (h : cG (n + 1) c sc l e = some t) : PG X e (tG S io B E t) := by
  cases e with
  | Name x p =>
    unfold cG at h
    dsimp only at h
    obtain ⟨h0, hh⟩ := guardO_some h; replace h := hh; clear hh
    obtain ⟨i, h1, rfl⟩ := Option.map_eq_some_iff.mp h
    obtain ⟨_, h2⟩ := Bool.and_eq_true_iff.mp h0
    cases l with
    | true =>
      have h2 := isLocal_ok h2
      exact s_nm hX (ixOf_ok h1) (.inl h2) (.inr h2)
    | false => exact s_nm hX (ixOf_ok h1) (locB_ok h2) (.inl (hf rfl x))
  | Subscript o i p =>
    unfold cG at h
    dsimp only at h
    split at h
    · obtain ⟨h0, hh⟩ := guardO_some h; replace h := hh; clear hh
      obtain ⟨j, h1, hh⟩ := bind_some h; replace h := hh; clear hh
      obtain ⟨ci, h2, hh⟩ := bind_some h; replace h := hh; clear hh
      cases h
      exact s_sub (tgLoc_ok hX h1) (ih.e hc hX hl h2).pf h0
    · cases h
  | Tuple es kk p =>
    unfold cG at h
    dsimp only at h
    obtain ⟨h0, hh⟩ := guardO_some h; replace h := hh; clear hh
    obtain ⟨ts, h1, hh⟩ := bind_some h; replace h := hh; clear hh
    obtain ⟨h2, hh⟩ := guardO_some h; replace h := hh; clear hh
    cases h
    exact s_tup hX (ih.gs hc hX hl hf h0 h1) h0 (of_decide_eq_true h2)
  | _ =>
    unfold cG at h
    cases h
theorem snd_b {n : Nat} (ih : Snd S n) {g : Bool} {k : Nat} {c : Cc} {sc : Scope} {X : Cx} {E : XK} {io : Nat → Option Addr} {B : Hp} {op : BoolOp} {es : List Expr} {pos : Pos} {ce : C} (hc : COk S g k c) (hX : XOk S c.N sc g k E X) (hl : c.lam = true → LOk S X) (h : cB (n + 1) c sc op es = some ce) :
    PE X (.BoolOp op es pos) (tV S io B E false ce) ∧ PW X (.BoolOp op es pos) (tT S io B E ce) ∧ ce.isF = false := by
  unfold cB at h
  split at h
  · cases h
  · obtain ⟨h0, hh⟩ := guardO_some h; replace h := hh; clear hh
    obtain ⟨ce', h1, hh⟩ := bind_some h; replace h := hh; clear hh
    obtain ⟨h2, hh⟩ := guardO_some h; replace h := hh; clear hh
    cases h
    have hf : ce.isF = false := by simpa using h2
    have q := ih.e (io := io) (B := B) hc hX hl h1
    refine ⟨g_one q.pf, ?_, hf⟩
    cases op with
    | And => exact w_and1 (q.pt h0)
    | Or => exact w_or1 (q.pt h0)
  · rename_i e r hne
    obtain ⟨h0, hh⟩ := guardO_some h; replace h := hh; clear hh
    obtain ⟨ca, h1, hh⟩ := bind_some h; replace h := hh; clear hh
    obtain ⟨cr, h2, hh⟩ := bind_some h; replace h := hh; clear hh
    have q := ih.e (io := io) (B := B) hc hX hl h1
    obtain ⟨r1, r2, r3⟩ := ih.b (io := io) (B := B) (pos := pos) hc hX hl h2
    cases r with
    | nil => exact (hne rfl).elim
    | cons b rest =>
      cases op with
      | And =>
        cases h
        exact ⟨g_and q.pf r1, w_and (q.pt h0) r2, rfl⟩
      | Or =>
        cases h
        exact ⟨g_or q.pf r1, w_or (q.pt h0) r2, rfl⟩
theorem snd (hC : ClsOk S) : ∀ n, Snd S n
  | 0 => by
    refine ⟨?_, ?_, ?_, ?_, ?_, ?_, ?_, ?_⟩
    · intro g k c sc X E io B e ce hc hX hl h
      unfold cE at h
      cases h
    · intro g k c sc X E io B es cs hc hX hl ns h
      unfold cA at h
      cases h
    · intro g k c sc X E io B es cs hc hX hl h
      unfold cF at h
      cases h
    · intro g k c sc X E io B es cs hc hX hl h
      unfold cO at h
      cases h
    · intro g k c sc X E io B op es pos cs hc hX hl h
      unfold cB at h
      cases h
    · intro g k c sc X E io B tg e it hc hX hl h
      unfold cI at h
      cases h
    · intro g k c sc X E io B l e t hc hX hl hf h
      unfold cG at h
      cases h
    · intro g k c sc X E io B l e t hc hX hl hf ns h
      unfold cGs at h
      cases h
  | n + 1 => by
    have ih := snd hC n
    refine ⟨?_, ?_, ?_, ?_, ?_, ?_, ?_, ?_⟩
    · intro g k c sc X E io B e ce hc hX hl h
      exact snd_e hC ih hc hX hl h
    · intro g k c sc X E io B es cs hc hX hl ns h
      unfold cA at h
      split at h
      · cases h
        exact a_nil
      · obtain ⟨ce, h1, hh⟩ := bind_some h; replace h := hh; clear hh
        obtain ⟨cr, h2, hh⟩ := bind_some h; replace h := hh; clear hh
        cases h
        obtain ⟨ns1, ns2⟩ := all_cons ns
        exact a_cons (ih.e hc hX hl h1).pf (ih.a hc hX hl ns2 h2) ns1
    · intro g k c sc X E io B es cs hc hX hl h
      unfold cF at h
      split at h
      · cases h
        exact ts_nil
      · obtain ⟨h0, hh⟩ := guardO_some h; replace h := hh; clear hh
        obtain ⟨ce, h1, hh⟩ := bind_some h; replace h := hh; clear hh
        cases h
        exact ts_one ((ih.e hc hX hl h1).pt h0)
      · cases h
    · intro g k c sc X E io B es cs hc hX hl h
      unfold cO at h
      split at h
      · cases h
        exact o_no
      · obtain ⟨ce, h1, hh⟩ := bind_some h; replace h := hh; clear hh
        cases h
        exact o_so (ih.e hc hX hl h1).pf
    · intro g k c sc X E io B op es pos cs hc hX hl h
      exact snd_b ih hc hX hl h
    · intro g k c sc X E io B tg e it hc hX hl h
      exact snd_i ih hc hX hl h
    · intro g k c sc X E io B l e t hc hX hl hf h
      exact snd_g ih hc hX hl hf h
    · intro g k c sc X E io B l e t hc hX hl hf ns h
      unfold cGs at h
      split at h
      · cases h
        exact ss_nil
      · obtain ⟨ce, h1, hh⟩ := bind_some h; replace h := hh; clear hh
        obtain ⟨cr, h2, hh⟩ := bind_some h; replace h := hh; clear hh
        cases h
        obtain ⟨ns1, ns2⟩ := all_cons ns
        exact ss_cons (ih.g hc hX hl hf h1) (ih.gs hc hX hl hf ns2 h2) ns1
end
end EvO

set_option Elab.async false
set_option linter.all false
set_option maxRecDepth 10000
set_option maxHeartbeats 4000000
/-! A23: statements from text to code. -/
namespace EvO
open PySem PySem.Spec L2
def parOk (sc : Scope) (x y : Str) (px py : Pos) (a b : Expr) : Bool := decide (sc.kind = .function) && isLocal (sc.names.lookup x) && isLocal (sc.names.lookup y) && !(x == y) && (py.line == px.line) && noStar a && noStar b && !([a, b].all (foldedForSure 8)) && !([a, b].all (constantsAlone 8))
mutual
def cS : Nat → Cc → Scope → Bool → Stmt → Option Sm
  | 0, _, _, _, _ => none
  | n + 1, c, sc, fr, st => match st with
    | .Assign ts v _ => (match ts with
      | [tg] => (match tg with
        | .Name x _ => (match v with
          | .ListComp e gs scope _ => (match gs with
            | [⟨tg', iter, ifs, k⟩] => guardO (k == 0 && notSet iter && isLocal (sc.names.lookup x)) ((ixOf x c.N).bind fun i => (cI n c sc tg' iter).bind fun it => (cG n { c with lam := false } (relS scope sc) true tg').bind fun t => (cF n { c with lam := false } (relS scope sc) ifs).bind fun ci => (cE n { c with lam := false } (relS scope sc) e).bind fun ce =>
              guardO (blkC c.N sc scope (ownOf c.N scope) && t.names.all fun i => decide (i ∈ (ownOf c.N scope).map (·.2))) (some (.set i (.comp t it ci ce ((ownOf c.N scope).map (·.2))))))
            | _ => none)
          | v => guardO (notComp v && locB (sc.names.lookup x)) ((ixOf x c.N).bind fun i => (cE n c sc v).bind fun ca => some (.set i ca)))
        | tg => guardO (notComp v && noStar tg) (if noSwap tg v then (cG n c sc false tg).bind fun t => (cE n c sc v).bind fun ca => some (.asg t ca)
          else (match tg, v with
            | .Tuple [.Name x px, .Name y py] _ _, .Tuple [a, b] _ _ => guardO (parOk sc x y px py a b) ((ixOf x c.N).bind fun i => (ixOf y c.N).bind fun j => guardO (!(i == j)) ((cE n c sc a).bind fun ca => (cE n c sc b).bind fun cb => some (.par i j ca cb)))
            | _, _ => none)))
      | _ => none)
    | .Expr e _ => (match e with
      | .Constant (.str _) _ _ => some .pass
      | e => guardO (notComp e) ((cE n c sc e).bind fun ca => some (.ex ca)))
    | .If a x y _ => guardO (testOk a) ((cE n c sc a).bind fun ca => (cSs n c sc fr x).bind fun cx => (cSs n c sc fr y).bind fun cy => some (.ifs ca cx cy))
    | .While a x y _ => guardO (testOk a && y.isEmpty) ((cE n c sc a).bind fun ca => (cSs n c sc fr x).bind fun cx => some (.whl ca cx))
    | .For tg it x y _ => guardO (notSet it && y.isEmpty) ((cI n c sc tg it).bind fun ci => (cG n c sc false tg).bind fun t => (cSs n c sc fr x).bind fun cx => some (.for_ t ci cx))
    | .Return v _ => (match v with
      | none => guardO (!fr) (some (.ret (.cst .non)))
      | some v => (cE n c sc v).bind fun cv => some (if fr then .retF cv else .ret cv))
    | .Raise v w _ => (match v, w with
      | some (.Call (.Name x _) [a] [] _), none => guardO (noStar a && isGlob (sc.names.lookup x)) (match c.G.lookup x with
        | some .cls => (cE n c sc a).bind fun ca => some (.raise x ca)
        | _ => none)
      | _, _ => none)
    | .Pass _ => some .pass
    | .Break _ => some .brk
    | .Continue _ => some .cont
    | _ => none
def cSs : Nat → Cc → Scope → Bool → List Stmt → Option Sms
  | 0, _, _, _, _ => none
  | n + 1, c, sc, fr, ss => match ss with
    | [] => some .nil
    | s :: r => (cS n c sc fr s).bind fun cs => (cSs n c sc fr r).bind fun cr => some (.cons cs cr)
end
structure SndS (S : Cfg) (n : Nat) : Prop where
  s : ∀ {g : Bool} {k M : Nat} {fr : Bool} {c : Cc} {sc : Scope} {X : Cx} {E : XK} {io : Nat → Option Addr} {B : Hp} {st : Stmt} {s : Sm}, COk S g k c → XOk S c.N sc g k E X → (c.lam = true → LOk S X) → (∀ x, X.fn x = true) → cS n c sc fr st = some s → PS X st (tS S io B E fr M s)
  ss : ∀ {g : Bool} {k M : Nat} {fr : Bool} {c : Cc} {sc : Scope} {X : Cx} {E : XK} {io : Nat → Option Addr} {B : Hp} {st : List Stmt} {s : Sms}, COk S g k c → XOk S c.N sc g k E X → (c.lam = true → LOk S X) → (∀ x, X.fn x = true) → cSs n c sc fr st = some s → PSs X st (tSs S io B E fr M s)
section
variable {S : Cfg}
theorem snd_s (hC : ClsOk S) {n : Nat} (ih : SndS S n) {g : Bool} {k M : Nat} {fr : Bool} {c : Cc} {sc : Scope} {X : Cx} {E : XK} {io : Nat → Option Addr} {B : Hp} {st : Stmt} {s : Sm} (hc : COk S g k c) (hX : XOk S c.N sc g k E X) (hl : c.lam = true → LOk S X) (hf : ∀ x, X.fn x = true) (h : cS (n + 1) c sc fr st = some s) : PS X st (tS S io B E fr M s) := by
  have ie := snd hC n
  cases st with
  | Assign ts v p =>
    unfold cS at h
    dsimp only at h
    split at h
    · rename_i tg
      split at h
      · rename_i x px
        split at h
        · rename_i e gs scope p2
          split at h
          · rename_i tg' iter ifs kk
            obtain ⟨h0, g1⟩ := guardO_some h
            obtain ⟨h00, h03⟩ := Bool.and_eq_true_iff.mp h0
            obtain ⟨h01, h02⟩ := Bool.and_eq_true_iff.mp h00
            obtain ⟨i, hi, g1⟩ := bind_some g1
            obtain ⟨it, h1, g2⟩ := bind_some g1
            obtain ⟨t, h2, g3⟩ := bind_some g2
            obtain ⟨ci, h3, g4⟩ := bind_some g3
            obtain ⟨ce', h4, g5⟩ := bind_some g4
            obtain ⟨h5, g6⟩ := guardO_some g5
            cases g6
            have hk := beq_iff_eq.mp h01
            subst hk
            obtain ⟨h51, h52⟩ := Bool.and_eq_true_iff.mp h5
            have nl : ∀ {P : Prop}, ({ c with lam := false } : Cc).lam = true → P := fun {P} z => absurd (show false = true from z) Bool.false_ne_true
            have hc' : COk S g k { c with lam := false } := ⟨hc.ge, nl, hc.bi, hc.rp⟩
            exact st_setLc hX h51 (ie.i hc hX hl h1) (fun i hi => of_decide_eq_true (List.all_eq_true.mp h52 i hi)) h02 (fun X' B' hX' _ => ie.g hc' hX' nl (fun z => absurd z.symm Bool.false_ne_true) h2) (fun X' B' hX' => ie.f hc' hX' nl h3) (fun X' B' hX' => (ie.e hc' hX' nl h4).pf) (ixOf_ok hi) (isLocal_ok h03)
          · cases h
        · obtain ⟨h0, hh⟩ := guardO_some h; replace h := hh; clear hh
          obtain ⟨i, h1, hh⟩ := bind_some h; replace h := hh; clear hh
          obtain ⟨ca, h2, hh⟩ := bind_some h; replace h := hh; clear hh
          cases h
          obtain ⟨h01, h02⟩ := Bool.and_eq_true_iff.mp h0
          exact st_set hX (ie.e hc hX hl h2).pe (ixOf_ok h1) (locB_ok h02) (.inl (hf x)) h01
      · obtain ⟨h0, hh⟩ := guardO_some h; replace h := hh; clear hh
        obtain ⟨h01, h02⟩ := Bool.and_eq_true_iff.mp h0
        split at h
        · rename_i hns
          obtain ⟨t, h1, hh⟩ := bind_some h; replace h := hh; clear hh
          obtain ⟨ca, h2, hh⟩ := bind_some h; replace h := hh; clear hh
          cases h
          exact st_asg (ie.e hc hX hl h2).pf (ie.g hc hX hl (fun _ => hf) h1) h01 hns h02
        · split at h
          · rename_i x px y py kt pt a b k2 pt2 _ _ _ _
            obtain ⟨h1, hh⟩ := guardO_some h; replace h := hh; clear hh
            obtain ⟨i, h2, hh⟩ := bind_some h; replace h := hh; clear hh
            obtain ⟨j, h3, hh⟩ := bind_some h; replace h := hh; clear hh
            obtain ⟨h4, hh⟩ := guardO_some h; replace h := hh; clear hh
            obtain ⟨ca, h5, hh⟩ := bind_some h; replace h := hh; clear hh
            obtain ⟨cb, h6, hh⟩ := bind_some h; replace h := hh; clear hh
            cases h
            unfold parOk at h1
            simp only [Bool.and_eq_true, Bool.not_eq_true'] at h1
            obtain ⟨⟨⟨⟨⟨⟨⟨⟨q1, q2⟩, q3⟩, q4⟩, q5⟩, q6⟩, q7⟩, q8⟩, q9⟩ := h1
            exact st_par hX (ie.e hc hX hl h5).pe (fun B' => (ie.e hc hX hl h6).pe) (ixOf_ok h2) (ixOf_ok h3) (by simpa using h4) q1 (isLocal_ok q2) (isLocal_ok q3) q4 q5 q6 q7 q8 q9
          · cases h
    · cases h
  | Expr e p =>
    unfold cS at h
    dsimp only at h
    split at h
    · cases h
      exact st_doc
    · obtain ⟨h0, hh⟩ := guardO_some h; replace h := hh; clear hh
      obtain ⟨ca, h1, hh⟩ := bind_some h; replace h := hh; clear hh
      cases h
      exact st_ex (ie.e hc hX hl h1).pf h0
  | If a x y p =>
    unfold cS at h
    dsimp only at h
    obtain ⟨h0, hh⟩ := guardO_some h; replace h := hh; clear hh
    obtain ⟨ca, h1, hh⟩ := bind_some h; replace h := hh; clear hh
    obtain ⟨cx, h2, hh⟩ := bind_some h; replace h := hh; clear hh
    obtain ⟨cy, h3, hh⟩ := bind_some h; replace h := hh; clear hh
    cases h
    exact st_if ((ie.e hc hX hl h1).pt h0) (ih.ss hc hX hl hf h2) (ih.ss hc hX hl hf h3)
  | While a x y p =>
    unfold cS at h
    dsimp only at h
    obtain ⟨h0, hh⟩ := guardO_some h; replace h := hh; clear hh
    obtain ⟨ca, h1, hh⟩ := bind_some h; replace h := hh; clear hh
    obtain ⟨cx, h2, hh⟩ := bind_some h; replace h := hh; clear hh
    cases h
    obtain ⟨h01, h02⟩ := Bool.and_eq_true_iff.mp h0
    obtain rfl := List.isEmpty_iff.mp h02
    exact st_while hX ((ie.e hc hX hl h1).pt h01) (ih.ss hc hX hl hf h2)
  | For tg it x y p =>
    unfold cS at h
    dsimp only at h
    obtain ⟨h0, hh⟩ := guardO_some h; replace h := hh; clear hh
    obtain ⟨ci, h1, hh⟩ := bind_some h; replace h := hh; clear hh
    obtain ⟨t, h2, hh⟩ := bind_some h; replace h := hh; clear hh
    obtain ⟨cx, h3, hh⟩ := bind_some h; replace h := hh; clear hh
    cases h
    obtain ⟨h01, h02⟩ := Bool.and_eq_true_iff.mp h0
    obtain rfl := List.isEmpty_iff.mp h02
    exact st_for hX (ie.i hc hX hl h1) (ie.g hc hX hl (fun _ => hf) h2) (ih.ss hc hX hl hf h3) h01
  | Return v p =>
    unfold cS at h
    dsimp only at h
    split at h
    · obtain ⟨h0, hh⟩ := guardO_some h; replace h := hh; clear hh
      cases h
      cases fr with
      | true => cases h0
      | false => exact st_retN
    · obtain ⟨cv, h1, hh⟩ := bind_some h; replace h := hh; clear hh
      cases h
      cases fr with
      | true => exact st_retF (ie.e hc hX hl h1).pe
      | false => exact st_ret (ie.e hc hX hl h1).pf
  | Raise v w p =>
    unfold cS at h
    dsimp only at h
    split at h
    · obtain ⟨h0, hh⟩ := guardO_some h; replace h := hh; clear hh
      obtain ⟨h01, h02⟩ := Bool.and_eq_true_iff.mp h0
      split at h
      · rename_i e1
        obtain ⟨ca, h1, hh⟩ := bind_some h; replace h := hh; clear hh
        cases h
        obtain ⟨_, _, hR⟩ := hc.ge _ _ e1
        exact st_raise hX (hR X _ _ _ hX) (isGlob_ok h02) (ie.e hc hX hl h1).pf h01
      · cases h
    · cases h
  | Pass p =>
    unfold cS at h
    cases h
    exact st_pass
  | Break p =>
    unfold cS at h
    cases h
    exact st_brk
  | Continue p =>
    unfold cS at h
    cases h
    exact st_cont
  | _ =>
    unfold cS at h
    cases h
theorem sndS (hC : ClsOk S) : ∀ n, SndS S n
  | 0 => by
    refine ⟨?_, ?_⟩
    · intro g k M fr c sc X E io B st s hc hX hl hf h
      unfold cS at h
      cases h
    · intro g k M fr c sc X E io B st s hc hX hl hf h
      unfold cSs at h
      cases h
  | n + 1 => by
    have ih := sndS hC n
    refine ⟨?_, ?_⟩
    · intro g k M fr c sc X E io B st s hc hX hl hf h
      exact snd_s hC ih hc hX hl hf h
    · intro g k M fr c sc X E io B st s hc hX hl hf h
      unfold cSs at h
      split at h
      · cases h
        exact ss_nil'
      · obtain ⟨cs, h1, hh⟩ := bind_some h; replace h := hh; clear hh
        obtain ⟨cr, h2, hh⟩ := bind_some h; replace h := hh; clear hh
        cases h
        exact ss_cons' (ih.s hc hX hl hf h1) (ih.ss hc hX hl hf h2)
end
end EvO

set_option Elab.async false
set_option linter.all false
set_option maxRecDepth 100000
set_option maxHeartbeats 2000000
/-! A24: a def's promise from its text; the law's end. -/
namespace EvO
open PySem PySem.Spec PyProof.Rows L2 LamX

section
variable {S : Cfg} {g : Bool} {k : Nat} {f : Addr} {name qual : Str} {params : Arguments} {body : List Stmt} {scope : Scope} {dV kV doc pm cdv ct oc : Value} {an od : Option Addr} {osl : Array (Option Value)} {ps : List Str} {c : Cc}
/-- the tables of a def's lambdas -/
def TbOk (S : Cfg) (qual : Str) (cdv : Value) : Prop := ∃ cA P, LamX.TabB S.base S.mg cA P ∧ cdv = .ref cA ∧ (P, qual ++ (".<locals>." : Str) ++ ("<lambda>" : Str)) ∈ S.T ∧ ∀ p ∈ S.T, p.1 = P → p.2 = qual ++ (".<locals>." : Str) ++ ("<lambda>" : Str)
theorem body_ok (hC : ClsOk S) (hc : COk S g k c) (ht : c.lam = true → TbOk S qual cdv) {fr : Bool} {M n : Nat} {b : Sms} (h : cSs n c scope fr body = some b) :
    ∀ (X : Cx) (E : XK) (io : Nat → Option Addr) (B : Hp), XOk S c.N scope g k E X → X.env.qual = qual ++ (".<locals>." : Str) → X.env.code = cdv → (∀ x, X.fn x = true) → PSs X body (tSs S io B E fr M b) := fun X E io B hX hq hcd hf =>
  (sndS hC n).ss hc hX (fun z => by
    obtain ⟨cA, P, h1, h2, h3, h4⟩ := ht z
    exact ⟨cA, P, h1, by rw [hcd, h2], by rw [hq]; exact h3, fun p hp e => by rw [hq]; exact h4 p hp e⟩) hf h
theorem fn_d (lk : S.K.lookup f = some ⟨oc, od, .func (PySem.W.fnOf name qual params body scope dV kV doc pm an cdv ct), osl⟩) (hcd : PySem.W.codeIn S.K cdv qual = true) (F : FnScope c.N ps scope) (hC : ClsOk S) (hc : COk S g k c) (ht : c.lam = true → TbOk S qual cdv) {fr : Bool} {M n : Nat} {b : Sms} (h : cSs n c scope fr body = some b) :
    FnG S g (k + 1) f (PySem.W.fnOf name qual params body scope dV kV doc pm an cdv ct) ps (spD S ⟨fr, runD M c.N.length ps.length b⟩) := fnD lk hcd F (body_ok hC hc ht h)
theorem fn_p (lk : S.K.lookup f = some ⟨oc, od, .func (PySem.W.fnOf name qual params body scope dV kV doc pm an cdv ct), osl⟩) (hcd : PySem.W.codeIn S.K cdv qual = true) (F : FnScope c.N ps scope) (hC : ClsOk S) (hc : COk S g k c) (ht : c.lam = true → TbOk S qual cdv) {M n : Nat} {b : Sms} (h : cSs n c scope false body = some b) :
    FnG S g (k + 1) f (PySem.W.fnOf name qual params body scope dV kV doc pm an cdv ct) ps (spP S ⟨runP M c.N.length ps.length b⟩) := fnP lk hcd F (body_ok hC hc ht h)
/-- a promise that says less -/
theorem FnG.imp {fd : FuncData} {sp sp' : Sp} (F : FnG S g k f fd ps sp) (h : ∀ vs H Q E, sp' vs H Q E → sp vs H Q E) : FnG S g k f fd ps sp' := ⟨fun vs H Q E q => F.len vs H Q E (h _ _ _ _ q), fun A outer s H args us vs Q E hr hA he hb hv hs => F.run A outer s H args us vs Q E hr hA he hb hv (h _ _ _ _ hs)⟩
/-- a mirror: wherever it answers, the run answers so -/
def Mir (run mir : List D → Res) : Prop := ∀ ds, mir ds ≠ .bad → run ds = mir ds
def MirP (run mir : List D → List D → ResP) : Prop := ∀ l ds, mir l ds ≠ .bad → run l ds = mir l ds
theorem FnG.mir {fd : FuncData} {fr : Bool} {run mir : List D → Res} (F : FnG S g k f fd ps (spD S ⟨fr, run⟩)) (h : Mir run mir) : FnG S g k f fd ps (spD S ⟨fr, mir⟩) := F.imp fun vs H Q E q => by
  obtain ⟨B, G, ds, h1, h2, h3⟩ := q
  refine ⟨B, G, ds, h1, h2, ?_⟩
  have nb : mir ds ≠ .bad := fun z => by
    simp only [z] at h3
  have e := h ds nb
  show (match run ds with
    | .ok d => ∀ G' u H', Ex G G' → Hps S B G' H' → RetOk S B G' H' fr u d → Q u H'
    | .err c v => ErrP S B G E c v
    | .bad => False)
  rw [e]
  exact h3
theorem FnG.mirP {fd : FuncData} {run mir : List D → List D → ResP} (F : FnG S g k f fd ps (spP S ⟨run⟩)) (h : MirP run mir) : FnG S g k f fd ps (spP S ⟨mir⟩) := F.imp fun vs H Q E q => by
  obtain ⟨B, G, p, us, ws, l, ds, h1, h2, h3, h4, h5, h6, h7, h8⟩ := q
  refine ⟨B, G, p, us, ws, l, ds, h1, h2, h3, h4, h5, h6, h7, ?_⟩
  have nb : mir l ds ≠ .bad := fun z => by
    simp only [z] at h8
  have e := h l ds nb
  show (match run l ds with
    | .ok d l2 => ∀ G' u H' ws', Ex G G' → Hps S B G' H' → H' p = some (.lst ws') → G' p = none → Dens S G' ws' l2 → Den S G' u d → Q u H'
    | .err c v => ErrP S B G E c v
    | .bad => False)
  rw [e]
  exact h8
end
end EvO

set_option Elab.async false
set_option linter.all false
set_option maxRecDepth 100000
set_option maxHeartbeats 2000000
/-! A25: the law's end, at the caller's place (where nothing is being shown). -/
namespace EvO
open PySem PySem.Spec PyProof.Rows L2 LamX

/-- the abstract heap ahead of the law: the tables, the script (if it is not in K) -/
structure At0 (K : PySem.W.Frag) (cs : List (Addr × Addr)) (a : Addr) (ns : List Int) (H : Hp) : Prop where
  tab : ∀ p ∈ cs, H p.2 = some (.tbl #[])
  all : ∀ b, H b = none ∨ (b ∈ cs.map (·.2) ∧ H b = some (.tbl #[])) ∨ (b = a ∧ ∃ o, H b = some (.frz o (.lst (ns.map V.int))))
  scr : SqL K H a (ns.map V.int)
theorem law_at {P : Program} {w : World} {K : PySem.W.Frag} {mg mb : Str → Option Value} {CX : CXT} {fa a : Addr} {cs : List (Addr × Addr)} {s₁ : Shared} {vs : List Value} {ns : List Int}
    (KX : K.In s₁.heap) (hns : s₁.heap.Ns mainGlobals mg) (hb : s₁.heap.Ns builtinsNs mb) (hbb : ∀ x : Str, x ≠ "__name__" → mb x = bootBuiltins x) (hlim : s₁.heap.NoLimit) (hg : s₁.gens = #[])
    (hT : ∀ p ∈ cs, s₁.heap.get? p.2 = some { cls := .none, data := .fields #[] }) (nT : ∀ p ∈ cs, K.lookup p.2 = none) (C : ∀ p ∈ cs, PySem.W.CodeHd s₁.heap p.1 p.2)
    (hbm : ∃ (bm : Addr) (ob : Obj), mg "__builtins__" = some (.ref bm) ∧ bm ≠ builtinsNs ∧ s₁.heap.get? bm = some ob ∧ ob.cls = .type "module" ∧ ob.dict = some builtinsNs ∧ ob.data = .plain)
    (ha : s₁.heap.get? a = some { cls := .type "list", data := .seq vs.toArray }) (hi : IntsAre vs ns) (hl : ns.length ≤ sizeLine)
    (F : ∀ (base : Heap) (H : Hp), K.In base → base.Ns mainGlobals mg → (∀ p ∈ cs, TabB base mg p.1 p.2) → Env0 P w K mg base callerA [] s₁ H → At0 K cs a ns H →
      codeAny (model P w) callerA (.call (.ref fa) ⟨[.ref a], []⟩) (CR CX [] P w H s₁ (fun v _ => v = .bl true) fun _ _ _ => False) s₁)
    (hCX : ∀ H e s', CX [] H s₁ (fun _ _ _ => False) e s' → False) :
    codeAny (model P w) callerA (.call (.ref fa) ⟨[.ref a], []⟩) (fun r s' => r = .ok (.ret (.bool true)) ∧ OldK s₁.heap s'.heap ∧ s'.os = s₁.os ∧ AllBare s'.gens) s₁ := by
  have rv := vals_ints hi
  have lenV := hi.length
  have isT : ∀ b : Addr, b ∈ cs.map (·.2) → s₁.heap.get? b = some { cls := .none, data := .fields #[] } := fun b hb => by
    obtain ⟨p, hp, e⟩ := List.mem_map.mp hb
    rw [← e]
    exact hT p hp
  have aT : a ∉ cs.map (·.2) := fun z => by
    have q := isT a z
    rw [ha] at q
    cases congrArg Obj.data (Option.some.inj q)
  have core : ∀ H : Hp, At0 K cs a ns H → HOk P w H s₁.heap → (H a ≠ none → K.lookup a = none) →
      codeAny (model P w) callerA (.call (.ref fa) ⟨[.ref a], []⟩) (fun r s' => r = .ok (.ret (.bool true)) ∧ OldK s₁.heap s'.heap ∧ s'.os = s₁.os ∧ AllBare s'.gens) s₁ := by
    intro H h0 hok hK
    -- what is tracked is the script's object or a table's
    have noD : ∀ {b : Addr} {o : Obj}, s₁.heap.get? b = some o → (∀ vs n, o.data ≠ .seq vs n) → o.data ≠ .fields #[] → H b = none := fun {b o} e h1 h2 => by
      rcases h0.all b with q | ⟨q, _⟩ | ⟨q, _⟩
      · exact q
      · rw [isT b q] at e
        cases e
        exact (h2 rfl).elim
      · rw [q, ha] at e
        cases e
        exact (h1 _ _ rfl).elim
    have nsK : ∀ {b : Addr} {m : Str → Option Value}, s₁.heap.Ns b m → (hidT s₁.heap H).Ns b m := fun {b m} ⟨o, es, ep, e, d, r⟩ =>
      ⟨o, es, ep, hidT_get e (noD e (fun vs n z => by rw [d] at z; cases z) fun z => by rw [d] at z; cases z), d, r⟩
    have hKb : K.In (hidT s₁.heap H) := fun b o e => hidT_get (KX b o e) (by
      rcases h0.all b with q | ⟨q, _⟩ | ⟨q, o', q'⟩
      · exact q
      · obtain ⟨p, hp, ep⟩ := List.mem_map.mp q
        rw [← ep, nT p hp] at e
        cases e
      · rw [q] at e q'
        rw [hK (by rw [q']; simp)] at e
        cases e)
    have hM : L2.Mod K mg (hidT s₁.heap H) := ⟨hKb, nsK hns, ⟨mb, nsK hb, hbb⟩, let ⟨mc, h1, h2⟩ := hlim; ⟨mc, nsK h1, h2⟩⟩
    have TB : ∀ p ∈ cs, TabB (hidT s₁.heap H) mg p.1 p.2 := fun p hp => by
      have hTp := hT p hp
      refine ⟨?_, ?_, fun z => ?_⟩
      · obtain ⟨o, us, file, tf, flags, tg, inF, text, tt, e1, r1, r2, r3, r4, r5, r6, r7, r8, hne⟩ := C p hp
        refine ⟨o, us, file, tf, flags, tg, inF, text, tt, hidT_get e1 (noD e1 (fun vs n z => by rw [r2] at z; cases z) fun z => ?_), r1, r2, r3, r4, r5, r6, r7, r8, hne⟩
        rw [r2] at z
        cases z
        simp at r3
      · obtain ⟨bm, ob, b1, b2, b3, b4, b5, b6⟩ := hbm
        refine ⟨bm, ob, b1, b2, fun q => ?_, fun q => ?_, hidT_get b3 (noD b3 (fun vs n z => by rw [b6] at z; cases z) fun z => by rw [b6] at z; cases z), b4, b5, b6⟩
        · obtain ⟨o, es, ep, e, hd, _⟩ := hns
          rw [q, e] at b3
          cases b3
          rw [hd] at b6
          cases b6
        · rw [q, hTp] at b3
          cases b3
          cases b6
      · obtain ⟨o, es, ep, e, hd, _⟩ := hns
        rw [z, hTp] at e
        cases e
        cases hd
    have e0 : Env0 P w K mg (hidT s₁.heap H) callerA [] s₁ H := ⟨rfl, hM, fun b o e => of_hidT e, Nat.le_of_eq (hidT_size _ _), trivial, fun b hb => absurd (show b ∈ ([] : List Addr) from hb) (by simp), hok, .of_eq hg⟩
    refine codeAny_mono (F _ H hKb (nsK hns) TB e0 h0) fun r s' h => ?_
    cases r with
    | error e => exact (hCX H e s' h).elim
    | ok fl =>
      cases fl with
      | next => exact False.elim h
      | brk => exact False.elim h
      | cont => exact False.elim h
      | ret u =>
        obtain ⟨v, H', os, bare, un, hok', r', q⟩ := h
        have q' : v = .bl true := q
        subst q'
        obtain rfl : u = Value.bool true := r'
        have key : ∀ b o, b ∉ cs.map (·.2) → s₁.heap.get? b = some o → s'.heap.get? b = some o := fun b o nb e => by
          rcases h0.all b with q | ⟨q, _⟩ | ⟨_, ob, z⟩
          · exact un.keep b o e q (by intro z; exact absurd (show b ∈ ([] : List Addr) from z) (by simp)) (by simp)
          · exact absurd q nb
          · obtain ⟨e1, _⟩ := hok b _ z
            obtain ⟨e2, _⟩ := hok' b _ (un.frzs b ob _ z)
            rw [e] at e1; cases e1
            exact e2
        have grown : ∀ p ∈ cs, ∃ more : Array Value, s'.heap.get? p.2 = some { cls := .none, data := .fields more } := fun p hp => by
          obtain ⟨more, z⟩ := un.tbls p.2 #[] (h0.tab p hp)
          exact ⟨_, hok' p.2 _ z⟩
        refine ⟨rfl, ⟨fun b o e => ?_, fun b o e => ?_⟩, os, bare⟩
        · by_cases hb : b ∈ cs.map (·.2)
          · obtain ⟨p, hp, ep⟩ := List.mem_map.mp hb
            obtain ⟨more, hm⟩ := grown p hp
            rw [← ep] at e ⊢
            rw [hT p hp] at e
            cases e
            exact .inr (.inl ⟨((C p hp).tab (hT p hp)).isCodeTable, rfl, #[], more, rfl, by rw [Array.empty_append]; exact hm⟩)
          · exact .inl (key b o hb e)
        · by_cases hb : b ∈ cs.map (·.2)
          · obtain ⟨p, hp, ep⟩ := List.mem_map.mp hb
            obtain ⟨more, hm⟩ := grown p hp
            rw [← ep]
            exact ⟨_, hm⟩
          · exact ⟨o, key b o hb e⟩
  -- the heap: the tables; the script where K does not hold it
  have tabH : ∀ (sc : Option HO) (b : Addr), (if b = a then sc else if b ∈ cs.map (·.2) then some (.tbl #[]) else none) = (if b ∈ cs.map (·.2) then some (HO.tbl #[]) else none) ∨ b = a := fun sc b => by
    by_cases hb : b = a
    · exact .inr hb
    · exact .inl (if_neg hb)
  cases hk : K.lookup a with
  | some o =>
    have e := KX a o hk
    rw [ha] at e
    cases e
    have sq : SqL K (fun b => if b = a then none else if b ∈ cs.map (·.2) then some (HO.tbl #[]) else none) a (ns.map V.int) := .inr ⟨_, vs.toArray, _, hk, rfl, rfl, rfl, by rw [List.size_toArray, lenV]; exact hl, by simpa using rv⟩
    refine core _ ⟨fun p hp => ?_, fun b => ?_, sq⟩ (fun b u z => ?_) fun z => absurd (if_pos rfl) z
    · rw [if_neg (fun z => aT (by rw [← z]; exact List.mem_map.mpr ⟨p, hp, rfl⟩)), if_pos (List.mem_map.mpr ⟨p, hp, rfl⟩)]
    · by_cases h1 : b = a
      · exact .inl (if_pos h1)
      · by_cases h2 : b ∈ cs.map (·.2)
        · exact .inr (.inl ⟨h2, (if_neg h1).trans (if_pos h2)⟩)
        · exact .inl ((if_neg h1).trans (if_neg h2))
    · by_cases h1 : b = a
      · cases (if_pos h1).symm.trans z
      · have z := (if_neg h1).symm.trans z
        by_cases h2 : b ∈ cs.map (·.2)
        · cases (if_pos h2).symm.trans z
          exact isT b h2
        · cases (if_neg h2).symm.trans z
  | none =>
    refine core (fun b => if b = a then some (.frz { cls := .type "list", data := .seq vs.toArray } (.lst (ns.map V.int))) else if b ∈ cs.map (·.2) then some (HO.tbl #[]) else none) ⟨fun p hp => ?_, fun b => ?_, .inl (.inr ⟨_, if_pos rfl⟩)⟩ (fun b u z => ?_) fun _ => hk
    · rw [if_neg (fun z => aT (by rw [← z]; exact List.mem_map.mpr ⟨p, hp, rfl⟩)), if_pos (List.mem_map.mpr ⟨p, hp, rfl⟩)]
    · by_cases h1 : b = a
      · exact .inr (.inr ⟨h1, _, if_pos h1⟩)
      · by_cases h2 : b ∈ cs.map (·.2)
        · exact .inr (.inl ⟨h2, (if_neg h1).trans (if_pos h2)⟩)
        · exact .inl ((if_neg h1).trans (if_neg h2))
    · by_cases h1 : b = a
      · cases (if_pos h1).symm.trans z
        rw [h1]
        exact ⟨ha, by rw [List.length_map]; exact hl, vs, _, rv, ha⟩
      · have z := (if_neg h1).symm.trans z
        by_cases h2 : b ∈ cs.map (·.2)
        · cases (if_pos h2).symm.trans z
          exact isT b h2
        · cases (if_neg h2).symm.trans z
/-- what is to be known of the law at the head's heap -/
def LawG (l : PySem.W.OpenLaw) (w : World) (K : PySem.W.Frag) (k n : Nat) (mg : Str → Option Value) (fa : Addr) (h : Heap) : Prop :=
  ∃ (fd : FuncData) (cs : List (Addr × Addr)) (T : List (Addr × Str)) (mir : List D → Res), (∀ p ∈ cs, h.get? p.2 = some { cls := .none, data := .fields #[] }) ∧ (∀ p ∈ cs, K.lookup p.2 = none) ∧ (∀ p ∈ cs, PySem.W.CodeHd h p.1 p.2) ∧ (∀ (s : Shared) (u : Value), BindsTo s fd ⟨[u], []⟩ [("script", u)]) ∧
    (∀ t ∈ T, ∃ p ∈ cs, t.1 = p.2) ∧
    (∀ ns : List Int, ns.length ≤ n → (∀ z ∈ ns, Builtin.Int.intBits z ≤ 1048576) → mir [.scr ns] = .ok (.bl true)) ∧
    ∀ base : Heap, K.In base → base.Ns mainGlobals mg → (∀ p ∈ cs, TabB base mg p.1 p.2) → ∃ S : Cfg, S.P = l.prog ∧ S.w = w ∧ S.K = K ∧ S.mg = mg ∧ S.base = base ∧ S.T = T ∧ FnG S true k fa fd ["script"] (spD S ⟨false, mir⟩)
theorem walk_g {l : PySem.W.OpenLaw} {n k : Nat} {q : Program} {loose : List Str} {XP : (Str → Option Value) → Heap → Prop} {YP : World → Heap → Prop} {d : DefRec}
    (hn : l.most = some n) (hn2 : n ≤ sizeLine) (hdf : d.params.defaults = []) (hr : Room k callerA)
    (F : ∀ (w : World) (mg : Str → Option Value) (fa : Addr) (h : Heap), YP w h → h.Ns mainGlobals mg → mg d.name = some (.ref fa) → ∃ K : PySem.W.Frag, K.In h ∧ LawG l w K k n mg fa h) :
    PySem.W.WalkO q loose XP YP l.row.toRowW d [] (fun f vs => PySem.call f vs) := by
  refine Att.attach_callB hn hdf fun w s₀ s₁ mg mb fa o pm cd doc a vs ns G Y ho hd hcd hmg hobj hints hlen hbits hg => ?_
  obtain ⟨K, KX, fd, cs, T, mir, hT, nT, C, hb, hTs, hm, hF⟩ := F w mg fa _ Y G.T.g hmg
  refine law_at (CX := L2.CX l.prog w) KX G.T.g G.T.b G.T.builtins G.T.nolimit hg hT nT C G.T.bmain hobj hints (Nat.le_trans hlen hn2) (fun base H hK hN TB e0 h0 => ?_) fun H e s' z => by
    obtain ⟨_, _, _, _, _, _, _, _, _, _, _, _, z⟩ := z
    exact z
  obtain ⟨⟨P', w', K', mg', base', T', cA', cls'⟩, e1, e2, e3, e4, e5, e6, FL⟩ := hF base hK hN TB
  dsimp only at e1 e2 e3 e4 e5 e6
  subst e1 e2 e3 e4 e5 e6
  refine FL.run callerA [] s₁ H ⟨[.ref a], []⟩ [.ref a] [.ref a] _ _ hr (fun _ => rfl) e0 (hb s₁ (.ref a)) (.cons rfl .nil) ?_
  -- the script for good; nothing stands by
  have tb : ∀ b ps, H b = some (.tbl ps) → b ∈ cs.map (·.2) := fun b ps z => by
    rcases h0.all b with q | ⟨q, _⟩ | ⟨_, o, q⟩
    · rw [q] at z
      cases z
    · exact q
    · rw [q] at z
      cases z
  refine ⟨fun _ => none, fun b => match H b with
    | some (.tbl _) => none
    | o => o, [.scr ns], ⟨fun b o z => ?_, fun _ _ z => (by cases z), fun _ => .inl rfl, fun t ht => ?_, fun b ps z => ?_, fun _ _ z => (by cases z)⟩, .cons (.scr ?_) .nil, ?_⟩
  · cases q : H b with
    | none =>
      simp only [q] at z
      cases z
    | some u =>
      simp only [q] at z
      cases u <;> first | exact z | cases z
  · obtain ⟨p, hp, e⟩ := hTs t ht
    rw [e]
    exact TabS.nil (h0.tab p hp)
  · cases q : H b with
    | none =>
      simp only [q] at z
      cases z
    | some u =>
      simp only [q] at z
      cases u <;> cases z
  · rcases h0.scr with (z | ⟨o, z⟩) | z
    · exact .inl (.inl (by simp only [z]))
    · exact .inl (.inr ⟨o, by simp only [z]⟩)
    · exact .inr z
  · simp only [hm ns hlen hbits]
    intro G' u H' _ _ ho
    have ho : Den _ G' u (.bl true) := ho
    cases ho
    rfl
end EvO

set_option Elab.async false
set_option linter.all false
set_option maxRecDepth 100000
/-! A26: what joins the defs of a text. -/
namespace EvO
open PySem PySem.Spec PyProof.Rows L2

theorem XOk.mono {S : Cfg} {N : List Str} {sc : Scope} {g : Bool} {j k : Nat} {E : XK} {X : Cx} (h : XOk S N sc g k E X) (hj : j ≤ k) : XOk S N sc g j E X := { h with room := h.room.mono hj }
theorem XOk.unguard {S : Cfg} {N : List Str} {sc : Scope} {g : Bool} {k : Nat} {E : XK} {X : Cx} (h : XOk S N sc g k E X) : XOk S N sc false k E X := { h with gd := fun z => by cases z }
section
variable {S : Cfg} {g : Bool} {j k : Nat} {n : Str} {e : Ent}
theorem EOk.mono (h : EOk S g j n e) (hj : j ≤ k) : EOk S g k n e := by
  cases e with
  | cst d => exact h
  | fn sg =>
    obtain ⟨f, fd, ps, F, h⟩ := h
    exact ⟨f, fd, ps, F.mono hj, h⟩
  | fnP sg =>
    obtain ⟨f, fd, ps, F, h⟩ := h
    exact ⟨f, fd, ps, F.mono hj, h⟩
  | cls => exact ⟨h.1, h.2.1, fun X N sc E hX => h.2.2 X N sc E (hX.mono hj)⟩
  | heard => exact h
theorem EOk.weak (h : EOk S false k n e) : EOk S g k n e := by
  cases e with
  | cst d => exact h
  | fn sg =>
    obtain ⟨f, fd, ps, F, h⟩ := h
    exact ⟨f, fd, ps, F.weak, h⟩
  | fnP sg =>
    obtain ⟨f, fd, ps, F, h⟩ := h
    exact ⟨f, fd, ps, F.weak, h⟩
  | cls => exact ⟨h.1, h.2.1, fun X N sc E hX => h.2.2 X N sc E hX.unguard⟩
  | heard => exact h
theorem gok_nil : GOk S g k [] := fun n e h => by cases h
theorem gok_cons {r : List (Str × Ent)} (h : EOk S g k n e) (hr : GOk S g k r) : GOk S g k ((n, e) :: r) := fun m e' h' => by
  rw [List.lookup_cons] at h'
  split at h'
  · rename_i q
    cases h'
    rw [beq_iff_eq.mp q]
    exact h
  · exact hr m e' h'
end

/-! ### constants -/
mutual
def denB (K : PySem.W.Frag) : Value → D → Bool
  | .none, .non => true
  | .bool a, .bl b => a == b
  | .int i _, .int j => decide (i = j)
  | .str x _, .str y => decide (x = y)
  | .ref a, .tup ds => (match K.lookup a with
    | some ⟨.type c, none, .seq vs _, _⟩ => decide (c = "tuple") && decide (vs.size ≤ 1000) && densB K vs.toList ds
    | _ => false)
  | _, _ => false
def densB (K : PySem.W.Frag) : List Value → List D → Bool
  | [], [] => true
  | v :: vs, d :: ds => denB K v d && densB K vs ds
  | _, _ => false
end
mutual
theorem denB_ok {S : Cfg} : ∀ {v : Value} {d : D}, denB S.K v d = true → ∃ u, RelV u v ∧ ∀ G, Den S G u d
  | v, .non, h => by
    cases v with
    | none => exact ⟨.non, rfl, fun G => .non⟩
    | _ => unfold denB at h; cases h
  | v, .bl b, h => by
    cases v with
    | bool a =>
      unfold denB at h
      have h := beq_iff_eq.mp h
      subst h
      exact ⟨.bl a, rfl, fun G => .bl _⟩
    | _ => unfold denB at h; cases h
  | v, .int b, h => by
    cases v with
    | int a t =>
      unfold denB at h
      have h := of_decide_eq_true h
      subst h
      exact ⟨.int a, ⟨t, rfl⟩, fun G => .int _⟩
    | _ => unfold denB at h; cases h
  | v, .str b, h => by
    cases v with
    | str a t =>
      unfold denB at h
      have h := of_decide_eq_true h
      subst h
      exact ⟨.str a, ⟨t, rfl⟩, fun G => .str _⟩
    | _ => unfold denB at h; cases h
  | v, .tup ds, h => by
    cases v with
    | ref a =>
      unfold denB at h
      split at h
      · rename_i c vs sz sl q
        obtain ⟨h1, h2⟩ := Bool.and_eq_true_iff.mp h
        obtain ⟨h3, h4⟩ := Bool.and_eq_true_iff.mp h1
        have h3 := of_decide_eq_true h3
        have h4 := of_decide_eq_true h4
        subst h3
        obtain ⟨us, r, hd⟩ := densB_ok h2
        exact ⟨.ref a, rfl, fun G => .tup (.inr ⟨_, vs, _, q, rfl, rfl, by rw [sizeLine_eq]; omega, r⟩) (hd G)⟩
      · cases h
    | _ => unfold denB at h; cases h
  | v, .lst ds, h => by
    cases v <;> (unfold denB at h; cases h)
  | v, .exn c x, h => by
    cases v <;> (unfold denB at h; cases h)
  | v, .scr ns, h => by
    cases v <;> (unfold denB at h; cases h)
theorem densB_ok {S : Cfg} : ∀ {vs : List Value} {ds : List D}, densB S.K vs ds = true → ∃ us, Vals us vs ∧ ∀ G, Dens S G us ds
  | [], [], _ => ⟨[], .nil, fun G => .nil⟩
  | [], _ :: _, h => by unfold densB at h; cases h
  | _ :: _, [], h => by unfold densB at h; cases h
  | v :: vs, d :: ds, h => by
    unfold densB at h
    obtain ⟨h1, h2⟩ := Bool.and_eq_true_iff.mp h
    obtain ⟨u, r, hd⟩ := denB_ok h1
    obtain ⟨us, rs, hds⟩ := densB_ok h2
    exact ⟨u :: us, .cons r rs, fun G => .cons (hd G) (hds G)⟩
end

/-! ### entries -/
section
variable {S : Cfg} {g : Bool} {k : Nat} {x : Str} {st : Stmt} {f : Addr} {fd : FuncData} {c : Cc} {ps : List Str}
abbrev FunP (K : PySem.W.Frag) (x : Str) (st : Stmt) (f : Addr) (fd : FuncData) : Prop := FunD K x x (defArgs st) (defBody st) (defScope st) [] [] f fd
/-- the defs' parameters bind -/
def BindAll (x : Str) (st : Stmt) (ps : List Str) : Prop := ∀ (kV doc pm : Value) (an : Option Addr) (cdv ct : Value) (us : List Value), us.length = ps.length → bindArgs (PySem.W.fnOf x x (defArgs st) (defBody st) (defScope st) .none kV doc pm an cdv ct) ⟨us, []⟩ = pure (ps.zip us)
theorem fn_code (F : FunP S.K x st f fd) (sc : FnScope c.N ps (defScope st)) (hC : ClsOk S) (hc : COk S g k c) (ht : c.lam = true → ∀ cA, He.codeOf S.K (x, none) = cA → TbOk S x (.ref cA)) (hf : f = He.fAd S.K (x, none)) {fr : Bool} {M n : Nat} {b : Sms} (h : cSs n c (defScope st) fr (defBody st) = some b) :
    FnG S g (k + 1) f fd ps (spD S ⟨fr, runD M c.N.length ps.length b⟩) := by
  obtain ⟨oc, od, dV, kV, doc, pm, an, cdv, ct, osl, rfl, lk, hcd, _, _⟩ := F.ex
  refine fn_d lk hcd sc hC hc (fun z => ?_) h
  obtain ⟨cA, rfl⟩ := He.codeIn_ref hcd
  subst hf
  exact ht z cA (He.codeOf_eq lk rfl)
theorem fn_codeP (F : FunP S.K x st f fd) (sc : FnScope c.N ps (defScope st)) (hC : ClsOk S) (hc : COk S g k c) (ht : c.lam = true → ∀ cA, He.codeOf S.K (x, none) = cA → TbOk S x (.ref cA)) (hf : f = He.fAd S.K (x, none)) {M n : Nat} {b : Sms} (h : cSs n c (defScope st) false (defBody st) = some b) :
    FnG S g (k + 1) f fd ps (spP S ⟨runP M c.N.length ps.length b⟩) := by
  obtain ⟨oc, od, dV, kV, doc, pm, an, cdv, ct, osl, rfl, lk, hcd, _, _⟩ := F.ex
  refine fn_p lk hcd sc hC hc (fun z => ?_) h
  obtain ⟨cA, rfl⟩ := He.codeIn_ref hcd
  subst hf
  exact ht z cA (He.codeOf_eq lk rfl)
theorem e_fn (F : FunP S.K x st f fd) (hm : S.mg x = some (.ref f)) (hb : BindAll x st ps) {sg : Sig} (h : FnG S g k f fd ps (spD S sg)) : EOk S g k x (.fn sg) := ⟨f, fd, ps, h, hm, F.kp, F.bindsN hb⟩
theorem e_fnP (F : FunP S.K x st f fd) (hm : S.mg x = some (.ref f)) (hb : BindAll x st ps) {sg : SigP} (h : FnG S g k f fd ps (spP S sg)) : EOk S g k x (.fnP sg) := ⟨f, fd, ps, h, hm, F.kp, F.bindsN hb⟩
/-- nothing is promised -/
theorem e_none (F : FunP S.K x st f fd) (hm : S.mg x = some (.ref f)) (hb : BindAll x st ps) {fr : Bool} : EOk S g k x (.fn ⟨fr, fun _ => .bad⟩) := e_fn F hm hb ⟨fun vs H Q E ⟨_, _, _, _, _, z⟩ => z.elim, fun A outer s H args us vs Q E _ _ _ _ _ ⟨_, _, _, _, _, z⟩ => z.elim⟩
theorem e_noneP (F : FunP S.K x st f fd) (hm : S.mg x = some (.ref f)) (hb : BindAll x st ps) : EOk S g k x (.fnP ⟨fun _ _ => .bad⟩) := e_fnP F hm hb ⟨fun vs H Q E ⟨_, _, _, _, _, _, _, _, _, _, _, _, _, _, z⟩ => z.elim, fun A outer s H args us vs Q E _ _ _ _ _ ⟨_, _, _, _, _, _, _, _, _, _, _, _, _, _, z⟩ => z.elim⟩
theorem e_cst {d : D} {v : Value} (hm : S.mg x = some v) (h : denB S.K v d = true) : EOk S g k x (.cst d) := by
  obtain ⟨u, r, hd⟩ := denB_ok h
  exact ⟨u, v, hm, r, hd⟩
theorem e_int {i : Int} (hm : ∃ t, S.mg x = some (.int i t)) : EOk S g k x (.cst (.int i)) := by
  obtain ⟨t, hm⟩ := hm
  exact ⟨.int i, _, hm, ⟨t, rfl⟩, fun G => .int _⟩
theorem e_str {i : Str} (hm : ∃ t, S.mg x = some (.str i t)) : EOk S g k x (.cst (.str i)) := by
  obtain ⟨t, hm⟩ := hm
  exact ⟨.str i, _, hm, ⟨t, rfl⟩, fun G => .str _⟩
end

/-! ### the error classes -/
theorem cls_parts {K : PySem.W.Frag} {cs : List Addr} {L fI : Addr} (h : clsB K cs L fI = true) : (∀ C ∈ cs, OexC K C ∧ ExC K C ∧ PySem.W.findIn K (.ref C) "__init__" = some (some (.ref fI)) ∧ PySem.W.exmOne K (.ref C) (.ref L) = some true ∧ ∀ D ∈ cs, PySem.W.kitOne K (.ref D) (.ref C) = some (decide (D = C))) ∧
    PySem.W.typeIn K (.ref fI) = some (.type "function") ∧ PySem.W.findCls K (.type "ValueError") (.type "type") "__init__" = some (.val (.builtin "ValueError.__init__")) := by
  unfold clsB at h
  obtain ⟨h12, h3⟩ := Bool.and_eq_true_iff.mp h
  obtain ⟨h1, h2⟩ := Bool.and_eq_true_iff.mp h12
  refine ⟨fun C hC => ?_, beq_iff_eq.mp h2, ?_⟩
  · have q := List.all_eq_true.mp h1 C hC
    simp only [Bool.and_eq_true, beq_iff_eq, List.all_eq_true] at q
    obtain ⟨⟨⟨⟨q1, q2⟩, q3⟩, q4⟩, q5⟩ := q
    exact ⟨oexB_ok q1, excB_ok q2 (oexB_ok q1), q3, q4, q5⟩
  · split at h3
    · rename_i n e
      rw [e, beq_iff_eq.mp h3]
    · cases h3
end EvO

set_option Elab.async false
set_option linter.all false
set_option maxRecDepth 100000
/-! A27: tables, heard, error classes by tests. -/
namespace EvO
open PySem PySem.Spec PyProof.Rows L2

def lamName (x : Str) : Str := x ++ (".<locals>." : Str) ++ ("<lambda>" : Str)
def tabsNe (K : PySem.W.Frag) (tf : List Str) : Bool := tf.all fun p => tf.all fun q => decide (p = q) || !decide (He.tabOf K (He.codeOf K (p, none)) = He.tabOf K (He.codeOf K (q, none)))
def tfD (tf : List Str) : List He.Defn := tf.map fun x => (x, none)
theorem tbOk_of {S : Cfg} {tf : List Str} (hT : S.T = tf.map fun x => (He.tabOf S.K (He.codeOf S.K (x, none)), lamName x)) (hn : tabsNe S.K tf = true) (TB : ∀ p ∈ (tfD tf).map (He.cT S.K), LamX.TabB S.base S.mg p.1 p.2) {x : Str} (hx : x ∈ tf) : ∀ cA, He.codeOf S.K (x, none) = cA → TbOk S x (.ref cA) := fun cA e => by
  subst e
  refine ⟨He.codeOf S.K (x, none), He.tabOf S.K (He.codeOf S.K (x, none)), TB (He.cT S.K (x, none)) (List.mem_map.mpr ⟨(x, none), List.mem_map.mpr ⟨x, hx, rfl⟩, rfl⟩), rfl, ?_, fun p hp hq => ?_⟩
  · rw [hT]
    exact List.mem_map.mpr ⟨x, hx, rfl⟩
  · rw [hT] at hp
    obtain ⟨y, hy, rfl⟩ := List.mem_map.mp hp
    have q := List.all_eq_true.mp (List.all_eq_true.mp hn y hy) x hx
    rcases Bool.or_eq_true_iff.mp q with q | q
    · have q := of_decide_eq_true q
      subst q
      rfl
    · have q : ¬ He.tabOf S.K (He.codeOf S.K (y, none)) = He.tabOf S.K (He.codeOf S.K (x, none)) := by simpa using q
      exact (q hq).elim

def heardB : List Stmt → Bool
  | [.Assign [.Tuple [.Name a _, .Name b _] _ _] (.Tuple [.Constant .none _ _, .Constant .none _ _] _ _) _,
      .Try [.Assign [.Name c _] (.Call (.Name d _) [] [] _) _] [.ExceptHandler (some (.Name e _)) (some f) [.Assign [.Name g _] (.Name h _) _] _] [] [] _,
      .Return (some (.Tuple [.Name i _, .Name j _] _ _)) _] => decide (a = "caught") && (decide (b = "back") && (decide (c = "back") && (decide (d = "call") && (decide (e = "LiftError") && (decide (f = "error") && (decide (g = "caught") && (decide (h = "error") && (decide (i = "caught") && decide (j = "back")))))))))
  | _ => false
theorem heardB_ok {bg : List Stmt} (h : heardB bg = true) : ∃ (j1 j2 k1 k2 k3 : Nat) (q1 q2 q3 q4 q5 q6 q7 q8 q9 r1 r2 r3 r4 r5 r6 r7 r8 r9 s1 s2 s3 : Pos), bg = [.Assign [.Tuple [.Name "caught" q1, .Name "back" q2] k1 q3] (.Tuple [.Constant .none j1 q4, .Constant .none j2 q5] k2 q6) q7,
      .Try [.Assign [.Name "back" q8] (.Call (.Name "call" q9) [] [] r1) r2] [.ExceptHandler (some (.Name "LiftError" r3)) (some "error") [.Assign [.Name "caught" r4] (.Name "error" r5) r6] r7] [] [] r8,
      .Return (some (.Tuple [.Name "caught" r9, .Name "back" s1] k3 s2)) s3] := by
  unfold heardB at h
  split at h
  · simp only [Bool.and_eq_true, decide_eq_true_eq] at h
    obtain ⟨rfl, rfl, rfl, rfl, rfl, rfl, rfl, rfl, rfl, rfl⟩ := h
    exact ⟨_, _, _, _, _, _, _, _, _, _, _, _, _, _, _, _, _, _, _, _, _, _, _, _, _, _, rfl⟩
  · cases h
def initB : List Stmt → Bool
  | [.Expr (.Call (.Attribute (.Name a _) b p2) [.Name c _, .Name d _] [] p5) _, .Assign [.Attribute (.Name e _) f _] (.Name g _) _] => decide (a = "ValueError") && (decide (b = "__init__") && (decide (c = "self") && (decide (d = "value") && (decide (e = "self") && (decide (f = "value") && (decide (g = "value") && (p2.endLine == p5.line)))))))
  | _ => false
theorem initB_ok {b : List Stmt} (h : initB b = true) : ∃ p1 p2 p3 p4 p5 p6 p7 p8 p9 p10 : Pos, b = [.Expr (.Call (.Attribute (.Name "ValueError" p1) "__init__" p2) [.Name "self" p3, .Name "value" p4] [] p5) p6, .Assign [.Attribute (.Name "self" p7) "value" p8] (.Name "value" p9) p10] ∧ (p2.endLine == p5.line) = true := by
  unfold initB at h
  split at h
  · simp only [Bool.and_eq_true, decide_eq_true_eq] at h
    obtain ⟨rfl, rfl, rfl, rfl, rfl, rfl, rfl, q⟩ := h
    exact ⟨_, _, _, _, _, _, _, _, _, _, rfl, q⟩
  · cases h
def heardScB (sg : Scope) : Bool := isLocal (sg.names.lookup ("call" : Str)) && isLocal (sg.names.lookup ("caught" : Str)) && isLocal (sg.names.lookup ("back" : Str)) && isLocal (sg.names.lookup ("error" : Str)) && isGlob (sg.names.lookup ("LiftError" : Str))
theorem heardScB_ok {sg : Scope} (h : heardScB sg = true) : HeardSc sg := by
  unfold heardScB at h
  simp only [Bool.and_eq_true] at h
  obtain ⟨⟨⟨⟨h1, h2⟩, h3⟩, h4⟩, h5⟩ := h
  exact ⟨isLocal_ok h1, isLocal_ok h2, isLocal_ok h3, isLocal_ok h4, isGlob_ok h5⟩
section
variable {S : Cfg} {g : Bool} {k : Nat}
theorem e_heard {x : Str} {st : Stmt} {f L : Addr} {fd : FuncData} (F : FunP S.K x st f fd) (hm : S.mg x = some (.ref f)) (hb : BindAll x st ["call"]) (sc : FnScope ["call", "caught", "back", "error"] ["call"] (defScope st)) (h1 : heardB (defBody st) = true) (h2 : heardScB (defScope st) = true) (hL : S.mg "LiftError" = some (.ref L)) (hO : HeardOk S L) : EOk S g k x .heard := by
  have hbn := F.bindsN hb
  obtain ⟨oc, od, dV, kV, doc, pm, an, cdv, ct, osl, rfl, lk, hcd, _, _⟩ := F.ex
  exact ⟨f, L, _, _, _, dV, kV, doc, pm, cdv, ct, oc, an, od, osl, hm, F.kp, lk, hcd, hbn, sc, heardScB_ok h2, hL, hO, heardB_ok h1⟩
/-- the error classes by names -/
def clsN (K : PySem.W.Frag) (cls : List Str) : Bool := cls.all fun c => cls.all fun d => decide (c = d) || !decide (He.ga K c = He.ga K d)
structure ClsAll (S : Cfg) (cls : List Str) (L : Addr) : Prop where
  ok : ClsOk S
  hr : HeardOk S L
  e : ∀ n ∈ cls, S.mg n = some (.ref (S.cA n)) → okName n = true → ∀ {g : Bool} {k : Nat}, 2 ≤ k → EOk S g k n .cls
theorem cls_all {st : Stmt} {fd : FuncData} {cls : List Str} {L : Addr} (hA : S.cA = He.ga S.K) (hcl : S.cls = cls) (hn : clsN S.K cls = true) (h : clsB S.K (cls.map (He.ga S.K)) L (He.fAd S.K ("LiftError", some "__init__")) = true)
    (F : FunD S.K "__init__" "LiftError.__init__" (defArgs st) (defBody st) (defScope st) [] [] (He.fAd S.K ("LiftError", some "__init__")) fd)
    (hb : ∀ (kV doc pm : Value) (an : Option Addr) (cdv ct : Value) (us : List Value), us.length = (["self", "value"] : List Str).length → bindArgs (PySem.W.fnOf "__init__" "LiftError.__init__" (defArgs st) (defBody st) (defScope st) .none kV doc pm an cdv ct) ⟨us, []⟩ = pure ((["self", "value"] : List Str).zip us))
    (sc : FnScope ["self", "value"] ["self", "value"] (defScope st)) (hg : isGlob ((defScope st).names.lookup ("ValueError" : Str)) = true) (h1 : initB (defBody st) = true) (hm : S.mg "ValueError" = none) : ClsAll S cls L := by
  obtain ⟨hc, hf, hv⟩ := cls_parts h
  have hbn := F.bindsN hb
  obtain ⟨p1, p2, p3, p4, p5, p6, p7, p8, p9, p10, hbody, hl⟩ := initB_ok h1
  have mem : ∀ {c : Str}, c ∈ cls → He.ga S.K c ∈ cls.map (He.ga S.K) := fun {c} h => List.mem_map.mpr ⟨c, h, rfl⟩
  have F1 : FnOk S.P S.w S.K S.mg S.base (L2.CX S.P S.w) 1 (He.fAd S.K ("LiftError", some "__init__")) fd ["self", "value"] (spI S.K) := by
    obtain ⟨oc, od, dV, kV, doc, pm, an, cdv, ct, osl, rfl, lk, hcd, _, _⟩ := F.ex
    exact init_ok lk hcd sc hbody hl (isGlob_ok hg) hm hv
  refine ⟨⟨fun c h => ?_, fun c h d h' => ?_⟩, ⟨fun c h => ?_⟩, fun n hn' hmg hok g k hk => ⟨by rw [hcl]; exact hn', hmg, fun X N sc E hX => ?_⟩⟩
  · rw [hcl] at h
    rw [hA]
    exact (hc _ (mem h)).2.1
  · rw [hcl] at h h'
    rw [hA, (hc _ (mem h)).2.2.2.2 _ (mem h')]
    congr 1
    by_cases e : d = c
    · subst e
      simp
    · have q := List.all_eq_true.mp (List.all_eq_true.mp hn d h') c h
      rcases Bool.or_eq_true_iff.mp q with q | q
      · exact (e (of_decide_eq_true q)).elim
      · have q : ¬ He.ga S.K d = He.ga S.K c := by simpa using q
        simp [e, q]
  · rw [hcl] at h
    rw [hA]
    exact (hc _ (mem h)).2.2.2.1
  · have hcn := hc _ (mem hn')
    refine raise_ok hX (by rw [hcl]; exact hn') ?_ ?_ ?_ hf F1 hbn hmg (okName_ok hok).1 hk
    · rw [hA]
      exact hcn.1
    · rw [hA]
      exact hcn.2.1.va
    · rw [hA]
      exact hcn.2.2.1
end
end EvO

set_option Elab.async false
set_option linter.all false
set_option maxRecDepth 100000
set_option maxHeartbeats 0
namespace K82
open PySem PySem.Spec PyProof.Rows L2 EvO
def top (i : Nat) : Stmt := PySem.Challenge.pw_everyoneup_k82_whole_asks_written.main.body.getD i (.Pass ⟨0, 0, 0, 0⟩)
def inC (s : Stmt) (j : Nat) : Stmt := match s with
  | .ClassDef _ _ _ body _ _ _ _ _ _ _ => body.getD j (.Pass ⟨0, 0, 0, 0⟩)
  | _ => .Pass ⟨0, 0, 0, 0⟩
def dd (x : Str) (s : Stmt) : He.DefD := ⟨(x, none), x, x, defArgs s, defBody s, defScope s, [], []⟩
def dm (c m q : Str) (s : Stmt) : He.DefD := ⟨(c, some m), m, q, defArgs s, defBody s, defScope s, [], []⟩
def fn : List He.DefD := ([dd "is_tuple" (top 1), dd "is_whole" (top 2), dd "is_integer" (top 3), dd "is_rising" (top 4), dm "LiftError" "__init__" "LiftError.__init__" (inC (top 6) 0), dd "is_trip" (top 18), dd "is_building" (top 19), dd "check_building" (top 20), dd "is_plain" (top 35), dd "is_ask_of" (top 36), dd "is_ask" (top 37), dd "check_ask" (top 38), dd "text_of" (top 44), dd "ask_text" (top 45), dd "number_of" (top 46), dd "put_together" (top 47), dd "read_ask" (top 48), dd "_law_pot" (top 50), dd "_law_take" (top 51), dd "_law_of" (top 52)] : List He.DefD) ++ ([dd "_law_places" (top 53), dd "_law_heard" (top 54), dd "_law_a_ask" (top 55), dd "_law_words" (top 56), dd "_law_otherwise" (top 57), dd "_law_right" (top 58), dd "law" (top 59)] : List He.DefD)
def fa : List He.Fa := ([.glo "is_tuple", .glo "is_whole", .glo "is_integer", .glo "is_rising", .glo "LiftError", .glo "BadBuilding", .glo "NoText", .glo "BadAsk", .glo "is_trip", .glo "is_building", .glo "check_building", .glo "is_plain", .glo "is_ask_of", .glo "is_ask", .glo "check_ask", .glo "text_of", .glo "ask_text", .glo "number_of", .glo "put_together", .glo "read_ask"] : List He.Fa) ++ ([.glo "_law_pot", .glo "_law_take", .glo "_law_of", .glo "_law_places", .glo "_law_heard", .glo "_law_a_ask", .glo "_law_words", .glo "_law_otherwise", .glo "_law_right", .glo "law", .int "LEAST_FLOORS" 2, .int "MOST_FLOORS" 8, .int "MOST_CARS" 3, .int "MOST_ROOM" 4, .int "MOST_TRIPS" 56, .int "PAIR_buildings" 2, .int "FOUR" 4, .int "MOST_PARTS" 31, .int "PAIR_asks" 2, .int "TRIPLE" 3] : List He.Fa) ++ ([.str "LIT" "lit", .str "STANDS" "stands", .str "WISHED" "wished", .str "AT" "at", .str "HEADING" "heading", .str "LOAD" "load", .str "NOT" "not", .str "AND" "and", .str "OR" "or", .glo "HEADINGS", .str "BLANK" " ", .str "FIGURES" "0123456789", .int "MOST_TEXT" 1000, .int "PAIR_written" 2, .free "isinstance", .free "len", .free "int", .free "str", .free "abs", .free "sum"] : List He.Fa) ++ ([.free "all", .free "any", .free "min", .free "max", .free "list", .free "tuple", .free "repr", .free "range", .free "zip", .free "bool", .free "ValueError"] : List He.Fa)
def lams : List Str := ["_law_right", "law"]
def tf : List He.Defn := tfD lams
def cls : List Str := ["BadBuilding", "NoText", "BadAsk"]
def ex (K : PySem.W.Frag) : Bool := clsB K (cls.map (He.ga K)) (He.ga K "LiftError") (He.fAd K ("LiftError", some "__init__")) && clsN K cls && tabsNe K lams && denB K (.ref (He.ga K "HEADINGS")) (.tup [(.str "none"), (.str "up"), (.str "down")])
abbrev R : PySem.W.OpenRow := PySem.W.OpenLaw.row PySem.Challenge.rw_everyoneup_k82_whole_asks_written
abbrev hk : PySem.W.Hook := He.hookX 5 fa fn [] tf ex
def ob (s : PySem.W.SharedT) : He.AlX := He.obsX 5 fa fn [] tf ex (HandSHeadRun.getT s)
theorem ob_eq (s : PySem.W.SharedT) : ob s = hk.obs s.abs := He.obsX_eq (HandSHeadRun.getT_eq s)
def loose : List Str := (["is_tuple", "is_whole", "is_integer", "is_rising", "LiftError", "BadBuilding", "NoText", "BadAsk", "LEAST_FLOORS", "MOST_FLOORS", "MOST_CARS", "MOST_ROOM", "MOST_TRIPS", "PAIR_buildings", "FOUR", "is_trip", "is_building", "check_building", "MOST_PARTS", "PAIR_asks"] : List Str) ++ (["TRIPLE", "LIT", "STANDS", "WISHED", "AT", "HEADING", "LOAD", "NOT", "AND", "OR", "HEADINGS", "is_plain", "is_ask_of", "is_ask", "check_ask", "BLANK", "FIGURES", "MOST_TEXT", "PAIR_written", "text_of"] : List Str) ++ (["ask_text", "number_of", "put_together", "read_ask", "_law_pot", "_law_take", "_law_of", "_law_places", "_law_heard", "_law_a_ask", "_law_words", "_law_otherwise", "_law_right"] : List Str)
/-! is_tuple('value', 'least', 'most') -/
def N_is_tuple : List Str := ["value", "least", "most"]
def c_is_tuple : Cc := ⟨N_is_tuple, [], [], false, false⟩
def b_is_tuple : Sms := (.cons (.ret (.and (.prim .isTup (.cons (.var 0) .nil)) (.chain .le .le (.var 1) (.prim .len (.cons (.var 0) .nil)) (.var 2)))) .nil)
def sg_is_tuple : Sig := ⟨false, runD 100 3 3 b_is_tuple⟩
theorem cc_is_tuple : cSs 60 (c_is_tuple) (defScope (top 1)) false (defBody (top 1)) = some (b_is_tuple) := by kernel_rfl
theorem sc_is_tuple : FnScope N_is_tuple ["value", "least", "most"] (defScope (top 1)) := ⟨rfl, rfl, rfl, by decide +kernel, rfl, by decide +kernel, by decide +kernel⟩
theorem bd_is_tuple : BindAll "is_tuple" (top 1) ["value", "least", "most"] := fun _ _ _ _ _ _ us hl => match us, hl with | [_, _, _], _ => by kernel_rfl
/-! is_whole('value',) -/
def N_is_whole : List Str := ["value"]
def c_is_whole : Cc := ⟨N_is_whole, [], [], false, false⟩
def b_is_whole : Sms := (.cons (.ret (.and (.prim .isInt (.cons (.var 0) .nil)) (.not (.prim .isBool (.cons (.var 0) .nil))))) .nil)
def sg_is_whole : Sig := ⟨false, runD 100 1 1 b_is_whole⟩
theorem cc_is_whole : cSs 60 (c_is_whole) (defScope (top 2)) false (defBody (top 2)) = some (b_is_whole) := by kernel_rfl
theorem sc_is_whole : FnScope N_is_whole ["value"] (defScope (top 2)) := ⟨rfl, rfl, rfl, by decide +kernel, rfl, by decide +kernel, by decide +kernel⟩
theorem bd_is_whole : BindAll "is_whole" (top 2) ["value"] := fun _ _ _ _ _ _ us hl => match us, hl with | [_], _ => by kernel_rfl
/-! is_integer('value', 'low', 'high') -/
def N_is_integer : List Str := ["value", "low", "high"]
def c_is_integer : Cc := ⟨N_is_integer, [("is_whole", .fn sg_is_whole)], [], false, false⟩
def b_is_integer : Sms := (.cons (.ret (.and (.call sg_is_whole (.cons (.var 0) .nil)) (.chain .le .le (.var 1) (.var 0) (.var 2)))) .nil)
def sg_is_integer : Sig := ⟨false, runD 100 3 3 b_is_integer⟩
theorem cc_is_integer : cSs 60 (c_is_integer) (defScope (top 3)) false (defBody (top 3)) = some (b_is_integer) := by kernel_rfl
theorem sc_is_integer : FnScope N_is_integer ["value", "low", "high"] (defScope (top 3)) := ⟨rfl, rfl, rfl, by decide +kernel, rfl, by decide +kernel, by decide +kernel⟩
theorem bd_is_integer : BindAll "is_integer" (top 3) ["value", "low", "high"] := fun _ _ _ _ _ _ us hl => match us, hl with | [_, _, _], _ => by kernel_rfl
/-! is_rising('values', 'one', 'other') -/
def N_is_rising : List Str := ["values", "one", "other"]
def c_is_rising : Cc := ⟨N_is_rising, [], [], false, false⟩
def b_is_rising : Sms := (.cons (.ret (.prim .all (.cons (.comp (.tup (.cons (.nm 1) (.cons (.nm 2) .nil))) (.zip (.var 0) (.slc (.var 0) (.so (.cst (.int 1))) .no)) .nil (.cmp .lt (.var 1) (.var 2)) [1, 2]) .nil))) .nil)
def sg_is_rising : Sig := ⟨false, runD 100 3 1 b_is_rising⟩
theorem cc_is_rising : cSs 60 (c_is_rising) (defScope (top 4)) false (defBody (top 4)) = some (b_is_rising) := by kernel_rfl
theorem sc_is_rising : FnScope N_is_rising ["values"] (defScope (top 4)) := ⟨rfl, rfl, rfl, by decide +kernel, rfl, by decide +kernel, by decide +kernel⟩
theorem bd_is_rising : BindAll "is_rising" (top 4) ["values"] := fun _ _ _ _ _ _ us hl => match us, hl with | [_], _ => by kernel_rfl
/-! is_trip('value', 'floors', 'floor') -/
def N_is_trip : List Str := ["value", "floors", "floor"]
def c_is_trip : Cc := ⟨N_is_trip, [("PAIR_buildings", .cst (.int 2)), ("is_integer", .fn sg_is_integer), ("is_tuple", .fn sg_is_tuple)], [], false, false⟩
def b_is_trip : Sms := (.cons (.ifs (.or (.not (.call sg_is_tuple (.cons (.var 0) (.cons (.cst (.int 2)) (.cons (.cst (.int 2)) .nil))))) (.not (.prim .all (.cons (.comp (.nm 2) (.val (.var 0)) .nil (.call sg_is_integer (.cons (.var 2) (.cons (.cst (.int 0)) (.cons (.bin .sub (.var 1) (.cst (.int 1))) .nil)))) [2]) .nil)))) (.cons (.ret (.cst (.bl false))) .nil) .nil) (.cons (.ret (.cmp .ne (.idx (.var 0) (.cst (.int 0))) (.idx (.var 0) (.cst (.int 1))))) .nil))
def sg_is_trip : Sig := ⟨false, runD 100 3 2 b_is_trip⟩
theorem cc_is_trip : cSs 60 (c_is_trip) (defScope (top 18)) false (defBody (top 18)) = some (b_is_trip) := by kernel_rfl
theorem sc_is_trip : FnScope N_is_trip ["value", "floors"] (defScope (top 18)) := ⟨rfl, rfl, rfl, by decide +kernel, rfl, by decide +kernel, by decide +kernel⟩
theorem bd_is_trip : BindAll "is_trip" (top 18) ["value", "floors"] := fun _ _ _ _ _ _ us hl => match us, hl with | [_, _], _ => by kernel_rfl
/-! is_building('value', 'floors', 'cars', 'room', 'trips', 'trip') -/
def N_is_building : List Str := ["value", "floors", "cars", "room", "trips", "trip"]
def c_is_building : Cc := ⟨N_is_building, [("FOUR", .cst (.int 4)), ("LEAST_FLOORS", .cst (.int 2)), ("MOST_CARS", .cst (.int 3)), ("MOST_FLOORS", .cst (.int 8)), ("MOST_ROOM", .cst (.int 4)), ("MOST_TRIPS", .cst (.int 56)), ("is_integer", .fn sg_is_integer), ("is_rising", .fn sg_is_rising), ("is_trip", .fn sg_is_trip), ("is_tuple", .fn sg_is_tuple)], [], false, false⟩
def b_is_building : Sms := (.cons (.ifs (.or (.not (.call sg_is_tuple (.cons (.var 0) (.cons (.cst (.int 4)) (.cons (.cst (.int 4)) .nil))))) (.not (.call sg_is_integer (.cons (.idx (.var 0) (.cst (.int 0))) (.cons (.cst (.int 2)) (.cons (.cst (.int 8)) .nil)))))) (.cons (.ret (.cst (.bl false))) .nil) .nil) (.cons (.asg (.tup (.cons (.nm 1) (.cons (.nm 2) (.cons (.nm 3) (.cons (.nm 4) .nil))))) (.var 0)) (.cons (.ifs (.or (.not (.call sg_is_integer (.cons (.var 2) (.cons (.cst (.int 1)) (.cons (.cst (.int 3)) .nil))))) (.not (.call sg_is_integer (.cons (.var 3) (.cons (.cst (.int 1)) (.cons (.cst (.int 4)) .nil)))))) (.cons (.ret (.cst (.bl false))) .nil) .nil) (.cons (.ifs (.or (.not (.call sg_is_tuple (.cons (.var 4) (.cons (.cst (.int 1)) (.cons (.cst (.int 56)) .nil))))) (.not (.prim .all (.cons (.comp (.nm 5) (.val (.var 4)) .nil (.call sg_is_trip (.cons (.var 5) (.cons (.var 1) .nil))) [5]) .nil)))) (.cons (.ret (.cst (.bl false))) .nil) .nil) (.cons (.ret (.call sg_is_rising (.cons (.var 4) .nil))) .nil)))))
def sg_is_building : Sig := ⟨false, runD 100 6 1 b_is_building⟩
theorem cc_is_building : cSs 60 (c_is_building) (defScope (top 19)) false (defBody (top 19)) = some (b_is_building) := by kernel_rfl
theorem sc_is_building : FnScope N_is_building ["value"] (defScope (top 19)) := ⟨rfl, rfl, rfl, by decide +kernel, rfl, by decide +kernel, by decide +kernel⟩
theorem bd_is_building : BindAll "is_building" (top 19) ["value"] := fun _ _ _ _ _ _ us hl => match us, hl with | [_], _ => by kernel_rfl
/-! check_building('value',) -/
def N_check_building : List Str := ["value"]
def c_check_building : Cc := ⟨N_check_building, [("BadBuilding", .cls), ("is_building", .fn sg_is_building)], [], false, false⟩
def b_check_building : Sms := (.cons (.ifs (.not (.call sg_is_building (.cons (.var 0) .nil))) (.cons (.raise "BadBuilding" (.var 0)) .nil) .nil) .nil)
def sg_check_building : Sig := ⟨false, runD 100 1 1 b_check_building⟩
theorem cc_check_building : cSs 60 (c_check_building) (defScope (top 20)) false (defBody (top 20)) = some (b_check_building) := by kernel_rfl
theorem sc_check_building : FnScope N_check_building ["value"] (defScope (top 20)) := ⟨rfl, rfl, rfl, by decide +kernel, rfl, by decide +kernel, by decide +kernel⟩
theorem bd_check_building : BindAll "check_building" (top 20) ["value"] := fun _ _ _ _ _ _ us hl => match us, hl with | [_], _ => by kernel_rfl
/-! is_plain('building', 'value', 'floors', 'cars', 'room') -/
def N_is_plain : List Str := ["building", "value", "floors", "cars", "room"]
def c_is_plain : Cc := ⟨N_is_plain, [("AT", .cst (.str "at")), ("HEADING", .cst (.str "heading")), ("HEADINGS", .cst (.tup [(.str "none"), (.str "up"), (.str "down")])), ("LIT", .cst (.str "lit")), ("LOAD", .cst (.str "load")), ("PAIR_asks", .cst (.int 2)), ("STANDS", .cst (.str "stands")), ("TRIPLE", .cst (.int 3)), ("WISHED", .cst (.str "wished")), ("is_integer", .fn sg_is_integer)], [], false, false⟩
def b_is_plain : Sms := (.cons (.asg (.tup (.cons (.nm 2) (.cons (.nm 3) (.cons (.nm 4) .nil)))) (.slc (.var 0) .no (.so (.cst (.int 3))))) (.cons (.ifs (.cmp .eq (.prim .len (.cons (.var 1) .nil)) (.cst (.int 2))) (.cons (.ret (.and (.cmp .isin (.idx (.var 1) (.cst (.int 0))) (.tup (.cons (.cst (.str "lit")) (.cons (.cst (.str "stands")) (.cons (.cst (.str "wished")) .nil))))) (.call sg_is_integer (.cons (.idx (.var 1) (.cst (.int 1))) (.cons (.cst (.int 0)) (.cons (.bin .sub (.var 2) (.cst (.int 1))) .nil)))))) .nil) .nil) (.cons (.ifs (.not (.call sg_is_integer (.cons (.idx (.var 1) (.cst (.int 1))) (.cons (.cst (.int 0)) (.cons (.bin .sub (.var 3) (.cst (.int 1))) .nil))))) (.cons (.ret (.cst (.bl false))) .nil) .nil) (.cons (.ifs (.cmp .eq (.idx (.var 1) (.cst (.int 0))) (.cst (.str "at"))) (.cons (.ret (.call sg_is_integer (.cons (.idx (.var 1) (.cst (.int 2))) (.cons (.cst (.int 0)) (.cons (.bin .sub (.var 2) (.cst (.int 1))) .nil))))) .nil) .nil) (.cons (.ifs (.cmp .eq (.idx (.var 1) (.cst (.int 0))) (.cst (.str "load"))) (.cons (.ret (.call sg_is_integer (.cons (.idx (.var 1) (.cst (.int 2))) (.cons (.cst (.int 1)) (.cons (.var 4) .nil))))) .nil) .nil) (.cons (.ret (.and (.cmp .eq (.idx (.var 1) (.cst (.int 0))) (.cst (.str "heading"))) (.and (.prim .isStr (.cons (.idx (.var 1) (.cst (.int 2))) .nil)) (.cmp .isin (.idx (.var 1) (.cst (.int 2))) (.cst (.tup [(.str "none"), (.str "up"), (.str "down")])))))) .nil))))))
def sg_is_plain : Sig := ⟨false, runD 100 5 2 b_is_plain⟩
theorem cc_is_plain : cSs 60 (c_is_plain) (defScope (top 35)) false (defBody (top 35)) = some (b_is_plain) := by kernel_rfl
theorem sc_is_plain : FnScope N_is_plain ["building", "value"] (defScope (top 35)) := ⟨rfl, rfl, rfl, by decide +kernel, rfl, by decide +kernel, by decide +kernel⟩
theorem bd_is_plain : BindAll "is_plain" (top 35) ["building", "value"] := fun _ _ _ _ _ _ us hl => match us, hl with | [_, _], _ => by kernel_rfl
/-! is_ask_of('building', 'value', 'waiting', 'many', 'one') -/
def N_is_ask_of : List Str := ["building", "value", "waiting", "many", "one"]
def c_is_ask_of : Cc := ⟨N_is_ask_of, [("AND", .cst (.str "and")), ("MOST_PARTS", .cst (.int 31)), ("NOT", .cst (.str "not")), ("OR", .cst (.str "or")), ("PAIR_asks", .cst (.int 2)), ("TRIPLE", .cst (.int 3)), ("is_plain", .fn sg_is_plain), ("is_tuple", .fn sg_is_tuple)], [], false, false⟩
def b_is_ask_of : Sms := (.cons (.par 2 3 (.lst (.cons (.var 1) .nil)) (.cst (.int 0))) (.cons (.whl (.cmp .ne (.var 2) (.lst .nil)) (.cons (.par 4 3 (.pop 2) (.bin .add (.var 3) (.cst (.int 1)))) (.cons (.ifs (.or (.cmp .gt (.var 3) (.cst (.int 31))) (.or (.not (.call sg_is_tuple (.cons (.var 4) (.cons (.cst (.int 2)) (.cons (.cst (.int 3)) .nil))))) (.not (.prim .isStr (.cons (.idx (.var 4) (.cst (.int 0))) .nil))))) (.cons (.ret (.cst (.bl false))) .nil) .nil) (.cons (.ifs (.or (.and (.cmp .eq (.idx (.var 4) (.cst (.int 0))) (.cst (.str "not"))) (.cmp .eq (.prim .len (.cons (.var 4) .nil)) (.cst (.int 2)))) (.and (.cmp .isin (.idx (.var 4) (.cst (.int 0))) (.tup (.cons (.cst (.str "and")) (.cons (.cst (.str "or")) .nil)))) (.cmp .eq (.prim .len (.cons (.var 4) .nil)) (.cst (.int 3))))) (.cons (.ex (.ext 2 (.prim .list (.cons (.slc (.var 4) (.so (.cst (.int 1))) .no) .nil)))) .nil) (.cons (.ifs (.not (.call sg_is_plain (.cons (.var 0) (.cons (.var 4) .nil)))) (.cons (.ret (.cst (.bl false))) .nil) .nil) .nil)) .nil)))) (.cons (.ret (.cst (.bl true))) .nil)))
def sg_is_ask_of : Sig := ⟨false, runD 100 5 2 b_is_ask_of⟩
theorem cc_is_ask_of : cSs 60 (c_is_ask_of) (defScope (top 36)) false (defBody (top 36)) = some (b_is_ask_of) := by kernel_rfl
theorem sc_is_ask_of : FnScope N_is_ask_of ["building", "value"] (defScope (top 36)) := ⟨rfl, rfl, rfl, by decide +kernel, rfl, by decide +kernel, by decide +kernel⟩
theorem bd_is_ask_of : BindAll "is_ask_of" (top 36) ["building", "value"] := fun _ _ _ _ _ _ us hl => match us, hl with | [_, _], _ => by kernel_rfl
/-! is_ask('building', 'value') -/
def N_is_ask : List Str := ["building", "value"]
def c_is_ask : Cc := ⟨N_is_ask, [("check_building", .fn sg_check_building), ("is_ask_of", .fn sg_is_ask_of)], [], false, false⟩
def b_is_ask : Sms := (.cons (.ex (.call sg_check_building (.cons (.var 0) .nil))) (.cons (.ret (.call sg_is_ask_of (.cons (.var 0) (.cons (.var 1) .nil)))) .nil))
def sg_is_ask : Sig := ⟨false, runD 100 2 2 b_is_ask⟩
theorem cc_is_ask : cSs 60 (c_is_ask) (defScope (top 37)) false (defBody (top 37)) = some (b_is_ask) := by kernel_rfl
theorem sc_is_ask : FnScope N_is_ask ["building", "value"] (defScope (top 37)) := ⟨rfl, rfl, rfl, by decide +kernel, rfl, by decide +kernel, by decide +kernel⟩
theorem bd_is_ask : BindAll "is_ask" (top 37) ["building", "value"] := fun _ _ _ _ _ _ us hl => match us, hl with | [_, _], _ => by kernel_rfl
/-! check_ask('building', 'value') -/
def N_check_ask : List Str := ["building", "value"]
def c_check_ask : Cc := ⟨N_check_ask, [("BadAsk", .cls), ("is_ask_of", .fn sg_is_ask_of)], [], false, false⟩
def b_check_ask : Sms := (.cons (.ifs (.not (.call sg_is_ask_of (.cons (.var 0) (.cons (.var 1) .nil)))) (.cons (.raise "BadAsk" (.var 1)) .nil) .nil) .nil)
def sg_check_ask : Sig := ⟨false, runD 100 2 2 b_check_ask⟩
theorem cc_check_ask : cSs 60 (c_check_ask) (defScope (top 38)) false (defBody (top 38)) = some (b_check_ask) := by kernel_rfl
theorem sc_check_ask : FnScope N_check_ask ["building", "value"] (defScope (top 38)) := ⟨rfl, rfl, rfl, by decide +kernel, rfl, by decide +kernel, by decide +kernel⟩
theorem bd_check_ask : BindAll "check_ask" (top 38) ["building", "value"] := fun _ _ _ _ _ _ us hl => match us, hl with | [_, _], _ => by kernel_rfl
/-! text_of('ask', 'words', 'part') -/
def N_text_of : List Str := ["ask", "words", "part"]
def c_text_of (sg : Sig) : Cc := ⟨N_text_of, [("BLANK", .cst (.str " ")), ("text_of", .fn sg)], [], false, false⟩
def b_text_of (sg : Sig) : Sms := (.cons (.set 1 (.lst (.cons (.idx (.var 0) (.cst (.int 0))) .nil))) (.cons (.for_ (.nm 2) (.val (.slc (.var 0) (.so (.cst (.int 1))) .no)) (.cons (.ex (.app 1 (.ite (.prim .isTup (.cons (.var 2) .nil)) (.call sg (.cons (.var 2) .nil)) (.prim .toStr (.cons (.var 2) .nil))))) .nil)) (.cons (.ret (.mth .join (.cst (.str " ")) (.var 1))) .nil)))
def sg_text_of : Nat → Sig
  | 0 => ⟨false, fun _ => .bad⟩
  | n + 1 => ⟨false, runD 100 3 1 (b_text_of (sg_text_of n))⟩
theorem cc_text_of (sg : Sig) : cSs 60 (c_text_of sg) (defScope (top 44)) false (defBody (top 44)) = some (b_text_of sg) := by kernel_rfl
theorem sc_text_of : FnScope N_text_of ["ask"] (defScope (top 44)) := ⟨rfl, rfl, rfl, by decide +kernel, rfl, by decide +kernel, by decide +kernel⟩
theorem bd_text_of : BindAll "text_of" (top 44) ["ask"] := fun _ _ _ _ _ _ us hl => match us, hl with | [_], _ => by kernel_rfl
/-! ask_text('building', 'ask') -/
def N_ask_text : List Str := ["building", "ask"]
def c_ask_text : Cc := ⟨N_ask_text, [("check_ask", .fn sg_check_ask), ("check_building", .fn sg_check_building), ("text_of", .fn (sg_text_of 40))], [], false, false⟩
def b_ask_text : Sms := (.cons (.ex (.call sg_check_building (.cons (.var 0) .nil))) (.cons (.ex (.call sg_check_ask (.cons (.var 0) (.cons (.var 1) .nil)))) (.cons (.ret (.call (sg_text_of 40) (.cons (.var 1) .nil))) .nil)))
def sg_ask_text : Sig := ⟨false, runD 100 2 2 b_ask_text⟩
theorem cc_ask_text : cSs 60 (c_ask_text) (defScope (top 45)) false (defBody (top 45)) = some (b_ask_text) := by kernel_rfl
theorem sc_ask_text : FnScope N_ask_text ["building", "ask"] (defScope (top 45)) := ⟨rfl, rfl, rfl, by decide +kernel, rfl, by decide +kernel, by decide +kernel⟩
theorem bd_ask_text : BindAll "ask_text" (top 45) ["building", "ask"] := fun _ _ _ _ _ _ us hl => match us, hl with | [_, _], _ => by kernel_rfl
/-! number_of('word', 'sign') -/
def N_number_of : List Str := ["word", "sign"]
def c_number_of : Cc := ⟨N_number_of, [("FIGURES", .cst (.str "0123456789")), ("PAIR_written", .cst (.int 2))], [], false, false⟩
def b_number_of : Sms := (.cons (.ifs (.or (.not (.chain .le .le (.cst (.int 1)) (.prim .len (.cons (.var 0) .nil)) (.cst (.int 2)))) (.not (.prim .all (.cons (.comp (.nm 1) (.val (.var 0)) .nil (.cmp .isin (.var 1) (.cst (.str "0123456789"))) [1]) .nil)))) (.cons (.ret (.cst .non)) .nil) .nil) (.cons (.ret (.ite (.cmp .eq (.prim .toStr (.cons (.prim .toInt (.cons (.var 0) .nil)) .nil)) (.var 0)) (.prim .toInt (.cons (.var 0) .nil)) (.cst .non))) .nil))
def sg_number_of : Sig := ⟨false, runD 100 2 1 b_number_of⟩
theorem cc_number_of : cSs 60 (c_number_of) (defScope (top 46)) false (defBody (top 46)) = some (b_number_of) := by kernel_rfl
theorem sc_number_of : FnScope N_number_of ["word"] (defScope (top 46)) := ⟨rfl, rfl, rfl, by decide +kernel, rfl, by decide +kernel, by decide +kernel⟩
theorem bd_number_of : BindAll "number_of" (top 46) ["word"] := fun _ _ _ _ _ _ us hl => match us, hl with | [_], _ => by kernel_rfl
/-! put_together('words', 'found', 'loose', 'word') -/
def N_put_together : List Str := ["words", "found", "loose", "word"]
def c_put_together : Cc := ⟨N_put_together, [("AND", .cst (.str "and")), ("AT", .cst (.str "at")), ("HEADING", .cst (.str "heading")), ("HEADINGS", .cst (.tup [(.str "none"), (.str "up"), (.str "down")])), ("LIT", .cst (.str "lit")), ("LOAD", .cst (.str "load")), ("NOT", .cst (.str "not")), ("OR", .cst (.str "or")), ("PAIR_written", .cst (.int 2)), ("STANDS", .cst (.str "stands")), ("WISHED", .cst (.str "wished")), ("number_of", .fn sg_number_of)], [], false, false⟩
def b_put_together : Sms := (.cons (.par 1 2 (.lst .nil) (.lst .nil)) (.cons (.for_ (.nm 3) (.val (.rev (.var 0))) (.cons (.ifs (.and (.cmp .isin (.var 3) (.tup (.cons (.cst (.str "lit")) (.cons (.cst (.str "stands")) (.cons (.cst (.str "wished")) .nil))))) (.cmp .eq (.prim .len (.cons (.var 2) .nil)) (.cst (.int 1)))) (.cons (.ex (.app 1 (.tup (.cons (.var 3) (.cons (.call sg_number_of (.cons (.pop 2) .nil)) .nil))))) .nil) (.cons (.ifs (.and (.cmp .isin (.var 3) (.tup (.cons (.cst (.str "at")) (.cons (.cst (.str "load")) .nil)))) (.cmp .eq (.prim .len (.cons (.var 2) .nil)) (.cst (.int 2)))) (.cons (.ex (.app 1 (.tup (.cons (.var 3) (.cons (.call sg_number_of (.cons (.pop 2) .nil)) (.cons (.call sg_number_of (.cons (.pop 2) .nil)) .nil)))))) .nil) (.cons (.ifs (.and (.cmp .eq (.var 3) (.cst (.str "heading"))) (.cmp .eq (.prim .len (.cons (.var 2) .nil)) (.cst (.int 2)))) (.cons (.ex (.app 1 (.tup (.cons (.var 3) (.cons (.call sg_number_of (.cons (.pop 2) .nil)) (.cons (.pop 2) .nil)))))) .nil) (.cons (.ifs (.and (.cmp .eq (.var 3) (.cst (.str "not"))) (.and (.cmp .eq (.var 2) (.lst .nil)) (.cmp .ne (.var 1) (.lst .nil)))) (.cons (.ex (.app 1 (.tup (.cons (.var 3) (.cons (.pop 1) .nil))))) .nil) (.cons (.ifs (.and (.cmp .isin (.var 3) (.tup (.cons (.cst (.str "and")) (.cons (.cst (.str "or")) .nil)))) (.and (.cmp .eq (.var 2) (.lst .nil)) (.cmp .ge (.prim .len (.cons (.var 1) .nil)) (.cst (.int 2))))) (.cons (.ex (.app 1 (.tup (.cons (.var 3) (.cons (.pop 1) (.cons (.pop 1) .nil)))))) .nil) (.cons (.ifs (.or (.cmp .isnot (.call sg_number_of (.cons (.var 3) .nil)) (.cst .non)) (.cmp .isin (.var 3) (.cst (.tup [(.str "none"), (.str "up"), (.str "down")])))) (.cons (.ex (.app 2 (.var 3))) .nil) (.cons (.ret (.cst .non)) .nil)) .nil)) .nil)) .nil)) .nil)) .nil)) .nil)) (.cons (.ret (.ite (.cmp .eq (.var 2) (.lst .nil)) (.var 1) (.cst .non))) .nil)))
def sg_put_together : Sig := ⟨false, runD 100 4 1 b_put_together⟩
theorem cc_put_together : cSs 60 (c_put_together) (defScope (top 47)) false (defBody (top 47)) = some (b_put_together) := by kernel_rfl
theorem sc_put_together : FnScope N_put_together ["words"] (defScope (top 47)) := ⟨rfl, rfl, rfl, by decide +kernel, rfl, by decide +kernel, by decide +kernel⟩
theorem bd_put_together : BindAll "put_together" (top 47) ["words"] := fun _ _ _ _ _ _ us hl => match us, hl with | [_], _ => by kernel_rfl
/-! read_ask('building', 'text', 'found') -/
def N_read_ask : List Str := ["building", "text", "found"]
def c_read_ask : Cc := ⟨N_read_ask, [("BLANK", .cst (.str " ")), ("MOST_TEXT", .cst (.int 1000)), ("NoText", .cls), ("check_building", .fn sg_check_building), ("is_ask_of", .fn sg_is_ask_of), ("put_together", .fn sg_put_together), ("text_of", .fn (sg_text_of 40))], [], false, false⟩
def b_read_ask : Sms := (.cons (.ex (.call sg_check_building (.cons (.var 0) .nil))) (.cons (.ifs (.or (.not (.prim .isStr (.cons (.var 1) .nil))) (.cmp .gt (.prim .len (.cons (.var 1) .nil)) (.cst (.int 1000)))) (.cons (.raise "NoText" (.var 1)) .nil) .nil) (.cons (.set 2 (.call sg_put_together (.cons (.mth .split (.var 1) (.cst (.str " "))) .nil))) (.cons (.ifs (.or (.cmp .is_ (.var 2) (.cst .non)) (.or (.cmp .ne (.prim .len (.cons (.var 2) .nil)) (.cst (.int 1))) (.or (.not (.call sg_is_ask_of (.cons (.var 0) (.cons (.idx (.var 2) (.cst (.int 0))) .nil)))) (.cmp .ne (.call (sg_text_of 40) (.cons (.idx (.var 2) (.cst (.int 0))) .nil)) (.var 1))))) (.cons (.raise "NoText" (.var 1)) .nil) .nil) (.cons (.ret (.idx (.var 2) (.cst (.int 0)))) .nil)))))
def sg_read_ask : Sig := ⟨false, runD 100 3 2 b_read_ask⟩
theorem cc_read_ask : cSs 60 (c_read_ask) (defScope (top 48)) false (defBody (top 48)) = some (b_read_ask) := by kernel_rfl
theorem sc_read_ask : FnScope N_read_ask ["building", "text"] (defScope (top 48)) := ⟨rfl, rfl, rfl, by decide +kernel, rfl, by decide +kernel, by decide +kernel⟩
theorem bd_read_ask : BindAll "read_ask" (top 48) ["building", "text"] := fun _ _ _ _ _ _ us hl => match us, hl with | [_, _], _ => by kernel_rfl
/-! _law_pot('script', 'place', 'cell', 'own', 'small') -/
def N_law_pot : List Str := ["script", "place", "cell", "own", "small"]
def c_law_pot : Cc := ⟨N_law_pot, [], [], false, false⟩
def b_law_pot : Sms := (.cons (.set 2 (.ite (.cmp .lt (.var 1) (.prim .len (.cons (.var 0) .nil))) (.idx (.var 0) (.var 1)) (.bin .add (.bin .add (.bin .mod (.prim .sum (.cons (.slc (.var 0) .no (.so (.cst (.int 1)))) .nil)) (.cst (.int 1000003))) (.bin .mul (.cst (.int 8971)) (.var 1))) (.cst (.int 431))))) (.cons (.set 3 (.bin .mul (.bin .mod (.prim .toInt (.cons (.prim .abs (.cons (.var 2) .nil)) .nil)) (.bin .pow (.bin .pow (.cst (.int 10)) (.cst (.int 60))) (.cst (.int 5)))) (.prim .toInt (.cons (.cmp .ge (.prim .abs (.cons (.var 2) .nil)) (.bin .pow (.cst (.int 10)) (.cst (.int 18)))) .nil)))) (.cons (.set 4 (.bin .mod (.prim .toInt (.cons (.var 2) .nil)) (.cst (.int 2305843009213693951)))) (.cons (.retF (.lst (.cons (.var 3) (.cons (.bin .mod (.prim .toInt (.cons (.bin .add (.bin .add (.bin .mul (.var 4) (.cst (.int 97169))) (.bin .mul (.bin .mul (.cst (.int 13709)) (.var 1)) (.var 1))) (.cst (.int 838))) .nil)) (.cst (.int 2305843009213693921))) (.cons (.cst (.int 0)) .nil))))) .nil))))
def sg_law_pot : Sig := ⟨true, runD 100 5 2 b_law_pot⟩
theorem cc_law_pot : cSs 60 (c_law_pot) (defScope (top 50)) true (defBody (top 50)) = some (b_law_pot) := by kernel_rfl
theorem sc_law_pot : FnScope N_law_pot ["script", "place"] (defScope (top 50)) := ⟨rfl, rfl, rfl, by decide +kernel, rfl, by decide +kernel, by decide +kernel⟩
theorem bd_law_pot : BindAll "_law_pot" (top 50) ["script", "place"] := fun _ _ _ _ _ _ us hl => match us, hl with | [_, _], _ => by kernel_rfl
/-! _law_take('pot', 'upto', 'digit', 'prime', 'blend') -/
def N_law_take : List Str := ["pot", "upto", "digit", "prime", "blend"]
def c_law_take : Cc := ⟨N_law_take, [], [], false, false⟩
def b_law_take : Sms := (.cons (.ifs (.cmp .gt (.idx (.var 0) (.cst (.int 0))) (.cst (.int 0))) (.cons (.set 2 (.bin .mod (.prim .toInt (.cons (.idx (.var 0) (.cst (.int 0))) .nil)) (.var 1))) (.cons (.asg (.sub 0 (.cst (.int 0))) (.bin .fdiv (.idx (.var 0) (.cst (.int 0))) (.var 1))) (.cons (.ret (.var 2)) .nil))) .nil) (.cons (.asg (.sub 0 (.cst (.int 2))) (.bin .add (.idx (.var 0) (.cst (.int 2))) (.cst (.int 1)))) (.cons (.set 3 (.idx (.lst (.cons (.cst (.int 2147483647)) (.cons (.cst (.int 2147483629)) (.cons (.cst (.int 2147483587)) (.cons (.cst (.int 2147483579)) (.cons (.cst (.int 2147483563)) .nil)))))) (.bin .mod (.prim .toInt (.cons (.idx (.var 0) (.cst (.int 2))) .nil)) (.cst (.int 5))))) (.cons (.set 4 (.bin .mod (.prim .toInt (.cons (.bin .pow (.prim .toInt (.cons (.bin .add (.bin .add (.idx (.var 0) (.cst (.int 1))) (.bin .mul (.bin .mul (.cst (.int 94111)) (.idx (.var 0) (.cst (.int 2)))) (.idx (.var 0) (.cst (.int 2))))) (.cst (.int 638))) .nil)) (.cst (.int 3))) .nil)) (.var 3))) (.cons (.set 4 (.bin .mod (.prim .toInt (.cons (.bin .mul (.var 4) (.bin .add (.bin .mod (.prim .toInt (.cons (.var 4) .nil)) (.cst (.int 10259))) (.bin .mul (.cst (.int 122)) (.idx (.var 0) (.cst (.int 2)))))) .nil)) (.cst (.int 2305843009213693907)))) (.cons (.ret (.bin .mod (.prim .toInt (.cons (.bin .fdiv (.var 4) (.cst (.int 152))) .nil)) (.var 1))) .nil))))))
def sg_law_take : SigP := ⟨runP 100 5 2 b_law_take⟩
theorem cc_law_take : cSs 60 (c_law_take) (defScope (top 51)) false (defBody (top 51)) = some (b_law_take) := by kernel_rfl
theorem sc_law_take : FnScope N_law_take ["pot", "upto"] (defScope (top 51)) := ⟨rfl, rfl, rfl, by decide +kernel, rfl, by decide +kernel, by decide +kernel⟩
theorem bd_law_take : BindAll "_law_take" (top 51) ["pot", "upto"] := fun _ _ _ _ _ _ us hl => match us, hl with | [_, _], _ => by kernel_rfl
/-! _law_of('pot', 'some') -/
def N_law_of : List Str := ["pot", "some"]
def c_law_of : Cc := ⟨N_law_of, [("_law_take", .fnP sg_law_take)], [], false, false⟩
def b_law_of : Sms := (.cons (.ret (.idx (.var 1) (.callP sg_law_take 0 (.cons (.prim .len (.cons (.var 1) .nil)) .nil)))) .nil)
def sg_law_of : SigP := ⟨runP 100 2 2 b_law_of⟩
theorem cc_law_of : cSs 60 (c_law_of) (defScope (top 52)) false (defBody (top 52)) = some (b_law_of) := by kernel_rfl
theorem sc_law_of : FnScope N_law_of ["pot", "some"] (defScope (top 52)) := ⟨rfl, rfl, rfl, by decide +kernel, rfl, by decide +kernel, by decide +kernel⟩
theorem bd_law_of : BindAll "_law_of" (top 52) ["pot", "some"] := fun _ _ _ _ _ _ us hl => match us, hl with | [_, _], _ => by kernel_rfl
/-! _law_places('script', 'most') -/
def N_law_places : List Str := ["script", "most"]
def c_law_places : Cc := ⟨N_law_places, [], [], false, false⟩
def b_law_places : Sms := (.cons (.ret (.prim .listRange (.cons (.prim .max2 (.cons (.cst (.int 1)) (.cons (.prim .min2 (.cons (.var 1) (.cons (.prim .len (.cons (.var 0) .nil)) .nil))) .nil))) .nil))) .nil)
def sg_law_places : Sig := ⟨false, runD 100 2 2 b_law_places⟩
theorem cc_law_places : cSs 60 (c_law_places) (defScope (top 53)) false (defBody (top 53)) = some (b_law_places) := by kernel_rfl
theorem sc_law_places : FnScope N_law_places ["script", "most"] (defScope (top 53)) := ⟨rfl, rfl, rfl, by decide +kernel, rfl, by decide +kernel, by decide +kernel⟩
theorem bd_law_places : BindAll "_law_places" (top 53) ["script", "most"] := fun _ _ _ _ _ _ us hl => match us, hl with | [_, _], _ => by kernel_rfl
/-! _law_a_ask('pot', 'building', 'deep', 'way', 'floor', 'car', 'kind') -/
def N_law_a_ask : List Str := ["pot", "building", "deep", "way", "floor", "car", "kind"]
def c_law_a_ask (sg : SigP) : Cc := ⟨N_law_a_ask, [("_law_a_ask", .fnP sg), ("_law_of", .fnP sg_law_of), ("_law_take", .fnP sg_law_take)], [], false, false⟩
def b_law_a_ask (sg : SigP) : Sms := (.cons (.set 3 (.ite (.cmp .gt (.var 2) (.cst (.int 0))) (.callP sg_law_take 0 (.cons (.cst (.int 5)) .nil)) (.cst (.int 0)))) (.cons (.ifs (.cmp .eq (.var 3) (.cst (.int 1))) (.cons (.ret (.tup (.cons (.cst (.str "not")) (.cons (.callP sg 0 (.cons (.var 1) (.cons (.bin .sub (.var 2) (.cst (.int 1))) .nil))) .nil)))) .nil) .nil) (.cons (.ifs (.cmp .gt (.var 3) (.cst (.int 2))) (.cons (.ret (.tup (.cons (.idx (.lst (.cons (.cst (.str "and")) (.cons (.cst (.str "or")) .nil))) (.bin .sub (.var 3) (.cst (.int 3)))) (.cons (.callP sg 0 (.cons (.var 1) (.cons (.bin .sub (.var 2) (.cst (.int 1))) .nil))) (.cons (.callP sg 0 (.cons (.var 1) (.cons (.bin .sub (.var 2) (.cst (.int 1))) .nil))) .nil))))) .nil) .nil) (.cons (.par 4 5 (.prim .toInt (.cons (.callP sg_law_take 0 (.cons (.idx (.var 1) (.cst (.int 0))) .nil)) .nil)) (.prim .toInt (.cons (.callP sg_law_take 0 (.cons (.idx (.var 1) (.cst (.int 1))) .nil)) .nil))) (.cons (.set 6 (.callP sg_law_take 0 (.cons (.cst (.int 6)) .nil))) (.cons (.ifs (.cmp .lt (.var 6) (.cst (.int 3))) (.cons (.ret (.tup (.cons (.idx (.lst (.cons (.cst (.str "lit")) (.cons (.cst (.str "stands")) (.cons (.cst (.str "wished")) .nil)))) (.var 6)) (.cons (.var 4) .nil)))) .nil) .nil) (.cons (.ifs (.cmp .eq (.var 6) (.cst (.int 3))) (.cons (.ret (.tup (.cons (.cst (.str "at")) (.cons (.var 5) (.cons (.var 4) .nil))))) .nil) .nil) (.cons (.ifs (.cmp .eq (.var 6) (.cst (.int 4))) (.cons (.ret (.tup (.cons (.cst (.str "heading")) (.cons (.var 5) (.cons (.callP sg_law_of 0 (.cons (.lst (.cons (.cst (.str "none")) (.cons (.cst (.str "up")) (.cons (.cst (.str "down")) .nil)))) .nil)) .nil))))) .nil) .nil) (.cons (.ret (.tup (.cons (.cst (.str "load")) (.cons (.var 5) (.cons (.prim .toInt (.cons (.bin .add (.cst (.int 1)) (.callP sg_law_take 0 (.cons (.idx (.var 1) (.cst (.int 2))) .nil))) .nil)) .nil))))) .nil)))))))))
def sg_law_a_ask : Nat → SigP
  | 0 => ⟨fun _ _ => .bad⟩
  | n + 1 => ⟨runP 100 7 3 (b_law_a_ask (sg_law_a_ask n))⟩
theorem cc_law_a_ask (sg : SigP) : cSs 60 (c_law_a_ask sg) (defScope (top 55)) false (defBody (top 55)) = some (b_law_a_ask sg) := by kernel_rfl
theorem sc_law_a_ask : FnScope N_law_a_ask ["pot", "building", "deep"] (defScope (top 55)) := ⟨rfl, rfl, rfl, by decide +kernel, rfl, by decide +kernel, by decide +kernel⟩
theorem bd_law_a_ask : BindAll "_law_a_ask" (top 55) ["pot", "building", "deep"] := fun _ _ _ _ _ _ us hl => match us, hl with | [_, _, _], _ => by kernel_rfl
/-! _law_words('ask', 'found', 'part') -/
def N_law_words : List Str := ["ask", "found", "part"]
def c_law_words (sg : Sig) : Cc := ⟨N_law_words, [("_law_words", .fn sg)], [], false, false⟩
def b_law_words (sg : Sig) : Sms := (.cons (.set 1 (.lst (.cons (.idx (.var 0) (.cst (.int 0))) .nil))) (.cons (.for_ (.nm 2) (.val (.slc (.var 0) (.so (.cst (.int 1))) .no)) (.cons (.ex (.ext 1 (.ite (.prim .isTup (.cons (.var 2) .nil)) (.call sg (.cons (.var 2) .nil)) (.lst (.cons (.prim .toStr (.cons (.var 2) .nil)) .nil))))) .nil)) (.cons (.ret (.var 1)) .nil)))
def sg_law_words : Nat → Sig
  | 0 => ⟨false, fun _ => .bad⟩
  | n + 1 => ⟨false, runD 100 3 1 (b_law_words (sg_law_words n))⟩
theorem cc_law_words (sg : Sig) : cSs 60 (c_law_words sg) (defScope (top 56)) false (defBody (top 56)) = some (b_law_words sg) := by kernel_rfl
theorem sc_law_words : FnScope N_law_words ["ask"] (defScope (top 56)) := ⟨rfl, rfl, rfl, by decide +kernel, rfl, by decide +kernel, by decide +kernel⟩
theorem bd_law_words : BindAll "_law_words" (top 56) ["ask"] := fun _ _ _ _ _ _ us hl => match us, hl with | [_], _ => by kernel_rfl
/-! _law_otherwise('pot', 'text', 'words', 'way', 'at', 'to', 'new', 'place') -/
def N_law_otherwise : List Str := ["pot", "text", "words", "way", "at", "to", "new", "place"]
def c_law_otherwise : Cc := ⟨N_law_otherwise, [("_law_of", .fnP sg_law_of), ("_law_take", .fnP sg_law_take)], [], false, false⟩
def b_law_otherwise : Sms := (.cons (.par 2 3 (.mth .split (.var 1) (.cst (.str " "))) (.callP sg_law_take 0 (.cons (.cst (.int 6)) .nil))) (.cons (.par 4 5 (.callP sg_law_take 0 (.cons (.prim .len (.cons (.var 2) .nil)) .nil)) (.callP sg_law_take 0 (.cons (.prim .len (.cons (.var 2) .nil)) .nil))) (.cons (.ifs (.cmp .eq (.var 3) (.cst (.int 0))) (.cons (.ret (.mth .join (.cst (.str " ")) (.bin .add (.slc (.var 2) .no (.so (.var 4))) (.slc (.var 2) (.so (.bin .add (.var 4) (.cst (.int 1)))) .no)))) .nil) .nil) (.cons (.ifs (.cmp .eq (.var 3) (.cst (.int 1))) (.cons (.set 6 (.callP sg_law_of 0 (.cons (.lst (.cons (.cst (.str "lit")) (.cons (.cst (.str "not")) (.cons (.cst (.str "and")) (.cons (.cst (.str "0")) (.cons (.cst (.str "1")) (.cons (.cst (.str "up")) (.cons (.cst (.str "at")) (.cons (.cst (.str "")) (.cons (.cst (.str "00")) (.cons (.cst (.str "load")) (.cons (.cst (.str "9")) .nil)))))))))))) .nil))) (.cons (.ret (.mth .join (.cst (.str " ")) (.bin .add (.bin .add (.slc (.var 2) .no (.so (.var 4))) (.lst (.cons (.var 6) .nil))) (.slc (.var 2) (.so (.var 4)) .no)))) .nil)) .nil) (.cons (.ifs (.cmp .eq (.var 3) (.cst (.int 2))) (.cons (.asg (.tup (.cons (.sub 2 (.var 4)) (.cons (.sub 2 (.var 5)) .nil))) (.tup (.cons (.idx (.var 2) (.var 5)) (.cons (.idx (.var 2) (.var 4)) .nil)))) (.cons (.ret (.mth .join (.cst (.str " ")) (.var 2))) .nil)) .nil) (.cons (.set 7 (.callP sg_law_take 0 (.cons (.bin .add (.prim .len (.cons (.var 1) .nil)) (.cst (.int 1))) .nil))) (.cons (.ifs (.cmp .eq (.var 3) (.cst (.int 3))) (.cons (.ret (.bin .add (.slc (.var 1) .no (.so (.var 7))) (.slc (.var 1) (.so (.bin .add (.var 7) (.cst (.int 1)))) .no))) .nil) .nil) (.cons (.ret (.bin .add (.bin .add (.slc (.var 1) .no (.so (.var 7))) (.callP sg_law_of 0 (.cons (.cst (.str "01 lnaotud-")) .nil))) (.slc (.var 1) (.so (.bin .sub (.bin .add (.var 7) (.var 3)) (.cst (.int 4)))) .no))) .nil))))))))
def sg_law_otherwise : SigP := ⟨runP 100 8 2 b_law_otherwise⟩
theorem cc_law_otherwise : cSs 60 (c_law_otherwise) (defScope (top 57)) false (defBody (top 57)) = some (b_law_otherwise) := by kernel_rfl
theorem sc_law_otherwise : FnScope N_law_otherwise ["pot", "text"] (defScope (top 57)) := ⟨rfl, rfl, rfl, by decide +kernel, rfl, by decide +kernel, by decide +kernel⟩
theorem bd_law_otherwise : BindAll "_law_otherwise" (top 57) ["pot", "text"] := fun _ _ _ _ _ _ us hl => match us, hl with | [_, _], _ => by kernel_rfl
/-! _law_right('pot', 'building', 'ask', 'text', 'lap', 'other', 'caught', 'told') -/
def N_law_right : List Str := ["pot", "building", "ask", "text", "lap", "other", "caught", "told"]
def c_law_right : Cc := ⟨N_law_right, [("NoText", .cls), ("_law_a_ask", .fnP (sg_law_a_ask 4)), ("_law_heard", .heard), ("_law_otherwise", .fnP sg_law_otherwise), ("_law_take", .fnP sg_law_take), ("_law_words", .fn (sg_law_words 40)), ("ask_text", .fn sg_ask_text), ("is_ask", .fn sg_is_ask), ("read_ask", .fn sg_read_ask)], [("read_ask", .fn sg_read_ask), ("ask_text", .fn sg_ask_text)], true, true⟩
def b_law_right : Sms := (.cons (.set 1 (.tup (.cons (.prim .toInt (.cons (.bin .add (.cst (.int 2)) (.callP sg_law_take 0 (.cons (.cst (.int 4)) .nil))) .nil)) (.cons (.prim .toInt (.cons (.bin .add (.cst (.int 1)) (.callP sg_law_take 0 (.cons (.cst (.int 3)) .nil))) .nil)) (.cons (.prim .toInt (.cons (.bin .add (.cst (.int 1)) (.callP sg_law_take 0 (.cons (.cst (.int 3)) .nil))) .nil)) (.cons (.tup (.cons (.tup (.cons (.cst (.int 0)) (.cons (.cst (.int 1)) .nil))) .nil)) .nil)))))) (.cons (.set 2 (.callP (sg_law_a_ask 4) 0 (.cons (.var 1) (.cons (.cst (.int 3)) .nil)))) (.cons (.ifs (.cmp .isnot (.call sg_is_ask (.cons (.var 1) (.cons (.var 2) .nil))) (.cst (.bl true))) (.cons (.ret (.cst (.bl true))) .nil) .nil) (.cons (.set 3 (.mth .join (.cst (.str " ")) (.call (sg_law_words 40) (.cons (.var 2) .nil)))) (.cons (.ifs (.or (.cmp .ne (.prim .repr (.cons (.call sg_ask_text (.cons (.var 1) (.cons (.var 2) .nil))) .nil)) (.prim .repr (.cons (.var 3) .nil))) (.cmp .ne (.prim .repr (.cons (.call sg_read_ask (.cons (.var 1) (.cons (.var 3) .nil))) .nil)) (.prim .repr (.cons (.var 2) .nil)))) (.cons (.ret (.cst (.bl false))) .nil) .nil) (.cons (.for_ (.nm 4) (.rng1 (.cst (.int 10))) (.cons (.set 5 (.callP sg_law_otherwise 0 (.cons (.var 3) .nil))) (.cons (.asg (.tup (.cons (.nm 6) (.cons (.nm 7) .nil))) (.heard (.call sg_read_ask (.cons (.var 1) (.cons (.var 5) .nil))))) (.cons (.ifs (.and (.cmp .isnot (.var 6) (.cst .non)) (.or (.not (.prim (.isExn "NoText") (.cons (.var 6) .nil))) (.cmp .ne (.prim .repr (.cons (.fld (.var 6)) .nil)) (.prim .repr (.cons (.var 5) .nil))))) (.cons (.ret (.cst (.bl false))) .nil) .nil) (.cons (.ifs (.and (.cmp .isnot (.var 6) (.cst .non)) (.cmp .eq (.var 5) (.var 3))) (.cons (.ret (.cst (.bl false))) .nil) .nil) (.cons (.ifs (.and (.cmp .is_ (.var 6) (.cst .non)) (.or (.cmp .isnot (.call sg_is_ask (.cons (.var 1) (.cons (.var 7) .nil))) (.cst (.bl true))) (.cmp .ne (.mth .join (.cst (.str " ")) (.call (sg_law_words 40) (.cons (.var 7) .nil))) (.var 5)))) (.cons (.ret (.cst (.bl false))) .nil) .nil) .nil)))))) (.cons (.ret (.cst (.bl true))) .nil)))))))
def sg_law_right : SigP := ⟨runP 100 8 1 b_law_right⟩
theorem cc_law_right : cSs 60 (c_law_right) (defScope (top 58)) false (defBody (top 58)) = some (b_law_right) := by kernel_rfl
theorem sc_law_right : FnScope N_law_right ["pot"] (defScope (top 58)) := ⟨rfl, rfl, rfl, by decide +kernel, rfl, by decide +kernel, by decide +kernel⟩
theorem bd_law_right : BindAll "_law_right" (top 58) ["pot"] := fun _ _ _ _ _ _ us hl => match us, hl with | [_], _ => by kernel_rfl
/-! law('script', 'house', 'some', 'value', 'caught', 'told', 'other', 'text', 'place', 'pot', 'lap') -/
def N_law : List Str := ["script", "house", "some", "value", "caught", "told", "other", "text", "place", "pot", "lap"]
def c_law : Cc := ⟨N_law, [("BadAsk", .cls), ("BadBuilding", .cls), ("NoText", .cls), ("_law_heard", .heard), ("_law_places", .fn sg_law_places), ("_law_pot", .fn sg_law_pot), ("_law_right", .fnP sg_law_right), ("ask_text", .fn sg_ask_text), ("read_ask", .fn sg_read_ask)], [("read_ask", .fn sg_read_ask), ("ask_text", .fn sg_ask_text)], true, true⟩
def b_law : Sms := (.cons (.set 1 (.tup (.cons (.cst (.int 3)) (.cons (.cst (.int 1)) (.cons (.cst (.int 2)) (.cons (.tup (.cons (.tup (.cons (.cst (.int 0)) (.cons (.cst (.int 1)) .nil))) .nil)) .nil)))))) (.cons (.set 2 (.lst (.cons (.cst .non) (.cons (.cst (.int 3)) (.cons (.cst (.str "")) (.cons (.cst (.str " ")) (.cons (.cst (.str "lit")) (.cons (.cst (.str "lit 3")) (.cons (.cst (.str "lit 00")) (.cons (.cst (.str "lit  0")) (.cons (.cst (.str "lit 0 ")) (.cons (.cst (.str "load 0 3")) (.cons (.cst (.str "at 1 0")) (.cons (.cst (.str "not")) (.cons (.cst (.str "and lit 0")) .nil))))))))))))))) (.cons (.for_ (.nm 3) (.val (.var 2)) (.cons (.asg (.tup (.cons (.nm 4) (.cons (.nm 5) .nil))) (.heard (.call sg_read_ask (.cons (.var 1) (.cons (.var 3) .nil))))) (.cons (.ifs (.or (.not (.prim (.isExn "NoText") (.cons (.var 4) .nil))) (.cmp .ne (.prim .repr (.cons (.fld (.var 4)) .nil)) (.prim .repr (.cons (.var 3) .nil)))) (.cons (.ret (.cst (.bl false))) .nil) .nil) .nil))) (.cons (.for_ (.nm 3) (.val (.tup (.cons (.cst .non) (.cons (.tup .nil) (.cons (.tup (.cons (.cst (.int 3)) (.cons (.cst (.int 1)) (.cons (.cst (.int 2)) (.cons (.tup .nil) .nil))))) .nil))))) (.cons (.asg (.tup (.cons (.nm 4) (.cons (.nm 5) .nil))) (.heard (.call sg_read_ask (.cons (.var 3) (.cons (.cst .non) .nil))))) (.cons (.asg (.tup (.cons (.nm 6) (.cons (.nm 5) .nil))) (.heard (.call sg_ask_text (.cons (.var 3) (.cons (.cst .non) .nil))))) (.cons (.ifs (.or (.not (.prim (.isExn "BadBuilding") (.cons (.var 4) .nil))) (.not (.prim (.isExn "BadBuilding") (.cons (.var 6) .nil)))) (.cons (.ret (.cst (.bl false))) .nil) .nil) .nil)))) (.cons (.asg (.tup (.cons (.nm 4) (.cons (.nm 5) .nil))) (.heard (.call sg_ask_text (.cons (.var 1) (.cons (.tup (.cons (.cst (.str "lit")) (.cons (.cst (.int 3)) .nil))) .nil))))) (.cons (.ifs (.or (.not (.prim (.isExn "BadAsk") (.cons (.var 4) .nil))) (.cmp .ne (.prim .repr (.cons (.fld (.var 4)) .nil)) (.prim .repr (.cons (.tup (.cons (.cst (.str "lit")) (.cons (.cst (.int 3)) .nil))) .nil)))) (.cons (.ret (.cst (.bl false))) .nil) .nil) (.cons (.for_ (.nm 7) (.val (.tup (.cons (.cst (.str "heading 0 up")) (.cons (.cst (.str "or stands 1 and wished 2 load 0 2")) (.cons (.cst (.str "not not at 0 2")) .nil))))) (.cons (.ifs (.cmp .ne (.call sg_ask_text (.cons (.var 1) (.cons (.call sg_read_ask (.cons (.var 1) (.cons (.var 7) .nil))) .nil))) (.var 7)) (.cons (.ret (.cst (.bl false))) .nil) .nil) .nil)) (.cons (.for_ (.nm 8) (.val (.call sg_law_places (.cons (.var 0) (.cons (.cst (.int 3)) .nil)))) (.cons (.set 9 (.call sg_law_pot (.cons (.var 0) (.cons (.var 8) .nil)))) (.cons (.ifs (.not (.prim .all (.cons (.comp (.nm 10) (.rng1 (.cst (.int 8))) .nil (.callP sg_law_right 9 .nil) [10]) .nil))) (.cons (.ret (.cst (.bl false))) .nil) .nil) .nil))) (.cons (.ret (.cst (.bl true))) .nil)))))))))
def sg_law : Sig := ⟨false, runD 100 11 1 b_law⟩
theorem cc_law : cSs 60 (c_law) (defScope (top 59)) false (defBody (top 59)) = some (b_law) := by kernel_rfl
theorem sc_law : FnScope N_law ["script"] (defScope (top 59)) := ⟨rfl, rfl, rfl, by decide +kernel, rfl, by decide +kernel, by decide +kernel⟩
theorem bd_law : BindAll "law" (top 59) ["script"] := fun _ _ _ _ _ _ us hl => match us, hl with | [_], _ => by kernel_rfl
end K82

set_option Elab.async false
set_option linter.all false
set_option maxRecDepth 100000
set_option maxHeartbeats 0
namespace K82
open PySem PySem.Spec PyProof.Rows L2 EvO
theorem run (w : World) : HandSHeadRun.RunEq R (PySem.W.view R.prog [59]) hk ob 4000 loose w := by
  intro os
  kernel_rfl
end K82

set_option Elab.async false
set_option linter.all false
set_option maxRecDepth 100000
set_option maxHeartbeats 0
namespace K82
open PySem PySem.Spec PyProof.Rows L2 EvO
section
variable {S : Cfg} {w : World} {h : Heap} (KX : S.K.In h) (G : h.Ns mainGlobals S.mg) (c : He.SaysX fa fn [] tf ex w h S.K) (A : ClsAll S cls (He.ga S.K "LiftError")) (hA : S.cA = He.ga S.K) (hT : S.T = lams.map fun x => (He.tabOf S.K (He.codeOf S.K (x, none)), lamName x)) (TB : ∀ p ∈ tf.map (He.cT S.K), LamX.TabB S.base S.mg p.1 p.2)
include KX G c A hA hT TB
theorem bi_all : ∀ x ∈ biNames, S.mg x = none := by
  intro x hx
  simp only [biNames, List.mem_cons, List.not_mem_nil, or_false] at hx
  rcases hx with rfl | rfl | rfl | rfl | rfl | rfl | rfl | rfl | rfl | rfl | rfl | rfl | rfl | rfl | rfl | rfl
  · exact He.free_ok KX G (c.t.d.fact 54 (f := .free "isinstance") rfl)
  · exact He.free_ok KX G (c.t.d.fact 55 (f := .free "len") rfl)
  · exact He.free_ok KX G (c.t.d.fact 56 (f := .free "int") rfl)
  · exact He.free_ok KX G (c.t.d.fact 57 (f := .free "str") rfl)
  · exact He.free_ok KX G (c.t.d.fact 58 (f := .free "abs") rfl)
  · exact He.free_ok KX G (c.t.d.fact 59 (f := .free "sum") rfl)
  · exact He.free_ok KX G (c.t.d.fact 60 (f := .free "all") rfl)
  · exact He.free_ok KX G (c.t.d.fact 61 (f := .free "any") rfl)
  · exact He.free_ok KX G (c.t.d.fact 62 (f := .free "min") rfl)
  · exact He.free_ok KX G (c.t.d.fact 63 (f := .free "max") rfl)
  · exact He.free_ok KX G (c.t.d.fact 64 (f := .free "list") rfl)
  · exact He.free_ok KX G (c.t.d.fact 65 (f := .free "tuple") rfl)
  · exact He.free_ok KX G (c.t.d.fact 66 (f := .free "repr") rfl)
  · exact He.free_ok KX G (c.t.d.fact 67 (f := .free "range") rfl)
  · exact He.free_ok KX G (c.t.d.fact 68 (f := .free "zip") rfl)
  · exact He.free_ok KX G (c.t.d.fact 69 (f := .free "bool") rfl)
theorem ex_all : (((clsB S.K (cls.map (He.ga S.K)) (He.ga S.K "LiftError") (He.fAd S.K ("LiftError", some "__init__")) && clsN S.K cls && tabsNe S.K lams) && denB S.K (.ref (He.ga S.K "HEADINGS")) (.tup [(.str "none"), (.str "up"), (.str "down")]))) = true := c.more
theorem ex_HEADINGS : denB S.K (.ref (He.ga S.K "HEADINGS")) (.tup [(.str "none"), (.str "up"), (.str "down")]) = true := (Bool.and_eq_true_iff.mp (ex_all KX G c A hA hT TB)).2
theorem ex_tabs : tabsNe S.K lams = true := (Bool.and_eq_true_iff.mp (Bool.and_eq_true_iff.mp (ex_all KX G c A hA hT TB)).1).2
theorem heard_ok {g : Bool} {k : Nat} : EOk S g k "_law_heard" .heard := by
  obtain ⟨fd, F⟩ := c.t.d.def_ 21 (d := dd "_law_heard" (top 54)) rfl
  exact e_heard (st := top 54) F (He.glo_ok KX G (c.t.d.fact 24 (f := .glo "_law_heard") rfl)) (fun _ _ _ _ _ _ us hl => match us, hl with | [_], _ => by kernel_rfl) ⟨rfl, rfl, rfl, by decide +kernel, rfl, by decide +kernel, by decide +kernel⟩ (by kernel_rfl) (by kernel_rfl) (He.glo_ok KX G (c.t.d.fact 4 (f := .glo "LiftError") rfl)) A.hr
theorem ch_is_tuple : EOk S false 3 "is_tuple" (.fn sg_is_tuple) := by
  obtain ⟨fd, F⟩ := c.t.d.def_ 0 (d := dd "is_tuple" (top 1)) rfl
  exact e_fn (st := top 1) F (He.glo_ok KX G (c.t.d.fact 0 (f := .glo "is_tuple") rfl)) bd_is_tuple (fn_code (c := c_is_tuple) F sc_is_tuple A.ok (show COk S false 2 (c_is_tuple) from ⟨gok_nil, fun z => absurd z Bool.false_ne_true, bi_all KX G c A hA hT TB, fun z => z⟩) (fun z => absurd z Bool.false_ne_true) rfl cc_is_tuple)
theorem ch_is_whole : EOk S false 3 "is_whole" (.fn sg_is_whole) := by
  obtain ⟨fd, F⟩ := c.t.d.def_ 1 (d := dd "is_whole" (top 2)) rfl
  exact e_fn (st := top 2) F (He.glo_ok KX G (c.t.d.fact 1 (f := .glo "is_whole") rfl)) bd_is_whole (fn_code (c := c_is_whole) F sc_is_whole A.ok (show COk S false 2 (c_is_whole) from ⟨gok_nil, fun z => absurd z Bool.false_ne_true, bi_all KX G c A hA hT TB, fun z => z⟩) (fun z => absurd z Bool.false_ne_true) rfl cc_is_whole)
theorem ch_is_integer : EOk S false 4 "is_integer" (.fn sg_is_integer) := by
  obtain ⟨fd, F⟩ := c.t.d.def_ 2 (d := dd "is_integer" (top 3)) rfl
  exact e_fn (st := top 3) F (He.glo_ok KX G (c.t.d.fact 2 (f := .glo "is_integer") rfl)) bd_is_integer (fn_code (c := c_is_integer) F sc_is_integer A.ok (show COk S false 3 (c_is_integer) from ⟨(gok_cons ((ch_is_whole KX G c A hA hT TB).mono (by decide)) gok_nil), fun z => absurd z Bool.false_ne_true, bi_all KX G c A hA hT TB, fun z => z⟩) (fun z => absurd z Bool.false_ne_true) rfl cc_is_integer)
theorem ch_is_rising : EOk S false 3 "is_rising" (.fn sg_is_rising) := by
  obtain ⟨fd, F⟩ := c.t.d.def_ 3 (d := dd "is_rising" (top 4)) rfl
  exact e_fn (st := top 4) F (He.glo_ok KX G (c.t.d.fact 3 (f := .glo "is_rising") rfl)) bd_is_rising (fn_code (c := c_is_rising) F sc_is_rising A.ok (show COk S false 2 (c_is_rising) from ⟨gok_nil, fun z => absurd z Bool.false_ne_true, bi_all KX G c A hA hT TB, fun z => z⟩) (fun z => absurd z Bool.false_ne_true) rfl cc_is_rising)
theorem ch_is_trip : EOk S false 5 "is_trip" (.fn sg_is_trip) := by
  obtain ⟨fd, F⟩ := c.t.d.def_ 5 (d := dd "is_trip" (top 18)) rfl
  exact e_fn (st := top 18) F (He.glo_ok KX G (c.t.d.fact 8 (f := .glo "is_trip") rfl)) bd_is_trip (fn_code (c := c_is_trip) F sc_is_trip A.ok (show COk S false 4 (c_is_trip) from ⟨(gok_cons (e_int (He.int_ok KX G (c.t.d.fact 35 (f := .int "PAIR_buildings" 2) rfl))) (gok_cons ((ch_is_integer KX G c A hA hT TB).mono (by decide)) (gok_cons ((ch_is_tuple KX G c A hA hT TB).mono (by decide)) gok_nil))), fun z => absurd z Bool.false_ne_true, bi_all KX G c A hA hT TB, fun z => z⟩) (fun z => absurd z Bool.false_ne_true) rfl cc_is_trip)
theorem ch_is_building : EOk S false 6 "is_building" (.fn sg_is_building) := by
  obtain ⟨fd, F⟩ := c.t.d.def_ 6 (d := dd "is_building" (top 19)) rfl
  exact e_fn (st := top 19) F (He.glo_ok KX G (c.t.d.fact 9 (f := .glo "is_building") rfl)) bd_is_building (fn_code (c := c_is_building) F sc_is_building A.ok (show COk S false 5 (c_is_building) from ⟨(gok_cons (e_int (He.int_ok KX G (c.t.d.fact 36 (f := .int "FOUR" 4) rfl))) (gok_cons (e_int (He.int_ok KX G (c.t.d.fact 30 (f := .int "LEAST_FLOORS" 2) rfl))) (gok_cons (e_int (He.int_ok KX G (c.t.d.fact 32 (f := .int "MOST_CARS" 3) rfl))) (gok_cons (e_int (He.int_ok KX G (c.t.d.fact 31 (f := .int "MOST_FLOORS" 8) rfl))) (gok_cons (e_int (He.int_ok KX G (c.t.d.fact 33 (f := .int "MOST_ROOM" 4) rfl))) (gok_cons (e_int (He.int_ok KX G (c.t.d.fact 34 (f := .int "MOST_TRIPS" 56) rfl))) (gok_cons ((ch_is_integer KX G c A hA hT TB).mono (by decide)) (gok_cons ((ch_is_rising KX G c A hA hT TB).mono (by decide)) (gok_cons ((ch_is_trip KX G c A hA hT TB).mono (by decide)) (gok_cons ((ch_is_tuple KX G c A hA hT TB).mono (by decide)) gok_nil)))))))))), fun z => absurd z Bool.false_ne_true, bi_all KX G c A hA hT TB, fun z => z⟩) (fun z => absurd z Bool.false_ne_true) rfl cc_is_building)
theorem ch_check_building : EOk S false 7 "check_building" (.fn sg_check_building) := by
  obtain ⟨fd, F⟩ := c.t.d.def_ 7 (d := dd "check_building" (top 20)) rfl
  exact e_fn (st := top 20) F (He.glo_ok KX G (c.t.d.fact 10 (f := .glo "check_building") rfl)) bd_check_building (fn_code (c := c_check_building) F sc_check_building A.ok (show COk S false 6 (c_check_building) from ⟨(gok_cons (A.e _ (by decide +kernel) (by rw [hA]; exact He.glo_ok KX G (c.t.d.fact 5 (f := .glo "BadBuilding") rfl)) (by decide +kernel) (by decide)) (gok_cons ((ch_is_building KX G c A hA hT TB).mono (by decide)) gok_nil)), fun z => absurd z Bool.false_ne_true, bi_all KX G c A hA hT TB, fun z => z⟩) (fun z => absurd z Bool.false_ne_true) rfl cc_check_building)
theorem ch_is_plain : EOk S false 5 "is_plain" (.fn sg_is_plain) := by
  obtain ⟨fd, F⟩ := c.t.d.def_ 8 (d := dd "is_plain" (top 35)) rfl
  exact e_fn (st := top 35) F (He.glo_ok KX G (c.t.d.fact 11 (f := .glo "is_plain") rfl)) bd_is_plain (fn_code (c := c_is_plain) F sc_is_plain A.ok (show COk S false 4 (c_is_plain) from ⟨(gok_cons (e_str (He.str_ok KX G (c.t.d.fact 43 (f := .str "AT" "at") rfl))) (gok_cons (e_str (He.str_ok KX G (c.t.d.fact 44 (f := .str "HEADING" "heading") rfl))) (gok_cons (e_cst (He.glo_ok KX G (c.t.d.fact 49 (f := .glo "HEADINGS") rfl)) (ex_HEADINGS KX G c A hA hT TB)) (gok_cons (e_str (He.str_ok KX G (c.t.d.fact 40 (f := .str "LIT" "lit") rfl))) (gok_cons (e_str (He.str_ok KX G (c.t.d.fact 45 (f := .str "LOAD" "load") rfl))) (gok_cons (e_int (He.int_ok KX G (c.t.d.fact 38 (f := .int "PAIR_asks" 2) rfl))) (gok_cons (e_str (He.str_ok KX G (c.t.d.fact 41 (f := .str "STANDS" "stands") rfl))) (gok_cons (e_int (He.int_ok KX G (c.t.d.fact 39 (f := .int "TRIPLE" 3) rfl))) (gok_cons (e_str (He.str_ok KX G (c.t.d.fact 42 (f := .str "WISHED" "wished") rfl))) (gok_cons ((ch_is_integer KX G c A hA hT TB).mono (by decide)) gok_nil)))))))))), fun z => absurd z Bool.false_ne_true, bi_all KX G c A hA hT TB, fun z => z⟩) (fun z => absurd z Bool.false_ne_true) rfl cc_is_plain)
theorem ch_is_ask_of : EOk S false 6 "is_ask_of" (.fn sg_is_ask_of) := by
  obtain ⟨fd, F⟩ := c.t.d.def_ 9 (d := dd "is_ask_of" (top 36)) rfl
  exact e_fn (st := top 36) F (He.glo_ok KX G (c.t.d.fact 12 (f := .glo "is_ask_of") rfl)) bd_is_ask_of (fn_code (c := c_is_ask_of) F sc_is_ask_of A.ok (show COk S false 5 (c_is_ask_of) from ⟨(gok_cons (e_str (He.str_ok KX G (c.t.d.fact 47 (f := .str "AND" "and") rfl))) (gok_cons (e_int (He.int_ok KX G (c.t.d.fact 37 (f := .int "MOST_PARTS" 31) rfl))) (gok_cons (e_str (He.str_ok KX G (c.t.d.fact 46 (f := .str "NOT" "not") rfl))) (gok_cons (e_str (He.str_ok KX G (c.t.d.fact 48 (f := .str "OR" "or") rfl))) (gok_cons (e_int (He.int_ok KX G (c.t.d.fact 38 (f := .int "PAIR_asks" 2) rfl))) (gok_cons (e_int (He.int_ok KX G (c.t.d.fact 39 (f := .int "TRIPLE" 3) rfl))) (gok_cons ((ch_is_plain KX G c A hA hT TB).mono (by decide)) (gok_cons ((ch_is_tuple KX G c A hA hT TB).mono (by decide)) gok_nil)))))))), fun z => absurd z Bool.false_ne_true, bi_all KX G c A hA hT TB, fun z => z⟩) (fun z => absurd z Bool.false_ne_true) rfl cc_is_ask_of)
theorem ch_is_ask : EOk S false 8 "is_ask" (.fn sg_is_ask) := by
  obtain ⟨fd, F⟩ := c.t.d.def_ 10 (d := dd "is_ask" (top 37)) rfl
  exact e_fn (st := top 37) F (He.glo_ok KX G (c.t.d.fact 13 (f := .glo "is_ask") rfl)) bd_is_ask (fn_code (c := c_is_ask) F sc_is_ask A.ok (show COk S false 7 (c_is_ask) from ⟨(gok_cons ((ch_check_building KX G c A hA hT TB).mono (by decide)) (gok_cons ((ch_is_ask_of KX G c A hA hT TB).mono (by decide)) gok_nil)), fun z => absurd z Bool.false_ne_true, bi_all KX G c A hA hT TB, fun z => z⟩) (fun z => absurd z Bool.false_ne_true) rfl cc_is_ask)
theorem ch_check_ask : EOk S false 7 "check_ask" (.fn sg_check_ask) := by
  obtain ⟨fd, F⟩ := c.t.d.def_ 11 (d := dd "check_ask" (top 38)) rfl
  exact e_fn (st := top 38) F (He.glo_ok KX G (c.t.d.fact 14 (f := .glo "check_ask") rfl)) bd_check_ask (fn_code (c := c_check_ask) F sc_check_ask A.ok (show COk S false 6 (c_check_ask) from ⟨(gok_cons (A.e _ (by decide +kernel) (by rw [hA]; exact He.glo_ok KX G (c.t.d.fact 7 (f := .glo "BadAsk") rfl)) (by decide +kernel) (by decide)) (gok_cons ((ch_is_ask_of KX G c A hA hT TB).mono (by decide)) gok_nil)), fun z => absurd z Bool.false_ne_true, bi_all KX G c A hA hT TB, fun z => z⟩) (fun z => absurd z Bool.false_ne_true) rfl cc_check_ask)
theorem ch_text_of : ∀ n : Nat, EOk S false (2 + n) "text_of" (.fn (sg_text_of n))
  | 0 => by
    obtain ⟨fd, F⟩ := c.t.d.def_ 12 (d := dd "text_of" (top 44)) rfl
    exact e_none (st := top 44) F (He.glo_ok KX G (c.t.d.fact 15 (f := .glo "text_of") rfl)) bd_text_of
  | n + 1 => by
    have ih := ch_text_of n
    obtain ⟨fd, F⟩ := c.t.d.def_ 12 (d := dd "text_of" (top 44)) rfl
    exact e_fn (st := top 44) F (He.glo_ok KX G (c.t.d.fact 15 (f := .glo "text_of") rfl)) bd_text_of (fn_code (c := c_text_of (sg_text_of n)) F sc_text_of A.ok (show COk S false (2 + n) (c_text_of (sg_text_of n)) from ⟨(gok_cons (e_str (He.str_ok KX G (c.t.d.fact 50 (f := .str "BLANK" " ") rfl))) (gok_cons ih gok_nil)), fun z => absurd z Bool.false_ne_true, bi_all KX G c A hA hT TB, fun z => z⟩) (fun z => absurd z Bool.false_ne_true) rfl (cc_text_of _))
theorem ch_ask_text : EOk S false 43 "ask_text" (.fn sg_ask_text) := by
  obtain ⟨fd, F⟩ := c.t.d.def_ 13 (d := dd "ask_text" (top 45)) rfl
  exact e_fn (st := top 45) F (He.glo_ok KX G (c.t.d.fact 16 (f := .glo "ask_text") rfl)) bd_ask_text (fn_code (c := c_ask_text) F sc_ask_text A.ok (show COk S false 42 (c_ask_text) from ⟨(gok_cons ((ch_check_ask KX G c A hA hT TB).mono (by decide)) (gok_cons ((ch_check_building KX G c A hA hT TB).mono (by decide)) (gok_cons ((ch_text_of KX G c A hA hT TB 40).mono (by decide)) gok_nil))), fun z => absurd z Bool.false_ne_true, bi_all KX G c A hA hT TB, fun z => z⟩) (fun z => absurd z Bool.false_ne_true) rfl cc_ask_text)
theorem ch_number_of : EOk S false 3 "number_of" (.fn sg_number_of) := by
  obtain ⟨fd, F⟩ := c.t.d.def_ 14 (d := dd "number_of" (top 46)) rfl
  exact e_fn (st := top 46) F (He.glo_ok KX G (c.t.d.fact 17 (f := .glo "number_of") rfl)) bd_number_of (fn_code (c := c_number_of) F sc_number_of A.ok (show COk S false 2 (c_number_of) from ⟨(gok_cons (e_str (He.str_ok KX G (c.t.d.fact 51 (f := .str "FIGURES" "0123456789") rfl))) (gok_cons (e_int (He.int_ok KX G (c.t.d.fact 53 (f := .int "PAIR_written" 2) rfl))) gok_nil)), fun z => absurd z Bool.false_ne_true, bi_all KX G c A hA hT TB, fun z => z⟩) (fun z => absurd z Bool.false_ne_true) rfl cc_number_of)
theorem ch_put_together : EOk S false 4 "put_together" (.fn sg_put_together) := by
  obtain ⟨fd, F⟩ := c.t.d.def_ 15 (d := dd "put_together" (top 47)) rfl
  exact e_fn (st := top 47) F (He.glo_ok KX G (c.t.d.fact 18 (f := .glo "put_together") rfl)) bd_put_together (fn_code (c := c_put_together) F sc_put_together A.ok (show COk S false 3 (c_put_together) from ⟨(gok_cons (e_str (He.str_ok KX G (c.t.d.fact 47 (f := .str "AND" "and") rfl))) (gok_cons (e_str (He.str_ok KX G (c.t.d.fact 43 (f := .str "AT" "at") rfl))) (gok_cons (e_str (He.str_ok KX G (c.t.d.fact 44 (f := .str "HEADING" "heading") rfl))) (gok_cons (e_cst (He.glo_ok KX G (c.t.d.fact 49 (f := .glo "HEADINGS") rfl)) (ex_HEADINGS KX G c A hA hT TB)) (gok_cons (e_str (He.str_ok KX G (c.t.d.fact 40 (f := .str "LIT" "lit") rfl))) (gok_cons (e_str (He.str_ok KX G (c.t.d.fact 45 (f := .str "LOAD" "load") rfl))) (gok_cons (e_str (He.str_ok KX G (c.t.d.fact 46 (f := .str "NOT" "not") rfl))) (gok_cons (e_str (He.str_ok KX G (c.t.d.fact 48 (f := .str "OR" "or") rfl))) (gok_cons (e_int (He.int_ok KX G (c.t.d.fact 53 (f := .int "PAIR_written" 2) rfl))) (gok_cons (e_str (He.str_ok KX G (c.t.d.fact 41 (f := .str "STANDS" "stands") rfl))) (gok_cons (e_str (He.str_ok KX G (c.t.d.fact 42 (f := .str "WISHED" "wished") rfl))) (gok_cons ((ch_number_of KX G c A hA hT TB).mono (by decide)) gok_nil)))))))))))), fun z => absurd z Bool.false_ne_true, bi_all KX G c A hA hT TB, fun z => z⟩) (fun z => absurd z Bool.false_ne_true) rfl cc_put_together)
theorem ch_read_ask : EOk S false 43 "read_ask" (.fn sg_read_ask) := by
  obtain ⟨fd, F⟩ := c.t.d.def_ 16 (d := dd "read_ask" (top 48)) rfl
  exact e_fn (st := top 48) F (He.glo_ok KX G (c.t.d.fact 19 (f := .glo "read_ask") rfl)) bd_read_ask (fn_code (c := c_read_ask) F sc_read_ask A.ok (show COk S false 42 (c_read_ask) from ⟨(gok_cons (e_str (He.str_ok KX G (c.t.d.fact 50 (f := .str "BLANK" " ") rfl))) (gok_cons (e_int (He.int_ok KX G (c.t.d.fact 52 (f := .int "MOST_TEXT" 1000) rfl))) (gok_cons (A.e _ (by decide +kernel) (by rw [hA]; exact He.glo_ok KX G (c.t.d.fact 6 (f := .glo "NoText") rfl)) (by decide +kernel) (by decide)) (gok_cons ((ch_check_building KX G c A hA hT TB).mono (by decide)) (gok_cons ((ch_is_ask_of KX G c A hA hT TB).mono (by decide)) (gok_cons ((ch_put_together KX G c A hA hT TB).mono (by decide)) (gok_cons ((ch_text_of KX G c A hA hT TB 40).mono (by decide)) gok_nil))))))), fun z => absurd z Bool.false_ne_true, bi_all KX G c A hA hT TB, fun z => z⟩) (fun z => absurd z Bool.false_ne_true) rfl cc_read_ask)
theorem ch_law_pot : EOk S false 3 "_law_pot" (.fn sg_law_pot) := by
  obtain ⟨fd, F⟩ := c.t.d.def_ 17 (d := dd "_law_pot" (top 50)) rfl
  exact e_fn (st := top 50) F (He.glo_ok KX G (c.t.d.fact 20 (f := .glo "_law_pot") rfl)) bd_law_pot (fn_code (c := c_law_pot) F sc_law_pot A.ok (show COk S false 2 (c_law_pot) from ⟨gok_nil, fun z => absurd z Bool.false_ne_true, bi_all KX G c A hA hT TB, fun z => z⟩) (fun z => absurd z Bool.false_ne_true) rfl cc_law_pot)
theorem ch_law_take : EOk S false 3 "_law_take" (.fnP sg_law_take) := by
  obtain ⟨fd, F⟩ := c.t.d.def_ 18 (d := dd "_law_take" (top 51)) rfl
  exact e_fnP (st := top 51) F (He.glo_ok KX G (c.t.d.fact 21 (f := .glo "_law_take") rfl)) bd_law_take (fn_codeP (c := c_law_take) F sc_law_take A.ok (show COk S false 2 (c_law_take) from ⟨gok_nil, fun z => absurd z Bool.false_ne_true, bi_all KX G c A hA hT TB, fun z => z⟩) (fun z => absurd z Bool.false_ne_true) rfl cc_law_take)
theorem ch_law_of : EOk S false 4 "_law_of" (.fnP sg_law_of) := by
  obtain ⟨fd, F⟩ := c.t.d.def_ 19 (d := dd "_law_of" (top 52)) rfl
  exact e_fnP (st := top 52) F (He.glo_ok KX G (c.t.d.fact 22 (f := .glo "_law_of") rfl)) bd_law_of (fn_codeP (c := c_law_of) F sc_law_of A.ok (show COk S false 3 (c_law_of) from ⟨(gok_cons ((ch_law_take KX G c A hA hT TB).mono (by decide)) gok_nil), fun z => absurd z Bool.false_ne_true, bi_all KX G c A hA hT TB, fun z => z⟩) (fun z => absurd z Bool.false_ne_true) rfl cc_law_of)
theorem ch_law_places : EOk S false 3 "_law_places" (.fn sg_law_places) := by
  obtain ⟨fd, F⟩ := c.t.d.def_ 20 (d := dd "_law_places" (top 53)) rfl
  exact e_fn (st := top 53) F (He.glo_ok KX G (c.t.d.fact 23 (f := .glo "_law_places") rfl)) bd_law_places (fn_code (c := c_law_places) F sc_law_places A.ok (show COk S false 2 (c_law_places) from ⟨gok_nil, fun z => absurd z Bool.false_ne_true, bi_all KX G c A hA hT TB, fun z => z⟩) (fun z => absurd z Bool.false_ne_true) rfl cc_law_places)
theorem ch_law_a_ask : ∀ n : Nat, EOk S false (4 + n) "_law_a_ask" (.fnP (sg_law_a_ask n))
  | 0 => by
    obtain ⟨fd, F⟩ := c.t.d.def_ 22 (d := dd "_law_a_ask" (top 55)) rfl
    exact e_noneP (st := top 55) F (He.glo_ok KX G (c.t.d.fact 25 (f := .glo "_law_a_ask") rfl)) bd_law_a_ask
  | n + 1 => by
    have ih := ch_law_a_ask n
    obtain ⟨fd, F⟩ := c.t.d.def_ 22 (d := dd "_law_a_ask" (top 55)) rfl
    exact e_fnP (st := top 55) F (He.glo_ok KX G (c.t.d.fact 25 (f := .glo "_law_a_ask") rfl)) bd_law_a_ask (fn_codeP (c := c_law_a_ask (sg_law_a_ask n)) F sc_law_a_ask A.ok (show COk S false (4 + n) (c_law_a_ask (sg_law_a_ask n)) from ⟨(gok_cons ih (gok_cons ((ch_law_of KX G c A hA hT TB).mono (by omega)) (gok_cons ((ch_law_take KX G c A hA hT TB).mono (by omega)) gok_nil))), fun z => absurd z Bool.false_ne_true, bi_all KX G c A hA hT TB, fun z => z⟩) (fun z => absurd z Bool.false_ne_true) rfl (cc_law_a_ask _))
theorem ch_law_words : ∀ n : Nat, EOk S false (2 + n) "_law_words" (.fn (sg_law_words n))
  | 0 => by
    obtain ⟨fd, F⟩ := c.t.d.def_ 23 (d := dd "_law_words" (top 56)) rfl
    exact e_none (st := top 56) F (He.glo_ok KX G (c.t.d.fact 26 (f := .glo "_law_words") rfl)) bd_law_words
  | n + 1 => by
    have ih := ch_law_words n
    obtain ⟨fd, F⟩ := c.t.d.def_ 23 (d := dd "_law_words" (top 56)) rfl
    exact e_fn (st := top 56) F (He.glo_ok KX G (c.t.d.fact 26 (f := .glo "_law_words") rfl)) bd_law_words (fn_code (c := c_law_words (sg_law_words n)) F sc_law_words A.ok (show COk S false (2 + n) (c_law_words (sg_law_words n)) from ⟨(gok_cons ih gok_nil), fun z => absurd z Bool.false_ne_true, bi_all KX G c A hA hT TB, fun z => z⟩) (fun z => absurd z Bool.false_ne_true) rfl (cc_law_words _))
theorem ch_law_otherwise : EOk S false 5 "_law_otherwise" (.fnP sg_law_otherwise) := by
  obtain ⟨fd, F⟩ := c.t.d.def_ 24 (d := dd "_law_otherwise" (top 57)) rfl
  exact e_fnP (st := top 57) F (He.glo_ok KX G (c.t.d.fact 27 (f := .glo "_law_otherwise") rfl)) bd_law_otherwise (fn_codeP (c := c_law_otherwise) F sc_law_otherwise A.ok (show COk S false 4 (c_law_otherwise) from ⟨(gok_cons ((ch_law_of KX G c A hA hT TB).mono (by decide)) (gok_cons ((ch_law_take KX G c A hA hT TB).mono (by decide)) gok_nil)), fun z => absurd z Bool.false_ne_true, bi_all KX G c A hA hT TB, fun z => z⟩) (fun z => absurd z Bool.false_ne_true) rfl cc_law_otherwise)
theorem ch_law_right : EOk S true 46 "_law_right" (.fnP sg_law_right) := by
  obtain ⟨fd, F⟩ := c.t.d.def_ 25 (d := dd "_law_right" (top 58)) rfl
  exact e_fnP (st := top 58) F (He.glo_ok KX G (c.t.d.fact 28 (f := .glo "_law_right") rfl)) bd_law_right (fn_codeP (c := c_law_right) F sc_law_right A.ok (show COk S true 45 (c_law_right) from ⟨(gok_cons (A.e _ (by decide +kernel) (by rw [hA]; exact He.glo_ok KX G (c.t.d.fact 6 (f := .glo "NoText") rfl)) (by decide +kernel) (by decide)) (gok_cons (EOk.weak ((ch_law_a_ask KX G c A hA hT TB 4).mono (by decide))) (gok_cons (heard_ok KX G c A hA hT TB) (gok_cons (EOk.weak ((ch_law_otherwise KX G c A hA hT TB).mono (by decide))) (gok_cons (EOk.weak ((ch_law_take KX G c A hA hT TB).mono (by decide))) (gok_cons (EOk.weak ((ch_law_words KX G c A hA hT TB 40).mono (by decide))) (gok_cons (EOk.weak ((ch_ask_text KX G c A hA hT TB).mono (by decide))) (gok_cons (EOk.weak ((ch_is_ask KX G c A hA hT TB).mono (by decide))) (gok_cons (EOk.weak ((ch_read_ask KX G c A hA hT TB).mono (by decide))) gok_nil))))))))), fun _ => ⟨43, by decide, (gok_cons ((ch_read_ask KX G c A hA hT TB).mono (by decide)) (gok_cons ((ch_ask_text KX G c A hA hT TB).mono (by decide)) gok_nil))⟩, bi_all KX G c A hA hT TB, fun _ => rfl⟩) (fun _ => tbOk_of hT (ex_tabs KX G c A hA hT TB) TB (by decide +kernel)) rfl cc_law_right)
theorem ch_law : EOk S true 47 "law" (.fn sg_law) := by
  obtain ⟨fd, F⟩ := c.t.d.def_ 26 (d := dd "law" (top 59)) rfl
  exact e_fn (st := top 59) F (He.glo_ok KX G (c.t.d.fact 29 (f := .glo "law") rfl)) bd_law (fn_code (c := c_law) F sc_law A.ok (show COk S true 46 (c_law) from ⟨(gok_cons (A.e _ (by decide +kernel) (by rw [hA]; exact He.glo_ok KX G (c.t.d.fact 7 (f := .glo "BadAsk") rfl)) (by decide +kernel) (by decide)) (gok_cons (A.e _ (by decide +kernel) (by rw [hA]; exact He.glo_ok KX G (c.t.d.fact 5 (f := .glo "BadBuilding") rfl)) (by decide +kernel) (by decide)) (gok_cons (A.e _ (by decide +kernel) (by rw [hA]; exact He.glo_ok KX G (c.t.d.fact 6 (f := .glo "NoText") rfl)) (by decide +kernel) (by decide)) (gok_cons (heard_ok KX G c A hA hT TB) (gok_cons (EOk.weak ((ch_law_places KX G c A hA hT TB).mono (by decide))) (gok_cons (EOk.weak ((ch_law_pot KX G c A hA hT TB).mono (by decide))) (gok_cons ((ch_law_right KX G c A hA hT TB).mono (by decide)) (gok_cons (EOk.weak ((ch_ask_text KX G c A hA hT TB).mono (by decide))) (gok_cons (EOk.weak ((ch_read_ask KX G c A hA hT TB).mono (by decide))) gok_nil))))))))), fun _ => ⟨43, by decide, (gok_cons ((ch_read_ask KX G c A hA hT TB).mono (by decide)) (gok_cons ((ch_ask_text KX G c A hA hT TB).mono (by decide)) gok_nil))⟩, bi_all KX G c A hA hT TB, fun _ => rfl⟩) (fun _ => tbOk_of hT (ex_tabs KX G c A hA hT TB) TB (by decide +kernel)) rfl cc_law)
theorem law_fn {fd : FuncData} (F : FunP S.K "law" (top 59) (He.fAd S.K ("law", none)) fd) : FnG S true 47 (He.fAd S.K ("law", none)) fd ["script"] (spD S sg_law) := fn_code (c := c_law) F sc_law A.ok (show COk S true 46 (c_law) from ⟨(gok_cons (A.e _ (by decide +kernel) (by rw [hA]; exact He.glo_ok KX G (c.t.d.fact 7 (f := .glo "BadAsk") rfl)) (by decide +kernel) (by decide)) (gok_cons (A.e _ (by decide +kernel) (by rw [hA]; exact He.glo_ok KX G (c.t.d.fact 5 (f := .glo "BadBuilding") rfl)) (by decide +kernel) (by decide)) (gok_cons (A.e _ (by decide +kernel) (by rw [hA]; exact He.glo_ok KX G (c.t.d.fact 6 (f := .glo "NoText") rfl)) (by decide +kernel) (by decide)) (gok_cons (heard_ok KX G c A hA hT TB) (gok_cons (EOk.weak ((ch_law_places KX G c A hA hT TB).mono (by decide))) (gok_cons (EOk.weak ((ch_law_pot KX G c A hA hT TB).mono (by decide))) (gok_cons ((ch_law_right KX G c A hA hT TB).mono (by decide)) (gok_cons (EOk.weak ((ch_ask_text KX G c A hA hT TB).mono (by decide))) (gok_cons (EOk.weak ((ch_read_ask KX G c A hA hT TB).mono (by decide))) gok_nil))))))))), fun _ => ⟨43, by decide, (gok_cons ((ch_read_ask KX G c A hA hT TB).mono (by decide)) (gok_cons ((ch_ask_text KX G c A hA hT TB).mono (by decide)) gok_nil))⟩, bi_all KX G c A hA hT TB, fun _ => rfl⟩) (fun _ => tbOk_of hT (ex_tabs KX G c A hA hT TB) TB (by decide +kernel)) rfl cc_law
end
theorem law_facts {w : World} {K : PySem.W.Frag} {h : Heap} {mg : Str → Option Value} {f : Addr} (pure_law : ∀ ns : List Int, ns.length ≤ 63 → (∀ z ∈ ns, Builtin.Int.intBits z ≤ 1048576) → sg_law.run [.scr ns] = .ok (.bl true)) (KX : K.In h) (G : h.Ns mainGlobals mg) (hfa : mg ("law" : Str) = some (.ref f)) (c : He.SaysX fa fn [] tf ex w h K) :
    LawG PySem.Challenge.rw_everyoneup_k82_whole_asks_written w K 47 63 mg f h := by
  obtain ⟨fd, F⟩ := c.t.d.def_ 26 (d := dd "law" (top 59)) rfl
  have e := hfa.symm.trans (He.glo_ok KX G (c.t.d.fact 29 (f := .glo "law") rfl))
  have e : f = He.ga K "law" := by
    cases e
    rfl
  subst e
  have b := FunD.bindsA (ps := ["script"]) F bd_law
  refine ⟨fd, tf.map (He.cT K), lams.map fun x => (He.tabOf K (He.codeOf K (x, none)), lamName x), sg_law.run, ?_, ?_, ?_, fun s u => b s [u] rfl, ?_, pure_law, fun base hK hN TB => ⟨⟨(PySem.Challenge.rw_everyoneup_k82_whole_asks_written).prog, w, K, mg, base, lams.map fun x => (He.tabOf K (He.codeOf K (x, none)), lamName x), He.ga K, cls⟩, rfl, rfl, rfl, rfl, rfl, rfl, ?_⟩⟩
  · intro p hp
    obtain ⟨q, hq, rfl⟩ := List.mem_map.mp hp
    exact c.empty q hq
  · intro p hp
    obtain ⟨q, hq, rfl⟩ := List.mem_map.mp hp
    exact c.out q hq
  · intro p hp
    obtain ⟨q, hq, rfl⟩ := List.mem_map.mp hp
    exact PySem.W.codeHd_of_K KX (c.hd q hq)
  · intro t ht
    obtain ⟨x, hx, rfl⟩ := List.mem_map.mp ht
    exact ⟨He.cT K (x, none), List.mem_map.mpr ⟨(x, none), List.mem_map.mpr ⟨x, hx, rfl⟩, rfl⟩, rfl⟩
  · obtain ⟨fdI, FI⟩ := c.t.d.def_ 4 (d := dm "LiftError" "__init__" "LiftError.__init__" (inC (top 6) 0)) rfl
    have hx := c.more
    have hx : ((clsB K (cls.map (He.ga K)) (He.ga K "LiftError") (He.fAd K ("LiftError", some "__init__")) && clsN K cls) && tabsNe K lams) = true := (Bool.and_eq_true_iff.mp hx).1
    obtain ⟨hx0, _⟩ := Bool.and_eq_true_iff.mp hx
    obtain ⟨hx1, hx2⟩ := Bool.and_eq_true_iff.mp hx0
    obtain ⟨S, hS⟩ : ∃ S : Cfg, S = ⟨(PySem.Challenge.rw_everyoneup_k82_whole_asks_written).prog, w, K, mg, base, lams.map fun x => (He.tabOf K (He.codeOf K (x, none)), lamName x), He.ga K, cls⟩ := ⟨_, rfl⟩
    have A : ClsAll S cls (He.ga S.K "LiftError") := by
      subst hS
      refine cls_all (st := inC (top 6) 0) rfl rfl ?_ ?_ FI (fun _ _ _ _ _ _ us hl => match us, hl with | [_, _], _ => by kernel_rfl) ⟨rfl, rfl, rfl, by decide +kernel, rfl, by decide +kernel, by decide +kernel⟩ (by kernel_rfl) (by kernel_rfl) (He.free_ok KX G (c.t.d.fact 70 (f := .free "ValueError") rfl))
      · exact hx2
      · exact hx1
    subst hS
    exact law_fn KX G c A rfl rfl TB F
end K82

set_option Elab.async false
set_option linter.all false
set_option maxRecDepth 100000
namespace K82
open PySem PySem.Spec EvO
namespace Ev
@[simp] theorem p_isTup_non  : primD .isTup [.non] = some (.bl false) := rfl
@[simp] theorem p_isTup_bl (b : Bool) : primD .isTup [(.bl b)] = some (.bl false) := rfl
@[simp] theorem p_isTup_int (i : Int) : primD .isTup [(.int i)] = some (.bl false) := rfl
@[simp] theorem p_isTup_str (s : Str) : primD .isTup [(.str s)] = some (.bl false) := rfl
@[simp] theorem p_isTup_tup (xs : List D) : primD .isTup [(.tup xs)] = some (.bl true) := rfl
@[simp] theorem p_isTup_lst (xs : List D) : primD .isTup [(.lst xs)] = some (.bl false) := rfl
@[simp] theorem p_isTup_exn (c : Str) (v : D) : primD .isTup [(.exn c v)] = some (.bl false) := rfl
@[simp] theorem p_isTup_scr (ns : List Int) : primD .isTup [(.scr ns)] = some (.bl false) := rfl
@[simp] theorem p_isInt_non  : primD .isInt [.non] = some (.bl false) := rfl
@[simp] theorem p_isInt_bl (b : Bool) : primD .isInt [(.bl b)] = some (.bl true) := rfl
@[simp] theorem p_isInt_int (i : Int) : primD .isInt [(.int i)] = some (.bl true) := rfl
@[simp] theorem p_isInt_str (s : Str) : primD .isInt [(.str s)] = some (.bl false) := rfl
@[simp] theorem p_isInt_tup (xs : List D) : primD .isInt [(.tup xs)] = some (.bl false) := rfl
@[simp] theorem p_isInt_lst (xs : List D) : primD .isInt [(.lst xs)] = some (.bl false) := rfl
@[simp] theorem p_isInt_exn (c : Str) (v : D) : primD .isInt [(.exn c v)] = some (.bl false) := rfl
@[simp] theorem p_isInt_scr (ns : List Int) : primD .isInt [(.scr ns)] = some (.bl false) := rfl
@[simp] theorem p_isBool_non  : primD .isBool [.non] = some (.bl false) := rfl
@[simp] theorem p_isBool_bl (b : Bool) : primD .isBool [(.bl b)] = some (.bl true) := rfl
@[simp] theorem p_isBool_int (i : Int) : primD .isBool [(.int i)] = some (.bl false) := rfl
@[simp] theorem p_isBool_str (s : Str) : primD .isBool [(.str s)] = some (.bl false) := rfl
@[simp] theorem p_isBool_tup (xs : List D) : primD .isBool [(.tup xs)] = some (.bl false) := rfl
@[simp] theorem p_isBool_lst (xs : List D) : primD .isBool [(.lst xs)] = some (.bl false) := rfl
@[simp] theorem p_isBool_exn (c : Str) (v : D) : primD .isBool [(.exn c v)] = some (.bl false) := rfl
@[simp] theorem p_isBool_scr (ns : List Int) : primD .isBool [(.scr ns)] = some (.bl false) := rfl
@[simp] theorem p_isStr_non  : primD .isStr [.non] = some (.bl false) := rfl
@[simp] theorem p_isStr_bl (b : Bool) : primD .isStr [(.bl b)] = some (.bl false) := rfl
@[simp] theorem p_isStr_int (i : Int) : primD .isStr [(.int i)] = some (.bl false) := rfl
@[simp] theorem p_isStr_str (s : Str) : primD .isStr [(.str s)] = some (.bl true) := rfl
@[simp] theorem p_isStr_tup (xs : List D) : primD .isStr [(.tup xs)] = some (.bl false) := rfl
@[simp] theorem p_isStr_lst (xs : List D) : primD .isStr [(.lst xs)] = some (.bl false) := rfl
@[simp] theorem p_isStr_exn (c : Str) (v : D) : primD .isStr [(.exn c v)] = some (.bl false) := rfl
@[simp] theorem p_isStr_scr (ns : List Int) : primD .isStr [(.scr ns)] = some (.bl false) := rfl
@[simp] theorem p_isLst_non  : primD .isLst [.non] = some (.bl false) := rfl
@[simp] theorem p_isLst_bl (b : Bool) : primD .isLst [(.bl b)] = some (.bl false) := rfl
@[simp] theorem p_isLst_int (i : Int) : primD .isLst [(.int i)] = some (.bl false) := rfl
@[simp] theorem p_isLst_str (s : Str) : primD .isLst [(.str s)] = some (.bl false) := rfl
@[simp] theorem p_isLst_tup (xs : List D) : primD .isLst [(.tup xs)] = some (.bl false) := rfl
@[simp] theorem p_isLst_lst (xs : List D) : primD .isLst [(.lst xs)] = some (.bl true) := rfl
@[simp] theorem p_isLst_exn (c : Str) (v : D) : primD .isLst [(.exn c v)] = some (.bl false) := rfl
@[simp] theorem p_isLst_scr (ns : List Int) : primD .isLst [(.scr ns)] = some (.bl true) := rfl
@[simp] theorem p_isExn_non (k : Str)  : primD (.isExn k) [.non] = some (.bl false) := rfl
@[simp] theorem p_isExn_bl (k : Str) (b : Bool) : primD (.isExn k) [(.bl b)] = some (.bl false) := rfl
@[simp] theorem p_isExn_int (k : Str) (i : Int) : primD (.isExn k) [(.int i)] = some (.bl false) := rfl
@[simp] theorem p_isExn_str (k : Str) (s : Str) : primD (.isExn k) [(.str s)] = some (.bl false) := rfl
@[simp] theorem p_isExn_tup (k : Str) (xs : List D) : primD (.isExn k) [(.tup xs)] = some (.bl false) := rfl
@[simp] theorem p_isExn_lst (k : Str) (xs : List D) : primD (.isExn k) [(.lst xs)] = some (.bl false) := rfl
@[simp] theorem p_isExn_scr (k : Str) (ns : List Int) : primD (.isExn k) [(.scr ns)] = some (.bl false) := rfl
@[simp] theorem p_isExn_exn (k c : Str) (v : D) : primD (.isExn k) [.exn c v] = some (.bl (decide (c = k))) := rfl
@[simp] theorem p_len_tup (xs : List D) : primD .len [(.tup xs)] = some (.int xs.length) := rfl
@[simp] theorem p_len_lst (xs : List D) : primD .len [(.lst xs)] = some (.int xs.length) := rfl
@[simp] theorem p_len_scr (ns : List Int) : primD .len [.scr ns] = some (.int ns.length) := rfl
theorem p_len_str {s : Str} (h : s.length ≤ 16777216) : primD .len [.str s] = some (.int s.length) := if_pos h
@[simp] theorem p_toInt_int (i : Int) : primD .toInt [.int i] = some (.int i) := rfl
@[simp] theorem p_toInt_bl (b : Bool) : primD .toInt [.bl b] = some (.int (if b then 1 else 0)) := rfl
@[simp] theorem p_toStr_str (s : Str) : primD .toStr [.str s] = some (.str s) := rfl
@[simp] theorem p_abs (i : Int) : primD .abs [.int i] = some (.int (if i < 0 then -i else i)) := rfl
@[simp] theorem p_all (xs : List D) : primD .all [.lst xs] = (blsD xs).map fun l => .bl (l.all id) := rfl
@[simp] theorem p_sum (xs : List D) : primD .sum [.lst xs] = (intsD xs).map fun l => .int l.sum := rfl
@[simp] theorem p_list_tup (xs : List D) : primD .list [.tup xs] = some (.lst xs) := rfl
@[simp] theorem p_list_lst (xs : List D) : primD .list [.lst xs] = some (.lst xs) := rfl
@[simp] theorem p_min2 (a b : Int) : primD .min2 [.int a, .int b] = some (.int (if b < a then b else a)) := rfl
@[simp] theorem p_max2 (a b : Int) : primD .max2 [.int a, .int b] = some (.int (if b > a then b else a)) := rfl
@[simp] theorem c_lt (a b : Int) : cmpD .lt (.int a) (.int b) = some (decide (a < b)) := rfl
@[simp] theorem c_le (a b : Int) : cmpD .le (.int a) (.int b) = some (decide (a ≤ b)) := rfl
@[simp] theorem c_gt (a b : Int) : cmpD .gt (.int a) (.int b) = some (decide (b < a)) := rfl
@[simp] theorem c_ge (a b : Int) : cmpD .ge (.int a) (.int b) = some (decide (b ≤ a)) := rfl
@[simp] theorem c_eq (a b : D) : cmpD .eq a b = eqD a b := by cases a <;> rfl
@[simp] theorem c_ne (a b : D) : cmpD .ne a b = (eqD a b).map (!·) := by cases a <;> rfl
@[simp] theorem c_isin (a b : D) : cmpD .isin a b = inD a b := by cases a <;> rfl
@[simp] theorem c_is (a b : D) : cmpD .is_ a b = isD a b := by cases a <;> rfl
@[simp] theorem c_isnot (a b : D) : cmpD .isnot a b = (isD a b).map (!·) := by cases a <;> rfl
@[simp] theorem e_str (a b : Str) : eqD (.str a) (.str b) = some (decide (a = b)) := rfl
@[simp] theorem e_int (a b : Int) : eqD (.int a) (.int b) = some (a == b) := rfl
@[simp] theorem is_non (a : D) : isD a .non = some (isNonD a) := rfl
@[simp] theorem is_bl (a : D) (b : Bool) : isD a (.bl b) = some (isBlD b a) := rfl
@[simp] theorem isNon_non  : isNonD .non = true := rfl
@[simp] theorem isNon_bl (b : Bool) : isNonD (.bl b) = false := rfl
@[simp] theorem isNon_int (i : Int) : isNonD (.int i) = false := rfl
@[simp] theorem isNon_str (s : Str) : isNonD (.str s) = false := rfl
@[simp] theorem isNon_tup (xs : List D) : isNonD (.tup xs) = false := rfl
@[simp] theorem isNon_lst (xs : List D) : isNonD (.lst xs) = false := rfl
@[simp] theorem isNon_exn (c : Str) (v : D) : isNonD (.exn c v) = false := rfl
@[simp] theorem isNon_scr (ns : List Int) : isNonD (.scr ns) = false := rfl
@[simp] theorem isBl_bl (a b : Bool) : isBlD b (.bl a) = (a == b) := rfl
@[simp] theorem in_tup (x : D) (xs : List D) : inD x (.tup xs) = inL x xs := by cases x <;> rfl
@[simp] theorem in_lst (x : D) (xs : List D) : inD x (.lst xs) = inL x xs := by cases x <;> rfl
@[simp] theorem b_add (a b : Int) : binD .add (.int a) (.int b) = some (.int (a + b)) := rfl
@[simp] theorem b_sub (a b : Int) : binD .sub (.int a) (.int b) = some (.int (a - b)) := rfl
theorem b_mul {a b : Int} (h : (okI a || okI b) = true) : binD .mul (.int a) (.int b) = some (.int (a * b)) := if_pos h
theorem b_mod {a b : Int} (h : b ≠ 0) : binD .mod (.int a) (.int b) = some (.int (a.fmod b)) := if_pos h
theorem b_div {a b : Int} (h : b ≠ 0) (h2 : b.natAbs < 1073741824) : binD .fdiv (.int a) (.int b) = some (.int (a.fdiv b)) := if_pos ⟨h, h2⟩
theorem b_adds {a b : Str} (h : a.length + b.length ≤ 16777216) : binD .add (.str a) (.str b) = some (.str (a ++ b)) := if_pos h
theorem b_addl {a b : List D} (h : a.length + b.length ≤ 16777216) : binD .add (.lst a) (.lst b) = some (.lst (a ++ b)) := if_pos h
@[simp] theorem i_tup (xs : List D) (i : Int) : idxD (.tup xs) (.int i) = L2.atI xs i := rfl
@[simp] theorem i_lst (xs : List D) (i : Int) : idxD (.lst xs) (.int i) = L2.atI xs i := rfl
@[simp] theorem i_scr (xs : List Int) (i : Int) : idxD (.scr xs) (.int i) = (L2.atI xs i).map .int := rfl
@[simp] theorem fl_non  : D.flat .non = true := rfl
@[simp] theorem fl_bl (b : Bool) : D.flat (.bl b) = true := rfl
@[simp] theorem fl_int (i : Int) : D.flat (.int i) = true := rfl
@[simp] theorem fl_str (s : Str) : D.flat (.str s) = true := rfl
@[simp] theorem fl_tup (xs : List D) : D.flat (.tup xs) = false := rfl
@[simp] theorem fl_lst (xs : List D) : D.flat (.lst xs) = false := rfl
@[simp] theorem fl_exn (c : Str) (v : D) : D.flat (.exn c v) = false := rfl
@[simp] theorem fl_scr (ns : List Int) : D.flat (.scr ns) = false := rfl
@[simp] theorem rd_non (r : EvO.Env) (x : D) : rd r (.d x) = some x := rfl
@[simp] theorem fz_d (r : EvO.Env) (x : D) : fz r (.d x) = some (x, r) := rfl
@[simp] theorem rev_lst (xs : List D) : revD (.lst xs) = some (.lst xs.reverse) := rfl
@[simp] theorem sl_tup (xs : List D) (lo hi : Option Int) : slcD (.tup xs) lo hi = some (.tup (cutD xs lo hi)) := rfl
@[simp] theorem sl_lst (xs : List D) (lo hi : Option Int) : slcD (.lst xs) lo hi = some (.lst (cutD xs lo hi)) := rfl
@[simp] theorem sl_scr (xs : List Int) (lo hi : Option Int) : slcD (.scr xs) lo hi = some (.lst ((cutD xs lo hi).map .int)) := rfl
@[simp] theorem it_tup (xs : List D) : D.items (.tup xs) = some xs := rfl
@[simp] theorem it_lst (xs : List D) : D.items (.lst xs) = some xs := rfl
@[simp] theorem big_val : big = 16777216 := rfl
end Ev
end K82

set_option Elab.async false
set_option linter.all false
set_option maxRecDepth 100000
namespace K82
open PySem PySem.Spec EvO
def isTuple (v : D) (a b : Int) : Bool := match v with
  | .tup xs => decide (a ≤ xs.length) && decide ((xs.length : Int) ≤ b)
  | _ => false
def isWhole : D → Bool
  | .int _ => true
  | _ => false
def isIn (v : D) (a b : Int) : Bool := match v with
  | .int i => decide (a ≤ i) && decide (i ≤ b)
  | _ => false
theorem s_is_tuple (v : D) (a b : Int) : sg_is_tuple.run [v, .int a, .int b] = .ok (.bl (isTuple v a b)) := by
  cases v <;> simp [sg_is_tuple, N_is_tuple, runD, envD, outD, b_is_tuple, evSs, evS, evE, evEs, truth, isTuple, ofO]
  rename_i xs
  by_cases h1 : a ≤ xs.length <;> simp [h1]
theorem s_is_whole (v : D) : sg_is_whole.run [v] = .ok (.bl (isWhole v)) := by
  cases v <;> rfl
theorem s_is_integer (v : D) (a b : Int) : sg_is_integer.run [v, .int a, .int b] = .ok (.bl (isIn v a b)) := by
  cases v <;> simp [sg_is_integer, runD, envD, outD, b_is_integer, evSs, evS, evE, evEs, fzs, truth, isIn, ofO, s_is_whole, isWhole]
  rename_i i
  by_cases h1 : a ≤ i <;> simp [h1]
theorem s_is_rising (x : D) : sg_is_rising.run [.tup [x]] = .ok (.bl true) := by rfl
/-- a drawn building -/
def bd (f c r : Int) : D := .tup [.int f, .int c, .int r, .tup [.tup [.int 0, .int 1]]]
structure Bd (f c r : Int) : Prop where
  f1 : 2 ≤ f
  f2 : f ≤ 5
  c1 : 1 ≤ c
  c2 : c ≤ 3
  r1 : 1 ≤ r
  r2 : r ≤ 3
theorem s_is_trip {f : Int} (h : 2 ≤ f) : sg_is_trip.run [.tup [.int 0, .int 1], .int f] = .ok (.bl true) := by
  have h1 : isIn (.int 0) 0 (f - 1) = true := by simp [isIn]; omega
  have h2 : isIn (.int 1) 0 (f - 1) = true := by simp [isIn]; omega
  simp [sg_is_trip, runD, envD, outD, b_is_trip, evSs, evS, evE, evEs, evI, evTs, ev_comp, turnC, loopC, wipeE, stT, setS, fzs, truth, ofO, s_is_tuple, isTuple, s_is_integer, h1, h2, blsD, L2.atI, L2.ixN, Out.nox]
theorem s_is_building {f c r : Int} (h : Bd f c r) : sg_is_building.run [bd f c r] = .ok (.bl true) := by
  obtain ⟨h1, h2, h3, h4, h5, h6⟩ := h
  have e1 : isIn (.int f) 2 8 = true := by simp [isIn]; omega
  have e2 : isIn (.int c) 1 3 = true := by simp [isIn]; omega
  have e3 : isIn (.int r) 1 4 = true := by simp [isIn]; omega
  simp [bd, sg_is_building, runD, envD, outD, b_is_building, evSs, evS, evE, evEs, evI, evTs, ev_comp, turnC, loopC, wipeE, stT, stTs, setS, fzs, truth, ofO, s_is_tuple, isTuple, s_is_integer, e1, e2, e3, blsD, L2.atI, L2.ixN, Out.nox, s_is_trip h1, s_is_rising, Tgs.length]
theorem s_check {f c r : Int} (h : Bd f c r) : sg_check_building.run [bd f c r] = .ok .non := by
  simp [sg_check_building, runD, envD, outD, b_check_building, evSs, evS, evE, evEs, fzs, truth, s_is_building h]
end K82

set_option Elab.async false
set_option linter.all false
set_option maxRecDepth 100000
namespace K82
open PySem PySem.Spec EvO
namespace Ev
@[simp] theorem w_lit_stands : (("lit" : Str) = "stands") = False := eq_false (by decide +kernel)
@[simp] theorem v_lit_stands : (("lit" : Str) == "stands") = false := by decide +kernel
@[simp] theorem w_lit_wished : (("lit" : Str) = "wished") = False := eq_false (by decide +kernel)
@[simp] theorem v_lit_wished : (("lit" : Str) == "wished") = false := by decide +kernel
@[simp] theorem w_lit_at : (("lit" : Str) = "at") = False := eq_false (by decide +kernel)
@[simp] theorem v_lit_at : (("lit" : Str) == "at") = false := by decide +kernel
@[simp] theorem w_lit_load : (("lit" : Str) = "load") = False := eq_false (by decide +kernel)
@[simp] theorem v_lit_load : (("lit" : Str) == "load") = false := by decide +kernel
@[simp] theorem w_lit_heading : (("lit" : Str) = "heading") = False := eq_false (by decide +kernel)
@[simp] theorem v_lit_heading : (("lit" : Str) == "heading") = false := by decide +kernel
@[simp] theorem w_lit_not : (("lit" : Str) = "not") = False := eq_false (by decide +kernel)
@[simp] theorem v_lit_not : (("lit" : Str) == "not") = false := by decide +kernel
@[simp] theorem w_lit_and : (("lit" : Str) = "and") = False := eq_false (by decide +kernel)
@[simp] theorem v_lit_and : (("lit" : Str) == "and") = false := by decide +kernel
@[simp] theorem w_lit_or : (("lit" : Str) = "or") = False := eq_false (by decide +kernel)
@[simp] theorem v_lit_or : (("lit" : Str) == "or") = false := by decide +kernel
@[simp] theorem w_lit_none : (("lit" : Str) = "none") = False := eq_false (by decide +kernel)
@[simp] theorem v_lit_none : (("lit" : Str) == "none") = false := by decide +kernel
@[simp] theorem w_lit_up : (("lit" : Str) = "up") = False := eq_false (by decide +kernel)
@[simp] theorem v_lit_up : (("lit" : Str) == "up") = false := by decide +kernel
@[simp] theorem w_lit_down : (("lit" : Str) = "down") = False := eq_false (by decide +kernel)
@[simp] theorem v_lit_down : (("lit" : Str) == "down") = false := by decide +kernel
@[simp] theorem w_stands_lit : (("stands" : Str) = "lit") = False := eq_false (by decide +kernel)
@[simp] theorem v_stands_lit : (("stands" : Str) == "lit") = false := by decide +kernel
@[simp] theorem w_stands_wished : (("stands" : Str) = "wished") = False := eq_false (by decide +kernel)
@[simp] theorem v_stands_wished : (("stands" : Str) == "wished") = false := by decide +kernel
@[simp] theorem w_stands_at : (("stands" : Str) = "at") = False := eq_false (by decide +kernel)
@[simp] theorem v_stands_at : (("stands" : Str) == "at") = false := by decide +kernel
@[simp] theorem w_stands_load : (("stands" : Str) = "load") = False := eq_false (by decide +kernel)
@[simp] theorem v_stands_load : (("stands" : Str) == "load") = false := by decide +kernel
@[simp] theorem w_stands_heading : (("stands" : Str) = "heading") = False := eq_false (by decide +kernel)
@[simp] theorem v_stands_heading : (("stands" : Str) == "heading") = false := by decide +kernel
@[simp] theorem w_stands_not : (("stands" : Str) = "not") = False := eq_false (by decide +kernel)
@[simp] theorem v_stands_not : (("stands" : Str) == "not") = false := by decide +kernel
@[simp] theorem w_stands_and : (("stands" : Str) = "and") = False := eq_false (by decide +kernel)
@[simp] theorem v_stands_and : (("stands" : Str) == "and") = false := by decide +kernel
@[simp] theorem w_stands_or : (("stands" : Str) = "or") = False := eq_false (by decide +kernel)
@[simp] theorem v_stands_or : (("stands" : Str) == "or") = false := by decide +kernel
@[simp] theorem w_stands_none : (("stands" : Str) = "none") = False := eq_false (by decide +kernel)
@[simp] theorem v_stands_none : (("stands" : Str) == "none") = false := by decide +kernel
@[simp] theorem w_stands_up : (("stands" : Str) = "up") = False := eq_false (by decide +kernel)
@[simp] theorem v_stands_up : (("stands" : Str) == "up") = false := by decide +kernel
@[simp] theorem w_stands_down : (("stands" : Str) = "down") = False := eq_false (by decide +kernel)
@[simp] theorem v_stands_down : (("stands" : Str) == "down") = false := by decide +kernel
@[simp] theorem w_wished_lit : (("wished" : Str) = "lit") = False := eq_false (by decide +kernel)
@[simp] theorem v_wished_lit : (("wished" : Str) == "lit") = false := by decide +kernel
@[simp] theorem w_wished_stands : (("wished" : Str) = "stands") = False := eq_false (by decide +kernel)
@[simp] theorem v_wished_stands : (("wished" : Str) == "stands") = false := by decide +kernel
@[simp] theorem w_wished_at : (("wished" : Str) = "at") = False := eq_false (by decide +kernel)
@[simp] theorem v_wished_at : (("wished" : Str) == "at") = false := by decide +kernel
@[simp] theorem w_wished_load : (("wished" : Str) = "load") = False := eq_false (by decide +kernel)
@[simp] theorem v_wished_load : (("wished" : Str) == "load") = false := by decide +kernel
@[simp] theorem w_wished_heading : (("wished" : Str) = "heading") = False := eq_false (by decide +kernel)
@[simp] theorem v_wished_heading : (("wished" : Str) == "heading") = false := by decide +kernel
@[simp] theorem w_wished_not : (("wished" : Str) = "not") = False := eq_false (by decide +kernel)
@[simp] theorem v_wished_not : (("wished" : Str) == "not") = false := by decide +kernel
@[simp] theorem w_wished_and : (("wished" : Str) = "and") = False := eq_false (by decide +kernel)
@[simp] theorem v_wished_and : (("wished" : Str) == "and") = false := by decide +kernel
@[simp] theorem w_wished_or : (("wished" : Str) = "or") = False := eq_false (by decide +kernel)
@[simp] theorem v_wished_or : (("wished" : Str) == "or") = false := by decide +kernel
@[simp] theorem w_wished_none : (("wished" : Str) = "none") = False := eq_false (by decide +kernel)
@[simp] theorem v_wished_none : (("wished" : Str) == "none") = false := by decide +kernel
@[simp] theorem w_wished_up : (("wished" : Str) = "up") = False := eq_false (by decide +kernel)
@[simp] theorem v_wished_up : (("wished" : Str) == "up") = false := by decide +kernel
@[simp] theorem w_wished_down : (("wished" : Str) = "down") = False := eq_false (by decide +kernel)
@[simp] theorem v_wished_down : (("wished" : Str) == "down") = false := by decide +kernel
@[simp] theorem w_at_lit : (("at" : Str) = "lit") = False := eq_false (by decide +kernel)
@[simp] theorem v_at_lit : (("at" : Str) == "lit") = false := by decide +kernel
@[simp] theorem w_at_stands : (("at" : Str) = "stands") = False := eq_false (by decide +kernel)
@[simp] theorem v_at_stands : (("at" : Str) == "stands") = false := by decide +kernel
@[simp] theorem w_at_wished : (("at" : Str) = "wished") = False := eq_false (by decide +kernel)
@[simp] theorem v_at_wished : (("at" : Str) == "wished") = false := by decide +kernel
@[simp] theorem w_at_load : (("at" : Str) = "load") = False := eq_false (by decide +kernel)
@[simp] theorem v_at_load : (("at" : Str) == "load") = false := by decide +kernel
@[simp] theorem w_at_heading : (("at" : Str) = "heading") = False := eq_false (by decide +kernel)
@[simp] theorem v_at_heading : (("at" : Str) == "heading") = false := by decide +kernel
@[simp] theorem w_at_not : (("at" : Str) = "not") = False := eq_false (by decide +kernel)
@[simp] theorem v_at_not : (("at" : Str) == "not") = false := by decide +kernel
@[simp] theorem w_at_and : (("at" : Str) = "and") = False := eq_false (by decide +kernel)
@[simp] theorem v_at_and : (("at" : Str) == "and") = false := by decide +kernel
@[simp] theorem w_at_or : (("at" : Str) = "or") = False := eq_false (by decide +kernel)
@[simp] theorem v_at_or : (("at" : Str) == "or") = false := by decide +kernel
@[simp] theorem w_at_none : (("at" : Str) = "none") = False := eq_false (by decide +kernel)
@[simp] theorem v_at_none : (("at" : Str) == "none") = false := by decide +kernel
@[simp] theorem w_at_up : (("at" : Str) = "up") = False := eq_false (by decide +kernel)
@[simp] theorem v_at_up : (("at" : Str) == "up") = false := by decide +kernel
@[simp] theorem w_at_down : (("at" : Str) = "down") = False := eq_false (by decide +kernel)
@[simp] theorem v_at_down : (("at" : Str) == "down") = false := by decide +kernel
@[simp] theorem w_load_lit : (("load" : Str) = "lit") = False := eq_false (by decide +kernel)
@[simp] theorem v_load_lit : (("load" : Str) == "lit") = false := by decide +kernel
@[simp] theorem w_load_stands : (("load" : Str) = "stands") = False := eq_false (by decide +kernel)
@[simp] theorem v_load_stands : (("load" : Str) == "stands") = false := by decide +kernel
@[simp] theorem w_load_wished : (("load" : Str) = "wished") = False := eq_false (by decide +kernel)
@[simp] theorem v_load_wished : (("load" : Str) == "wished") = false := by decide +kernel
@[simp] theorem w_load_at : (("load" : Str) = "at") = False := eq_false (by decide +kernel)
@[simp] theorem v_load_at : (("load" : Str) == "at") = false := by decide +kernel
@[simp] theorem w_load_heading : (("load" : Str) = "heading") = False := eq_false (by decide +kernel)
@[simp] theorem v_load_heading : (("load" : Str) == "heading") = false := by decide +kernel
@[simp] theorem w_load_not : (("load" : Str) = "not") = False := eq_false (by decide +kernel)
@[simp] theorem v_load_not : (("load" : Str) == "not") = false := by decide +kernel
@[simp] theorem w_load_and : (("load" : Str) = "and") = False := eq_false (by decide +kernel)
@[simp] theorem v_load_and : (("load" : Str) == "and") = false := by decide +kernel
@[simp] theorem w_load_or : (("load" : Str) = "or") = False := eq_false (by decide +kernel)
@[simp] theorem v_load_or : (("load" : Str) == "or") = false := by decide +kernel
@[simp] theorem w_load_none : (("load" : Str) = "none") = False := eq_false (by decide +kernel)
@[simp] theorem v_load_none : (("load" : Str) == "none") = false := by decide +kernel
@[simp] theorem w_load_up : (("load" : Str) = "up") = False := eq_false (by decide +kernel)
@[simp] theorem v_load_up : (("load" : Str) == "up") = false := by decide +kernel
@[simp] theorem w_load_down : (("load" : Str) = "down") = False := eq_false (by decide +kernel)
@[simp] theorem v_load_down : (("load" : Str) == "down") = false := by decide +kernel
@[simp] theorem w_heading_lit : (("heading" : Str) = "lit") = False := eq_false (by decide +kernel)
@[simp] theorem v_heading_lit : (("heading" : Str) == "lit") = false := by decide +kernel
@[simp] theorem w_heading_stands : (("heading" : Str) = "stands") = False := eq_false (by decide +kernel)
@[simp] theorem v_heading_stands : (("heading" : Str) == "stands") = false := by decide +kernel
@[simp] theorem w_heading_wished : (("heading" : Str) = "wished") = False := eq_false (by decide +kernel)
@[simp] theorem v_heading_wished : (("heading" : Str) == "wished") = false := by decide +kernel
@[simp] theorem w_heading_at : (("heading" : Str) = "at") = False := eq_false (by decide +kernel)
@[simp] theorem v_heading_at : (("heading" : Str) == "at") = false := by decide +kernel
@[simp] theorem w_heading_load : (("heading" : Str) = "load") = False := eq_false (by decide +kernel)
@[simp] theorem v_heading_load : (("heading" : Str) == "load") = false := by decide +kernel
@[simp] theorem w_heading_not : (("heading" : Str) = "not") = False := eq_false (by decide +kernel)
@[simp] theorem v_heading_not : (("heading" : Str) == "not") = false := by decide +kernel
@[simp] theorem w_heading_and : (("heading" : Str) = "and") = False := eq_false (by decide +kernel)
@[simp] theorem v_heading_and : (("heading" : Str) == "and") = false := by decide +kernel
@[simp] theorem w_heading_or : (("heading" : Str) = "or") = False := eq_false (by decide +kernel)
@[simp] theorem v_heading_or : (("heading" : Str) == "or") = false := by decide +kernel
@[simp] theorem w_heading_none : (("heading" : Str) = "none") = False := eq_false (by decide +kernel)
@[simp] theorem v_heading_none : (("heading" : Str) == "none") = false := by decide +kernel
@[simp] theorem w_heading_up : (("heading" : Str) = "up") = False := eq_false (by decide +kernel)
@[simp] theorem v_heading_up : (("heading" : Str) == "up") = false := by decide +kernel
@[simp] theorem w_heading_down : (("heading" : Str) = "down") = False := eq_false (by decide +kernel)
@[simp] theorem v_heading_down : (("heading" : Str) == "down") = false := by decide +kernel
@[simp] theorem w_not_lit : (("not" : Str) = "lit") = False := eq_false (by decide +kernel)
@[simp] theorem v_not_lit : (("not" : Str) == "lit") = false := by decide +kernel
@[simp] theorem w_not_stands : (("not" : Str) = "stands") = False := eq_false (by decide +kernel)
@[simp] theorem v_not_stands : (("not" : Str) == "stands") = false := by decide +kernel
@[simp] theorem w_not_wished : (("not" : Str) = "wished") = False := eq_false (by decide +kernel)
@[simp] theorem v_not_wished : (("not" : Str) == "wished") = false := by decide +kernel
@[simp] theorem w_not_at : (("not" : Str) = "at") = False := eq_false (by decide +kernel)
@[simp] theorem v_not_at : (("not" : Str) == "at") = false := by decide +kernel
@[simp] theorem w_not_load : (("not" : Str) = "load") = False := eq_false (by decide +kernel)
@[simp] theorem v_not_load : (("not" : Str) == "load") = false := by decide +kernel
@[simp] theorem w_not_heading : (("not" : Str) = "heading") = False := eq_false (by decide +kernel)
@[simp] theorem v_not_heading : (("not" : Str) == "heading") = false := by decide +kernel
@[simp] theorem w_not_and : (("not" : Str) = "and") = False := eq_false (by decide +kernel)
@[simp] theorem v_not_and : (("not" : Str) == "and") = false := by decide +kernel
@[simp] theorem w_not_or : (("not" : Str) = "or") = False := eq_false (by decide +kernel)
@[simp] theorem v_not_or : (("not" : Str) == "or") = false := by decide +kernel
@[simp] theorem w_not_none : (("not" : Str) = "none") = False := eq_false (by decide +kernel)
@[simp] theorem v_not_none : (("not" : Str) == "none") = false := by decide +kernel
@[simp] theorem w_not_up : (("not" : Str) = "up") = False := eq_false (by decide +kernel)
@[simp] theorem v_not_up : (("not" : Str) == "up") = false := by decide +kernel
@[simp] theorem w_not_down : (("not" : Str) = "down") = False := eq_false (by decide +kernel)
@[simp] theorem v_not_down : (("not" : Str) == "down") = false := by decide +kernel
@[simp] theorem w_and_lit : (("and" : Str) = "lit") = False := eq_false (by decide +kernel)
@[simp] theorem v_and_lit : (("and" : Str) == "lit") = false := by decide +kernel
@[simp] theorem w_and_stands : (("and" : Str) = "stands") = False := eq_false (by decide +kernel)
@[simp] theorem v_and_stands : (("and" : Str) == "stands") = false := by decide +kernel
@[simp] theorem w_and_wished : (("and" : Str) = "wished") = False := eq_false (by decide +kernel)
@[simp] theorem v_and_wished : (("and" : Str) == "wished") = false := by decide +kernel
@[simp] theorem w_and_at : (("and" : Str) = "at") = False := eq_false (by decide +kernel)
@[simp] theorem v_and_at : (("and" : Str) == "at") = false := by decide +kernel
@[simp] theorem w_and_load : (("and" : Str) = "load") = False := eq_false (by decide +kernel)
@[simp] theorem v_and_load : (("and" : Str) == "load") = false := by decide +kernel
@[simp] theorem w_and_heading : (("and" : Str) = "heading") = False := eq_false (by decide +kernel)
@[simp] theorem v_and_heading : (("and" : Str) == "heading") = false := by decide +kernel
@[simp] theorem w_and_not : (("and" : Str) = "not") = False := eq_false (by decide +kernel)
@[simp] theorem v_and_not : (("and" : Str) == "not") = false := by decide +kernel
@[simp] theorem w_and_or : (("and" : Str) = "or") = False := eq_false (by decide +kernel)
@[simp] theorem v_and_or : (("and" : Str) == "or") = false := by decide +kernel
@[simp] theorem w_and_none : (("and" : Str) = "none") = False := eq_false (by decide +kernel)
@[simp] theorem v_and_none : (("and" : Str) == "none") = false := by decide +kernel
@[simp] theorem w_and_up : (("and" : Str) = "up") = False := eq_false (by decide +kernel)
@[simp] theorem v_and_up : (("and" : Str) == "up") = false := by decide +kernel
@[simp] theorem w_and_down : (("and" : Str) = "down") = False := eq_false (by decide +kernel)
@[simp] theorem v_and_down : (("and" : Str) == "down") = false := by decide +kernel
@[simp] theorem w_or_lit : (("or" : Str) = "lit") = False := eq_false (by decide +kernel)
@[simp] theorem v_or_lit : (("or" : Str) == "lit") = false := by decide +kernel
@[simp] theorem w_or_stands : (("or" : Str) = "stands") = False := eq_false (by decide +kernel)
@[simp] theorem v_or_stands : (("or" : Str) == "stands") = false := by decide +kernel
@[simp] theorem w_or_wished : (("or" : Str) = "wished") = False := eq_false (by decide +kernel)
@[simp] theorem v_or_wished : (("or" : Str) == "wished") = false := by decide +kernel
@[simp] theorem w_or_at : (("or" : Str) = "at") = False := eq_false (by decide +kernel)
@[simp] theorem v_or_at : (("or" : Str) == "at") = false := by decide +kernel
@[simp] theorem w_or_load : (("or" : Str) = "load") = False := eq_false (by decide +kernel)
@[simp] theorem v_or_load : (("or" : Str) == "load") = false := by decide +kernel
@[simp] theorem w_or_heading : (("or" : Str) = "heading") = False := eq_false (by decide +kernel)
@[simp] theorem v_or_heading : (("or" : Str) == "heading") = false := by decide +kernel
@[simp] theorem w_or_not : (("or" : Str) = "not") = False := eq_false (by decide +kernel)
@[simp] theorem v_or_not : (("or" : Str) == "not") = false := by decide +kernel
@[simp] theorem w_or_and : (("or" : Str) = "and") = False := eq_false (by decide +kernel)
@[simp] theorem v_or_and : (("or" : Str) == "and") = false := by decide +kernel
@[simp] theorem w_or_none : (("or" : Str) = "none") = False := eq_false (by decide +kernel)
@[simp] theorem v_or_none : (("or" : Str) == "none") = false := by decide +kernel
@[simp] theorem w_or_up : (("or" : Str) = "up") = False := eq_false (by decide +kernel)
@[simp] theorem v_or_up : (("or" : Str) == "up") = false := by decide +kernel
@[simp] theorem w_or_down : (("or" : Str) = "down") = False := eq_false (by decide +kernel)
@[simp] theorem v_or_down : (("or" : Str) == "down") = false := by decide +kernel
@[simp] theorem w_none_lit : (("none" : Str) = "lit") = False := eq_false (by decide +kernel)
@[simp] theorem v_none_lit : (("none" : Str) == "lit") = false := by decide +kernel
@[simp] theorem w_none_stands : (("none" : Str) = "stands") = False := eq_false (by decide +kernel)
@[simp] theorem v_none_stands : (("none" : Str) == "stands") = false := by decide +kernel
@[simp] theorem w_none_wished : (("none" : Str) = "wished") = False := eq_false (by decide +kernel)
@[simp] theorem v_none_wished : (("none" : Str) == "wished") = false := by decide +kernel
@[simp] theorem w_none_at : (("none" : Str) = "at") = False := eq_false (by decide +kernel)
@[simp] theorem v_none_at : (("none" : Str) == "at") = false := by decide +kernel
@[simp] theorem w_none_load : (("none" : Str) = "load") = False := eq_false (by decide +kernel)
@[simp] theorem v_none_load : (("none" : Str) == "load") = false := by decide +kernel
@[simp] theorem w_none_heading : (("none" : Str) = "heading") = False := eq_false (by decide +kernel)
@[simp] theorem v_none_heading : (("none" : Str) == "heading") = false := by decide +kernel
@[simp] theorem w_none_not : (("none" : Str) = "not") = False := eq_false (by decide +kernel)
@[simp] theorem v_none_not : (("none" : Str) == "not") = false := by decide +kernel
@[simp] theorem w_none_and : (("none" : Str) = "and") = False := eq_false (by decide +kernel)
@[simp] theorem v_none_and : (("none" : Str) == "and") = false := by decide +kernel
@[simp] theorem w_none_or : (("none" : Str) = "or") = False := eq_false (by decide +kernel)
@[simp] theorem v_none_or : (("none" : Str) == "or") = false := by decide +kernel
@[simp] theorem w_none_up : (("none" : Str) = "up") = False := eq_false (by decide +kernel)
@[simp] theorem v_none_up : (("none" : Str) == "up") = false := by decide +kernel
@[simp] theorem w_none_down : (("none" : Str) = "down") = False := eq_false (by decide +kernel)
@[simp] theorem v_none_down : (("none" : Str) == "down") = false := by decide +kernel
@[simp] theorem w_up_lit : (("up" : Str) = "lit") = False := eq_false (by decide +kernel)
@[simp] theorem v_up_lit : (("up" : Str) == "lit") = false := by decide +kernel
@[simp] theorem w_up_stands : (("up" : Str) = "stands") = False := eq_false (by decide +kernel)
@[simp] theorem v_up_stands : (("up" : Str) == "stands") = false := by decide +kernel
@[simp] theorem w_up_wished : (("up" : Str) = "wished") = False := eq_false (by decide +kernel)
@[simp] theorem v_up_wished : (("up" : Str) == "wished") = false := by decide +kernel
@[simp] theorem w_up_at : (("up" : Str) = "at") = False := eq_false (by decide +kernel)
@[simp] theorem v_up_at : (("up" : Str) == "at") = false := by decide +kernel
@[simp] theorem w_up_load : (("up" : Str) = "load") = False := eq_false (by decide +kernel)
@[simp] theorem v_up_load : (("up" : Str) == "load") = false := by decide +kernel
@[simp] theorem w_up_heading : (("up" : Str) = "heading") = False := eq_false (by decide +kernel)
@[simp] theorem v_up_heading : (("up" : Str) == "heading") = false := by decide +kernel
@[simp] theorem w_up_not : (("up" : Str) = "not") = False := eq_false (by decide +kernel)
@[simp] theorem v_up_not : (("up" : Str) == "not") = false := by decide +kernel
@[simp] theorem w_up_and : (("up" : Str) = "and") = False := eq_false (by decide +kernel)
@[simp] theorem v_up_and : (("up" : Str) == "and") = false := by decide +kernel
@[simp] theorem w_up_or : (("up" : Str) = "or") = False := eq_false (by decide +kernel)
@[simp] theorem v_up_or : (("up" : Str) == "or") = false := by decide +kernel
@[simp] theorem w_up_none : (("up" : Str) = "none") = False := eq_false (by decide +kernel)
@[simp] theorem v_up_none : (("up" : Str) == "none") = false := by decide +kernel
@[simp] theorem w_up_down : (("up" : Str) = "down") = False := eq_false (by decide +kernel)
@[simp] theorem v_up_down : (("up" : Str) == "down") = false := by decide +kernel
@[simp] theorem w_down_lit : (("down" : Str) = "lit") = False := eq_false (by decide +kernel)
@[simp] theorem v_down_lit : (("down" : Str) == "lit") = false := by decide +kernel
@[simp] theorem w_down_stands : (("down" : Str) = "stands") = False := eq_false (by decide +kernel)
@[simp] theorem v_down_stands : (("down" : Str) == "stands") = false := by decide +kernel
@[simp] theorem w_down_wished : (("down" : Str) = "wished") = False := eq_false (by decide +kernel)
@[simp] theorem v_down_wished : (("down" : Str) == "wished") = false := by decide +kernel
@[simp] theorem w_down_at : (("down" : Str) = "at") = False := eq_false (by decide +kernel)
@[simp] theorem v_down_at : (("down" : Str) == "at") = false := by decide +kernel
@[simp] theorem w_down_load : (("down" : Str) = "load") = False := eq_false (by decide +kernel)
@[simp] theorem v_down_load : (("down" : Str) == "load") = false := by decide +kernel
@[simp] theorem w_down_heading : (("down" : Str) = "heading") = False := eq_false (by decide +kernel)
@[simp] theorem v_down_heading : (("down" : Str) == "heading") = false := by decide +kernel
@[simp] theorem w_down_not : (("down" : Str) = "not") = False := eq_false (by decide +kernel)
@[simp] theorem v_down_not : (("down" : Str) == "not") = false := by decide +kernel
@[simp] theorem w_down_and : (("down" : Str) = "and") = False := eq_false (by decide +kernel)
@[simp] theorem v_down_and : (("down" : Str) == "and") = false := by decide +kernel
@[simp] theorem w_down_or : (("down" : Str) = "or") = False := eq_false (by decide +kernel)
@[simp] theorem v_down_or : (("down" : Str) == "or") = false := by decide +kernel
@[simp] theorem w_down_none : (("down" : Str) = "none") = False := eq_false (by decide +kernel)
@[simp] theorem v_down_none : (("down" : Str) == "none") = false := by decide +kernel
@[simp] theorem w_down_up : (("down" : Str) = "up") = False := eq_false (by decide +kernel)
@[simp] theorem v_down_up : (("down" : Str) == "up") = false := by decide +kernel
@[simp] theorem fe_str (a b : Str) : flatEq (.str a) (.str b) = (a == b) := rfl
end Ev
end K82

set_option Elab.async false
set_option linter.all false
set_option maxRecDepth 100000
namespace K82
open PySem PySem.Spec EvO
inductive Q where
  | leaf (w : Str) (n : Option Int) | two (w : Str) (a b : Option Int) | hd (a : Option Int) (h : Str) | not (x : Q) | bin (w : Str) (x y : Q)
def nD : Option Int → D
  | none => .non
  | some i => .int i
def Q.d : Q → D
  | .leaf w n => .tup [.str w, nD n]
  | .two w a b => .tup [.str w, nD a, nD b]
  | .hd a h => .tup [.str "heading", nD a, .str h]
  | .not x => .tup [.str "not", x.d]
  | .bin w x y => .tup [.str w, x.d, y.d]
/-- well formed -/
def Q.wf : Q → Prop
  | .leaf w _ => w = "lit" ∨ w = "stands" ∨ w = "wished"
  | .two w _ _ => w = "at" ∨ w = "load"
  | .hd _ h => PyData.strOk h = true
  | .not x => x.wf
  | .bin w x y => (w = "and" ∨ w = "or") ∧ x.wf ∧ y.wf
def inO (n : Option Int) (a b : Int) : Bool := match n with
  | some i => decide (a ≤ i) && decide (i ≤ b)
  | none => false
theorem isIn_nD (n : Option Int) (a b : Int) : isIn (nD n) a b = inO n a b := by cases n <;> rfl
def isHead (h : Str) : Bool := ("none" : Str) == h || (("up" : Str) == h || ("down" : Str) == h)
/-- all leaves are asks of the building -/
def Q.ok (f c r : Int) : Q → Bool
  | .leaf _ n => inO n 0 (f - 1)
  | .two w a b => inO a 0 (c - 1) && (if w = "at" then inO b 0 (f - 1) else inO b 1 r)
  | .hd a h => inO a 0 (c - 1) && isHead h
  | .not x => x.ok f c r
  | .bin _ x y => x.ok f c r && y.ok f c r
def Q.size : Q → Nat
  | .leaf .. | .two .. | .hd .. => 1
  | .not x => x.size + 1
  | .bin _ x y => x.size + y.size + 1
@[simp] theorem flat_nD (n : Option Int) : (nD n).flat = true := by cases n <;> rfl
theorem plain_leaf {f c r : Int} {w : Str} {n : Option Int} (h : (Q.leaf w n).wf) : sg_is_plain.run [bd f c r, (Q.leaf w n).d] = .ok (.bl ((Q.leaf w n).ok f c r)) := by
  rcases h with rfl | rfl | rfl <;>
    simp [Q.d, bd, sg_is_plain, runD, envD, outD, b_is_plain, evSs, evS, evE, evEs, evO, asInt, stT, stTs, setS, fzs, truth, ofO, s_is_integer, isIn_nD, L2.atI, L2.ixN, Tgs.length, cutD, HT.sIx, inL, Q.ok]
theorem plain_two {f c r : Int} {w : Str} {a b : Option Int} (h : (Q.two w a b).wf) : sg_is_plain.run [bd f c r, (Q.two w a b).d] = .ok (.bl ((Q.two w a b).ok f c r)) := by
  rcases h with rfl | rfl <;> cases h1 : inO a 0 (c - 1) <;>
    simp [Q.d, bd, sg_is_plain, runD, envD, outD, b_is_plain, evSs, evS, evE, evEs, evO, asInt, stT, stTs, setS, fzs, truth, ofO, s_is_integer, isIn_nD, L2.atI, L2.ixN, Tgs.length, cutD, HT.sIx, inL, Q.ok, h1]
theorem plain_hd {f c r : Int} {a : Option Int} {h : Str} : sg_is_plain.run [bd f c r, (Q.hd a h).d] = .ok (.bl ((Q.hd a h).ok f c r)) := by
  cases h1 : inO a 0 (c - 1) <;>
    simp [Q.d, bd, sg_is_plain, runD, envD, outD, b_is_plain, evSs, evS, evE, evEs, evO, asInt, stT, stTs, setS, fzs, truth, ofO, s_is_integer, isIn_nD, L2.atI, L2.ixN, Tgs.length, cutD, HT.sIx, inL, Q.ok, h1, isHead]

theorem canAll_append (a b : List PyData) : PyData.canLayAll0 (a ++ b) = (PyData.canLayAll0 a && PyData.canLayAll0 b) := by
  induction a with
  | nil => rfl
  | cons x a ih =>
    show (PyData.canLay0 x && PyData.canLayAll0 (a ++ b)) = (PyData.canLay0 x && PyData.canLayAll0 a && PyData.canLayAll0 b)
    rw [ih, Bool.and_assoc]
theorem ok_words : PyData.strOk "lit" = true ∧ PyData.strOk "stands" = true ∧ PyData.strOk "wished" = true ∧ PyData.strOk "at" = true ∧ PyData.strOk "load" = true ∧ PyData.strOk "heading" = true ∧ PyData.strOk "not" = true ∧ PyData.strOk "and" = true ∧ PyData.strOk "or" = true ∧ PyData.strOk "none" = true ∧ PyData.strOk "up" = true ∧ PyData.strOk "down" = true := by decide +kernel
theorem nD_py (n : Option Int) : ∃ p, D.py (nD n) = some p ∧ p.canLay0 = true := by
  cases n with
  | none => exact ⟨.none, rfl, rfl⟩
  | some i => exact ⟨.int i, rfl, rfl⟩
theorem Q.py : ∀ q : Q, q.wf → ∃ p, D.py q.d = some p ∧ p.canLay0 = true
  | .leaf w n, h => by
    obtain ⟨p, h1, h2⟩ := nD_py n
    have hw : PyData.strOk w = true := by rcases h with rfl | rfl | rfl <;> simp [ok_words]
    exact ⟨.tuple [.str w, p], by simp [Q.d, D.py, D.pys, h1], by simp [PyData.canLay0, PyData.canLayAll0, hw, h2]⟩
  | .two w a b, h => by
    obtain ⟨p, h1, h2⟩ := nD_py a
    obtain ⟨p', h1', h2'⟩ := nD_py b
    have hw : PyData.strOk w = true := by rcases h with rfl | rfl <;> simp [ok_words]
    exact ⟨.tuple [.str w, p, p'], by simp [Q.d, D.py, D.pys, h1, h1'], by simp [PyData.canLay0, PyData.canLayAll0, hw, h2, h2']⟩
  | .hd a x, h => by
    obtain ⟨p, h1, h2⟩ := nD_py a
    have h : PyData.strOk x = true := h
    exact ⟨.tuple [.str "heading", p, .str x], by simp [Q.d, D.py, D.pys, h1], by simp [PyData.canLay0, PyData.canLayAll0, h2, h, ok_words]⟩
  | .not x, h => by
    obtain ⟨p, h1, h2⟩ := Q.py x h
    exact ⟨.tuple [.str "not", p], by simp [Q.d, D.py, D.pys, h1], by simp [PyData.canLay0, PyData.canLayAll0, h2, ok_words]⟩
  | .bin w x y, h => by
    obtain ⟨hw, hx, hy⟩ := h
    obtain ⟨p, h1, h2⟩ := Q.py x hx
    obtain ⟨p', h1', h2'⟩ := Q.py y hy
    have hw : PyData.strOk w = true := by rcases hw with rfl | rfl <;> simp [ok_words]
    exact ⟨.tuple [.str w, p, p'], by simp [Q.d, D.py, D.pys, h1, h1'], by simp [PyData.canLay0, PyData.canLayAll0, hw, h2, h2']⟩
theorem pys_of {α : Type} (f : α → D) (P : α → Prop) (hp : ∀ a, P a → ∃ p, D.py (f a) = some p ∧ p.canLay0 = true) : ∀ l : List α, (∀ a ∈ l, P a) → ∃ ps, D.pys (l.map f) = some ps ∧ PyData.canLayAll0 ps = true ∧ ps.length = l.length
  | [], _ => ⟨[], rfl, rfl, rfl⟩
  | a :: l, h => by
    obtain ⟨p, h1, h2⟩ := hp a (h a (by simp))
    obtain ⟨ps, h3, h4, h5⟩ := pys_of f P hp l fun b hb => h b (by simp [hb])
    exact ⟨p :: ps, by simp [D.pys, h1, h3], by simp [PyData.canLayAll0, h2, h4], by simp [h5]⟩
/-- l == [] -/
theorem eq_nil {α : Type} (f : α → D) (P : α → Prop) (hp : ∀ a, P a → ∃ p, D.py (f a) = some p ∧ p.canLay0 = true) (l : List α) (h : ∀ a ∈ l, P a) : eqD (.lst (l.map f)) (.lst []) = some l.isEmpty := by
  obtain ⟨ps, h1, h2, h3⟩ := pys_of f P hp l h
  have e : eqD (.lst (l.map f)) (.lst []) = eqP (.lst (l.map f)) (.lst []) := rfl
  rw [e]
  unfold eqP
  have hd : min (PyData.list ps).depth (PyData.list []).depth ≤ 64 := by
    have : (PyData.list []).depth = 1 := rfl
    rw [this]
    omega
  simp only [D.py, h1, D.pys, Option.map_some]
  have c1 : (PyData.list ps).canLay0 = true := h2
  have c2 : (PyData.list []).canLay0 = true := rfl
  simp only [c1, c2, hd, decide_true, Bool.and_self, if_true]
  cases l with
  | nil =>
    cases ps with
    | nil => rfl
    | cons _ _ => simp at h3
  | cons a l =>
    cases ps with
    | nil => simp at h3
    | cons _ _ => rfl
end K82

set_option Elab.async false
set_option linter.all false
set_option maxRecDepth 100000
namespace K82
open PySem PySem.Spec EvO
def askBody : Sms := (.cons (.par 4 3 (.pop 2) (.bin .add (.var 3) (.cst (.int 1)))) (.cons (.ifs (.or (.cmp .gt (.var 3) (.cst (.int 31))) (.or (.not (.call sg_is_tuple (.cons (.var 4) (.cons (.cst (.int 2)) (.cons (.cst (.int 3)) .nil))))) (.not (.prim .isStr (.cons (.idx (.var 4) (.cst (.int 0))) .nil))))) (.cons (.ret (.cst (.bl false))) .nil) .nil) (.cons (.ifs (.or (.and (.cmp .eq (.idx (.var 4) (.cst (.int 0))) (.cst (.str "not"))) (.cmp .eq (.prim .len (.cons (.var 4) .nil)) (.cst (.int 2)))) (.and (.cmp .isin (.idx (.var 4) (.cst (.int 0))) (.tup (.cons (.cst (.str "and")) (.cons (.cst (.str "or")) .nil)))) (.cmp .eq (.prim .len (.cons (.var 4) .nil)) (.cst (.int 3))))) (.cons (.ex (.ext 2 (.prim .list (.cons (.slc (.var 4) (.so (.cst (.int 1))) .no) .nil)))) .nil) (.cons (.ifs (.not (.call sg_is_plain (.cons (.var 0) (.cons (.var 4) .nil)))) (.cons (.ret (.cst (.bl false))) .nil) .nil) .nil)) .nil)))
def askCond : C := (.cmp .ne (.var 2) (.lst .nil))
def textBody (sg : Sig) : Sms := (.cons (.ex (.app 1 (.ite (.prim .isTup (.cons (.var 2) .nil)) (.call sg (.cons (.var 2) .nil)) (.prim .toStr (.cons (.var 2) .nil))))) .nil)
def wordsBody (sg : Sig) : Sms := (.cons (.ex (.ext 1 (.ite (.prim .isTup (.cons (.var 2) .nil)) (.call sg (.cons (.var 2) .nil)) (.lst (.cons (.prim .toStr (.cons (.var 2) .nil)) .nil))))) .nil)
def putBody : Sms := (.cons (.ifs (.and (.cmp .isin (.var 3) (.tup (.cons (.cst (.str "lit")) (.cons (.cst (.str "stands")) (.cons (.cst (.str "wished")) .nil))))) (.cmp .eq (.prim .len (.cons (.var 2) .nil)) (.cst (.int 1)))) (.cons (.ex (.app 1 (.tup (.cons (.var 3) (.cons (.call sg_number_of (.cons (.pop 2) .nil)) .nil))))) .nil) (.cons (.ifs (.and (.cmp .isin (.var 3) (.tup (.cons (.cst (.str "at")) (.cons (.cst (.str "load")) .nil)))) (.cmp .eq (.prim .len (.cons (.var 2) .nil)) (.cst (.int 2)))) (.cons (.ex (.app 1 (.tup (.cons (.var 3) (.cons (.call sg_number_of (.cons (.pop 2) .nil)) (.cons (.call sg_number_of (.cons (.pop 2) .nil)) .nil)))))) .nil) (.cons (.ifs (.and (.cmp .eq (.var 3) (.cst (.str "heading"))) (.cmp .eq (.prim .len (.cons (.var 2) .nil)) (.cst (.int 2)))) (.cons (.ex (.app 1 (.tup (.cons (.var 3) (.cons (.call sg_number_of (.cons (.pop 2) .nil)) (.cons (.pop 2) .nil)))))) .nil) (.cons (.ifs (.and (.cmp .eq (.var 3) (.cst (.str "not"))) (.and (.cmp .eq (.var 2) (.lst .nil)) (.cmp .ne (.var 1) (.lst .nil)))) (.cons (.ex (.app 1 (.tup (.cons (.var 3) (.cons (.pop 1) .nil))))) .nil) (.cons (.ifs (.and (.cmp .isin (.var 3) (.tup (.cons (.cst (.str "and")) (.cons (.cst (.str "or")) .nil)))) (.and (.cmp .eq (.var 2) (.lst .nil)) (.cmp .ge (.prim .len (.cons (.var 1) .nil)) (.cst (.int 2))))) (.cons (.ex (.app 1 (.tup (.cons (.var 3) (.cons (.pop 1) (.cons (.pop 1) .nil)))))) .nil) (.cons (.ifs (.or (.cmp .isnot (.call sg_number_of (.cons (.var 3) .nil)) (.cst .non)) (.cmp .isin (.var 3) (.cst (.tup [(.str "none"), (.str "up"), (.str "down")])))) (.cons (.ex (.app 2 (.var 3))) .nil) (.cons (.ret (.cst .non)) .nil)) .nil)) .nil)) .nil)) .nil)) .nil)) .nil)
-- right: ['Assign', 'Assign', 'If', 'Assign', 'If', 'For', 'Return']
def lapBody : Sms := (.cons (.set 5 (.callP sg_law_otherwise 0 (.cons (.var 3) .nil))) (.cons (.asg (.tup (.cons (.nm 6) (.cons (.nm 7) .nil))) (.heard (.call sg_read_ask (.cons (.var 1) (.cons (.var 5) .nil))))) (.cons (.ifs (.and (.cmp .isnot (.var 6) (.cst .non)) (.or (.not (.prim (.isExn "NoText") (.cons (.var 6) .nil))) (.cmp .ne (.prim .repr (.cons (.fld (.var 6)) .nil)) (.prim .repr (.cons (.var 5) .nil))))) (.cons (.ret (.cst (.bl false))) .nil) .nil) (.cons (.ifs (.and (.cmp .isnot (.var 6) (.cst .non)) (.cmp .eq (.var 5) (.var 3))) (.cons (.ret (.cst (.bl false))) .nil) .nil) (.cons (.ifs (.and (.cmp .is_ (.var 6) (.cst .non)) (.or (.cmp .isnot (.call sg_is_ask (.cons (.var 1) (.cons (.var 7) .nil))) (.cst (.bl true))) (.cmp .ne (.mth .join (.cst (.str " ")) (.call (sg_law_words 40) (.cons (.var 7) .nil))) (.var 5)))) (.cons (.ret (.cst (.bl false))) .nil) .nil) .nil)))))
theorem b_ask_eq : b_is_ask_of = .cons (.par 2 3 (.lst (.cons (.var 1) .nil)) (.cst (.int 0))) (.cons (.whl askCond askBody) (.cons (.ret (.cst (.bl true))) .nil)) := rfl
def allOk (f c r : Int) (L : List Q) : Bool := L.all (Q.ok f c r)
def sizes : List Q → Nat
  | [] => 0
  | q :: l => q.size + sizes l
theorem sizes_append (a b : List Q) : sizes (a ++ b) = sizes a + sizes b := by
  induction a with
  | nil => simp [sizes]
  | cons q a ih => simp [sizes, ih]; omega
theorem size_pos (q : Q) : 1 ≤ q.size := by cases q <;> simp [Q.size]
/-- the state of the loop -/
def askSt (v bd' : D) (L : List Q) (m : Int) (one : Slot) : EvO.Env := [.dat bd', .dat v, .own (L.map Q.d), .dat (.int m), one]
theorem ask_cond (v b : D) (L : List Q) (m : Int) (one : Slot) (h : ∀ q ∈ L, q.wf) : (evE askCond (askSt v b L m one)).bind truth = .ok (!L.isEmpty) (askSt v b L m one) := by
  have e := eq_nil Q.d Q.wf Q.py L h
  simp [askCond, askSt, evE, evEs, fzs, rd, e, ofO, truth]
theorem ask_step {f c r : Int} (v : D) (L : List Q) (q : Q) (m : Int) (one : Slot) (hone : one = .no ∨ ∃ x, one = .dat x) (hq : q.wf) (hm : ¬ (31 < m + 1)) (hl : L.length ≤ 100) : evSs 100 askBody (askSt v (bd f c r) (L ++ [q]) m one) = (match q with
    | .not x => .nx (askSt v (bd f c r) (L ++ [x]) (m + 1) (.dat q.d))
    | .bin _ x y => .nx (askSt v (bd f c r) (L ++ [x, y]) (m + 1) (.dat q.d))
    | q => if q.ok f c r then .nx (askSt v (bd f c r) L (m + 1) (.dat q.d)) else .ret (.bl false) (askSt v (bd f c r) L (m + 1) (.dat q.d))) := by
  have hm' : m + 1 ≤ 31 := by omega
  have leaf : ∀ (w : Str) (x y : D), (w == ("not" : Str)) = false → (("and" : Str) == w) = false → (("or" : Str) == w) = false → ∀ k, (sg_is_plain.run [bd f c r, .tup [.str w, x]] = .ok (.bl k) → q.d = .tup [.str w, x] → evSs 100 askBody (askSt v (bd f c r) (L ++ [q]) m one) = if k then .nx (askSt v (bd f c r) L (m + 1) (.dat q.d)) else .ret (.bl false) (askSt v (bd f c r) L (m + 1) (.dat q.d))) ∧
      (sg_is_plain.run [bd f c r, .tup [.str w, x, y]] = .ok (.bl k) → q.d = .tup [.str w, x, y] → evSs 100 askBody (askSt v (bd f c r) (L ++ [q]) m one) = if k then .nx (askSt v (bd f c r) L (m + 1) (.dat q.d)) else .ret (.bl false) (askSt v (bd f c r) L (m + 1) (.dat q.d))) := by
    intro w x y n1 n2 n3 k
    have n1' : ¬ w = ("not" : Str) := fun z => by rw [z] at n1; exact absurd n1 (by decide +kernel)
    refine ⟨fun hp e => ?_, fun hp e => ?_⟩ <;> rcases hone with rfl | ⟨o, rfl⟩ <;> cases k <;>
      simp [askBody, askSt, e, hp, evSs, evS, evE, evEs, fzs, mli, put, setS, slotOf, slotD, C.isF, truth, ofO, s_is_tuple, isTuple, L2.atI, L2.ixN, inL, hm, n1', n2, n3]
  cases q with
  | leaf w n =>
    have hp := plain_leaf (f := f) (c := c) (r := r) hq
    have hw : (w == ("not" : Str)) = false ∧ (("and" : Str) == w) = false ∧ (("or" : Str) == w) = false := by rcases hq with rfl | rfl | rfl <;> simp
    exact (leaf w (nD n) .non hw.1 hw.2.1 hw.2.2 _).1 hp rfl
  | two w a b =>
    have hp := plain_two (f := f) (c := c) (r := r) hq
    have hw : (w == ("not" : Str)) = false ∧ (("and" : Str) == w) = false ∧ (("or" : Str) == w) = false := by rcases hq with rfl | rfl <;> simp
    exact (leaf w (nD a) (nD b) hw.1 hw.2.1 hw.2.2 _).2 hp rfl
  | hd a x => exact (leaf "heading" (nD a) (.str x) (by simp) (by simp) (by simp) _).2 plain_hd rfl
  | not x =>
    have hb : L.length ≤ 16777215 := by omega
    rcases hone with rfl | ⟨o, rfl⟩ <;>
      simp [askBody, askSt, Q.d, evSs, evS, evE, evEs, evO, asInt, fz, fzs, mli, put, setS, slotOf, slotD, C.isF, truth, ofO, s_is_tuple, isTuple, L2.atI, L2.ixN, inL, hm, cutD, HT.sIx, hb]
  | bin w x y =>
    have hb : L.length ≤ 16777214 := by omega
    obtain ⟨hw, _, _⟩ := hq
    rcases hone with rfl | ⟨o, rfl⟩ <;> rcases hw with rfl | rfl <;>
      simp [askBody, askSt, Q.d, evSs, evS, evE, evEs, evO, asInt, fz, fzs, mli, put, setS, slotOf, slotD, C.isF, truth, ofO, s_is_tuple, isTuple, L2.atI, L2.ixN, inL, hm, cutD, HT.sIx, hb]
theorem ask_over {f c r : Int} (v : D) (L : List Q) (q : Q) (m : Int) (one : Slot) (hone : one = .no ∨ ∃ x, one = .dat x) (hm : 31 < m + 1) : evSs 100 askBody (askSt v (bd f c r) (L ++ [q]) m one) = .ret (.bl false) (askSt v (bd f c r) L (m + 1) (.dat q.d)) := by
  rcases hone with rfl | ⟨o, rfl⟩ <;>
    simp [askBody, askSt, evSs, evS, evE, evEs, fz, mli, put, setS, slotOf, slotD, C.isF, truth, ofO, hm]
theorem allOk_append (f c r : Int) (a b : List Q) : allOk f c r (a ++ b) = (allOk f c r a && allOk f c r b) := by simp [allOk]
/-- the whole loop -/
theorem ask_loop {f c r : Int} (v : D) : ∀ (n : Nat) (L : List Q) (m : Int) (one : Slot), (one = .no ∨ ∃ x, one = .dat x) → (∀ q ∈ L, q.wf) → 0 ≤ m → m ≤ 31 → 33 ≤ n + m → (L.length : Int) ≤ m + 1 →
    (∃ r', loopW (fun r => (evE askCond r).bind truth) (evSs 100 askBody) n (askSt v (bd f c r) L m one) = if decide ((sizes L : Int) + m ≤ 31) && allOk f c r L then .nx r' else .ret (.bl false) r')
  | 0, L, m, one, _, _, h0, h1, hn, hl => by omega
  | n + 1, L, m, one, ho, hw, h0, h1, hn, hl => by
    unfold loopW
    rw [ask_cond v _ L m one hw]
    simp only [Out.thn_ok]
    rcases List.eq_nil_or_concat L with rfl | ⟨L', q, rfl⟩
    · exact ⟨askSt v (bd f c r) [] m one, by simp [sizes, allOk, h1]⟩
    · have hq : q.wf := hw q (by simp)
      have hw' : ∀ x ∈ L', x.wf := fun x hx => hw x (by simp [hx])
      have ne : (!(L'.concat q).isEmpty) = true := by simp
      rw [ne, if_pos rfl]
      simp only [List.concat_eq_append] at hl ⊢
      have hl' : (L'.length : Int) + 1 ≤ m + 1 := by simpa using hl
      by_cases hm : 31 < m + 1
      · rw [ask_over v L' q m one ho hm]
        refine ⟨askSt v (bd f c r) L' (m + 1) (.dat q.d), ?_⟩
        have hs : ¬ ((sizes (L' ++ [q]) : Int) + m ≤ 31) := by
          rw [sizes_append]
          have := size_pos q
          simp only [sizes]
          omega
        simp [hs]
      · rw [ask_step v L' q m one ho hq hm (by omega)]
        have next : ∀ (L2 : List Q), (∀ x ∈ L2, x.wf) → (L2.length : Int) ≤ m + 2 → (sizes L2 : Int) + (m + 1) = (sizes (L' ++ [q]) : Int) + m → allOk f c r L2 = allOk f c r (L' ++ [q]) →
            ∃ r', loopW (fun r => (evE askCond r).bind truth) (evSs 100 askBody) n (askSt v (bd f c r) L2 (m + 1) (.dat q.d)) = if decide ((sizes (L' ++ [q]) : Int) + m ≤ 31) && allOk f c r (L' ++ [q]) then .nx r' else .ret (.bl false) r' := fun L2 w2 l2 e1 e2 => by
          obtain ⟨r', hr⟩ := ask_loop (f := f) (c := c) (r := r) v n L2 (m + 1) (.dat q.d) (.inr ⟨_, rfl⟩) w2 (by omega) (by omega) (by omega) (by omega)
          exact ⟨r', by rw [hr, e1, e2]⟩
        have leafCase : q.size = 1 → ∃ r', (match (if q.ok f c r then SOut.nx (askSt v (bd f c r) L' (m + 1) (.dat q.d)) else .ret (.bl false) (askSt v (bd f c r) L' (m + 1) (.dat q.d))) with
            | .nx r2 => loopW (fun r => (evE askCond r).bind truth) (evSs 100 askBody) n r2
            | .cont r2 => loopW (fun r => (evE askCond r).bind truth) (evSs 100 askBody) n r2
            | .brk r2 => .nx r2
            | .ret d r2 => .ret d r2
            | .err c v => .err c v
            | .bad => .bad) = if decide ((sizes (L' ++ [q]) : Int) + m ≤ 31) && allOk f c r (L' ++ [q]) then .nx r' else .ret (.bl false) r' := fun hz => by
          cases ho2 : q.ok f c r with
          | true =>
            rw [if_pos rfl]
            exact next L' hw' (by omega) (by rw [sizes_append]; simp only [sizes, hz]; omega) (by rw [allOk_append]; simp [allOk, ho2])
          | false =>
            refine ⟨askSt v (bd f c r) L' (m + 1) (.dat q.d), ?_⟩
            rw [if_neg Bool.false_ne_true]
            have : allOk f c r (L' ++ [q]) = false := by rw [allOk_append]; simp [allOk, ho2]
            rw [this, Bool.and_false]
            rfl
        cases q with
        | not x => exact next (L' ++ [x]) (fun y hy => (List.mem_append.mp hy).elim (hw' y) fun z => by rw [List.mem_singleton.mp z]; exact hq) (by simp; omega) (by rw [sizes_append, sizes_append]; simp only [sizes, Q.size]; omega) (by rw [allOk_append, allOk_append]; simp [allOk, Q.ok])
        | bin w x y =>
          obtain ⟨_, hx, hy⟩ := hq
          refine next (L' ++ [x, y]) (fun z hz => (List.mem_append.mp hz).elim (hw' z) fun u => ?_) (by simp; omega) (by rw [sizes_append, sizes_append]; simp only [sizes, Q.size]; omega) (by rw [allOk_append, allOk_append]; simp [allOk, Q.ok])
          rcases List.mem_cons.mp u with rfl | u
          · exact hx
          · rw [List.mem_singleton.mp u]
            exact hy
        | leaf w n => exact leafCase rfl
        | two w a b => exact leafCase rfl
        | hd a h => exact leafCase rfl
def good (f c r : Int) (q : Q) : Bool := decide (q.size ≤ 31) && q.ok f c r
theorem s_is_ask_of {f c r : Int} (q : Q) (hq : q.wf) : sg_is_ask_of.run [bd f c r, q.d] = .ok (.bl (good f c r q)) := by
  obtain ⟨r', h⟩ := ask_loop (f := f) (c := c) (r := r) q.d 100 [q] 0 .no (.inl rfl) (fun x hx => by rw [List.mem_singleton.mp hx]; exact hq) (by omega) (by omega) (by omega) (by simp)
  have e : (decide ((sizes [q] : Int) + 0 ≤ 31) && allOk f c r [q]) = good f c r q := by
    unfold good
    simp [sizes, allOk]
    congr 1
    simp
    omega
  rw [e] at h
  have st : sg_is_ask_of.run [bd f c r, q.d] = outD (evSs 100 b_is_ask_of [.dat (bd f c r), .dat q.d, .no, .no, .no]) := rfl
  rw [st, b_ask_eq]
  have s1 : evS 100 (.par 2 3 (.lst (.cons (.var 1) .nil)) (.cst (.int 0))) [.dat (bd f c r), .dat q.d, .no, .no, .no] = .nx (askSt q.d (bd f c r) [q] 0 .no) := by
    simp [askSt, evS, evE, evEs, fz, fzs, setS, slotOf, slotD, C.isF]
  simp only [evSs, s1]
  have s2 : evS 100 (.whl askCond askBody) (askSt q.d (bd f c r) [q] 0 .no) = loopW (fun r => (evE askCond r).bind truth) (evSs 100 askBody) 100 (askSt q.d (bd f c r) [q] 0 .no) := by simp only [evS]
  rw [s2, h]
  cases good f c r q with
  | true => simp [evS, evE, outD]
  | false => simp [outD]
end K82

set_option Elab.async false
set_option linter.all false
set_option maxRecDepth 100000
namespace K82
open PySem PySem.Spec EvO
def numS (i : Int) : Str := toString i
def numO : Option Int → Str
  | some i => numS i
  | none => ""
abbrev sp : Str := " "
def Q.wds : Q → List Str
  | .leaf w n => [w, numO n]
  | .two w a b => [w, numO a, numO b]
  | .hd a h => ["heading", numO a, h]
  | .not x => "not" :: x.wds
  | .bin w x y => w :: (x.wds ++ y.wds)
def Q.text : Q → Str
  | .leaf w n => Txt.join sp [w, numO n]
  | .two w a b => Txt.join sp [w, numO a, numO b]
  | .hd a h => Txt.join sp ["heading", numO a, h]
  | .not x => Txt.join sp ["not", x.text]
  | .bin w x y => Txt.join sp [w, x.text, y.text]
def Q.depth : Q → Nat
  | .leaf .. | .two .. | .hd .. => 1
  | .not x => x.depth + 1
  | .bin _ x y => max x.depth y.depth + 1
theorem depth_size (q : Q) : q.depth ≤ q.size := by
  induction q with
  | leaf | two | hd => simp [Q.depth, Q.size]
  | not x ih => simp [Q.depth, Q.size, ih]
  | bin w x y i1 i2 => simp [Q.depth, Q.size]; omega
/-- a small number -/
theorem small_of {n : Option Int} {a b : Int} (h : inO n a b = true) (ha : 0 ≤ a) (hb : b ≤ 4) : ∃ i, n = some i ∧ (i = 0 ∨ i = 1 ∨ i = 2 ∨ i = 3 ∨ i = 4) := by
  cases n with
  | none => cases h
  | some i =>
    simp only [inO, Bool.and_eq_true, decide_eq_true_eq] at h
    exact ⟨i, rfl, by omega⟩
theorem num_len {i : Int} (h : i = 0 ∨ i = 1 ∨ i = 2 ∨ i = 3 ∨ i = 4) : (numS i).length = 1 ∧ primD .toStr [.int i] = some (.str (numS i)) := by
  rcases h with rfl | rfl | rfl | rfl | rfl <;> exact ⟨by decide +kernel, rfl⟩
theorem lens : ("lit" : Str).length = 3 ∧ ("stands" : Str).length = 6 ∧ ("wished" : Str).length = 6 ∧ ("at" : Str).length = 2 ∧ ("load" : Str).length = 4 ∧ ("heading" : Str).length = 7 ∧ ("not" : Str).length = 3 ∧ ("and" : Str).length = 3 ∧ ("or" : Str).length = 2 ∧ ("none" : Str).length = 4 ∧ ("up" : Str).length = 2 ∧ ("down" : Str).length = 4 ∧ (" " : Str).length = 1 := by decide +kernel
theorem head_len {h : Str} (hh : isHead h = true) : h.length ≤ 4 ∧ (h = "none" ∨ h = "up" ∨ h = "down") := by
  unfold isHead at hh
  simp only [Bool.or_eq_true, beq_iff_eq] at hh
  rcases hh with rfl | rfl | rfl <;> simp [lens]
theorem join_len2 (a b : Str) : (Txt.join sp [a, b]).length ≤ a.length + b.length + 2 := by
  have := StrLaws.join_length_le sp [a, b]
  have e : Txt.join sp [a, b] = Str.join sp [a, b] := StrLaws.glued_eq_join _ _
  have l := lens.2.2.2.2.2.2.2.2.2.2.2.2
  rw [e]
  simp only [List.map_cons, List.map_nil, List.sum_cons, List.sum_nil, List.length_cons, List.length_nil] at this
  have l' : sp.length = 1 := l
  rw [l'] at this
  omega
theorem join_len3 (a b c : Str) : (Txt.join sp [a, b, c]).length ≤ a.length + b.length + c.length + 3 := by
  have := StrLaws.join_length_le sp [a, b, c]
  have e : Txt.join sp [a, b, c] = Str.join sp [a, b, c] := StrLaws.glued_eq_join _ _
  have l := lens.2.2.2.2.2.2.2.2.2.2.2.2
  rw [e]
  simp only [List.map_cons, List.map_nil, List.sum_cons, List.sum_nil, List.length_cons, List.length_nil] at this
  have l' : sp.length = 1 := l
  rw [l'] at this
  omega
theorem word_len {w : Str} (h : w = "lit" ∨ w = "stands" ∨ w = "wished" ∨ w = "at" ∨ w = "load" ∨ w = "and" ∨ w = "or") : w.length ≤ 6 := by
  rcases h with rfl | rfl | rfl | rfl | rfl | rfl | rfl <;> simp [lens]
theorem ok_leaf {f c r : Int} (h : Bd f c r) {w : Str} {n : Option Int} (ho : (Q.leaf w n).ok f c r = true) : ∃ i, n = some i ∧ (i = 0 ∨ i = 1 ∨ i = 2 ∨ i = 3 ∨ i = 4) := small_of ho (by omega) (by have := h.f2; omega)
theorem ok_two {f c r : Int} (h : Bd f c r) {w : Str} {a b : Option Int} (ho : (Q.two w a b).ok f c r = true) : (∃ i, a = some i ∧ (i = 0 ∨ i = 1 ∨ i = 2 ∨ i = 3 ∨ i = 4)) ∧ ∃ i, b = some i ∧ (i = 0 ∨ i = 1 ∨ i = 2 ∨ i = 3 ∨ i = 4) := by
  obtain ⟨h1, h2⟩ := Bool.and_eq_true_iff.mp (show (inO a 0 (c - 1) && (if w = "at" then inO b 0 (f - 1) else inO b 1 r)) = true from ho)
  refine ⟨small_of h1 (by omega) (by have := h.c2; omega), ?_⟩
  split at h2
  · exact small_of h2 (by omega) (by have := h.f2; omega)
  · exact small_of h2 (by omega) (by have := h.r2; omega)
theorem ok_hd {f c r : Int} (h : Bd f c r) {a : Option Int} {x : Str} (ho : (Q.hd a x).ok f c r = true) : (∃ i, a = some i ∧ (i = 0 ∨ i = 1 ∨ i = 2 ∨ i = 3 ∨ i = 4)) ∧ isHead x = true := by
  obtain ⟨h1, h2⟩ := Bool.and_eq_true_iff.mp (show (inO a 0 (c - 1) && isHead x) = true from ho)
  exact ⟨small_of h1 (by omega) (by have := h.c2; omega), h2⟩
theorem text_len {f c r : Int} (hb : Bd f c r) : ∀ q : Q, q.wf → q.ok f c r = true → q.text.length ≤ 18 * q.size
  | .leaf w n, hw, ho => by
    obtain ⟨i, rfl, hi⟩ := ok_leaf hb ho
    have l1 := word_len (w := w) (by rcases hw with h | h | h <;> simp [h])
    have l2 := (num_len hi).1
    have := join_len2 w (numS i)
    show (Txt.join sp [w, numS i]).length ≤ _
    simp only [Q.size]
    omega
  | .two w a b, hw, ho => by
    obtain ⟨⟨i, rfl, hi⟩, j, rfl, hj⟩ := ok_two hb ho
    have l1 := word_len (w := w) (by rcases hw with h | h <;> simp [h])
    have l2 := (num_len hi).1
    have l3 := (num_len hj).1
    have := join_len3 w (numS i) (numS j)
    show (Txt.join sp [w, numS i, numS j]).length ≤ _
    simp only [Q.size]
    omega
  | .hd a x, hw, ho => by
    obtain ⟨⟨i, rfl, hi⟩, hx⟩ := ok_hd hb ho
    have l1 := (head_len hx).1
    have l2 := (num_len hi).1
    have l3 : ("heading" : Str).length = 7 := by simp [lens]
    have := join_len3 "heading" (numS i) x
    show (Txt.join sp ["heading", numS i, x]).length ≤ _
    simp only [Q.size]
    omega
  | .not x, hw, ho => by
    have ih := text_len hb x hw ho
    have l3 : ("not" : Str).length = 3 := by simp [lens]
    have := join_len2 "not" x.text
    show (Txt.join sp ["not", x.text]).length ≤ _
    simp only [Q.size]
    omega
  | .bin w x y, hw, ho => by
    obtain ⟨h1, h2⟩ := Bool.and_eq_true_iff.mp (show (x.ok f c r && y.ok f c r) = true from ho)
    have i1 := text_len hb x hw.2.1 h1
    have i2 := text_len hb y hw.2.2 h2
    have l1 := word_len (w := w) (by rcases hw.1 with h | h <;> simp [h])
    have := join_len3 w x.text y.text
    show (Txt.join sp [w, x.text, y.text]).length ≤ _
    simp only [Q.size]
    omega
theorem mth_join {l : List Str} {xs : List D} (h : strsD xs = some l) (hl : (l.map (·.length)).sum + l.length * sp.length ≤ 16777216) : mthD .join (.str sp) (.lst xs) = some (.str (Txt.join sp l)) := by
  show (match strsD xs with
    | some (l : List Str) => if (l.map fun (y : Str) => y.length).sum + l.length * sp.length ≤ 16777216 then some (D.str (Txt.join sp l)) else none
    | none => none) = _
  rw [h]
  exact if_pos hl
theorem nsp : sp.length = 1 := by decide +kernel
theorem s_text {f c r : Int} (hb : Bd f c r) : ∀ (q : Q) (n : Nat), q.wf → q.ok f c r = true → q.size ≤ 31 → q.depth ≤ n → (sg_text_of n).run [q.d] = .ok (.str q.text)
  | q, 0, _, _, _, hd => by
    cases q <;> simp [Q.depth] at hd
  | .leaf w n, k + 1, hw, ho, hs, hd => by
    obtain ⟨i, rfl, hi⟩ := ok_leaf hb ho
    have l1 := word_len (w := w) (by rcases hw with h | h | h <;> simp [h])
    obtain ⟨l2, p2⟩ := num_len hi
    have hj := mth_join (l := [w, numS i]) (xs := [.str w, .str (numS i)]) rfl (by simp [nsp]; omega)
    simp [Q.d, nD, Q.text, numO, sg_text_of, runD, envD, outD, b_text_of, evSs, evS, evE, evEs, evO, evI, stT, loopF, asInt, rd, fz, fzs, mli, put, setS, slotOf, slotD, C.isF, truth, ofO, L2.atI, L2.ixN, cutD, HT.sIx, p2, hj]
  | .two w a b, k + 1, hw, ho, hs, hd => by
    obtain ⟨⟨i, rfl, hi⟩, j, rfl, hj⟩ := ok_two hb ho
    have l1 := word_len (w := w) (by rcases hw with h | h <;> simp [h])
    obtain ⟨l2, p2⟩ := num_len hi
    obtain ⟨l3, p3⟩ := num_len hj
    have hj := mth_join (l := [w, numS i, numS j]) (xs := [.str w, .str (numS i), .str (numS j)]) rfl (by simp [nsp]; omega)
    simp [Q.d, nD, Q.text, numO, sg_text_of, runD, envD, outD, b_text_of, evSs, evS, evE, evEs, evO, evI, stT, loopF, asInt, rd, fz, fzs, mli, put, setS, slotOf, slotD, C.isF, truth, ofO, L2.atI, L2.ixN, cutD, HT.sIx, p2, p3, hj]
  | .hd a x, k + 1, hw, ho, hs, hd => by
    obtain ⟨⟨i, rfl, hi⟩, hx⟩ := ok_hd hb ho
    have l1 := (head_len hx).1
    obtain ⟨l2, p2⟩ := num_len hi
    have l3 : ("heading" : Str).length = 7 := by simp [lens]
    have hj := mth_join (l := ["heading", numS i, x]) (xs := [.str "heading", .str (numS i), .str x]) rfl (by simp [nsp]; omega)
    simp [Q.d, nD, Q.text, numO, sg_text_of, runD, envD, outD, b_text_of, evSs, evS, evE, evEs, evO, evI, stT, loopF, asInt, rd, fz, fzs, mli, put, setS, slotOf, slotD, C.isF, truth, ofO, L2.atI, L2.ixN, cutD, HT.sIx, p2, hj]
  | .not x, k + 1, hw, ho, hs, hd => by
    have hs' : x.size + 1 ≤ 31 := hs
    have hd' : x.depth + 1 ≤ k + 1 := hd
    have ih := s_text hb x k hw ho (by omega) (by omega)
    have lx := text_len hb x hw ho
    have l3 : ("not" : Str).length = 3 := by simp [lens]
    have hj := mth_join (l := ["not", x.text]) (xs := [.str "not", .str x.text]) rfl (by simp [nsp]; omega)
    have hx : primD .isTup [x.d] = some (.bl true) := by cases x <;> rfl
    simp [Q.d, Q.text, sg_text_of, runD, envD, outD, b_text_of, evSs, evS, evE, evEs, evO, evI, stT, loopF, asInt, rd, fz, fzs, mli, put, setS, slotOf, slotD, C.isF, truth, ofO, L2.atI, L2.ixN, cutD, HT.sIx, ih, hx, hj]
  | .bin w x y, k + 1, hw, ho, hs, hd => by
    have hs' : x.size + y.size + 1 ≤ 31 := hs
    have hd' : max x.depth y.depth + 1 ≤ k + 1 := hd
    obtain ⟨h1, h2⟩ := Bool.and_eq_true_iff.mp (show (x.ok f c r && y.ok f c r) = true from ho)
    have ih1 := s_text hb x k hw.2.1 h1 (by omega) (by omega)
    have ih2 := s_text hb y k hw.2.2 h2 (by omega) (by omega)
    have lx := text_len hb x hw.2.1 h1
    have ly := text_len hb y hw.2.2 h2
    have l1 := word_len (w := w) (by rcases hw.1 with h | h <;> simp [h])
    have hj := mth_join (l := [w, x.text, y.text]) (xs := [.str w, .str x.text, .str y.text]) rfl (by simp [nsp]; omega)
    have hx : primD .isTup [x.d] = some (.bl true) := by cases x <;> rfl
    have hy : primD .isTup [y.d] = some (.bl true) := by cases y <;> rfl
    simp [Q.d, Q.text, sg_text_of, runD, envD, outD, b_text_of, evSs, evS, evE, evEs, evO, evI, stT, loopF, asInt, rd, fz, fzs, mli, put, setS, slotOf, slotD, C.isF, truth, ofO, L2.atI, L2.ixN, cutD, HT.sIx, ih1, ih2, hx, hy, hj]
end K82

set_option Elab.async false
set_option linter.all false
set_option maxRecDepth 100000
namespace K82
open PySem PySem.Spec EvO
theorem gj (l : List Str) : Txt.join sp l = Str.join sp l := StrLaws.glued_eq_join _ _
abbrev tl (x : Str) : List Nat := x.cps.toList
theorem tl_inj {a b : Str} (h : tl a = tl b) : a = b := by
  cases a with
  | mk a =>
    cases b with
    | mk b =>
      congr
      exact Array.toList_inj.mp h
def jl (c : Nat) : List (List Nat) → List Nat
  | [] => []
  | [x] => x
  | x :: y :: r => x ++ c :: jl c (y :: r)
theorem tl_join : ∀ l : List Str, tl (Str.join sp l) = jl 32 (l.map tl)
  | [] => rfl
  | [x] => rfl
  | x :: y :: r => by
    have ih := tl_join (y :: r)
    show tl (x ++ sp ++ Str.join sp (y :: r)) = tl x ++ 32 :: jl 32 ((y :: r).map tl)
    rw [← ih]
    show (x.cps ++ sp.cps ++ (Str.join sp (y :: r)).cps).toList = _
    rw [Array.toList_append, Array.toList_append]
    have e : sp.cps.toList = [32] := by decide +kernel
    rw [e]
    simp
theorem first_part {c : Nat} : ∀ {x y a b : List Nat}, c ∉ x → c ∉ y → x ++ c :: a = y ++ c :: b → x = y ∧ a = b
  | [], [], a, b, _, _, h => by simpa using h
  | [], y :: ys, a, b, _, hy, h => by
    simp at h
    exact (hy (by simp [h.1])).elim
  | x :: xs, [], a, b, hx, _, h => by
    simp at h
    exact (hx (by simp [h.1])).elim
  | x :: xs, y :: ys, a, b, hx, hy, h => by
    simp at h hx hy
    obtain ⟨h1, h2⟩ := first_part (x := xs) (y := ys) hx.2 hy.2 h.2
    exact ⟨by rw [h.1, h1], h2⟩
theorem no_part {c : Nat} {x y b : List Nat} (hx : c ∉ x) (h : x = y ++ c :: b) : False := hx (by rw [h]; simp)
theorem jl_inj {c : Nat} : ∀ {a b : List (List Nat)}, a ≠ [] → b ≠ [] → (∀ p ∈ a, c ∉ p) → (∀ p ∈ b, c ∉ p) → jl c a = jl c b → a = b
  | [], _, h, _, _, _, _ => (h rfl).elim
  | _ :: _, [], _, h, _, _, _ => (h rfl).elim
  | [x], [y], _, _, _, _, h => by
    have h : x = y := h
    rw [h]
  | [x], y :: z :: r, _, _, ha, _, h => (no_part (ha x (by simp)) (show x = y ++ c :: jl c (z :: r) from h)).elim
  | x :: z :: r, [y], _, _, _, hb, h => (no_part (hb y (by simp)) (show y = x ++ c :: jl c (z :: r) from h.symm)).elim
  | x :: z :: r, y :: w :: s, _, _, ha, hb, h => by
    obtain ⟨h1, h2⟩ := first_part (ha x (by simp)) (hb y (by simp)) (show x ++ c :: jl c (z :: r) = y ++ c :: jl c (w :: s) from h)
    rw [h1, jl_inj (by simp) (by simp) (fun p hp => ha p (by simp [hp])) (fun p hp => hb p (by simp [hp])) h2]
theorem map_tl_inj : ∀ {a b : List Str}, a.map tl = b.map tl → a = b
  | [], [], _ => rfl
  | [], _ :: _, h => by simp at h
  | _ :: _, [], h => by simp at h
  | x :: a, y :: b, h => by
    rw [List.map_cons, List.map_cons] at h
    obtain ⟨h1, h2⟩ := List.cons.inj h
    rw [tl_inj h1, map_tl_inj h2]
/-- no blank -/
def nb (w : Str) : Prop := 32 ∉ tl w
theorem sp_eq : sp = ⟨#[32]⟩ := by decide +kernel
theorem split_join {ws : List Str} (hne : ws ≠ []) (h : ∀ w ∈ ws, nb w) : Txt.split (Txt.join sp ws) sp = ws := by
  have e1 := StrLaws.join_split (Txt.join sp ws) sp
  have e2 := StrLaws.split_free (Txt.join sp ws) 32
  rw [← sp_eq] at e2
  have e3 := congrArg tl e1
  rw [tl_join, gj, tl_join, ← gj] at e3
  have ne : Txt.split (Txt.join sp ws) sp ≠ [] := fun z => by
    have := PyProof.Rows.split_pos (Txt.join sp ws) sp
    rw [z] at this
    simp at this
  have e4 := jl_inj (by simp [ne]) (by simp [hne]) (fun p hp => by obtain ⟨w, hw, rfl⟩ := List.mem_map.mp hp; exact e2 w hw) (fun p hp => by obtain ⟨w, hw, rfl⟩ := List.mem_map.mp hp; exact h w hw) e3
  exact map_tl_inj e4
theorem join_split' (x : Str) : Txt.join sp (Txt.split x sp) = x := by rw [gj]; exact StrLaws.join_split x sp
theorem str_assoc (a b c : Str) : a ++ b ++ c = a ++ (b ++ c) := tl_inj (by
  show (a.cps ++ b.cps ++ c.cps).toList = (a.cps ++ (b.cps ++ c.cps)).toList
  simp)
theorem join_app : ∀ {a b : List Str}, a ≠ [] → b ≠ [] → Str.join sp (a ++ b) = Str.join sp a ++ sp ++ Str.join sp b
  | [], _, h, _ => (h rfl).elim
  | _, [], _, h => (h rfl).elim
  | [x], y :: r, _, _ => rfl
  | x :: z :: r, y :: s, _, _ => by
    have ih := join_app (a := z :: r) (b := y :: s) (by simp) (by simp)
    show x ++ sp ++ Str.join sp (z :: r ++ y :: s) = x ++ sp ++ Str.join sp (z :: r) ++ sp ++ Str.join sp (y :: s)
    rw [ih]
    simp only [str_assoc]
theorem wds_ne (q : Q) : q.wds ≠ [] := by cases q <;> simp [Q.wds]
theorem join_cons (w : Str) {a : List Str} (h : a ≠ []) : Str.join sp (w :: a) = w ++ sp ++ Str.join sp a := by
  cases a with
  | nil => exact (h rfl).elim
  | cons _ _ => rfl
theorem text_eq : ∀ q : Q, q.text = Txt.join sp q.wds
  | .leaf w n => rfl
  | .two w a b => rfl
  | .hd a h => rfl
  | .not x => by
    show Txt.join sp ["not", x.text] = Txt.join sp ("not" :: x.wds)
    rw [text_eq x, gj, gj, gj, join_cons _ (wds_ne x)]
    rfl
  | .bin w x y => by
    show Txt.join sp [w, x.text, y.text] = Txt.join sp (w :: (x.wds ++ y.wds))
    rw [text_eq x, text_eq y, gj, gj, gj, gj, join_cons w (a := x.wds ++ y.wds) (by simp [wds_ne]), join_app (wds_ne x) (wds_ne y)]
    rfl
end K82

set_option Elab.async false
set_option linter.all false
set_option maxRecDepth 100000
namespace K82
open PySem PySem.Spec EvO
def numOf (w : Str) : Option Int := match sg_number_of.run [.str w] with
  | .ok (.int i) => some i
  | _ => none
def isNumRes : Res → Bool
  | .ok (.int _) => true
  | .ok .non => true
  | _ => false
theorem numRes {w : Str} (h : isNumRes (sg_number_of.run [.str w]) = true) : sg_number_of.run [.str w] = .ok (nD (numOf w)) := by
  unfold numOf
  generalize sg_number_of.run [.str w] = x at h
  cases x with
  | ok d => cases d <;> first | rfl | cases h
  | err c v => cases h
  | bad => cases h
def digs : List Nat := [48, 49, 50, 51, 52, 53, 54, 55, 56, 57]
theorem digs_eq : ("0123456789" : Str).cps.toList = digs := by decide +kernel
theorem num1 : ∀ a ∈ digs, isNumRes (sg_number_of.run [.str ⟨#[a]⟩]) = true := by decide +kernel
theorem num2 : ∀ a ∈ digs, ∀ b ∈ digs, isNumRes (sg_number_of.run [.str ⟨#[a, b]⟩]) = true := by decide +kernel
theorem dig_ok : ∀ a ∈ digs, a < 0x110000 := by decide +kernel
theorem in_fig (a : Nat) : inD (.str ⟨#[a]⟩) (.str "0123456789") = some (decide (a ∈ digs)) := by
  have := StrLaws.found_one "0123456789" a
  rw [digs_eq] at this
  show some _ = _
  rw [this]
theorem numS_of : ∀ i : Int, (i = 0 ∨ i = 1 ∨ i = 2 ∨ i = 3 ∨ i = 4) → numOf (numS i) = some i := by
  intro i h
  rcases h with rfl | rfl | rfl | rfl | rfl <;> decide +kernel
theorem len_str (w : Str) : w.length = w.cps.toList.length := by simp [Str.length]
theorem s_num {w : Str} (h : w.length ≤ 16777216) : sg_number_of.run [.str w] = .ok (nD (numOf w)) ∧ (numOf w ≠ none → PyData.strOk w = true) := by
  have non : sg_number_of.run [.str w] = .ok .non → sg_number_of.run [.str w] = .ok (nD (numOf w)) ∧ (numOf w ≠ none → PyData.strOk w = true) := fun e => by
    have : numOf w = none := by
      unfold numOf
      rw [e]
    rw [this]
    exact ⟨e, fun z => (z rfl).elim⟩
  by_cases h1 : w.length = 1
  · have : ∃ a, w = ⟨#[a]⟩ := by
      obtain ⟨⟨l⟩⟩ := w
      have h1 : l.length = 1 := h1
      obtain ⟨a, rfl⟩ := List.length_eq_one_iff.mp h1
      exact ⟨a, rfl⟩
    obtain ⟨a, rfl⟩ := this
    by_cases ha : a ∈ digs
    · exact ⟨numRes (num1 a ha), fun _ => by simp [PyData.strOk, dig_ok a ha]⟩
    · refine non ?_
      simp [sg_number_of, runD, envD, outD, b_number_of, evSs, evS, ev_comp, evE, evEs, evI, evTs, turnC, loopC, wipeE, stT, rd, fz, fzs, setS, truth, ofO, Ev.p_len_str h, h1, D.items, in_fig, ha, blsD, Out.nox]
  · by_cases h2 : w.length = 2
    · have : ∃ a b, w = ⟨#[a, b]⟩ := by
        obtain ⟨⟨l⟩⟩ := w
        have h2 : l.length = 2 := h2
        match l, h2 with
        | [a, b], _ => exact ⟨a, b, rfl⟩
      obtain ⟨a, b, rfl⟩ := this
      by_cases ha : a ∈ digs ∧ b ∈ digs
      · exact ⟨numRes (num2 a ha.1 b ha.2), fun _ => by simp [PyData.strOk, dig_ok a ha.1, dig_ok b ha.2]⟩
      · refine non ?_
        have ha' : (decide (a ∈ digs) && decide (b ∈ digs)) = false := by
          by_cases h3 : a ∈ digs <;> by_cases h4 : b ∈ digs <;> simp [h3, h4] <;> exact ha ⟨h3, h4⟩
        simp [sg_number_of, runD, envD, outD, b_number_of, evSs, evS, ev_comp, evE, evEs, evI, evTs, turnC, loopC, wipeE, stT, rd, fz, fzs, setS, truth, ofO, Ev.p_len_str h, h2, D.items, in_fig, blsD, Out.nox, ha']
    · refine non ?_
      have h3 : (decide (1 ≤ (w.length : Int)) && decide ((w.length : Int) ≤ 2)) = false := by
        by_cases h3 : w.length = 0
        · simp [h3]
        · simp
          omega
      by_cases h4 : 1 ≤ (w.length : Int)
      · have h5 : ¬ ((w.length : Int) ≤ 2) := by omega
        simp [sg_number_of, runD, envD, outD, b_number_of, evSs, evS, evE, evEs, rd, fz, truth, ofO, Ev.p_len_str h, h4, h5]
      · simp [sg_number_of, runD, envD, outD, b_number_of, evSs, evS, evE, evEs, rd, fz, truth, ofO, Ev.p_len_str h, h4]
end K82

set_option Elab.async false
set_option linter.all false
set_option maxRecDepth 100000
namespace K82
open PySem PySem.Spec EvO
def putRest : Sms := (.cons (.ret (.ite (.cmp .eq (.var 2) (.lst .nil)) (.var 1) (.cst .non))) .nil)
theorem b_put_eq : b_put_together = .cons (.par 1 2 (.lst .nil) (.lst .nil)) (.cons (.for_ (.nm 3) (.val (.rev (.var 0))) putBody) putRest) := rfl
def okL (L : List Str) : Prop := ∀ w ∈ L, PyData.strOk w = true ∧ w.length ≤ 16777216
def okF (F : List Q) : Prop := ∀ q ∈ F, q.wf
theorem eqL {L : List Str} (h : okL L) : eqD (.lst (L.map D.str)) (.lst []) = some L.isEmpty := eq_nil D.str (fun w => PyData.strOk w = true) (fun w hw => ⟨.str w, rfl, hw⟩) L fun w hw => (h w hw).1
theorem eqF {F : List Q} (h : okF F) : eqD (.lst (F.map Q.d)) (.lst []) = some F.isEmpty := eq_nil Q.d Q.wf Q.py F h
def putSt (W : D) (F : List Q) (L : List Str) (w : D) : EvO.Env := [.dat W, .own (F.map Q.d), .own (L.map D.str), .dat w]
def isLit (w : Str) : Bool := ("lit" : Str) == w || (("stands" : Str) == w || ("wished" : Str) == w)
def isTwo (w : Str) : Bool := ("at" : Str) == w || ("load" : Str) == w
def isBin (w : Str) : Bool := ("and" : Str) == w || ("or" : Str) == w
def pstep (F : List Q) (L : List Str) (w : Str) : Option (List Q × List Str) :=
  if isLit w = true ∧ L.length = 1 then (match L with
    | [a] => some (F ++ [.leaf w (numOf a)], [])
    | _ => none)
  else if isTwo w = true ∧ L.length = 2 then (match L with
    | [a, b] => some (F ++ [.two w (numOf b) (numOf a)], [])
    | _ => none)
  else if w = "heading" ∧ L.length = 2 then (match L with
    | [a, b] => some (F ++ [.hd (numOf b) a], [])
    | _ => none)
  else if w = "not" ∧ L = [] ∧ F ≠ [] then some (F.dropLast ++ [.not (F.getLast?.getD (.leaf "" none))], [])
  else if isBin w = true ∧ L = [] ∧ 2 ≤ F.length then some (F.dropLast.dropLast ++ [.bin w (F.getLast?.getD (.leaf "" none)) (F.dropLast.getLast?.getD (.leaf "" none))], [])
  else if numOf w ≠ none ∨ isHead w = true then some (F, L ++ [w])
  else none
theorem nums_none : numOf "lit" = none ∧ numOf "stands" = none ∧ numOf "wished" = none ∧ numOf "at" = none ∧ numOf "load" = none ∧ numOf "heading" = none ∧ numOf "not" = none ∧ numOf "and" = none ∧ numOf "or" = none := by decide +kernel
theorem isNon_nD (n : Option Int) : isNonD (nD n) = decide (n = none) := by cases n <;> rfl
theorem len1 {α : Type} {L : List α} (h : L.length = 1) : ∃ a, L = [a] := List.length_eq_one_iff.mp h
theorem len2 {α : Type} {L : List α} (h : L.length = 2) : ∃ a b, L = [a, b] := match L, h with
  | [a, b], _ => ⟨a, b, rfl⟩
def hdC : Sms → C
  | .cons (.ifs c _ _) _ => c
  | _ => .cst .non
def hdA : Sms → Sms
  | .cons (.ifs _ a _) _ => a
  | _ => .nil
def hdY : Sms → Sms
  | .cons (.ifs _ _ y) _ => y
  | _ => .nil
theorem ifs_one {N : Nat} {c : C} {a y : Sms} {r : EvO.Env} {k : Bool} (h : evE c r = .ok (.d (.bl k)) r) : evSs N (.cons (.ifs c a y) .nil) r = if k then evSs N a r else evSs N y r := by
  have e : evS N (.ifs c a y) r = if k then evSs N a r else evSs N y r := by
    simp only [evS, h, Out.thn_ok, truth, rd]
  simp only [evSs, e]
  generalize (if k = true then evSs N a r else evSs N y r) = x
  cases x <;> rfl
abbrev pr1 : Sms := hdY putBody
abbrev pr2 : Sms := hdY pr1
abbrev pr3 : Sms := hdY pr2
abbrev pr4 : Sms := hdY pr3
abbrev pr5 : Sms := hdY pr4
section
variable {W : D} {F : List Q} {L : List Str} {w : Str}
theorem pe1 : evE (hdC putBody) (putSt W F L (.str w)) = .ok (.d (.bl (isLit w && decide (L.length = 1)))) (putSt W F L (.str w)) := by
  have e : (((L.length : Int) == 1) : Bool) = decide (L.length = 1) := by rw [Bool.eq_iff_iff]; simp; omega
  cases h1 : isLit w <;> simp [isLit] at h1 <;> simp [hdC, putBody, putSt, evE, evEs, rd, fzs, truth, ofO, inL, h1, e]
theorem pe2 : evE (hdC pr1) (putSt W F L (.str w)) = .ok (.d (.bl (isTwo w && decide (L.length = 2)))) (putSt W F L (.str w)) := by
  have e : (((L.length : Int) == 2) : Bool) = decide (L.length = 2) := by rw [Bool.eq_iff_iff]; simp; omega
  cases h1 : isTwo w <;> simp [isTwo] at h1 <;> simp [pr1, pr2, pr3, pr4, pr5, hdC, hdY, putBody, putSt, evE, evEs, rd, fzs, truth, ofO, inL, h1, e]
theorem pe3 : evE (hdC pr2) (putSt W F L (.str w)) = .ok (.d (.bl (decide (w = "heading") && decide (L.length = 2)))) (putSt W F L (.str w)) := by
  have e : (((L.length : Int) == 2) : Bool) = decide (L.length = 2) := by rw [Bool.eq_iff_iff]; simp; omega
  by_cases h1 : w = "heading" <;> simp [pr1, pr2, pr3, pr4, pr5, hdC, hdY, putBody, putSt, evE, evEs, rd, fzs, truth, ofO, inL, h1, e]
theorem pe4 (hF : okF F) (hL : okL L) : evE (hdC pr3) (putSt W F L (.str w)) = .ok (.d (.bl (decide (w = "not") && (L.isEmpty && !F.isEmpty)))) (putSt W F L (.str w)) := by
  have eL := eqL hL
  have eF := eqF hF
  by_cases h1 : w = "not" <;> cases h2 : L.isEmpty <;> simp [h2] at eL <;> simp [pr1, pr2, pr3, pr4, pr5, hdC, hdY, putBody, putSt, evE, evEs, rd, fzs, truth, ofO, inL, h1, eL, eF]
theorem pe5 (hL : okL L) : evE (hdC pr4) (putSt W F L (.str w)) = .ok (.d (.bl (isBin w && (L.isEmpty && decide (2 ≤ F.length))))) (putSt W F L (.str w)) := by
  have eL := eqL hL
  have e : decide ((2 : Int) ≤ (F.length : Int)) = decide (2 ≤ F.length) := by rw [Bool.eq_iff_iff]; simp; omega
  cases h1 : isBin w <;> cases h2 : L.isEmpty <;> simp [h2] at eL <;> simp [isBin] at h1 <;> simp [pr1, pr2, pr3, pr4, pr5, hdC, hdY, putBody, putSt, evE, evEs, rd, fzs, truth, ofO, inL, h1, eL, e]
theorem pe6 (hw : w.length ≤ 16777216) : evE (hdC pr5) (putSt W F L (.str w)) = .ok (.d (.bl (!decide (numOf w = none) || isHead w))) (putSt W F L (.str w)) := by
  have s1 := (s_num hw).1
  have e := isNon_nD (numOf w)
  by_cases h1 : numOf w = none
  · rw [h1] at s1 e
    simp [pr1, pr2, pr3, pr4, pr5, hdC, hdY, putBody, putSt, evE, evEs, rd, fz, fzs, truth, ofO, inL, s1, e, h1, isHead]
  · simp [pr1, pr2, pr3, pr4, pr5, hdC, hdY, putBody, putSt, evE, evEs, rd, fz, fzs, truth, ofO, inL, s1, e, h1, isHead]
end
end K82

set_option Elab.async false
set_option linter.all false
set_option maxRecDepth 100000
namespace K82
open PySem PySem.Spec EvO
def ps1 (F : List Q) (L : List Str) (w : Str) : Option (List Q × List Str) := match L with
  | [a] => some (F ++ [.leaf w (numOf a)], [])
  | _ => none
def ps2 (F : List Q) (L : List Str) (w : Str) : Option (List Q × List Str) := match L with
  | [a, b] => some (F ++ [.two w (numOf b) (numOf a)], [])
  | _ => none
def ps3 (F : List Q) (L : List Str) : Option (List Q × List Str) := match L with
  | [a, b] => some (F ++ [.hd (numOf b) a], [])
  | _ => none
def ps4 (F : List Q) : Option (List Q × List Str) := match F.getLast? with
  | some x => some (F.dropLast ++ [.not x], [])
  | none => none
def ps5 (F : List Q) (w : Str) : Option (List Q × List Str) := match F.getLast?, F.dropLast.getLast? with
  | some x, some y => some (F.dropLast.dropLast ++ [.bin w x y], [])
  | _, _ => none
def pst (F : List Q) (L : List Str) (w : Str) : Option (List Q × List Str) :=
  if (isLit w && decide (L.length = 1)) = true then ps1 F L w
  else if (isTwo w && decide (L.length = 2)) = true then ps2 F L w
  else if (decide (w = "heading") && decide (L.length = 2)) = true then ps3 F L
  else if (decide (w = "not") && (L.isEmpty && !F.isEmpty)) = true then ps4 F
  else if (isBin w && (L.isEmpty && decide (2 ≤ F.length))) = true then ps5 F w
  else if (!decide (numOf w = none) || isHead w) = true then some (F, L ++ [w])
  else none
def pOut (W : D) (F : List Q) (L : List Str) (w : D) : Option (List Q × List Str) → SOut
  | some (F', L') => .nx (putSt W F' L' w)
  | none => .ret .non (putSt W F L w)
section
variable {W : D} {F : List Q} {L : List Str} {w : Str}
theorem pa1 {a : Str} (ha : a.length ≤ 16777216) (hz : F.length ≤ 16777215) : evSs 100 (hdA putBody) (putSt W F [a] (.str w)) = .nx (putSt W (F ++ [.leaf w (numOf a)]) [] (.str w)) := by
  have s1 := (s_num ha).1
  simp [hdA, putBody, putSt, evSs, evS, evE, evEs, fz, fzs, mli, put, (show F.length < 16777216 by omega), hz, s1, Q.d]
theorem pa2 {a b : Str} (ha : a.length ≤ 16777216) (hb : b.length ≤ 16777216) (hz : F.length ≤ 16777215) : evSs 100 (hdA pr1) (putSt W F [a, b] (.str w)) = .nx (putSt W (F ++ [.two w (numOf b) (numOf a)]) [] (.str w)) := by
  have s1 := (s_num ha).1
  have s2 := (s_num hb).1
  simp [pr1, hdA, hdY, putBody, putSt, evSs, evS, evE, evEs, fz, fzs, mli, put, (show F.length < 16777216 by omega), hz, s1, s2, Q.d]
theorem pa3 {a b : Str} (hb : b.length ≤ 16777216) (hz : F.length ≤ 16777215) : evSs 100 (hdA pr2) (putSt W F [a, b] (.str "heading")) = .nx (putSt W (F ++ [.hd (numOf b) a]) [] (.str "heading")) := by
  have s2 := (s_num hb).1
  simp [pr1, pr2, hdA, hdY, putBody, putSt, evSs, evS, evE, evEs, fz, fzs, mli, put, (show F.length < 16777216 by omega), hz, s2, Q.d]
theorem pa4 {x : Q} (hz : F.length ≤ 16777215) : evSs 100 (hdA pr3) (putSt W (F ++ [x]) [] (.str "not")) = .nx (putSt W (F ++ [.not x]) [] (.str "not")) := by
  simp [pr1, pr2, pr3, hdA, hdY, putBody, putSt, evSs, evS, evE, evEs, fz, fzs, mli, put, (show F.length < 16777216 by omega), hz, Q.d]
theorem pa5 {x y : Q} (hz : F.length ≤ 16777215) : evSs 100 (hdA pr4) (putSt W (F ++ [y, x]) [] (.str w)) = .nx (putSt W (F ++ [.bin w x y]) [] (.str w)) := by
  have e : F ++ [y, x] = (F ++ [y]) ++ [x] := by simp
  rw [e]
  simp [pr1, pr2, pr3, pr4, hdA, hdY, putBody, putSt, evSs, evS, evE, evEs, fz, fzs, mli, put, (show F.length < 16777216 by omega), hz, Q.d]
theorem pa6 (hz : L.length ≤ 16777215) : evSs 100 (hdA pr5) (putSt W F L (.str w)) = .nx (putSt W F (L ++ [w]) (.str w)) := by
  simp [pr1, pr2, pr3, pr4, pr5, hdA, hdY, putBody, putSt, evSs, evS, evE, evEs, fz, fzs, mli, put, (show L.length < 16777216 by omega), hz]
theorem pa7 : evSs 100 (hdY pr5) (putSt W F L (.str w)) = .ret .non (putSt W F L (.str w)) := by
  simp [pr1, pr2, pr3, pr4, pr5, hdY, putBody, putSt, evSs, evS, evE, evEs, fz]
theorem snoc {α : Type} {F : List α} (h : F.isEmpty = false) : ∃ F' x, F = F' ++ [x] := by
  rcases List.eq_nil_or_concat F with rfl | ⟨F', x, rfl⟩
  · cases h
  · exact ⟨F', x, by simp⟩
theorem snoc2 {α : Type} {F : List α} (h : 2 ≤ F.length) : ∃ F' y x, F = F' ++ [y, x] := by
  rcases List.eq_nil_or_concat F with rfl | ⟨F', x, rfl⟩
  · simp at h
  · rcases List.eq_nil_or_concat F' with rfl | ⟨F2, y, rfl⟩
    · simp at h
    · exact ⟨F2, y, x, by simp⟩
theorem put_step (hF : okF F) (hL : okL L) (hw : w.length ≤ 16777216) (hz : F.length ≤ 16777215) (hz2 : L.length ≤ 16777215) : evSs 100 putBody (putSt W F L (.str w)) = pOut W F L (.str w) (pst F L w) := by
  have b0 : putBody = .cons (.ifs (hdC putBody) (hdA putBody) pr1) .nil := rfl
  have b1 : pr1 = .cons (.ifs (hdC pr1) (hdA pr1) pr2) .nil := rfl
  have b2 : pr2 = .cons (.ifs (hdC pr2) (hdA pr2) pr3) .nil := rfl
  have b3 : pr3 = .cons (.ifs (hdC pr3) (hdA pr3) pr4) .nil := rfl
  have b4 : pr4 = .cons (.ifs (hdC pr4) (hdA pr4) pr5) .nil := rfl
  have b5 : pr5 = .cons (.ifs (hdC pr5) (hdA pr5) (hdY pr5)) .nil := rfl
  unfold pst
  rw [b0, ifs_one pe1]
  split
  · rename_i h
    obtain ⟨h1, h2⟩ := Bool.and_eq_true_iff.mp h
    obtain ⟨a, rfl⟩ := len1 (of_decide_eq_true h2)
    exact pa1 (hL a (by simp)).2 hz
  · rw [b1, ifs_one pe2]
    split
    · rename_i h
      obtain ⟨h1, h2⟩ := Bool.and_eq_true_iff.mp h
      obtain ⟨a, b, rfl⟩ := len2 (of_decide_eq_true h2)
      exact pa2 (hL a (by simp)).2 (hL b (by simp)).2 hz
    · rw [b2, ifs_one pe3]
      split
      · rename_i h
        obtain ⟨h1, h2⟩ := Bool.and_eq_true_iff.mp h
        obtain ⟨a, b, rfl⟩ := len2 (of_decide_eq_true h2)
        have h1 := of_decide_eq_true h1
        subst h1
        exact pa3 (hL b (by simp)).2 hz
      · rw [b3, ifs_one (pe4 hF hL)]
        split
        · rename_i h
          obtain ⟨h1, h2⟩ := Bool.and_eq_true_iff.mp h
          obtain ⟨h3, h4⟩ := Bool.and_eq_true_iff.mp h2
          have h1 := of_decide_eq_true h1
          subst h1
          obtain rfl := List.isEmpty_iff.mp h3
          obtain ⟨F', x, rfl⟩ := snoc (F := F) (by simpa using h4)
          have e : ps4 (F' ++ [x]) = some (F' ++ [.not x], []) := by simp [ps4]
          rw [e]
          exact pa4 (by simp at hz; omega)
        · rw [b4, ifs_one (pe5 hL)]
          split
          · rename_i h
            obtain ⟨h1, h2⟩ := Bool.and_eq_true_iff.mp h
            obtain ⟨h3, h4⟩ := Bool.and_eq_true_iff.mp h2
            obtain rfl := List.isEmpty_iff.mp h3
            obtain ⟨F', y, x, rfl⟩ := snoc2 (of_decide_eq_true h4)
            have e0 : F' ++ [y, x] = (F' ++ [y]) ++ [x] := by simp
            have e : ps5 (F' ++ [y, x]) w = some (F' ++ [.bin w x y], []) := by
              rw [e0]
              simp [ps5]
            rw [e]
            exact pa5 (by simp at hz; omega)
          · rw [b5, ifs_one (pe6 hw)]
            split
            · exact pa6 hz2
            · exact pa7
end
end K82

set_option Elab.async false
set_option linter.all false
set_option maxRecDepth 100000
namespace K82
open PySem PySem.Spec EvO
def lenOk (w : Str) : Prop := w.length ≤ 16777216
theorem okF_snoc {F : List Q} {q : Q} (h : okF F) (hq : q.wf) : okF (F ++ [q]) := fun x hx => (List.mem_append.mp hx).elim (h x) fun z => by rw [List.mem_singleton.mp z]; exact hq
theorem isLit_or {w : Str} (h : isLit w = true) : w = "lit" ∨ w = "stands" ∨ w = "wished" := by
  simp only [isLit, Bool.or_eq_true, beq_iff_eq] at h
  rcases h with h | h | h <;> simp [← h]
theorem isTwo_or {w : Str} (h : isTwo w = true) : w = "at" ∨ w = "load" := by
  simp only [isTwo, Bool.or_eq_true, beq_iff_eq] at h
  rcases h with h | h <;> simp [← h]
theorem isBin_or {w : Str} (h : isBin w = true) : w = "and" ∨ w = "or" := by
  simp only [isBin, Bool.or_eq_true, beq_iff_eq] at h
  rcases h with h | h <;> simp [← h]
theorem okL_nil : okL [] := fun w h => by cases h
theorem pst_ok {F F' : List Q} {L L' : List Str} {w : Str} (hF : okF F) (hL : okL L) (hw : lenOk w) (h : pst F L w = some (F', L')) : okF F' ∧ okL L' ∧ F'.length ≤ F.length + 1 ∧ L'.length ≤ L.length + 1 := by
  unfold pst at h
  split at h
  · rename_i q
    obtain ⟨q1, q2⟩ := Bool.and_eq_true_iff.mp q
    obtain ⟨a, rfl⟩ := len1 (of_decide_eq_true q2)
    cases h
    exact ⟨okF_snoc hF (isLit_or q1), okL_nil, by simp, by simp⟩
  · split at h
    · rename_i q
      obtain ⟨q1, q2⟩ := Bool.and_eq_true_iff.mp q
      obtain ⟨a, b, rfl⟩ := len2 (of_decide_eq_true q2)
      cases h
      exact ⟨okF_snoc hF (isTwo_or q1), okL_nil, by simp, by simp⟩
    · split at h
      · rename_i q
        obtain ⟨q1, q2⟩ := Bool.and_eq_true_iff.mp q
        obtain ⟨a, b, rfl⟩ := len2 (of_decide_eq_true q2)
        cases h
        exact ⟨okF_snoc hF (hL a (by simp)).1, okL_nil, by simp, by simp⟩
      · split at h
        · rename_i q
          obtain ⟨q1, q2⟩ := Bool.and_eq_true_iff.mp q
          obtain ⟨q3, q4⟩ := Bool.and_eq_true_iff.mp q2
          obtain ⟨F2, x, rfl⟩ := snoc (F := F) (by simpa using q4)
          have e : ps4 (F2 ++ [x]) = some (F2 ++ [.not x], []) := by simp [ps4]
          rw [e] at h
          cases h
          exact ⟨okF_snoc (fun y hy => hF y (by simp [hy])) (hF x (by simp)), okL_nil, by simp, by simp⟩
        · split at h
          · rename_i q
            obtain ⟨q1, q2⟩ := Bool.and_eq_true_iff.mp q
            obtain ⟨q3, q4⟩ := Bool.and_eq_true_iff.mp q2
            obtain ⟨F2, y, x, rfl⟩ := snoc2 (of_decide_eq_true q4)
            have e0 : F2 ++ [y, x] = (F2 ++ [y]) ++ [x] := by simp
            have e : ps5 (F2 ++ [y, x]) w = some (F2 ++ [.bin w x y], []) := by
              rw [e0]
              simp [ps5]
            rw [e] at h
            cases h
            exact ⟨okF_snoc (fun z hz => hF z (by simp [hz])) ⟨isBin_or q1, hF x (by simp), hF y (by simp)⟩, okL_nil, by simp, by simp⟩
          · split at h
            · rename_i q
              cases h
              refine ⟨hF, fun v hv => ?_, by omega, by simp⟩
              rcases List.mem_append.mp hv with hv | hv
              · exact hL v hv
              · rw [List.mem_singleton.mp hv]
                refine ⟨?_, hw⟩
                rcases Bool.or_eq_true_iff.mp q with q | q
                · exact (s_num hw).2 (by simpa using q)
                · rcases (head_len q).2 with rfl | rfl | rfl <;> simp [ok_words]
            · cases h
def pfold : List Str → List Q → List Str → Option (List Q × List Str)
  | [], F, L => some (F, L)
  | w :: ws, F, L => match pst F L w with
    | some (F', L') => pfold ws F' L'
    | none => none
def putTurn : D → EvO.Env → SOut := fun d r2 => (stT (.nm 3) d r2).thn fun _ r3 => evSs 100 putBody r3
def putE (W : D) (F : List Q) (L : List Str) (s : Slot) : EvO.Env := [.dat W, .own (F.map Q.d), .own (L.map D.str), s]
theorem put_loop {W : D} : ∀ (ws : List Str) (F : List Q) (L : List Str) (s : Slot), (s = .no ∨ ∃ x, s = .dat x) → okF F → okL L → (∀ w ∈ ws, lenOk w) → F.length + ws.length ≤ 16777215 → L.length + ws.length ≤ 16777215 →
    match pfold ws F L with
    | some (F', L') => okF F' ∧ okL L' ∧ ∃ s', loopF putTurn (ws.map D.str) (putE W F L s) = .nx (putE W F' L' s')
    | none => ∃ r', loopF putTurn (ws.map D.str) (putE W F L s) = .ret .non r'
  | [], F, L, s, hs, hF, hL, hw, h1, h2 => ⟨hF, hL, s, rfl⟩
  | w :: ws, F, L, s, hs, hF, hL, hw, h1, h2 => by
    have hw1 : lenOk w := hw w (by simp)
    simp only [List.length_cons] at h1 h2
    have st := put_step (W := W) hF hL hw1 (by omega) (by omega)
    have turn : putTurn (.str w) (putE W F L s) = pOut W F L (.str w) (pst F L w) := by
      rw [← st]
      rcases hs with rfl | ⟨x, rfl⟩ <;> simp [putTurn, putE, putSt, stT, setS]
    unfold pfold
    simp only [List.map_cons, loopF, turn]
    cases q : pst F L w with
    | none => exact ⟨_, rfl⟩
    | some z =>
      obtain ⟨F', L'⟩ := z
      obtain ⟨a1, a2, a3, a4⟩ := pst_ok hF hL hw1 q
      exact put_loop ws F' L' (.dat (.str w)) (.inr ⟨_, rfl⟩) a1 a2 (fun v hv => hw v (by simp [hv])) (by omega) (by omega)
def putRes : Option (List Q × List Str) → D
  | some (F, L) => if L.isEmpty then .lst (F.map Q.d) else .non
  | none => .non
theorem s_put {ws : List Str} (hw : ∀ w ∈ ws, lenOk w) (hz : ws.length ≤ 16777215) : sg_put_together.run [.lst (ws.map D.str)] = .ok (putRes (pfold ws.reverse [] [])) ∧ ∀ F L, pfold ws.reverse [] [] = some (F, L) → okF F ∧ okL L := by
  have key := put_loop (W := .lst (ws.map D.str)) ws.reverse [] [] .no (.inl rfl) (fun q h => by cases h) okL_nil (fun w h => hw w (by simpa using h)) (by simpa using hz) (by simpa using hz)
  have st : sg_put_together.run [.lst (ws.map D.str)] = outD (evSs 100 b_put_together [.dat (.lst (ws.map D.str)), .no, .no, .no]) := rfl
  have s1 : evS 100 (.par 1 2 (.lst .nil) (.lst .nil)) [.dat (.lst (ws.map D.str)), .no, .no, .no] = .nx (putE (.lst (ws.map D.str)) [] [] .no) := by
    simp [putE, evS, evE, evEs, fzs, setS, slotOf, C.isF]
  have s2 : evS 100 (.for_ (.nm 3) (.val (.rev (.var 0))) putBody) (putE (.lst (ws.map D.str)) [] [] .no) = loopF putTurn (ws.reverse.map D.str) (putE (.lst (ws.map D.str)) [] [] .no) := by
    simp [evS, evI, evE, putE, ofO]
    rfl
  rw [st, b_put_eq]
  simp only [evSs, s1, s2]
  cases q : pfold ws.reverse [] [] with
  | none =>
    rw [q] at key
    obtain ⟨r', hr⟩ := key
    rw [hr]
    exact ⟨rfl, fun F L z => by cases z⟩
  | some z =>
    obtain ⟨F, L⟩ := z
    rw [q] at key
    obtain ⟨hF, hL, s', hr⟩ := key
    rw [hr]
    refine ⟨?_, fun F' L' z => by cases z; exact ⟨hF, hL⟩⟩
    have eL := eqL hL
    cases h2 : L.isEmpty <;> rw [h2] at eL <;> simp [putRes, h2, putRest, putE, evSs, evS, evE, evEs, rd, fz, fzs, truth, ofO, eL, outD]
end K82

set_option Elab.async false
set_option linter.all false
set_option maxRecDepth 100000
namespace K82
open PySem PySem.Spec EvO
abbrev Small (i : Int) : Prop := i = 0 ∨ i = 1 ∨ i = 2 ∨ i = 3 ∨ i = 4
theorem numS_no {i : Int} (h : Small i) : isLit (numS i) = false ∧ isTwo (numS i) = false ∧ decide (numS i = "heading") = false ∧ decide (numS i = "not") = false ∧ isBin (numS i) = false ∧ (!decide (numOf (numS i) = none)) = true := by
  rcases h with rfl | rfl | rfl | rfl | rfl <;> decide +kernel
theorem pst_num {F : List Q} {L : List Str} {i : Int} (h : Small i) : pst F L (numS i) = some (F, L ++ [numS i]) := by
  obtain ⟨h1, h2, h3, h4, h5, h6⟩ := numS_no h
  simp [pst, h1, h2, h3, h4, h5, h6]
theorem head_no {x : Str} (h : isHead x = true) : isLit x = false ∧ isTwo x = false ∧ decide (x = "heading") = false ∧ decide (x = "not") = false ∧ isBin x = false := by
  rcases (head_len h).2 with rfl | rfl | rfl <;> decide +kernel
theorem pst_head {F : List Q} {L : List Str} {x : Str} (h : isHead x = true) : pst F L x = some (F, L ++ [x]) := by
  obtain ⟨h1, h2, h3, h4, h5⟩ := head_no h
  simp [pst, h1, h2, h3, h4, h5, h]
theorem lit_no {w : Str} (h : w = "lit" ∨ w = "stands" ∨ w = "wished") : isLit w = true := by rcases h with rfl | rfl | rfl <;> decide +kernel
theorem two_no {w : Str} (h : w = "at" ∨ w = "load") : isLit w = false ∧ isTwo w = true := by rcases h with rfl | rfl <;> decide +kernel
theorem heading_no : isLit "heading" = false ∧ isTwo "heading" = false := by decide +kernel
theorem not_no : isLit "not" = false ∧ isTwo "not" = false ∧ decide (("not" : Str) = "heading") = false := by decide +kernel
theorem bin_no {w : Str} (h : w = "and" ∨ w = "or") : isLit w = false ∧ isTwo w = false ∧ decide (w = "heading") = false ∧ decide (w = "not") = false ∧ isBin w = true := by rcases h with rfl | rfl <;> decide +kernel
theorem parse {f c r : Int} (hb : Bd f c r) : ∀ (q : Q) (F : List Q) (rest : List Str), q.wf → q.ok f c r = true → pfold (q.wds.reverse ++ rest) F [] = pfold rest (F ++ [q]) []
  | .leaf w n, F, rest, hw, ho => by
    obtain ⟨i, rfl, hi⟩ := ok_leaf hb ho
    have h1 := lit_no hw
    have h2 : pst F [numS i] w = some (F ++ [.leaf w (numOf (numS i))], []) := by simp [pst, h1, ps1]
    have e : (Q.leaf w (some i)).wds.reverse ++ rest = numS i :: w :: rest := rfl
    rw [e]
    simp only [pfold, pst_num hi, List.nil_append, h2, numS_of i hi]
  | .two w a b, F, rest, hw, ho => by
    obtain ⟨⟨i, rfl, hi⟩, j, rfl, hj⟩ := ok_two hb ho
    obtain ⟨h1, h2⟩ := two_no hw
    have h3 : pst F [numS j, numS i] w = some (F ++ [.two w (numOf (numS i)) (numOf (numS j))], []) := by simp [pst, h1, h2, ps2]
    have e : (Q.two w (some i) (some j)).wds.reverse ++ rest = numS j :: numS i :: w :: rest := rfl
    rw [e]
    simp only [pfold, pst_num hj, pst_num hi, List.nil_append, List.cons_append, h3, numS_of i hi, numS_of j hj]
  | .hd a x, F, rest, hw, ho => by
    obtain ⟨⟨i, rfl, hi⟩, hx⟩ := ok_hd hb ho
    obtain ⟨h1, h2⟩ := heading_no
    have h3 : pst F [x, numS i] "heading" = some (F ++ [.hd (numOf (numS i)) x], []) := by simp [pst, h1, h2, ps3]
    have e : (Q.hd (some i) x).wds.reverse ++ rest = x :: numS i :: ("heading" : Str) :: rest := rfl
    rw [e]
    simp only [pfold, pst_head hx, pst_num hi, List.nil_append, List.cons_append, h3, numS_of i hi]
  | .not x, F, rest, hw, ho => by
    obtain ⟨h1, h2, h3⟩ := not_no
    have h4 : pst (F ++ [x]) [] "not" = some (F ++ [.not x], []) := by simp [pst, h1, h2, ps4]
    have e : (Q.not x).wds.reverse ++ rest = x.wds.reverse ++ (("not" : Str) :: rest) := by simp [Q.wds]
    rw [e, parse hb x F (("not" : Str) :: rest) hw ho]
    simp only [pfold, h4]
  | .bin w x y, F, rest, hw, ho => by
    obtain ⟨h1, h2, h3, h4, h5⟩ := bin_no hw.1
    obtain ⟨o1, o2⟩ := Bool.and_eq_true_iff.mp (show (x.ok f c r && y.ok f c r) = true from ho)
    have e0 : F ++ [y] ++ [x] = F ++ [y, x] := by simp
    have h6 : ps5 (F ++ [y, x]) w = some (F ++ [.bin w x y], []) := by
      rw [← e0]
      simp [ps5]
    have h7 : pst (F ++ [y, x]) [] w = some (F ++ [.bin w x y], []) := by
      simp only [pst, h1, h2, h3, h4, h5, h6]
      simp
    have e : (Q.bin w x y).wds.reverse ++ rest = y.wds.reverse ++ (x.wds.reverse ++ (w :: rest)) := by simp [Q.wds]
    rw [e, parse hb y F _ hw.2.2 o2, parse hb x (F ++ [y]) _ hw.2.1 o1, e0]
    simp only [pfold, h7]
theorem nb_num {i : Int} (h : Small i) : nb (numS i) := by
  rcases h with rfl | rfl | rfl | rfl | rfl <;> (show 32 ∉ _; decide +kernel)
theorem nb_words : nb "lit" ∧ nb "stands" ∧ nb "wished" ∧ nb "at" ∧ nb "load" ∧ nb "heading" ∧ nb "not" ∧ nb "and" ∧ nb "or" ∧ nb "none" ∧ nb "up" ∧ nb "down" := by
  unfold nb
  decide +kernel
theorem nb_wds {f c r : Int} (hb : Bd f c r) : ∀ (q : Q), q.wf → q.ok f c r = true → ∀ w ∈ q.wds, nb w
  | .leaf w n, hw, ho, v, hv => by
    obtain ⟨i, rfl, hi⟩ := ok_leaf hb ho
    have hv : v ∈ [w, numS i] := hv
    simp at hv
    rcases hv with rfl | rfl
    · rcases hw with rfl | rfl | rfl <;> simp [nb_words]
    · exact nb_num hi
  | .two w a b, hw, ho, v, hv => by
    obtain ⟨⟨i, rfl, hi⟩, j, rfl, hj⟩ := ok_two hb ho
    have hv : v ∈ [w, numS i, numS j] := hv
    simp at hv
    rcases hv with rfl | rfl | rfl
    · rcases hw with rfl | rfl <;> simp [nb_words]
    · exact nb_num hi
    · exact nb_num hj
  | .hd a x, hw, ho, v, hv => by
    obtain ⟨⟨i, rfl, hi⟩, hx⟩ := ok_hd hb ho
    have hv : v ∈ [("heading" : Str), numS i, x] := hv
    simp at hv
    rcases hv with rfl | rfl | rfl
    · simp [nb_words]
    · exact nb_num hi
    · rcases (head_len hx).2 with rfl | rfl | rfl <;> simp [nb_words]
  | .not x, hw, ho, v, hv => by
    have hv : v ∈ ("not" : Str) :: x.wds := hv
    rcases List.mem_cons.mp hv with rfl | hv
    · simp [nb_words]
    · exact nb_wds hb x hw ho v hv
  | .bin w x y, hw, ho, v, hv => by
    obtain ⟨o1, o2⟩ := Bool.and_eq_true_iff.mp (show (x.ok f c r && y.ok f c r) = true from ho)
    have hv : v ∈ w :: (x.wds ++ y.wds) := hv
    rcases List.mem_cons.mp hv with rfl | hv
    · rcases hw.1 with rfl | rfl <;> simp [nb_words]
    · rcases List.mem_append.mp hv with hv | hv
      · exact nb_wds hb x hw.2.1 o1 v hv
      · exact nb_wds hb y hw.2.2 o2 v hv
/-- what is read back -/
def readQ (f c r : Int) (t : Str) : Option Q := if 1000 < t.length then none else match pfold (Txt.split t sp).reverse [] [] with
  | some ([q], []) => if good f c r q && decide (q.text = t) then some q else none
  | _ => none
theorem read_back {f c r : Int} (hb : Bd f c r) {q : Q} (hw : q.wf) (hg : good f c r q = true) : readQ f c r q.text = some q := by
  obtain ⟨h1, h2⟩ := Bool.and_eq_true_iff.mp hg
  have h1 := of_decide_eq_true h1
  have l := text_len hb q hw h2
  have e : Txt.split q.text sp = q.wds := by
    rw [text_eq]
    exact split_join (wds_ne q) (nb_wds hb q hw h2)
  have p := parse hb q [] [] hw h2
  rw [List.append_nil] at p
  unfold readQ
  rw [if_neg (by omega), e, p]
  simp [pfold, hg]
theorem word_short {t w : Str} (h : w ∈ Txt.split t sp) : w.length ≤ t.length := PyProof.Rows.part_short h
theorem frp : sg_put_together.fresh = false := rfl
theorem s_read {f c r : Int} (hb : Bd f c r) {t : Str} (ht : t.length ≤ 16777000) : sg_read_ask.run [bd f c r, .str t] = (match readQ f c r t with
    | some q => .ok q.d
    | none => .err "NoText" (.str t)) ∧ ∀ q, readQ f c r t = some q → q.wf ∧ good f c r q = true ∧ q.text = t := by
  have hl : ∀ w ∈ Txt.split t sp, lenOk w := fun w hw => Nat.le_trans (word_short hw) (by omega)
  have hz : (Txt.split t sp).length ≤ 16777215 := Nat.le_trans (PyProof.Rows.split_le t sp) (by omega)
  obtain ⟨hp, hF⟩ := s_put hl hz
  have hb1 := s_check hb
  have sn : sp.length ≠ 0 := by rw [nsp]; decide
  have sp1 : mthD .split (.str t) (.str sp) = some (.lst ((Txt.split t sp).map .str)) := if_pos ⟨sn, by show t.length + 2 ≤ 16777216; omega⟩
  have pl := Ev.p_len_str (s := t) (by omega)
  by_cases h1 : 1000 < t.length
  · have e : readQ f c r t = none := if_pos h1
    rw [e]
    refine ⟨?_, fun q z => by cases z⟩
    have h1' : (1000 : Int) < t.length := by omega
    simp [sg_read_ask, runD, envD, outD, b_read_ask, evSs, evS, evE, evEs, rd, fz, fzs, truth, ofO, hb1, pl, h1']
  · have h1' : ¬ ((1000 : Int) < t.length) := by omega
    have core : ∀ (res : Option (List Q × List Str)), pfold (Txt.split t sp).reverse [] [] = res → (∀ F L, res = some (F, L) → okF F ∧ okL L) → sg_read_ask.run [bd f c r, .str t] = (match (match res with
      | some ([q], []) => if good f c r q && decide (q.text = t) then some q else none
      | _ => none : Option Q) with
    | some q => .ok q.d
    | none => .err "NoText" (.str t)) := fun res hres hok => by
      rw [hres] at hp
      have noF : ∀ d : D, putRes res = d → isNonD d = true → sg_read_ask.run [bd f c r, .str t] = .err "NoText" (.str t) := fun d e1 e2 => by
        rw [e1] at hp
        simp [sg_read_ask, runD, envD, outD, b_read_ask, evSs, evS, evE, evEs, rd, fz, fzs, setS, slotOf, slotD, C.isF, frp, truth, ofO, hb1, pl, h1', sp1, hp, e2]
      have lenF : ∀ F : List Q, putRes res = .lst (F.map Q.d) → F.length ≠ 1 → sg_read_ask.run [bd f c r, .str t] = .err "NoText" (.str t) := fun F e1 e2 => by
        rw [e1] at hp
        have e3 : (((F.length : Int) == 1) : Bool) = false := by simp; omega
        simp [sg_read_ask, runD, envD, outD, b_read_ask, evSs, evS, evE, evEs, rd, fz, fzs, setS, slotOf, slotD, C.isF, frp, truth, ofO, hb1, pl, h1', sp1, hp, e3]
      cases res with
      | none => exact noF .non rfl rfl
      | some z =>
        obtain ⟨F, L⟩ := z
        obtain ⟨oF, oL⟩ := hok F L rfl
        cases L with
        | cons a L =>
          have : (match (some (F, a :: L) : Option (List Q × List Str)) with
            | some ([q], []) => if good f c r q && decide (q.text = t) then some q else none
            | _ => none : Option Q) = none := by cases F with
            | nil => rfl
            | cons q F => cases F <;> rfl
          rw [this]
          exact noF .non rfl rfl
        | nil =>
          have e1 : putRes (some (F, [])) = .lst (F.map Q.d) := rfl
          match F, oF, e1 with
          | [], _, e1 => exact lenF [] e1 (by simp)
          | q :: q2 :: F, _, e1 => exact lenF _ e1 (by simp)
          | [q], oF, e1 =>
            have hq : q.wf := oF q (by simp)
            have a1 := s_is_ask_of (f := f) (c := c) (r := r) q hq
            rw [e1] at hp
            cases hg : good f c r q with
            | false =>
              rw [hg] at a1
              simp [sg_read_ask, runD, envD, outD, b_read_ask, evSs, evS, evE, evEs, rd, fz, fzs, setS, slotOf, slotD, C.isF, frp, truth, ofO, hb1, pl, h1', sp1, hp, L2.atI, L2.ixN, a1, hg]
            | true =>
              rw [hg] at a1
              obtain ⟨g1, g2⟩ := Bool.and_eq_true_iff.mp hg
              have g1 := of_decide_eq_true g1
              have tx := s_text hb q 40 hq g2 g1 (by have := depth_size q; omega)
              by_cases h2 : q.text = t
              · simp [sg_read_ask, runD, envD, outD, b_read_ask, evSs, evS, evE, evEs, rd, fz, fzs, setS, slotOf, slotD, C.isF, frp, truth, ofO, hb1, pl, h1', sp1, hp, L2.atI, L2.ixN, a1, tx, h2, hg]
              · simp [sg_read_ask, runD, envD, outD, b_read_ask, evSs, evS, evE, evEs, rd, fz, fzs, setS, slotOf, slotD, C.isF, frp, truth, ofO, hb1, pl, h1', sp1, hp, L2.atI, L2.ixN, a1, tx, h2, hg]
    have er : readQ f c r t = (match pfold (Txt.split t sp).reverse [] [] with
      | some ([q], []) => if good f c r q && decide (q.text = t) then some q else none
      | _ => none) := if_neg h1
    refine ⟨by rw [er]; exact core _ rfl hF, fun q hq => ?_⟩
    rw [er] at hq
    split at hq
    · rename_i q' e
      split at hq
      · rename_i h
        cases hq
        obtain ⟨h2, h3⟩ := Bool.and_eq_true_iff.mp h
        exact ⟨(hF _ _ e).1 q (by simp), h2, of_decide_eq_true h3⟩
      · cases hq
    · cases hq
theorem s_is_ask {f c r : Int} (hb : Bd f c r) {q : Q} (hq : q.wf) : sg_is_ask.run [bd f c r, q.d] = .ok (.bl (good f c r q)) := by
  simp [sg_is_ask, runD, envD, outD, b_is_ask, evSs, evS, evE, evEs, fz, fzs, s_check hb, s_is_ask_of q hq]
theorem s_ask_text {f c r : Int} (hb : Bd f c r) {q : Q} (hq : q.wf) (hg : good f c r q = true) : sg_ask_text.run [bd f c r, q.d] = .ok (.str q.text) := by
  obtain ⟨g1, g2⟩ := Bool.and_eq_true_iff.mp hg
  have g1 := of_decide_eq_true g1
  have tx := s_text hb q 40 hq g2 g1 (by have := depth_size q; omega)
  have ck : sg_check_ask.run [bd f c r, q.d] = .ok .non := by
    have a1 := s_is_ask_of (f := f) (c := c) (r := r) q hq
    rw [hg] at a1
    simp [sg_check_ask, runD, envD, outD, b_check_ask, evSs, evS, evE, evEs, rd, fz, fzs, truth, a1]
  simp [sg_ask_text, runD, envD, outD, b_ask_text, evSs, evS, evE, evEs, fz, fzs, s_check hb, ck, tx]
end K82

set_option Elab.async false
set_option linter.all false
set_option maxRecDepth 100000
namespace K82
open PySem PySem.Spec EvO
def PotOk (n : Int) (l : List D) : Prop := ∃ a b c : Int, l = [.int a, .int b, .int c] ∧ 0 ≤ a ∧ 0 ≤ b ∧ b < 2305843009213693921 ∧ 0 ≤ c ∧ c ≤ n
theorem PotOk.mono {n m : Int} {l : List D} (h : PotOk n l) (hm : n ≤ m) : PotOk m l := by
  obtain ⟨a, b, c, h1, h2, h3, h4, h5, h6⟩ := h
  exact ⟨a, b, c, h1, h2, h3, h4, h5, by omega⟩
theorem okI_of {i : Int} (h1 : -(2 ^ 64) < i) (h2 : i < 2 ^ 64) : okI i = true := decide_eq_true ⟨h1, h2⟩
theorem mulL {a b : Int} (h : okI a = true) : binD .mul (.int a) (.int b) = some (.int (a * b)) := Ev.b_mul (by rw [h]; rfl)
theorem mulR {a b : Int} (h : okI b = true) : binD .mul (.int a) (.int b) = some (.int (a * b)) := Ev.b_mul (by rw [h, Bool.or_true])
theorem powD {a : Int} (h : a.natAbs < 2 ^ 64) : binD .pow (.int a) (.int 3) = some (.int (a ^ 3)) := by
  have := PyProof.Rows.bits_mul_le (a := a) (n := 3) h (by decide) (by decide)
  show (if (0 : Int) ≤ 3 ∧ (Builtin.Int.intBits a : Int) * 3 ≤ 134217728 then some (D.int (a ^ (3 : Int).toNat)) else none) = _
  rw [if_pos ⟨by decide, by omega⟩]
  rfl
theorem s_take {n u : Int} {l : List D} (h : PotOk n l) (hn : n ≤ 1000000) (hu : 1 ≤ u) (hu2 : u ≤ 1000000) : ∃ d l', sg_law_take.run l [.int u] = .ok (.int d) l' ∧ 0 ≤ d ∧ d < u ∧ PotOk (n + 1) l' := by
  obtain ⟨a, b, c, rfl, ha, hb, hb2, hc, hc2⟩ := h
  have u0 : u ≠ 0 := by omega
  have ua : u.natAbs < 1073741824 := by omega
  by_cases h1 : 0 < a
  · refine ⟨a.fmod u, [.int (a.fdiv u), .int b, .int c], ?_, Int.fmod_nonneg_of_pos _ (by omega), Int.fmod_lt_of_pos _ (by omega), _, _, _, rfl, Int.fdiv_nonneg ha (by omega), hb, hb2, hc, by omega⟩
    have e1 := Ev.b_mod (a := a) u0
    have e2 := Ev.b_div (a := a) u0 ua
    simp [sg_law_take, runP, envP, outP, b_law_take, evSs, evS, evE, evEs, stT, rd, fz, fzs, mli, put, setS, slotOf, slotD, C.isF, asInt, truth, ofO, L2.atI, L2.ixN, h1, e1, e2]
  · have k0 : 0 ≤ (c + 1).fmod 5 := Int.fmod_nonneg_of_pos _ (by omega)
    have k1 : (c + 1).fmod 5 < 5 := Int.fmod_lt_of_pos _ (by omega)
    have go : ∀ p : Int, 2 ≤ p → p ≤ 2147483647 → L2.atI [D.int 2147483647, .int 2147483629, .int 2147483587, .int 2147483579, .int 2147483563] ((c + 1).fmod 5) = some (.int p) → ∃ d l', sg_law_take.run [.int a, .int b, .int c] [.int u] = .ok (.int d) l' ∧ 0 ≤ d ∧ d < u ∧ PotOk (n + 1) l' := fun p hp hp2 hk => by
      have e0 := Ev.b_mod (a := c + 1) (b := 5) (by omega)
      have o1 : okI (94111 : Int) = true := by decide
      have o2 : okI (c + 1) = true := okI_of (by omega) (by omega)
      have m1 := mulL (b := c + 1) o1
      have m2 := mulR (a := 94111 * (c + 1)) o2
      have hq : 0 ≤ 94111 * (c + 1) * (c + 1) ∧ 94111 * (c + 1) * (c + 1) ≤ 94111 * 1000001 * 1000001 := by
        have h1 : (c + 1) * (c + 1) ≤ 1000001 * 1000001 := Int.mul_le_mul (by omega) (by omega) (by omega) (by omega)
        have h2 : 0 ≤ (c + 1) * (c + 1) := Int.mul_nonneg (by omega) (by omega)
        rw [Int.mul_assoc]
        constructor
        · exact Int.mul_nonneg (by omega) h2
        · rw [Int.mul_assoc]
          exact Int.mul_le_mul_of_nonneg_left h1 (by omega)
      have hx : (b + 94111 * (c + 1) * (c + 1) + 638).natAbs < 2 ^ 64 := by omega
      have e3 := powD hx
      have e4 := Ev.b_mod (a := (b + 94111 * (c + 1) * (c + 1) + 638) ^ 3) (b := p) (by omega)
      have y0 : 0 ≤ ((b + 94111 * (c + 1) * (c + 1) + 638) ^ 3).fmod p := Int.fmod_nonneg_of_pos _ (by omega)
      have y1 : ((b + 94111 * (c + 1) * (c + 1) + 638) ^ 3).fmod p < p := Int.fmod_lt_of_pos _ (by omega)
      generalize ((b + 94111 * (c + 1) * (c + 1) + 638) ^ 3).fmod p = y at e4 y0 y1
      have e5 := Ev.b_mod (a := y) (b := 10259) (by omega)
      have m3 := mulL (a := 122) (b := c + 1) (by decide)
      have m4 := mulL (a := y) (b := y.fmod 10259 + 122 * (c + 1)) (okI_of (by omega) (by omega))
      have e6 := Ev.b_mod (a := y * (y.fmod 10259 + 122 * (c + 1))) (b := 2305843009213693907) (by omega)
      have z0 : 0 ≤ (y * (y.fmod 10259 + 122 * (c + 1))).fmod 2305843009213693907 := Int.fmod_nonneg_of_pos _ (by omega)
      generalize (y * (y.fmod 10259 + 122 * (c + 1))).fmod 2305843009213693907 = z at e6 z0
      have e7 := Ev.b_div (a := z) (b := 152) (by omega) (by omega)
      have e8 := Ev.b_mod (a := z.fdiv 152) (b := u) u0
      refine ⟨(z.fdiv 152).fmod u, [.int a, .int b, .int (c + 1)], ?_, Int.fmod_nonneg_of_pos _ (by omega), Int.fmod_lt_of_pos _ (by omega), a, b, c + 1, rfl, ha, hb, hb2, by omega, by omega⟩
      have i0 : L2.atI [D.int a, D.int b, D.int c] 0 = some (.int a) := rfl
      have i1 : L2.atI [D.int a, D.int b, D.int (c + 1)] 1 = some (.int b) := rfl
      have i2 : L2.atI [D.int a, D.int b, D.int c] 2 = some (.int c) := rfl
      have i3 : L2.atI [D.int a, D.int b, D.int (c + 1)] 2 = some (.int (c + 1)) := rfl
      have x0 : L2.ixN 3 2 = some 2 := rfl
      simp [sg_law_take, runP, envP, outP, b_law_take, evSs, evS, evE, evEs, stT, rd, fz, fzs, mli, put, setS, slotOf, slotD, C.isF, asInt, truth, ofO, h1, i0, i1, i2, i3, x0, e0, m1, m2, hk, e3, e4, e5, m3, m4, e6, e7, e8]
    have : (c + 1).fmod 5 = 0 ∨ (c + 1).fmod 5 = 1 ∨ (c + 1).fmod 5 = 2 ∨ (c + 1).fmod 5 = 3 ∨ (c + 1).fmod 5 = 4 := by omega
    rcases this with h | h | h | h | h
    · exact go 2147483647 (by omega) (by omega) (by rw [h]; rfl)
    · exact go 2147483629 (by omega) (by omega) (by rw [h]; rfl)
    · exact go 2147483587 (by omega) (by omega) (by rw [h]; rfl)
    · exact go 2147483579 (by omega) (by omega) (by rw [h]; rfl)
    · exact go 2147483563 (by omega) (by omega) (by rw [h]; rfl)
end K82

set_option Elab.async false
set_option linter.all false
set_option maxRecDepth 100000
set_option maxHeartbeats 2000000
namespace K82
open PySem PySem.Spec EvO
theorem s_of {n : Int} {l xs : List D} (h : PotOk n l) (hn : n ≤ 1000000) (h1 : 1 ≤ xs.length) (h2 : xs.length ≤ 1000) : ∃ x l', sg_law_of.run l [.lst xs] = .ok x l' ∧ x ∈ xs ∧ PotOk (n + 1) l' := by
  obtain ⟨d, l', e, d0, d1, hp⟩ := s_take (u := xs.length) h hn (by omega) (by omega)
  have hi : d.toNat < xs.length := by omega
  have ha : L2.atI xs d = some xs[d.toNat] := by
    have e2 : L2.ixN xs.length d = some d.toNat := by
      unfold L2.ixN
      rw [if_pos d0, if_pos (by omega)]
    unfold L2.atI
    rw [e2]
    exact List.getElem?_eq_getElem hi
  refine ⟨xs[d.toNat], l', ?_, List.getElem_mem hi, hp⟩
  simp [sg_law_of, runP, envP, outP, b_law_of, evSs, evS, evE, evEs, rd, fz, fzs, mli, put, ofO, e, ha]
def T : Nat → Int
  | 0 => 6
  | d + 1 => 2 * T d + 6
theorem kinds {k : Int} (h0 : 0 ≤ k) (h1 : k < 6) : k = 0 ∨ k = 1 ∨ k = 2 ∨ k = 3 ∨ k = 4 ∨ k = 5 := by omega
/-- behind the choice of a way: a leaf -/
theorem ask_leaf {n f c r : Int} {l : List D} {sg : SigP} {deep way : Int} (hb : Bd f c r) (h : PotOk n l) (hn : n ≤ 900000) (hw : way = 0 ∨ way = 2) (rest : Sms) (hr : b_law_a_ask sg = .cons (.set 3 (.ite (.cmp .gt (.var 2) (.cst (.int 0))) (.callP sg_law_take 0 (.cons (.cst (.int 5)) .nil)) (.cst (.int 0)))) rest) :
    ∃ (q : Q) (l' : List D), outP (evSs 100 rest [.io l, .dat (bd f c r), .dat (.int deep), .dat (.int way), .no, .no, .no]) = .ok q.d l' ∧ q.wf ∧ PotOk (n + 5) l' := by
  obtain ⟨fl, l1, e1, a0, a1, p1⟩ := s_take (u := f) h (by omega) (by have := hb.f1; omega) (by have := hb.f2; omega)
  obtain ⟨ca, l2, e2, b0, b1, p2⟩ := s_take (u := c) p1 (by omega) (by have := hb.c1; omega) (by have := hb.c2; omega)
  obtain ⟨ki, l3, e3, c0, c1, p3⟩ := s_take (u := 6) p2 (by omega) (by omega) (by omega)
  cases hr
  rcases kinds c0 c1 with rfl | rfl | rfl | rfl | rfl | rfl
  · refine ⟨.leaf "lit" (some fl), l3, ?_, .inl rfl, p3.mono (by omega)⟩
    rcases hw with rfl | rfl <;> simp [Q.d, nD, bd, outP, evSs, evS, evE, evEs, rd, fz, fzs, mli, put, setS, slotOf, slotD, C.isF, truth, ofO, L2.atI, L2.ixN, e1, e2, e3]
  · refine ⟨.leaf "stands" (some fl), l3, ?_, .inr (.inl rfl), p3.mono (by omega)⟩
    rcases hw with rfl | rfl <;> simp [Q.d, nD, bd, outP, evSs, evS, evE, evEs, rd, fz, fzs, mli, put, setS, slotOf, slotD, C.isF, truth, ofO, L2.atI, L2.ixN, e1, e2, e3]
  · refine ⟨.leaf "wished" (some fl), l3, ?_, .inr (.inr rfl), p3.mono (by omega)⟩
    rcases hw with rfl | rfl <;> simp [Q.d, nD, bd, outP, evSs, evS, evE, evEs, rd, fz, fzs, mli, put, setS, slotOf, slotD, C.isF, truth, ofO, L2.atI, L2.ixN, e1, e2, e3]
  · refine ⟨.two "at" (some ca) (some fl), l3, ?_, .inl rfl, p3.mono (by omega)⟩
    rcases hw with rfl | rfl <;> simp [Q.d, nD, bd, outP, evSs, evS, evE, evEs, rd, fz, fzs, mli, put, setS, slotOf, slotD, C.isF, truth, ofO, L2.atI, L2.ixN, e1, e2, e3]
  · obtain ⟨x, l4, e4, hx, p4⟩ := s_of (xs := [.str "none", .str "up", .str "down"]) p3 (by omega) (by simp) (by simp)
    have : ∃ s, x = .str s ∧ PyData.strOk s = true := by
      simp at hx
      rcases hx with rfl | rfl | rfl <;> exact ⟨_, rfl, by simp [ok_words]⟩
    obtain ⟨s, rfl, hs⟩ := this
    refine ⟨.hd (some ca) s, l4, ?_, hs, p4.mono (by omega)⟩
    rcases hw with rfl | rfl <;> simp [Q.d, nD, bd, outP, evSs, evS, evE, evEs, rd, fz, fzs, mli, put, setS, slotOf, slotD, C.isF, truth, ofO, L2.atI, L2.ixN, e1, e2, e3, e4]
  · obtain ⟨lo, l4, e4, d0, d1, p4⟩ := s_take (u := r) p3 (by omega) (by have := hb.r1; omega) (by have := hb.r2; omega)
    refine ⟨.two "load" (some ca) (some (1 + lo)), l4, ?_, .inr rfl, p4.mono (by omega)⟩
    rcases hw with rfl | rfl <;> simp [Q.d, nD, bd, outP, evSs, evS, evE, evEs, rd, fz, fzs, mli, put, setS, slotOf, slotD, C.isF, truth, ofO, L2.atI, L2.ixN, e1, e2, e3, e4]
def askRest (sg : SigP) : Sms := match b_law_a_ask sg with
  | .cons _ r => r
  | _ => .nil
theorem s_a_ask {f c r : Int} (hb : Bd f c r) : ∀ (d : Nat) (n : Int) (l : List D), PotOk n l → n + T d ≤ 800000 → ∃ (q : Q) (l' : List D), (sg_law_a_ask (d + 1)).run l [bd f c r, .int d] = .ok q.d l' ∧ q.wf ∧ PotOk (n + T d) l'
  | 0, n, l, h, hn => by
    have hn : n + 6 ≤ 800000 := hn
    obtain ⟨q, l', e, hq, hp⟩ := ask_leaf (deep := 0) (way := 0) (sg := sg_law_a_ask 0) hb h (by omega) (.inl rfl) (askRest _) rfl
    refine ⟨q, l', ?_, hq, hp.mono (by show n + 5 ≤ n + 6; omega)⟩
    rw [← e]
    rfl
  | d + 1, n, l, h, hn => by
    have hT : T (d + 1) = 2 * T d + 6 := rfl
    have hT0 : ∀ d : Nat, 0 ≤ T d := fun d => by
      induction d with
      | zero => simp [T]
      | succ d ih => simp [T]; omega
    have t0 := hT0 d
    obtain ⟨w, l1, e1, w0, w1, p1⟩ := s_take (u := 5) h (by omega) (by omega) (by omega)
    have hpos : (0 : Int) < ((d + 1 : Nat) : Int) := by omega
    have hsub : ((d + 1 : Nat) : Int) - 1 = (d : Int) := by omega
    have st : (sg_law_a_ask (d + 1 + 1)).run l [bd f c r, .int ((d + 1 : Nat) : Int)] = outP (evSs 100 (askRest (sg_law_a_ask (d + 1))) [.io l1, .dat (bd f c r), .dat (.int ((d + 1 : Nat) : Int)), .dat (.int w), .no, .no, .no]) := by
      have st1 : (sg_law_a_ask (d + 1 + 1)).run l [bd f c r, .int ((d + 1 : Nat) : Int)] = outP (evSs 100 (b_law_a_ask (sg_law_a_ask (d + 1))) [.io l, .dat (bd f c r), .dat (.int ((d + 1 : Nat) : Int)), .no, .no, .no, .no]) := rfl
      have hb2 : b_law_a_ask (sg_law_a_ask (d + 1)) = .cons (.set 3 (.ite (.cmp .gt (.var 2) (.cst (.int 0))) (.callP sg_law_take 0 (.cons (.cst (.int 5)) .nil)) (.cst (.int 0)))) (askRest (sg_law_a_ask (d + 1))) := rfl
      have s1 : evS 100 (.set 3 (.ite (.cmp .gt (.var 2) (.cst (.int 0))) (.callP sg_law_take 0 (.cons (.cst (.int 5)) .nil)) (.cst (.int 0)))) [.io l, .dat (bd f c r), .dat (.int ((d + 1 : Nat) : Int)), .no, .no, .no, .no] = .nx [.io l1, .dat (bd f c r), .dat (.int ((d + 1 : Nat) : Int)), .dat (.int w), .no, .no, .no] := by
        simp only [evS, evE, evEs]
        simp [rd, fz, fzs, mli, put, setS, slotOf, slotD, C.isF, truth, ofO, e1]
      rw [st1, hb2]
      simp only [evSs, s1]
    rw [st]
    have leaf : (w = 0 ∨ w = 2) → ∃ (q : Q) (l' : List D), outP (evSs 100 (askRest (sg_law_a_ask (d + 1))) [.io l1, .dat (bd f c r), .dat (.int ((d + 1 : Nat) : Int)), .dat (.int w), .no, .no, .no]) = .ok q.d l' ∧ q.wf ∧ PotOk (n + T (d + 1)) l' := fun hw => by
      obtain ⟨q, l', e, hq, hp⟩ := ask_leaf (deep := ((d + 1 : Nat) : Int)) (way := w) (sg := sg_law_a_ask (d + 1)) hb p1 (by omega) hw (askRest _) rfl
      exact ⟨q, l', e, hq, hp.mono (by omega)⟩
    have : (w = 0 ∨ w = 2) ∨ w = 1 ∨ w = 3 ∨ w = 4 := by omega
    rcases this with hw | rfl | rfl | rfl
    · exact leaf hw
    · obtain ⟨q, l2, e2, hq, p2⟩ := s_a_ask hb d (n + 1) l1 p1 (by omega)
      refine ⟨.not q, l2, ?_, hq, p2.mono (by omega)⟩
      simp [askRest, b_law_a_ask, Q.d, outP, evSs, evS, evE, evEs, rd, fz, fzs, mli, put, truth, ofO, e2]
    · obtain ⟨q, l2, e2, hq, p2⟩ := s_a_ask hb d (n + 1) l1 p1 (by omega)
      obtain ⟨q', l3, e3, hq', p3⟩ := s_a_ask hb d (n + 1 + T d) l2 p2 (by omega)
      refine ⟨.bin "and" q q', l3, ?_, ⟨.inl rfl, hq, hq'⟩, p3.mono (by omega)⟩
      simp [askRest, b_law_a_ask, Q.d, outP, evSs, evS, evE, evEs, rd, fz, fzs, mli, put, truth, ofO, L2.atI, L2.ixN, e2, e3]
    · obtain ⟨q, l2, e2, hq, p2⟩ := s_a_ask hb d (n + 1) l1 p1 (by omega)
      obtain ⟨q', l3, e3, hq', p3⟩ := s_a_ask hb d (n + 1 + T d) l2 p2 (by omega)
      refine ⟨.bin "or" q q', l3, ?_, ⟨.inr rfl, hq, hq'⟩, p3.mono (by omega)⟩
      simp [askRest, b_law_a_ask, Q.d, outP, evSs, evS, evE, evEs, rd, fz, fzs, mli, put, truth, ofO, L2.atI, L2.ixN, e2, e3]
end K82

set_option Elab.async false
set_option linter.all false
set_option maxRecDepth 100000
set_option maxHeartbeats 2000000
namespace K82
open PySem PySem.Spec EvO
theorem s_words {f c r : Int} (hb : Bd f c r) : ∀ (q : Q) (n : Nat), q.wf → q.ok f c r = true → q.size ≤ 31 → q.depth ≤ n → (sg_law_words n).run [q.d] = .ok (.lst (q.wds.map D.str)) ∧ q.wds.length ≤ 3 * q.size
  | q, 0, _, _, _, hd => by
    cases q <;> simp [Q.depth] at hd
  | .leaf w n, k + 1, hw, ho, hs, hd => by
    obtain ⟨i, rfl, hi⟩ := ok_leaf hb ho
    obtain ⟨l2, p2⟩ := num_len hi
    refine ⟨?_, by simp [Q.wds, Q.size]⟩
    simp [Q.d, nD, Q.wds, numO, sg_law_words, runD, envD, outD, b_law_words, evSs, evS, evE, evEs, evO, evI, stT, loopF, asInt, rd, fz, fzs, mli, put, setS, slotOf, slotD, C.isF, truth, ofO, L2.atI, L2.ixN, cutD, HT.sIx, p2]
  | .two w a b, k + 1, hw, ho, hs, hd => by
    obtain ⟨⟨i, rfl, hi⟩, j, rfl, hj⟩ := ok_two hb ho
    obtain ⟨l2, p2⟩ := num_len hi
    obtain ⟨l3, p3⟩ := num_len hj
    refine ⟨?_, by simp [Q.wds, Q.size]⟩
    simp [Q.d, nD, Q.wds, numO, sg_law_words, runD, envD, outD, b_law_words, evSs, evS, evE, evEs, evO, evI, stT, loopF, asInt, rd, fz, fzs, mli, put, setS, slotOf, slotD, C.isF, truth, ofO, L2.atI, L2.ixN, cutD, HT.sIx, p2, p3]
  | .hd a x, k + 1, hw, ho, hs, hd => by
    obtain ⟨⟨i, rfl, hi⟩, hx⟩ := ok_hd hb ho
    obtain ⟨l2, p2⟩ := num_len hi
    refine ⟨?_, by simp [Q.wds, Q.size]⟩
    simp [Q.d, nD, Q.wds, numO, sg_law_words, runD, envD, outD, b_law_words, evSs, evS, evE, evEs, evO, evI, stT, loopF, asInt, rd, fz, fzs, mli, put, setS, slotOf, slotD, C.isF, truth, ofO, L2.atI, L2.ixN, cutD, HT.sIx, p2]
  | .not x, k + 1, hw, ho, hs, hd => by
    have hs' : x.size + 1 ≤ 31 := hs
    have hd' : x.depth + 1 ≤ k + 1 := hd
    obtain ⟨ih, il⟩ := s_words hb x k hw ho (by omega) (by omega)
    have hx : primD .isTup [x.d] = some (.bl true) := by cases x <;> rfl
    refine ⟨?_, by simp [Q.wds, Q.size]; omega⟩
    simp [Q.d, Q.wds, sg_law_words, runD, envD, outD, b_law_words, evSs, evS, evE, evEs, evO, evI, stT, loopF, asInt, rd, fz, fzs, mli, put, setS, slotOf, slotD, C.isF, truth, ofO, L2.atI, L2.ixN, cutD, HT.sIx, ih, hx, (show 1 + x.wds.length ≤ 16777216 by omega)]
  | .bin w x y, k + 1, hw, ho, hs, hd => by
    have hs' : x.size + y.size + 1 ≤ 31 := hs
    have hd' : max x.depth y.depth + 1 ≤ k + 1 := hd
    obtain ⟨h1, h2⟩ := Bool.and_eq_true_iff.mp (show (x.ok f c r && y.ok f c r) = true from ho)
    obtain ⟨ih1, il1⟩ := s_words hb x k hw.2.1 h1 (by omega) (by omega)
    obtain ⟨ih2, il2⟩ := s_words hb y k hw.2.2 h2 (by omega) (by omega)
    have hx : primD .isTup [x.d] = some (.bl true) := by cases x <;> rfl
    have hy : primD .isTup [y.d] = some (.bl true) := by cases y <;> rfl
    refine ⟨?_, by simp [Q.wds, Q.size]; omega⟩
    simp [Q.d, Q.wds, sg_law_words, runD, envD, outD, b_law_words, evSs, evS, evE, evEs, evO, evI, stT, loopF, asInt, rd, fz, fzs, mli, put, setS, slotOf, slotD, C.isF, truth, ofO, L2.atI, L2.ixN, cutD, HT.sIx, ih1, ih2, hx, hy, (show 1 + x.wds.length ≤ 16777216 by omega), (show x.wds.length + 1 + y.wds.length ≤ 16777216 by omega)]
end K82

set_option Elab.async false
set_option linter.all false
set_option maxRecDepth 100000
set_option maxHeartbeats 2000000
namespace K82
open PySem PySem.Spec EvO
/-- a text that may be handled: its signs, its length -/
structure okS (n : Nat) (t : Str) : Prop where
  c : ∀ k ∈ tl t, k < 0x110000
  l : t.length ≤ n
theorem okS.strOk {n : Nat} {t : Str} (h : okS n t) : PyData.strOk t = true := by
  unfold PyData.strOk
  rw [Array.all_eq_true']
  intro k hk
  exact decide_eq_true (h.c k (by simpa using hk))
theorem tl_len (t : Str) : t.length = (tl t).length := len_str t
theorem okS.app {n m : Nat} {a b : Str} (h : okS n a) (h' : okS m b) : okS (n + m) (a ++ b) := by
  have e : tl (a ++ b) = tl a ++ tl b := by
    show (a.cps ++ b.cps).toList = _
    simp
  refine ⟨fun k hk => ?_, ?_⟩
  · rw [e] at hk
    exact (List.mem_append.mp hk).elim (h.c k) (h'.c k)
  · rw [tl_len, e, List.length_append, ← tl_len, ← tl_len]
    have := h.l
    have := h'.l
    omega
theorem okS.mono {n m : Nat} {t : Str} (h : okS n t) (hm : n ≤ m) : okS m t := ⟨h.c, Nat.le_trans h.l hm⟩
theorem cut_sub {α : Type} {xs : List α} {lo hi : Option Int} {x : α} (h : x ∈ cutD xs lo hi) : x ∈ xs := List.mem_of_mem_drop (List.mem_of_mem_take h)
theorem cut_len {α : Type} (xs : List α) (lo hi : Option Int) : (cutD xs lo hi).length ≤ xs.length := by
  unfold cutD
  rw [List.length_take, List.length_drop]
  omega
def cutS (t : Str) (lo hi : Option Int) : Str := ⟨(cutD (tl t) lo hi).toArray⟩
theorem okS.cut {n : Nat} {t : Str} (h : okS n t) (lo hi : Option Int) : okS n (cutS t lo hi) := by
  have e : tl (cutS t lo hi) = cutD (tl t) lo hi := rfl
  refine ⟨fun k hk => h.c k (cut_sub (by rw [e] at hk; exact hk)), ?_⟩
  rw [tl_len, e]
  have := cut_len (tl t) lo hi
  rw [← tl_len] at this
  have := h.l
  omega
theorem sl_str {t : Str} (h : t.length ≤ 16777216) (lo hi : Option Int) : slcD (.str t) lo hi = some (.str (cutS t lo hi)) := if_pos h
theorem jl_mem {c k : Nat} : ∀ {a : List (List Nat)}, k ∈ jl c a → k = c ∨ ∃ p ∈ a, k ∈ p
  | [], h => by cases h
  | [x], h => .inr ⟨x, by simp, h⟩
  | x :: y :: r, h => by
    have h : k ∈ x ++ c :: jl c (y :: r) := h
    rcases List.mem_append.mp h with h | h
    · exact .inr ⟨x, by simp, h⟩
    · rcases List.mem_cons.mp h with h | h
      · exact .inl h
      · rcases jl_mem h with h | ⟨p, hp, h⟩
        · exact .inl h
        · exact .inr ⟨p, by simp [hp], h⟩
theorem mem_jl {c k : Nat} : ∀ {a : List (List Nat)} {p : List Nat}, p ∈ a → k ∈ p → k ∈ jl c a
  | [], p, h, _ => by cases h
  | [x], p, h, hk => by
    rw [List.mem_singleton.mp h] at hk
    exact hk
  | x :: y :: r, p, h, hk => by
    show k ∈ x ++ c :: jl c (y :: r)
    rcases List.mem_cons.mp h with rfl | h
    · simp [hk]
    · have := mem_jl (c := c) h hk
      simp [this]
theorem sum_le {L : List Str} {n : Nat} (h : ∀ w ∈ L, w.length ≤ n) : (L.map (·.length)).sum ≤ L.length * n := by
  induction L with
  | nil => simp
  | cons x L ih =>
    have h1 := h x (by simp)
    have h2 := ih fun w hw => h w (by simp [hw])
    simp only [List.map_cons, List.sum_cons, List.length_cons, Nat.succ_mul]
    omega
/-- words put together -/
theorem join_ok {L : List Str} {n : Nat} (h : ∀ w ∈ L, okS n w) (hn : n ≤ 1010) (hl : L.length ≤ 1010) : okS 1030000 (Txt.join sp L) ∧ (L.map (·.length)).sum + L.length * sp.length ≤ 16777216 := by
  have s1 := sum_le fun w hw => (h w hw).l
  have s2 : L.length * n ≤ 1010 * 1010 := Nat.mul_le_mul hl hn
  rw [nsp]
  refine ⟨⟨fun k hk => ?_, ?_⟩, by omega⟩
  · rw [gj, tl_join] at hk
    rcases jl_mem hk with rfl | ⟨p, hp, hk⟩
    · omega
    · obtain ⟨w, hw, rfl⟩ := List.mem_map.mp hp
      exact (h w hw).c k hk
  · have := StrLaws.join_length_le sp L
    rw [gj, nsp] at *
    omega
theorem split_ok {t : Str} {n : Nat} (h : okS n t) : ∀ w ∈ Txt.split t sp, okS n w := fun w hw => by
  refine ⟨fun k hk => h.c k ?_, Nat.le_trans (word_short hw) h.l⟩
  have e : tl t = jl 32 ((Txt.split t sp).map tl) := by
    rw [← tl_join, ← gj, join_split']
  rw [e]
  exact mem_jl (List.mem_map.mpr ⟨w, hw, rfl⟩) hk
theorem strs_map : ∀ L : List Str, strsD (L.map D.str) = some L
  | [] => rfl
  | x :: L => by simp [strsD, strs_map L]
theorem map_cut (L : List Str) (lo hi : Option Int) : cutD (L.map D.str) lo hi = (cutD L lo hi).map D.str := cut_map D.str L lo hi
end K82

set_option Elab.async false
set_option linter.all false
set_option maxRecDepth 100000
set_option maxHeartbeats 4000000
namespace K82
open PySem PySem.Spec EvO
def othRest : Sms := match b_law_otherwise with
  | .cons _ (.cons _ r) => r
  | _ => .nil
theorem oth_eq : b_law_otherwise = .cons (.par 2 3 (.mth .split (.var 1) (.cst (.str " "))) (.callP sg_law_take 0 (.cons (.cst (.int 6)) .nil))) (.cons (.par 4 5 (.callP sg_law_take 0 (.cons (.prim .len (.cons (.var 2) .nil)) .nil)) (.callP sg_law_take 0 (.cons (.prim .len (.cons (.var 2) .nil)) .nil))) othRest) := rfl
def othSt (l : List D) (t : Str) (W : List Str) (way a b : Int) : EvO.Env := [.io l, .dat (.str t), .own (W.map D.str), .dat (.int way), .dat (.int a), .dat (.int b), .no, .no]
theorem join_two {A B : List Str} (hA : ∀ w ∈ A, okS 700 w) (hB : ∀ w ∈ B, okS 700 w) (hl : A.length + B.length ≤ 1010) : binD .add (.lst (A.map D.str)) (.lst (B.map D.str)) = some (.lst (A.map D.str ++ B.map D.str)) ∧ mthD .join (.str sp) (.lst (A.map D.str ++ B.map D.str)) = some (.str (Txt.join sp (A ++ B))) ∧ okS 1030000 (Txt.join sp (A ++ B)) := by
  have hAB : ∀ w ∈ A ++ B, okS 700 w := fun w hw => (List.mem_append.mp hw).elim (hA w) (hB w)
  obtain ⟨j1, j2⟩ := join_ok hAB (by omega) (by rw [List.length_append]; exact hl)
  exact ⟨Ev.b_addl (by simp; omega), mth_join (by rw [← List.map_append]; exact strs_map _) j2, j1⟩
theorem at_str {W : List Str} {d : Int} (h0 : 0 ≤ d) (h1 : d < W.length) : ∃ w, L2.atI (W.map D.str) d = some (.str w) ∧ w ∈ W ∧ L2.ixN W.length d = some d.toNat := by
  have hi : d.toNat < W.length := by omega
  have e2 : L2.ixN W.length d = some d.toNat := by
    unfold L2.ixN
    rw [if_pos h0, if_pos h1]
  refine ⟨W[d.toNat], ?_, List.getElem_mem hi, e2⟩
  unfold L2.atI
  rw [List.length_map, e2]
  show (W.map D.str)[d.toNat]? = _
  rw [List.getElem?_map, List.getElem?_eq_getElem hi]
  rfl
section
variable {n : Int} {l : List D} {t : Str} {W : List Str} {a b : Int}
theorem cut_ok (hW : ∀ w ∈ W, okS 700 w) (lo hi : Option Int) : ∀ w ∈ cutD W lo hi, okS 700 w := fun w hw => hW w (cut_sub hw)
theorem oth0 (hW : ∀ w ∈ W, okS 700 w) (hz : W.length ≤ 502) : ∃ t', outP (evSs 100 othRest (othSt l t W 0 a b)) = .ok (.str t') l ∧ okS 1030000 t' := by
  have l1 := cut_len W none (some a)
  have l2 := cut_len W (some (a + 1)) none
  obtain ⟨j1, j2, j3⟩ := join_two (cut_ok hW none (some a)) (cut_ok hW (some (a + 1)) none) (by omega)
  refine ⟨_, ?_, j3⟩
  simp [othRest, b_law_otherwise, othSt, outP, evSs, evS, evE, evEs, evO, asInt, rd, fz, fzs, truth, ofO, map_cut, j1, j2]
theorem okS_const : ∀ w ∈ ([("lit" : Str), "not", "and", "0", "1", "up", "at", "", "00", "load", "9"] : List Str), (∀ k ∈ tl w, k < 0x110000) ∧ w.length ≤ 700 := by decide +kernel
theorem oth1 (h : PotOk n l) (hn : n ≤ 900000) (hW : ∀ w ∈ W, okS 700 w) (hz : W.length ≤ 502) : ∃ t' l', outP (evSs 100 othRest (othSt l t W 1 a b)) = .ok (.str t') l' ∧ okS 1030000 t' ∧ PotOk (n + 1) l' := by
  obtain ⟨x, l', e, hx, hp⟩ := s_of (xs := ([("lit" : Str), "not", "and", "0", "1", "up", "at", "", "00", "load", "9"] : List Str).map D.str) h (by omega) (by simp) (by simp)
  obtain ⟨w, hw, rfl⟩ := List.mem_map.mp hx
  have hw2 : okS 700 w := ⟨(okS_const w hw).1, (okS_const w hw).2⟩
  have l1 := cut_len W none (some a)
  have l2 := cut_len W (some a) none
  have hA : ∀ v ∈ cutD W none (some a) ++ [w], okS 700 v := fun v hv => (List.mem_append.mp hv).elim (cut_ok hW none (some a) v) fun z => by rw [List.mem_singleton.mp z]; exact hw2
  obtain ⟨j1, j2, j3⟩ := join_two (A := cutD W none (some a) ++ [w]) (B := cutD W (some a) none) hA (cut_ok hW (some a) none) (by simp; omega)
  have j0 : binD .add (.lst ((cutD W none (some a)).map D.str)) (.lst [.str w]) = some (.lst ((cutD W none (some a)).map D.str ++ [.str w])) := Ev.b_addl (by simp; omega)
  simp only [List.map_append, List.map_cons, List.map_nil] at j1 j2 e
  refine ⟨_, l', ?_, j3, hp⟩
  simp [othRest, b_law_otherwise, othSt, outP, evSs, evS, evE, evEs, evO, asInt, rd, fz, fzs, mli, put, setS, slotOf, slotD, C.isF, truth, ofO, map_cut]
  simp only [e]
  simp only [List.append_assoc, List.cons_append, List.nil_append] at j1 j2
  simp [fz, fzs, slotD, setS, evO, asInt, rd, map_cut, j0, j1, j2]
theorem oth2 (hW : ∀ w ∈ W, okS 700 w) (hz : W.length ≤ 502) (a0 : 0 ≤ a) (a1 : a < W.length) (b0 : 0 ≤ b) (b1 : b < W.length) : ∃ t', outP (evSs 100 othRest (othSt l t W 2 a b)) = .ok (.str t') l ∧ okS 1030000 t' := by
  obtain ⟨wa, ea, ma, ia⟩ := at_str a0 a1
  obtain ⟨wb, eb, mb, ib⟩ := at_str b0 b1
  have hS : ∀ w ∈ (W.set a.toNat wb).set b.toNat wa, okS 700 w := fun w hw => by
    rcases List.mem_or_eq_of_mem_set hw with hw | rfl
    · rcases List.mem_or_eq_of_mem_set hw with hw | rfl
      · exact hW w hw
      · exact hW _ mb
    · exact hW _ ma
  obtain ⟨j1, j2⟩ := join_ok hS (by omega) (by simp; omega)
  have j3 := mth_join (strs_map ((W.set a.toNat wb).set b.toNat wa)) j2
  simp only [List.map_set] at j3
  refine ⟨_, ?_, j1⟩
  simp [othRest, b_law_otherwise, othSt, outP, evSs, evS, evE, evEs, evO, stT, stTs, asInt, rd, fz, fzs, mli, put, truth, ofO, ea, eb, ia, ib, Tgs.length, j3]
theorem oth3 (h : PotOk n l) (hn : n ≤ 900000) (ht : okS 700 t) : ∃ t' l', outP (evSs 100 othRest (othSt l t W 3 a b)) = .ok (.str t') l' ∧ okS 1030000 t' ∧ PotOk (n + 1) l' := by
  have hl := ht.l
  obtain ⟨d, l', e, d0, d1, hp⟩ := s_take (u := t.length + 1) h (by omega) (by omega) (by omega)
  have pl := Ev.p_len_str (s := t) (by omega)
  have c1 := ht.cut none (some d)
  have c2 := ht.cut (some (d + 1)) none
  have s1 := sl_str (t := t) (by omega)
  have ad : binD .add (.str (cutS t none (some d))) (.str (cutS t (some (d + 1)) none)) = some (.str (cutS t none (some d) ++ cutS t (some (d + 1)) none)) := Ev.b_adds (by have := c1.l; have := c2.l; omega)
  refine ⟨_, l', ?_, (c1.app c2).mono (by omega), hp⟩
  simp [othRest, b_law_otherwise, othSt, outP, evSs, evS, evE, evEs, evO, asInt, rd, fz, fzs, mli, put, setS, slotOf, slotD, C.isF, truth, ofO, pl, e, s1, ad]
theorem letters : ∀ x ∈ (("01 lnaotud-" : Str).cps.toList.map fun c => D.str ⟨#[c]⟩), ∃ c : Nat, x = .str ⟨#[c]⟩ ∧ c < 0x110000 := by
  intro x hx
  obtain ⟨c, hc, rfl⟩ := List.mem_map.mp hx
  have : ∀ c ∈ ("01 lnaotud-" : Str).cps.toList, c < 0x110000 := by decide +kernel
  exact ⟨c, rfl, this c hc⟩
theorem s_ofS (h : PotOk n l) (hn : n ≤ 1000000) : ∃ c l', sg_law_of.run l [.str "01 lnaotud-"] = .ok (.str ⟨#[c]⟩) l' ∧ c < 0x110000 ∧ PotOk (n + 1) l' := by
  have hlen : ("01 lnaotud-" : Str).length = 11 := by decide +kernel
  obtain ⟨d, l', e, d0, d1, hp⟩ := s_take (u := 11) h hn (by omega) (by omega)
  have pl : primD .len [.str "01 lnaotud-"] = some (.int 11) := rfl
  have : ∃ c : Nat, idxD (.str "01 lnaotud-") (.int d) = some (.str ⟨#[c]⟩) ∧ c < 0x110000 := by
    have : d = 0 ∨ d = 1 ∨ d = 2 ∨ d = 3 ∨ d = 4 ∨ d = 5 ∨ d = 6 ∨ d = 7 ∨ d = 8 ∨ d = 9 ∨ d = 10 := by omega
    rcases this with rfl | rfl | rfl | rfl | rfl | rfl | rfl | rfl | rfl | rfl | rfl
    · exact ⟨48, rfl, by omega⟩
    · exact ⟨49, rfl, by omega⟩
    · exact ⟨32, rfl, by omega⟩
    · exact ⟨108, rfl, by omega⟩
    · exact ⟨110, rfl, by omega⟩
    · exact ⟨97, rfl, by omega⟩
    · exact ⟨111, rfl, by omega⟩
    · exact ⟨116, rfl, by omega⟩
    · exact ⟨117, rfl, by omega⟩
    · exact ⟨100, rfl, by omega⟩
    · exact ⟨45, rfl, by omega⟩
  obtain ⟨c, hc, hc2⟩ := this
  refine ⟨c, l', ?_, hc2, hp⟩
  simp [sg_law_of, runP, envP, outP, b_law_of, evSs, evS, evE, evEs, rd, fz, fzs, mli, put, ofO, pl, e, hc]
theorem oth4 {way : Int} (hw : way = 4 ∨ way = 5) (h : PotOk n l) (hn : n ≤ 900000) (ht : okS 700 t) : ∃ t' l', outP (evSs 100 othRest (othSt l t W way a b)) = .ok (.str t') l' ∧ okS 1030000 t' ∧ PotOk (n + 2) l' := by
  have hl := ht.l
  obtain ⟨d, l', e, d0, d1, hp⟩ := s_take (u := t.length + 1) h (by omega) (by omega) (by omega)
  obtain ⟨k, l2, e2, hk, hp2⟩ := s_ofS hp (by omega)
  have pl := Ev.p_len_str (s := t) (by omega)
  have s1 := sl_str (t := t) (by omega)
  have ck : okS 1 ⟨#[k]⟩ := ⟨fun c hc => by
    have : c = k := by simpa [tl] using hc
    omega, by simp [Str.length]⟩
  have c1 := ht.cut none (some d)
  have go : ∀ (x : Int), d + way - 4 = x → ∃ t' l', outP (evSs 100 othRest (othSt l t W way a b)) = .ok (.str t') l' ∧ okS 1030000 t' ∧ PotOk (n + 2) l' := fun x hx => by
    have c2 := ht.cut (some x) none
    have a1 : binD .add (.str (cutS t none (some d))) (.str ⟨#[k]⟩) = some (.str (cutS t none (some d) ++ ⟨#[k]⟩)) := Ev.b_adds (by have := c1.l; have := ck.l; omega)
    have a2 : binD .add (.str (cutS t none (some d) ++ ⟨#[k]⟩)) (.str (cutS t (some x) none)) = some (.str (cutS t none (some d) ++ ⟨#[k]⟩ ++ cutS t (some x) none)) := Ev.b_adds (by have := (c1.app ck).l; have := c2.l; omega)
    refine ⟨_, l2, ?_, ((c1.app ck).app c2).mono (by omega), hp2.mono (by omega)⟩
    rcases hw with rfl | rfl <;>
      simp [othRest, b_law_otherwise, othSt, evSs, evS, evE, evEs, outP, evO, asInt, rd, fz, fzs, mli, put, setS, slotOf, slotD, C.isF, truth, ofO, pl, e, s1, e2, a1, hx, a2]
  exact go _ rfl
end
end K82

set_option Elab.async false
set_option linter.all false
set_option maxRecDepth 100000
set_option maxHeartbeats 4000000
namespace K82
open PySem PySem.Spec EvO
theorem s_otherwise {n : Int} {l : List D} {t : Str} (h : PotOk n l) (hn : n ≤ 800000) (ht : okS 700 t) (hz : (Txt.split t sp).length ≤ 502) : ∃ t' l', sg_law_otherwise.run l [.str t] = .ok (.str t') l' ∧ okS 1030000 t' ∧ PotOk (n + 6) l' := by
  have hl := ht.l
  have hW := split_ok ht
  have hp := PyProof.Rows.split_pos t sp
  generalize hWe : Txt.split t sp = W at hW hz hp
  obtain ⟨w, l1, e1, w0, w1, p1⟩ := s_take (u := 6) h (by omega) (by omega) (by omega)
  obtain ⟨a, l2, e2, a0, a1, p2⟩ := s_take (u := W.length) p1 (by omega) (by omega) (by omega)
  obtain ⟨b, l3, e3, b0, b1, p3⟩ := s_take (u := W.length) p2 (by omega) (by omega) (by omega)
  have sn : sp.length ≠ 0 := by rw [nsp]; decide
  have sp1 : mthD .split (.str t) (.str sp) = some (.lst (W.map .str)) := by
    rw [← hWe]
    exact if_pos ⟨sn, by show t.length + 2 ≤ 16777216; omega⟩
  have st : sg_law_otherwise.run l [.str t] = outP (evSs 100 b_law_otherwise [.io l, .dat (.str t), .no, .no, .no, .no, .no, .no]) := rfl
  have s1 : evS 100 (.par 2 3 (.mth .split (.var 1) (.cst (.str " "))) (.callP sg_law_take 0 (.cons (.cst (.int 6)) .nil))) [.io l, .dat (.str t), .no, .no, .no, .no, .no, .no] = .nx [.io l1, .dat (.str t), .own (W.map D.str), .dat (.int w), .no, .no, .no, .no] := by
    simp [evS, evE, evEs, rd, fz, fzs, mli, put, setS, slotOf, slotD, C.isF, ofO, sp1, e1]
  have s2 : evS 100 (.par 4 5 (.callP sg_law_take 0 (.cons (.prim .len (.cons (.var 2) .nil)) .nil)) (.callP sg_law_take 0 (.cons (.prim .len (.cons (.var 2) .nil)) .nil))) [.io l1, .dat (.str t), .own (W.map D.str), .dat (.int w), .no, .no, .no, .no] = .nx (othSt l3 t W w a b) := by
    simp [othSt, evS, evE, evEs, rd, fz, fzs, mli, put, setS, slotOf, slotD, C.isF, ofO, e2, e3]
  have run : sg_law_otherwise.run l [.str t] = outP (evSs 100 othRest (othSt l3 t W w a b)) := by
    rw [st, oth_eq]
    simp only [evSs, s1, s2]
  rw [run]
  have : w = 0 ∨ w = 1 ∨ w = 2 ∨ w = 3 ∨ (w = 4 ∨ w = 5) := by omega
  rcases this with rfl | rfl | rfl | rfl | hw
  · obtain ⟨t', e, ok⟩ := oth0 (l := l3) (t := t) (a := a) (b := b) hW hz
    exact ⟨t', l3, e, ok, p3.mono (by omega)⟩
  · obtain ⟨t', l', e, ok, hp'⟩ := oth1 (t := t) (a := a) (b := b) p3 (by omega) hW hz
    exact ⟨t', l', e, ok, hp'.mono (by omega)⟩
  · obtain ⟨t', e, ok⟩ := oth2 (l := l3) (t := t) hW hz a0 a1 b0 b1
    exact ⟨t', l3, e, ok, p3.mono (by omega)⟩
  · obtain ⟨t', l', e, ok, hp'⟩ := oth3 (W := W) (a := a) (b := b) p3 (by omega) ht
    exact ⟨t', l', e, ok, hp'.mono (by omega)⟩
  · obtain ⟨t', l', e, ok, hp'⟩ := oth4 (W := W) (a := a) (b := b) hw p3 (by omega) ht
    exact ⟨t', l', e, ok, hp'.mono (by omega)⟩
/-- repr of a text -/
theorem repr_str {t : Str} (h : okS 1030000 t) : ∃ s, primD .repr [.str t] = some (.str s) := by
  have hl : PyData.layable0 (.str t) = true := by
    unfold PyData.layable0
    have h1 : PyData.canLay0 (.str t) = true := h.strOk
    have h2 : (PyData.str t).depth = 0 := rfl
    have h3 : (PyData.str t).weight = t.cps.size := rfl
    have h4 : t.cps.size ≤ 1030000 := h.l
    rw [h1, h2, h3]
    simp
    omega
  have := PyProof.Rows.shown_le13 hl rfl
  exact ⟨_, if_pos (by show _ ≤ 16777216; omega)⟩
/-- the data of a good ask -/
def nP : Option Int → PyData
  | some i => .int i
  | none => .none
def Q.p : Q → PyData
  | .leaf w n => .tuple [.str w, nP n]
  | .two w a b => .tuple [.str w, nP a, nP b]
  | .hd a h => .tuple [.str "heading", nP a, .str h]
  | .not x => .tuple [.str "not", x.p]
  | .bin w x y => .tuple [.str w, x.p, y.p]
theorem nP_ok (n : Option Int) : D.py (nD n) = some (nP n) := by cases n <;> rfl
theorem Q.py_eq : ∀ q : Q, D.py q.d = some q.p
  | .leaf w n => by simp [Q.d, Q.p, D.py, D.pys, nP_ok]
  | .two w a b => by simp [Q.d, Q.p, D.py, D.pys, nP_ok]
  | .hd a x => by simp [Q.d, Q.p, D.py, D.pys, nP_ok]
  | .not x => by simp [Q.d, Q.p, D.py, D.pys, Q.py_eq x]
  | .bin w x y => by simp [Q.d, Q.p, D.py, D.pys, Q.py_eq x, Q.py_eq y]
theorem nP_small {n : Option Int} (h : ∃ i, n = some i ∧ Small i) : (nP n).depth = 0 ∧ (nP n).weight ≤ 20 ∧ (nP n).intsShort 13 = true ∧ (nP n).showable = true := by
  obtain ⟨i, rfl, hi⟩ := h
  rcases hi with rfl | rfl | rfl | rfl | rfl <;> exact ⟨rfl, by decide +kernel, by decide +kernel, by decide +kernel⟩
structure Fine (p : PyData) (k : Nat) : Prop where
  d : p.depth ≤ k
  w : p.weight ≤ 60 * k
  i : p.intsShort 13 = true
  s : p.showable = true
theorem fine_two {w : Str} {a : PyData} {k : Nat} (hw : w.length ≤ 10) (h1 : Fine a k) : Fine (.tuple [.str w, a]) (k + 1) := by
  have ws : (PyData.str w).weight = w.length := rfl
  refine ⟨?_, ?_, ?_, ?_⟩
  · show PyData.depthAll [.str w, a] + 1 ≤ _
    simp only [PyData.depthAll, PyData.depth]
    have := h1.d
    omega
  · show PyData.weightAll [.str w, a] ≤ _
    simp only [PyData.weightAll, ws]
    have := h1.w
    omega
  · show PyData.intsShortAll 13 [.str w, a] = true
    simp [PyData.intsShortAll, PyData.intsShort, h1.i]
  · show PyData.showableAll [.str w, a] = true
    simp [PyData.showableAll, PyData.showable, h1.s]
theorem fine_three {w : Str} {a b : PyData} {k m : Nat} (hw : w.length ≤ 10) (h1 : Fine a k) (h2 : Fine b m) : Fine (.tuple [.str w, a, b]) (k + m + 1) := by
  have ws : (PyData.str w).weight = w.length := rfl
  refine ⟨?_, ?_, ?_, ?_⟩
  · show PyData.depthAll [.str w, a, b] + 1 ≤ _
    simp only [PyData.depthAll, PyData.depth]
    have := h1.d
    have := h2.d
    omega
  · show PyData.weightAll [.str w, a, b] ≤ _
    simp only [PyData.weightAll, ws]
    have := h1.w
    have := h2.w
    omega
  · show PyData.intsShortAll 13 [.str w, a, b] = true
    simp [PyData.intsShortAll, PyData.intsShort, h1.i, h2.i]
  · show PyData.showableAll [.str w, a, b] = true
    simp [PyData.showableAll, PyData.showable, h1.s, h2.s]
theorem fine_num {n : Option Int} (h : ∃ i, n = some i ∧ Small i) : Fine (nP n) 1 := by
  obtain ⟨h1, h2, h3, h4⟩ := nP_small h
  exact ⟨by omega, by omega, h3, h4⟩
theorem fine_str {x : Str} (h : x.length ≤ 10) : Fine (.str x) 1 := ⟨by simp [PyData.depth], by show x.length ≤ 60; omega, rfl, rfl⟩
theorem q_fine {f c r : Int} (hb : Bd f c r) : ∀ q : Q, q.wf → q.ok f c r = true → Fine q.p (3 * q.size)
  | .leaf w n, hw, ho => by
    have l1 := word_len (w := w) (by rcases hw with h | h | h <;> simp [h])
    have q := fine_two (w := w) (by omega) (fine_num (ok_leaf hb ho))
    exact ⟨by have := q.d; simp only [Q.size]; exact Nat.le_trans this (by omega), by have := q.w; simp only [Q.size]; exact Nat.le_trans this (by omega), q.i, q.s⟩
  | .two w a b, hw, ho => by
    have l1 := word_len (w := w) (by rcases hw with h | h <;> simp [h])
    obtain ⟨h1, h2⟩ := ok_two hb ho
    exact fine_three (by omega) (fine_num h1) (fine_num h2)
  | .hd a x, hw, ho => by
    obtain ⟨h1, h2⟩ := ok_hd hb ho
    have := (head_len h2).1
    exact fine_three (by simp [lens]) (fine_num h1) (fine_str (x := x) (by omega))
  | .not x, hw, ho => by
    have ih := q_fine hb x hw ho
    have q := fine_two (w := "not") (by simp [lens]) ih
    exact ⟨by have := q.d; simp only [Q.size]; exact Nat.le_trans this (by omega), by have := q.w; simp only [Q.size]; exact Nat.le_trans this (by omega), q.i, q.s⟩
  | .bin w x y, hw, ho => by
    obtain ⟨o1, o2⟩ := Bool.and_eq_true_iff.mp (show (x.ok f c r && y.ok f c r) = true from ho)
    have l1 := word_len (w := w) (by rcases hw.1 with h | h <;> simp [h])
    have q := fine_three (w := w) (by omega) (q_fine hb x hw.2.1 o1) (q_fine hb y hw.2.2 o2)
    exact ⟨by have := q.d; simp only [Q.size]; exact Nat.le_trans this (by omega), by have := q.w; simp only [Q.size]; exact Nat.le_trans this (by omega), q.i, q.s⟩
theorem p_depth : ∀ q : Q, q.p.depth = q.depth
  | .leaf w n => by cases n <;> rfl
  | .two w a b => by cases a <;> cases b <;> rfl
  | .hd a x => by cases a <;> rfl
  | .not x => by
    show PyData.depthAll [.str "not", x.p] + 1 = x.depth + 1
    simp [PyData.depthAll, PyData.depth, p_depth x]
  | .bin w x y => by
    show PyData.depthAll [.str w, x.p, y.p] + 1 = max x.depth y.depth + 1
    simp [PyData.depthAll, PyData.depth, p_depth x, p_depth y]
theorem repr_q {f c r : Int} (hb : Bd f c r) {q : Q} (hw : q.wf) (hg : good f c r q = true) : ∃ s, primD .repr [q.d] = some (.str s) := by
  obtain ⟨g1, g2⟩ := Bool.and_eq_true_iff.mp hg
  have g1 := of_decide_eq_true g1
  have F := q_fine hb q hw g2
  obtain ⟨p, e1, e2⟩ := Q.py q hw
  have e3 := Q.py_eq q
  rw [e1] at e3
  cases e3
  have hd : q.p.depth ≤ 64 := by rw [p_depth]; have := depth_size q; omega
  have hwt : q.p.weight ≤ 2 ^ 20 := by have := F.w; omega
  have hl : PyData.layable0 q.p = true := by
    unfold PyData.layable0
    simp [e2, hd, hwt]
  have sh : SeqAt.shaped q.p = true := by
    unfold SeqAt.shaped
    simp [e2, hd]
  have ln := PyProof.Rows.shown_le13 hl F.i
  have key : primD .repr [q.d] = (match D.py q.d with
    | some p => if SeqAt.shaped p && PyData.showable p && decide (p.shown.length ≤ big) then some (D.str p.shown) else none
    | none => none) := by cases q <;> rfl
  rw [key, Q.py_eq]
  dsimp only
  have l2 : q.p.shown.length ≤ big := by show _ ≤ 16777216; omega
  rw [sh, F.s, decide_eq_true l2]
  exact ⟨_, rfl⟩
end K82

set_option Elab.async false
set_option linter.all false
set_option maxRecDepth 100000
set_option maxHeartbeats 8000000
namespace K82
open PySem PySem.Spec EvO
theorem wds_ok {f c r : Int} (hb : Bd f c r) : ∀ (q : Q), q.wf → q.ok f c r = true → ∀ w ∈ q.wds, okS 700 w := by
  have num : ∀ {i : Int}, Small i → okS 700 (numS i) := fun {i} h => by
    have : ∀ i : Int, Small i → (∀ k ∈ tl (numS i), k < 0x110000) ∧ (numS i).length ≤ 700 := by
      intro i h
      rcases h with rfl | rfl | rfl | rfl | rfl <;> decide +kernel
    exact ⟨(this i h).1, (this i h).2⟩
  have con : ∀ w ∈ ([("lit" : Str), "stands", "wished", "at", "load", "heading", "not", "and", "or", "none", "up", "down"] : List Str), okS 700 w := fun w hw => by
    have : ∀ w ∈ ([("lit" : Str), "stands", "wished", "at", "load", "heading", "not", "and", "or", "none", "up", "down"] : List Str), (∀ k ∈ tl w, k < 0x110000) ∧ w.length ≤ 700 := by decide +kernel
    exact ⟨(this w hw).1, (this w hw).2⟩
  intro q
  induction q with
  | leaf w n =>
    intro hw ho v hv
    obtain ⟨i, rfl, hi⟩ := ok_leaf hb ho
    have hv : v ∈ [w, numS i] := hv
    simp at hv
    rcases hv with rfl | rfl
    · rcases hw with rfl | rfl | rfl <;> exact con _ (by simp)
    · exact num hi
  | two w a b =>
    intro hw ho v hv
    obtain ⟨⟨i, rfl, hi⟩, j, rfl, hj⟩ := ok_two hb ho
    have hv : v ∈ [w, numS i, numS j] := hv
    simp at hv
    rcases hv with rfl | rfl | rfl
    · rcases hw with rfl | rfl <;> exact con _ (by simp)
    · exact num hi
    · exact num hj
  | hd a x =>
    intro hw ho v hv
    obtain ⟨⟨i, rfl, hi⟩, hx⟩ := ok_hd hb ho
    have hv : v ∈ [("heading" : Str), numS i, x] := hv
    simp at hv
    rcases hv with rfl | rfl | rfl
    · exact con _ (by simp)
    · exact num hi
    · rcases (head_len hx).2 with rfl | rfl | rfl <;> exact con _ (by simp)
  | not x ih =>
    intro hw ho v hv
    have hv : v ∈ ("not" : Str) :: x.wds := hv
    rcases List.mem_cons.mp hv with rfl | hv
    · exact con _ (by simp)
    · exact ih hw ho v hv
  | bin w x y i1 i2 =>
    intro hw ho v hv
    obtain ⟨o1, o2⟩ := Bool.and_eq_true_iff.mp (show (x.ok f c r && y.ok f c r) = true from ho)
    have hv : v ∈ w :: (x.wds ++ y.wds) := hv
    rcases List.mem_cons.mp hv with rfl | hv
    · rcases hw.1 with rfl | rfl <;> exact con _ (by simp)
    · rcases List.mem_append.mp hv with hv | hv
      · exact i1 hw.2.1 o1 v hv
      · exact i2 hw.2.2 o2 v hv
/-- what is known of a good ask -/
structure Gd (f c r : Int) (q : Q) : Prop where
  b : Bd f c r
  w : q.wf
  g : good f c r q = true
theorem Gd.ok {f c r : Int} {q : Q} (h : Gd f c r q) : q.ok f c r = true := (Bool.and_eq_true_iff.mp h.g).2
theorem Gd.size {f c r : Int} {q : Q} (h : Gd f c r q) : q.size ≤ 31 := of_decide_eq_true (Bool.and_eq_true_iff.mp h.g).1
theorem Gd.words {f c r : Int} {q : Q} (h : Gd f c r q) : (sg_law_words 40).run [q.d] = .ok (.lst (q.wds.map D.str)) ∧ q.wds.length ≤ 93 := by
  obtain ⟨h1, h2⟩ := s_words h.b q 40 h.w h.ok h.size (by have := depth_size q; have := h.size; omega)
  exact ⟨h1, by have := h.size; omega⟩
theorem Gd.join {f c r : Int} {q : Q} (h : Gd f c r q) : mthD .join (.str sp) (.lst (q.wds.map D.str)) = some (.str q.text) := by
  obtain ⟨j1, j2⟩ := join_ok (wds_ok h.b q h.w h.ok) (by omega) (by have := h.words.2; omega)
  rw [text_eq]
  exact mth_join (strs_map _) j2
theorem Gd.text {f c r : Int} {q : Q} (h : Gd f c r q) : okS 700 q.text := by
  obtain ⟨j1, j2⟩ := join_ok (wds_ok h.b q h.w h.ok) (by omega) (by have := h.words.2; omega)
  rw [← text_eq] at j1
  have := text_len h.b q h.w h.ok
  have := h.size
  exact ⟨j1.c, by omega⟩
theorem Gd.split {f c r : Int} {q : Q} (h : Gd f c r q) : (Txt.split q.text sp).length ≤ 502 := by
  rw [text_eq, split_join (wds_ne q) (nb_wds h.b q h.w h.ok)]
  have := h.words.2
  omega
def rtSt (l : List D) (b q : D) (t : Str) (s4 s5 s6 s7 : Slot) : EvO.Env := [.io l, .dat b, .dat q, .dat (.str t), s4, s5, s6, s7]
def noIo : Slot → Prop
  | .no => True
  | .dat _ => True
  | _ => False
def lapTurn : D → EvO.Env → SOut := fun d r2 => (stT (.nm 4) d r2).thn fun _ r3 => evSs 100 lapBody r3
theorem lap_one {f c r n : Int} {q : Q} {l : List D} {d : D} {s4 s5 s6 s7 : Slot} (h : Gd f c r q) (hp : PotOk n l) (hn : n ≤ 800000) (h4 : noIo s4) (h5 : noIo s5) (h6 : noIo s6) (h7 : noIo s7) :
    ∃ l' a4 a5 a6 a7, lapTurn d (rtSt l (bd f c r) q.d q.text s4 s5 s6 s7) = .nx (rtSt l' (bd f c r) q.d q.text (.dat a4) (.dat a5) (.dat a6) (.dat a7)) ∧ PotOk (n + 6) l' := by
  obtain ⟨t', l', e, ht, hp'⟩ := s_otherwise hp hn h.text h.split
  obtain ⟨r1, r2⟩ := s_read h.b (t := t') (by have := ht.l; omega)
  obtain ⟨rs, hrs⟩ := repr_str ht
  cases hq : readQ f c r t' with
  | none =>
    rw [hq] at r1
    have ne : ¬ (t' = q.text) := fun z => by
      rw [z, read_back h.b h.w h.g] at hq
      cases hq
    refine ⟨l', d, .str t', .exn "NoText" (.str t'), .non, ?_, hp'⟩
    cases s4 <;> cases s5 <;> cases s6 <;> cases s7 <;> simp [noIo] at h4 h5 h6 h7 <;>
      simp [lapTurn, lapBody, rtSt, evSs, evS, evE, evEs, stT, stTs, rd, fz, fzs, mli, put, setS, slotOf, slotD, C.isF, hide, hideS, truth, ofO, e, r1, hrs, ne, Tgs.length]
  | some q' =>
    rw [hq] at r1
    obtain ⟨w', g', tx⟩ := r2 q' hq
    have h' : Gd f c r q' := ⟨h.b, w', g'⟩
    have ia := s_is_ask h.b w'
    rw [g'] at ia
    have wo := h'.words.1
    have jo := h'.join
    rw [tx] at jo
    refine ⟨l', d, .str t', .non, q'.d, ?_, hp'⟩
    cases s4 <;> cases s5 <;> cases s6 <;> cases s7 <;> simp [noIo] at h4 h5 h6 h7 <;>
      simp [lapTurn, lapBody, rtSt, evSs, evS, evE, evEs, stT, stTs, rd, fz, fzs, mli, put, setS, slotOf, slotD, C.isF, hide, hideS, truth, ofO, e, r1, ia, wo, jo, Tgs.length]
end K82

set_option Elab.async false
set_option linter.all false
set_option maxRecDepth 100000
set_option maxHeartbeats 8000000
namespace K82
open PySem PySem.Spec EvO
theorem laps {f c r : Int} {q : Q} (h : Gd f c r q) : ∀ (ds : List D) (n : Int) (l : List D) (s4 s5 s6 s7 : Slot), PotOk n l → n + 6 * ds.length ≤ 700000 → noIo s4 → noIo s5 → noIo s6 → noIo s7 →
    ∃ l' a4 a5 a6 a7, loopF lapTurn ds (rtSt l (bd f c r) q.d q.text s4 s5 s6 s7) = .nx (rtSt l' (bd f c r) q.d q.text a4 a5 a6 a7) ∧ PotOk (n + 6 * ds.length) l'
  | [], n, l, s4, s5, s6, s7, hp, hn, h4, h5, h6, h7 => ⟨l, s4, s5, s6, s7, rfl, hp.mono (by simp)⟩
  | d :: ds, n, l, s4, s5, s6, s7, hp, hn, h4, h5, h6, h7 => by
    simp only [List.length_cons] at hn ⊢
    obtain ⟨l1, a4, a5, a6, a7, e, p1⟩ := lap_one (d := d) h hp (by omega) h4 h5 h6 h7
    obtain ⟨l2, b4, b5, b6, b7, e2, p2⟩ := laps h ds (n + 6) l1 (.dat a4) (.dat a5) (.dat a6) (.dat a7) p1 (by omega) trivial trivial trivial trivial
    refine ⟨l2, b4, b5, b6, b7, ?_, p2.mono (by omega)⟩
    simp only [loopF, e, e2]
def rt1 : Sms := match b_law_right with
  | .cons _ r => r
  | _ => .nil
def rtHead : Sm := match b_law_right with
  | .cons s _ => s
  | _ => .pass
def nth : Nat → Sms → Sm
  | 0, .cons s _ => s
  | n + 1, .cons _ r => nth n r
  | _, .nil => .pass
theorem right_eq : b_law_right = .cons (nth 0 b_law_right) (.cons (nth 1 b_law_right) (.cons (nth 2 b_law_right) (.cons (nth 3 b_law_right) (.cons (nth 4 b_law_right) (.cons (.for_ (.nm 4) (.rng1 (.cst (.int 10))) lapBody) (.cons (.ret (.cst (.bl true))) .nil)))))) := rfl
theorem s_right {n : Int} {l : List D} (hp : PotOk n l) (hn : n ≤ 600000) : ∃ l', sg_law_right.run l [] = .ok (.bl true) l' ∧ PotOk (n + 200) l' := by
  obtain ⟨d1, l1, e1, x0, x1, p1⟩ := s_take (u := 4) hp (by omega) (by omega) (by omega)
  obtain ⟨d2, l2, e2, y0, y1, p2⟩ := s_take (u := 3) p1 (by omega) (by omega) (by omega)
  obtain ⟨d3, l3, e3, z0, z1, p3⟩ := s_take (u := 3) p2 (by omega) (by omega) (by omega)
  have hb : Bd (2 + d1) (1 + d2) (1 + d3) := ⟨by omega, by omega, by omega, by omega, by omega, by omega⟩
  have hT : T 3 = 90 := by decide
  obtain ⟨q, l4, e4, hw, p4⟩ := s_a_ask hb 3 (n + 1 + 1 + 1) l3 p3 (by omega)
  have st : sg_law_right.run l [] = outP (evSs 100 b_law_right [.io l, .no, .no, .no, .no, .no, .no, .no]) := rfl
  have t1 : evS 100 (nth 0 b_law_right) [.io l, .no, .no, .no, .no, .no, .no, .no] = .nx [.io l3, .dat (bd (2 + d1) (1 + d2) (1 + d3)), .no, .no, .no, .no, .no, .no] := by
    simp [nth, b_law_right, bd, evS, evE, evEs, rd, fz, fzs, mli, put, setS, slotOf, slotD, C.isF, ofO, e1, e2, e3]
  have t2 : evS 100 (nth 1 b_law_right) [.io l3, .dat (bd (2 + d1) (1 + d2) (1 + d3)), .no, .no, .no, .no, .no, .no] = .nx [.io l4, .dat (bd (2 + d1) (1 + d2) (1 + d3)), .dat q.d, .no, .no, .no, .no, .no] := by
    have e4' : (sg_law_a_ask 4).run l3 [bd (2 + d1) (1 + d2) (1 + d3), .int 3] = .ok q.d l4 := e4
    simp [nth, b_law_right, evS, evE, evEs, fz, fzs, mli, put, setS, slotOf, slotD, C.isF, e4']
  have ia := s_is_ask hb hw
  cases hg : good (2 + d1) (1 + d2) (1 + d3) q with
  | false =>
    rw [hg] at ia
    have t3 : evS 100 (nth 2 b_law_right) [.io l4, .dat (bd (2 + d1) (1 + d2) (1 + d3)), .dat q.d, .no, .no, .no, .no, .no] = .ret (.bl true) [.io l4, .dat (bd (2 + d1) (1 + d2) (1 + d3)), .dat q.d, .no, .no, .no, .no, .no] := by
      simp [nth, b_law_right, evSs, evS, evE, evEs, rd, fz, fzs, truth, ofO, ia]
    refine ⟨l4, ?_, p4.mono (by omega)⟩
    rw [st, right_eq]
    simp only [evSs, t1, t2, t3]
    rfl
  | true =>
    rw [hg] at ia
    have h : Gd (2 + d1) (1 + d2) (1 + d3) q := ⟨hb, hw, hg⟩
    have wo := h.words.1
    have jo := h.join
    have at_ := s_ask_text hb hw hg
    obtain ⟨r1, _⟩ := s_read hb (t := q.text) (by have := h.text.l; omega)
    rw [read_back hb hw hg] at r1
    obtain ⟨u1, hu1⟩ := repr_str (h.text.mono (by omega))
    obtain ⟨u2, hu2⟩ := repr_q hb hw hg
    have t3 : evS 100 (nth 2 b_law_right) [.io l4, .dat (bd (2 + d1) (1 + d2) (1 + d3)), .dat q.d, .no, .no, .no, .no, .no] = .nx [.io l4, .dat (bd (2 + d1) (1 + d2) (1 + d3)), .dat q.d, .no, .no, .no, .no, .no] := by
      simp [nth, b_law_right, evSs, evS, evE, evEs, rd, fz, fzs, truth, ofO, ia]
    have t4 : evS 100 (nth 3 b_law_right) [.io l4, .dat (bd (2 + d1) (1 + d2) (1 + d3)), .dat q.d, .no, .no, .no, .no, .no] = .nx (rtSt l4 (bd (2 + d1) (1 + d2) (1 + d3)) q.d q.text .no .no .no .no) := by
      simp [rtSt, nth, b_law_right, evS, evE, evEs, rd, fz, fzs, setS, slotOf, slotD, C.isF, ofO, wo, jo]
    have t5 : evS 100 (nth 4 b_law_right) (rtSt l4 (bd (2 + d1) (1 + d2) (1 + d3)) q.d q.text .no .no .no .no) = .nx (rtSt l4 (bd (2 + d1) (1 + d2) (1 + d3)) q.d q.text .no .no .no .no) := by
      simp [rtSt, nth, b_law_right, evSs, evS, evE, evEs, rd, fz, fzs, truth, ofO, at_, r1, hu1, hu2]
    obtain ⟨l5, a4, a5, a6, a7, e6, p6⟩ := laps h ((List.range 10).map fun (i : Nat) => D.int i) _ l4 .no .no .no .no p4 (by simp; omega) trivial trivial trivial trivial
    have t6 : evS 100 (.for_ (.nm 4) (.rng1 (.cst (.int 10))) lapBody) (rtSt l4 (bd (2 + d1) (1 + d2) (1 + d3)) q.d q.text .no .no .no .no) = loopF lapTurn ((List.range 10).map fun (i : Nat) => D.int i) (rtSt l4 (bd (2 + d1) (1 + d2) (1 + d3)) q.d q.text .no .no .no .no) := by
      simp only [evS, evI, evE, Out.bind_ok, asInt, rd]
      rfl
    refine ⟨l5, ?_, p6.mono (by simp; omega)⟩
    rw [st, right_eq]
    simp only [evSs, t1, t2, t3, t4, t5, t6, e6]
    simp [evS, evE, fz, outP, rtSt]
end K82

set_option Elab.async false
set_option linter.all false
set_option maxRecDepth 100000
set_option maxHeartbeats 8000000
namespace K82
open PySem PySem.Spec EvO
def dropS : Nat → Sms → Sms
  | 0, s => s
  | n + 1, .cons _ r => dropS n r
  | _, .nil => .nil
def takeS : Nat → Sms → Sms
  | 0, _ => .nil
  | n + 1, .cons s r => .cons s (takeS n r)
  | _, .nil => .nil
def lawSt (ns : List Int) (s8 s9 : Slot) : EvO.Env :=
  [.dat (.scr ns), .dat (.tup [.int 3, .int 1, .int 2, .tup [.tup [.int 0, .int 1]]]),
   .dat (.lst [.non, .int 3, .str "", .str " ", .str "lit", .str "lit 3", .str "lit 00", .str "lit  0", .str "lit 0 ", .str "load 0 3", .str "at 1 0", .str "not", .str "and lit 0"]),
   .dat (.tup [.int 3, .int 1, .int 2, .tup []]), .dat (.exn "BadAsk" (.tup [.str "lit", .int 3])), .dat .non, .dat (.exn "BadBuilding" (.tup [.int 3, .int 1, .int 2, .tup []])), .dat (.str "not not at 0 2"), s8, s9, .no]
theorem law_pre (ns : List Int) : evSs 100 (takeS 7 b_law) [.dat (.scr ns), .no, .no, .no, .no, .no, .no, .no, .no, .no, .no] = .nx (lawSt ns .no .no) := by kernel_rfl
theorem evSs_split {N : Nat} : ∀ (n : Nat) (s : Sms) (r r' : EvO.Env), evSs N (takeS n s) r = .nx r' → evSs N s r = evSs N (dropS n s) r'
  | 0, s, r, r', h => by
    simp only [takeS, evSs] at h
    cases h
    rfl
  | n + 1, .nil, r, r', h => by
    simp only [takeS, evSs] at h
    cases h
    rfl
  | n + 1, .cons s ss, r, r', h => by
    simp only [takeS, evSs] at h
    simp only [evSs, dropS]
    cases q : evS N s r with
    | nx r1 =>
      rw [q] at h
      exact evSs_split n ss r1 r' h
    | _ =>
      rw [q] at h
      cases h
def P60 : Int := 10 ^ 60
def P300 : Int := (10 ^ 60) ^ 5
def P18 : Int := 10 ^ 18
theorem pw1 : binD .pow (.int 10) (.int 60) = some (.int P60) := by kernel_rfl
theorem pw2 : binD .pow (.int P60) (.int 5) = some (.int P300) := by kernel_rfl
theorem pw3 : binD .pow (.int 10) (.int 18) = some (.int P18) := by kernel_rfl
theorem p300 : 0 < P300 := by decide +kernel
theorem mul01 (x : Int) (k : Prop) [Decidable k] : binD .mul (.int x) (.int (if k then 1 else 0)) = some (.int (x * (if k then 1 else 0))) := mulR (by split <;> decide)
theorem ints_map : ∀ l : List Int, intsD (l.map D.int) = some l
  | [] => rfl
  | x :: l => by simp [intsD, ints_map l]
def potRest : Sms := dropS 1 b_law_pot
theorem pot_rest (ns : List Int) (place c : Int) (h0 : 0 ≤ place) (h1 : place ≤ 3) : ∃ l, outD (evSs 100 potRest [.dat (.scr ns), .dat (.int place), .dat (.int c), .no, .no]) = .ok (.lst l) ∧ PotOk 0 l := by
  have e1 := Ev.b_mod (a := if c < 0 then -c else c) (b := P300) (by have := p300; omega)
  have x0 : 0 ≤ (if c < 0 then -c else c).fmod P300 := Int.fmod_nonneg_of_pos _ p300
  have e2 := mul01 ((if c < 0 then -c else c).fmod P300) (P18 ≤ if c < 0 then -c else c)
  have e3 := Ev.b_mod (a := c) (b := 2305843009213693951) (by omega)
  generalize c.fmod 2305843009213693951 = s at e3
  have m1 := mulR (a := s) (b := 97169) (by decide)
  have m2 := mulL (a := 13709) (b := place) (by decide)
  have m3 := mulR (a := 13709 * place) (b := place) (okI_of (by omega) (by omega))
  have e4 := Ev.b_mod (a := s * 97169 + 13709 * place * place + 838) (b := 2305843009213693921) (by omega)
  refine ⟨[.int ((if c < 0 then -c else c).fmod P300 * (if P18 ≤ (if c < 0 then -c else c) then 1 else 0)), .int ((s * 97169 + 13709 * place * place + 838).fmod 2305843009213693921), .int 0], ?_, _, _, _, rfl, ?_, Int.fmod_nonneg_of_pos _ (by omega), Int.fmod_lt_of_pos _ (by omega), by omega, by omega⟩
  · simp [potRest, dropS, b_law_pot, outD, evSs, evS, evE, evEs, rd, fz, fzs, setS, slotOf, slotD, C.isF, ofO, pw1, pw2, pw3, e1, e2, e3, m1, m2, m3, e4]
  · have nn : ∀ (x : Int) (k : Prop) [Decidable k], 0 ≤ x → 0 ≤ x * (if k then 1 else 0) := fun x k _ h => by split <;> simp [h]
    exact nn _ _ x0
theorem s_pot (ns : List Int) (place : Int) (h0 : 0 ≤ place) (h1 : place ≤ 3) : ∃ l, sg_law_pot.run [.scr ns, .int place] = .ok (.lst l) ∧ PotOk 0 l := by
  have cell : ∃ c : Int, evS 100 (nth 0 b_law_pot) [.dat (.scr ns), .dat (.int place), .no, .no, .no] = .nx [.dat (.scr ns), .dat (.int place), .dat (.int c), .no, .no] := by
    by_cases hl : place < ns.length
    · have e : L2.atI ns place = some (ns[place.toNat]'(by omega)) := by
        have e2 : L2.ixN ns.length place = some place.toNat := by
          unfold L2.ixN
          rw [if_pos h0, if_pos hl]
        unfold L2.atI
        rw [e2]
        exact List.getElem?_eq_getElem (by omega)
      refine ⟨ns[place.toNat]'(by omega), ?_⟩
      simp [nth, b_law_pot, evS, evE, evEs, rd, fz, setS, slotOf, slotD, C.isF, truth, ofO, hl, e]
    · have e1 := Ev.b_mod (a := (cutD ns none (some 1)).sum) (b := 1000003) (by omega)
      have m1 := mulL (a := 8971) (b := place) (by decide)
      refine ⟨(cutD ns none (some 1)).sum.fmod 1000003 + 8971 * place + 431, ?_⟩
      simp [nth, b_law_pot, evS, evE, evEs, evO, asInt, rd, fz, setS, slotOf, slotD, C.isF, truth, ofO, hl, ints_map, e1, m1]
  obtain ⟨c, hc⟩ := cell
  obtain ⟨l, e, hp⟩ := pot_rest ns place c h0 h1
  refine ⟨l, ?_, hp⟩
  have st : sg_law_pot.run [.scr ns, .int place] = outD (evSs 100 (.cons (nth 0 b_law_pot) potRest) [.dat (.scr ns), .dat (.int place), .no, .no, .no]) := rfl
  rw [st, ← e]
  simp only [evSs, hc]
theorem s_places (ns : List Int) : ∃ m : Nat, m ≤ 3 ∧ sg_law_places.run [.scr ns, .int 3] = .ok (.lst ((List.range m).map fun (i : Nat) => D.int i)) := by
  refine ⟨(if (if (ns.length : Int) < 3 then (ns.length : Int) else 3) > 1 then (if (ns.length : Int) < 3 then (ns.length : Int) else 3) else 1).toNat, by split <;> split <;> omega, ?_⟩
  have lr : ∀ n : Int, 0 ≤ n → n ≤ 16777216 → primD .listRange [.int n] = some (.lst ((List.range n.toNat).map fun (i : Nat) => D.int i)) := fun n h0 h1 => if_pos ⟨h0, h1⟩
  have := lr (if (if (ns.length : Int) < 3 then (ns.length : Int) else 3) > 1 then (if (ns.length : Int) < 3 then (ns.length : Int) else 3) else 1) (by split <;> split <;> omega) (by split <;> split <;> omega)
  simp only [gt_iff_lt] at this
  simp [sg_law_places, runD, envD, outD, b_law_places, evSs, evS, evE, evEs, rd, fz, ofO, this]
end K82

set_option Elab.async false
set_option linter.all false
set_option maxRecDepth 100000
set_option maxHeartbeats 8000000
namespace K82
open PySem PySem.Spec EvO
def lawE (ns : List Int) (i : D) (l : List D) (s : Slot) : EvO.Env := (lawSt ns (.dat i) (.own l)).set 10 s
abbrev rTurn : D → EvO.Env → Out (Option D) := turnC (.nm 10) .nil (.callP sg_law_right 9 .nil) [10]
theorem right_turn {ns : List Int} {i d : D} {l l' : List D} {s : Slot} (e : sg_law_right.run l [] = .ok (.bl true) l') : rTurn d (lawE ns i l s) = .ok (some (.bl true)) (lawE ns i l' (.dat d)) := by
  simp [rTurn, turnC, lawE, lawSt, wipeE, stT, setS, evTs, evE, evEs, fz, fzs, mli, put, e]
theorem right_loop {ns : List Int} {i : D} : ∀ (ds : List D) (n : Int) (l : List D) (s : Slot) (acc : List D), PotOk n l → n + 200 * ds.length ≤ 500000 → acc.length + ds.length ≤ 1000 →
    ∃ l' s', loopC rTurn ds acc (lawE ns i l s) = .ok (acc ++ List.replicate ds.length (.bl true)) (lawE ns i l' s')
  | [], n, l, s, acc, hp, hn, ha => ⟨l, s, by simp [loopC]⟩
  | d :: ds, n, l, s, acc, hp, hn, ha => by
    simp only [List.length_cons] at hn ha
    obtain ⟨l1, e, p1⟩ := s_right hp (by omega)
    obtain ⟨l2, s2, e2⟩ := right_loop (ns := ns) (i := i) ds (n + 200) l1 (.dat d) (acc ++ [.bl true]) p1 (by omega) (by simp; omega)
    refine ⟨l2, s2, ?_⟩
    have hb : acc.length < big := by show acc.length < 16777216; omega
    unfold loopC
    rw [right_turn e]
    simp only [Out.bind_ok]
    rw [if_pos hb, e2]
    simp [List.replicate_succ]
theorem bls_rep : ∀ k : Nat, blsD (List.replicate k (.bl true)) = some (List.replicate k true)
  | 0 => rfl
  | k + 1 => by simp [List.replicate_succ, blsD, bls_rep k]
theorem not_all {c0 : C} {r r' : EvO.Env} (h : evE c0 r = .ok (.d (.lst (List.replicate 8 (.bl true)))) r') : evE (.not (.prim .all (.cons c0 .nil))) r = .ok (.d (.bl false)) r' := by
  simp [evE, evEs, h, rd, ofO, truth, blsD]
def placeBody : Sms := match nth 7 b_law with
  | .for_ _ _ b => b
  | _ => .nil
def placeTurn : D → EvO.Env → SOut := fun d r2 => (stT (.nm 8) d r2).thn fun _ r3 => evSs 100 placeBody r3
def okSlot : Slot → Prop
  | .io _ => False
  | _ => True
theorem place_one {ns : List Int} {i : Nat} (hi : i ≤ 3) {s8 s9 : Slot} (h8 : okSlot s8) (h9 : okSlot s9) : ∃ l', placeTurn (.int i) (lawSt ns s8 s9) = .nx (lawSt ns (.dat (.int i)) (.own l')) := by
  obtain ⟨l, e, hp⟩ := s_pot ns i (by omega) (by omega)
  obtain ⟨l', s', e2⟩ := right_loop (ns := ns) (i := .int i) ((List.range 8).map fun (i : Nat) => D.int i) 0 l .no [] hp (by simp) (by simp)
  have e3 : lawE ns (.int i) l .no = lawSt ns (.dat (.int i)) (.own l) := rfl
  rw [e3] at e2
  refine ⟨l', ?_⟩
  have fr : sg_law_pot.fresh = true := rfl
  have c1 : evE (.comp (.nm 10) (.rng1 (.cst (.int 8))) .nil (.callP sg_law_right 9 .nil) [10]) (lawSt ns (.dat (.int i)) (.own l)) = .ok (.d (.lst (List.replicate 8 (.bl true)))) (lawSt ns (.dat (.int i)) (.own l')) := by
    rw [ev_comp]
    have : evI (.rng1 (.cst (.int 8))) (lawSt ns (.dat (.int i)) (.own l)) = .ok ((List.range 8).map fun (i : Nat) => D.int i) (lawSt ns (.dat (.int i)) (.own l)) := by
      simp only [evI, evE, Out.bind_ok, asInt, rd]
      rfl
    rw [this]
    simp only [Out.bind_ok]
    rw [e2]
    rfl
  have a1 : evE (.not (.prim .all (.cons (.comp (.nm 10) (.rng1 (.cst (.int 8))) .nil (.callP sg_law_right 9 .nil) [10]) .nil))) (lawSt ns (.dat (.int i)) (.own l)) = .ok (.d (.bl false)) (lawSt ns (.dat (.int i)) (.own l')) := not_all c1
  have pb : placeBody = .cons (.set 9 (.call sg_law_pot (.cons (.var 0) (.cons (.var 8) .nil)))) (.cons (.ifs (.not (.prim .all (.cons (.comp (.nm 10) (.rng1 (.cst (.int 8))) .nil (.callP sg_law_right 9 .nil) [10]) .nil))) (.cons (.ret (.cst (.bl false))) .nil) .nil) .nil) := rfl
  have s1 : evS 100 (.set 9 (.call sg_law_pot (.cons (.var 0) (.cons (.var 8) .nil)))) (lawSt ns (.dat (.int i)) s9) = .nx (lawSt ns (.dat (.int i)) (.own l)) := by
    cases s9 <;> simp [okSlot] at h9 <;> simp [lawSt, evS, evE, evEs, fz, fzs, setS, slotOf, C.isF, fr, e]
  have s2 : evS 100 (.ifs (.not (.prim .all (.cons (.comp (.nm 10) (.rng1 (.cst (.int 8))) .nil (.callP sg_law_right 9 .nil) [10]) .nil))) (.cons (.ret (.cst (.bl false))) .nil) .nil) (lawSt ns (.dat (.int i)) (.own l)) = .nx (lawSt ns (.dat (.int i)) (.own l')) := by
    simp only [evS, a1, Out.thn_ok, truth, rd, evSs]
    rfl
  have s0 : stT (.nm 8) (.int i) (lawSt ns s8 s9) = .ok () (lawSt ns (.dat (.int i)) s9) := by
    cases s8 <;> simp [okSlot] at h8 <;> simp [lawSt, stT, setS]
  unfold placeTurn
  rw [s0, pb]
  simp only [Out.thn_ok, evSs, s1, s2]
theorem place_loop {ns : List Int} : ∀ (is : List Nat) (s8 s9 : Slot), (∀ i ∈ is, i ≤ 3) → okSlot s8 → okSlot s9 → ∃ s8' s9', loopF placeTurn (is.map fun (i : Nat) => D.int i) (lawSt ns s8 s9) = .nx (lawSt ns s8' s9') ∧ okSlot s8' ∧ okSlot s9'
  | [], s8, s9, _, h8, h9 => ⟨s8, s9, rfl, h8, h9⟩
  | i :: is, s8, s9, hi, h8, h9 => by
    obtain ⟨l', e⟩ := place_one (ns := ns) (hi i (by simp)) h8 h9
    obtain ⟨a, b, e2, ha, hb⟩ := place_loop (ns := ns) is (.dat (.int i)) (.own l') (fun j hj => hi j (by simp [hj])) trivial trivial
    refine ⟨a, b, ?_, ha, hb⟩
    simp only [List.map_cons, loopF, e, e2]
theorem pure_law (ns : List Int) (_ : ns.length ≤ 63) (_ : ∀ z ∈ ns, Builtin.Int.intBits z ≤ 1048576) : sg_law.run [.scr ns] = .ok (.bl true) := by
  obtain ⟨m, hm, e⟩ := s_places ns
  obtain ⟨a, b, e2, ha, hb⟩ := place_loop (ns := ns) (List.range m) .no .no (fun i hi => by have := List.mem_range.mp hi; omega) trivial trivial
  have st : sg_law.run [.scr ns] = outD (evSs 100 b_law [.dat (.scr ns), .no, .no, .no, .no, .no, .no, .no, .no, .no, .no]) := rfl
  have rest : dropS 7 b_law = .cons (.for_ (.nm 8) (.val (.call sg_law_places (.cons (.var 0) (.cons (.cst (.int 3)) .nil)))) placeBody) (.cons (.ret (.cst (.bl true))) .nil) := rfl
  have s1 : evS 100 (.for_ (.nm 8) (.val (.call sg_law_places (.cons (.var 0) (.cons (.cst (.int 3)) .nil)))) placeBody) (lawSt ns .no .no) = loopF placeTurn ((List.range m).map fun (i : Nat) => D.int i) (lawSt ns .no .no) := by
    have : evI (.val (.call sg_law_places (.cons (.var 0) (.cons (.cst (.int 3)) .nil)))) (lawSt ns .no .no) = .ok ((List.range m).map fun (i : Nat) => D.int i) (lawSt ns .no .no) := by
      simp [lawSt, evI, evE, evEs, fz, fzs, ofO, e]
    simp only [evS, this, Out.thn_ok]
    rfl
  rw [st, evSs_split 7 b_law _ _ (law_pre ns), rest]
  simp only [evSs, s1, e2]
  simp [evS, evE, fz, outD]
end K82

section
open PySem PySem.W PySem.Calls PyProof.Rows
theorem PySem.Challenge.cw_everyoneup_k82_whole_asks_written_holds : PySem.Challenge.rw_everyoneup_k82_whole_asks_written.Holds := by
  w_on; o_law
  refine HandSHeadRun.head_any (r := OpenLaw.row PySem.Challenge.rw_everyoneup_k82_whole_asks_written) (q := view (OpenLaw.row PySem.Challenge.rw_everyoneup_k82_whole_asks_written).prog [59]) (H := K82.hk) (ob := K82.ob) (M := 4000) (loose := K82.loose) (d := HandSHeadRun.topDef (OpenLaw.row PySem.Challenge.rw_everyoneup_k82_whole_asks_written).prog 59) (kwd := []) K82.ob_eq
    (by kernel_rfl) (fun s => by kernel_rfl) K82.run (by kernel_rfl) (by kernel_rfl) (by kernel_rfl) (by rfl) (by first | assumption | decide +kernel) (by decide +kernel) ⟨rfl, rfl, rfl, rfl, rfl, by decide +kernel⟩ ?hw ?hc
  case hw => w_witness2
  case hc =>
    refine EvO.walk_g (l := PySem.Challenge.rw_everyoneup_k82_whole_asks_written) (n := 63) (k := 47) rfl (by decide) (by kernel_rfl) ⟨rfl, by decide, by decide⟩ ?F
    intro w mg fa h Y G hmg0
    obtain ⟨K, KX, c⟩ := Y
    have hmg : mg ("law" : PySem.Str) = some (.ref fa) := by
      have e : (HandSHeadRun.topDef (OpenLaw.row PySem.Challenge.rw_everyoneup_k82_whole_asks_written).prog 59).name = ("law" : PySem.Str) := by kernel_rfl
      rw [← e]
      exact hmg0
    exact ⟨K, KX, K82.law_facts K82.pure_law KX G hmg c⟩
end
