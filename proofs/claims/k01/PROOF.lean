import PyProof.Rows.All
import Wide.All
import OpenK.AllK
import Wide.FinOn
import HandS.ForMost
import HandS.ForExc
import HandS.Wide
import HandS.TupAny
import HandS.IsInst
import HandS.Flow
import HandS.Style
import HandS.TupLe
import HandS.Rev
import HandS.TupMul
import HandS.More
import HandS.Defaults
import HandS.Head0
import HandS.Head1
import HandS.Head2
import HandS.HeadEnd
import HandS.HeadHook1
import HandS.HeadHook2
import PySem.Challenge.RW_wholedigits_k01_whole_digits_of_numbers
set_option Elab.async false
set_option linter.all false
set_option maxRecDepth 100000
set_option maxHeartbeats 4000000
/-! P1: a small Python as pure functions: data, store, expressions, statements, their evaluation -/
namespace Mp
open PySem L2

/-- data: immutable values; ref r is a place of the store -/
inductive D where
  | non | bl (b : Bool) | int (i : Int) | str (x : Str) | tup (ds : List D) | ref (r : Nat)
/-- what stands at a place of the store -/
inductive O where
  | lst (ds : List D)
  | frz (ds : List D)
abbrev Sto := List O
abbrev Ev := List (Option D)

inductive Res (α : Type) where
  | ok (a : α) (s : Sto)
  | no

def Res.bind {α β : Type} (r : Res α) (f : α → Sto → Res β) : Res β := match r with
  | .ok a s => f a s
  | .no => .no
def guardR {α : Type} (b : Bool) (r : Res α) : Res α := if b then r else .no
def ofO {α : Type} (o : Option α) (s : Sto) : Res α := match o with
  | some a => .ok a s
  | none => .no

/-! ### syntax -/
inductive Cn where
  | non | bl (b : Bool) | int (i : Int) | str (x : Str)
def Cn.d : Cn → D
  | .non => .non | .bl b => .bl b | .int i => .int i | .str x => .str x
inductive Bop where
  | add | sub | mul | fdiv | mod | pow
  deriving DecidableEq
inductive Cop where
  | eq | ne | lt | le | gt | ge | isN | notN | in_ | notIn
  deriving DecidableEq
inductive Bi where
  | len | int_ | list_ | tuple_ | sum_ | all_ | any_
  deriving DecidableEq
inductive Mt where
  | append | pop
  deriving DecidableEq
inductive Ty where
  | int | bool | str | tuple | list
  deriving DecidableEq

mutual
inductive CE where
  | var (i : Nat)
  | cst (c : Cn)
  | bin (op : Bop) (a b : CE)
  | neg (a : CE)
  | cmp (op : Cop) (a b : CE)
  | chain (op op' : Cop) (a b c : CE)
  | andv (a b : CE)
  | orv (a b : CE)
  | notv (a : CE)
  | ife (t a b : CE)
  | tup (es : CEs)
  | lst (es : CEs)
  | ix (a b : CE)
  | sl (a : CE) (lo hi : CEo)
  | rev (a : CE)
  | call (f : Nat) (es : CEs)
  | callk (f : Nat) (es : CEs) (kws : CEs) (perm : List Nat)
  | bi (b : Bi) (es : CEs)
  | isi (a : CE) (ts : List Ty)
  | meth (m : Mt) (o : CE) (es : CEs)
  | lc (elt : CE) (tg : CT) (it : CI) (ifs : CEo) (own : List Nat)
inductive CEs where
  | nil
  | cons (e : CE) (es : CEs)
inductive CEo where
  | none
  | some (e : CE)
inductive CI where
  | seq (e : CE)
  | rng1 (a : CE)
  | rng2 (a b : CE)
inductive CT where
  | var (i : Nat)
  | tup (ts : CTs)
  | ix (o i : CE)
inductive CTs where
  | nil
  | cons (t : CT) (ts : CTs)
end
mutual
inductive CS where
  | expr (e : CE)
  | ret (e : CE)
  | retN
  | asg (t : CT) (e : CE)
  | par (i j : Nat) (a b : CE)
  | par3 (i j l : Nat) (a b c : CE)
  | aug (i : Nat) (op : Bop) (e : CE)
  | ifs (t : CE) (a b : CB)
  | whl (t : CE) (a : CB)
  | for_ (t : CT) (it : CI) (a : CB)
  | brk
  | cont
  | pass
  | never
inductive CB where
  | nil
  | cons (s : CS) (b : CB)
end

/-! ### values -/
def D.isInt : D → Option Int
  | .int i => some i
  | _ => none
def D.isBl : D → Option Bool
  | .bl b => some b
  | _ => none
/-- a list's items -/
def lstAt (st : Sto) (r : Nat) : Option (List D) := match st[r]? with
  | some (.lst ds) => some ds
  | some (.frz ds) => some ds
  | none => none
/-- items of a tuple or list -/
def seqOf (st : Sto) : D → Option (List D)
  | .tup ds => some ds
  | .ref r => lstAt st r
  | _ => none
def truthy (st : Sto) : D → Option Bool
  | .non => some false
  | .bl b => some b
  | .int i => some (i != 0)
  | .str x => if x.length ≤ sizeLine then some ((x.length : Int) != 0) else none
  | .tup ds => some (!ds.isEmpty)
  | .ref r => (lstAt st r).map fun ds => !ds.isEmpty
mutual
def toPD : Nat → Sto → D → Option PyData
  | _, _, .non => some .none
  | _, _, .bl b => some (.bool b)
  | _, _, .int i => some (.int i)
  | _, _, .str x => some (.str x)
  | 0, _, .tup _ => none
  | n + 1, st, .tup ds => (toPDs n st ds).map PyData.tuple
  | 0, _, .ref _ => none
  | n + 1, st, .ref r => match lstAt st r with
    | some ds => (toPDs n st ds).map PyData.list
    | none => none
  termination_by n _ d => (n, sizeOf d)
def toPDs : Nat → Sto → List D → Option (List PyData)
  | _, _, [] => some []
  | n, st, d :: ds => match toPD n st d, toPDs n st ds with
    | some p, some ps => some (p :: ps)
    | _, _ => none
  termination_by n _ ds => (n, sizeOf ds)
end
def pyEq (st : Sto) (a b : D) : Option Bool := match toPD 60 st a, toPD 60 st b with
  | some x, some y => if SeqAt.shaped x && SeqAt.shaped y then some (PyData.eqv x y) else none
  | _, _ => none
def newL (ds : List D) (st : Sto) : Res D := guardR (decide (ds.length ≤ sizeLine)) (.ok (.ref st.length) (st ++ [.lst ds]))
def newT (ds : List D) (st : Sto) : Res D := guardR (decide (ds.length ≤ sizeLine)) (.ok (.tup ds) st)

def binD (op : Bop) (a b : D) (st : Sto) : Res D := match op, a, b with
  | .add, .int i, .int j => .ok (.int (i + j)) st
  | .add, .tup xs, .tup ys => newT (xs ++ ys) st
  | .add, .str x, .str y => guardR (decide (x.length + y.length ≤ sizeLine)) (.ok (.str (x ++ y)) st)
  | .add, .ref r, .ref q => (match st[r]?, st[q]? with
    | some (.lst xs), some (.lst ys) => newL (xs ++ ys) st
    | _, _ => .no)
  | .sub, .int i, .int j => .ok (.int (i - j)) st
  | .mul, .int i, .int j => guardR (decide (i.natAbs < 2 ^ 64 ∨ j.natAbs < 2 ^ 64 ∨ i.natAbs.log2 + j.natAbs.log2 < 1000000)) (.ok (.int (i * j)) st)
  | .mul, .tup xs, .int k => guardR (decide (xs.length ≤ 1000 ∧ -(2 ^ 63) ≤ k ∧ k ≤ 1000)) (newT (List.replicate k.toNat xs).flatten st)
  | .mul, .ref r, .int k => (match st[r]? with
    | some (.lst xs) => guardR (decide (-(2 ^ 63) ≤ k ∧ k < 2 ^ 63)) (newL (List.replicate k.toNat xs).flatten st)
    | _ => .no)
  | .fdiv, .int i, .int j => guardR (decide (0 < j ∧ j.natAbs.log2 < 9000)) (.ok (.int (i / j)) st)
  | .mod, .int i, .int j => guardR (decide (0 < j)) (.ok (.int (i % j)) st)
  | .pow, .int i, .int j => guardR (decide (0 ≤ j ∧ j ≤ 1000000 ∧ i.natAbs < 2 ^ 64)) (.ok (.int (i ^ j.toNat)) st)
  | _, _, _ => .no
def D.flat : D → Bool
  | .tup _ => false
  | .ref _ => false
  | _ => true
def eqF : D → D → Bool
  | .non, .non => true
  | .bl a, .bl b => a == b
  | .bl a, .int b => (if a then 1 else 0) == b
  | .int a, .bl b => a == (if b then 1 else 0)
  | .int a, .int b => a == b
  | .str a, .str b => a == b
  | _, _ => false
def inD (x : D) (ds : List D) : Option Bool := if x.flat && ds.all D.flat then some (ds.any fun d => eqF d x) else none
def cmpD (op : Cop) (a b : D) (st : Sto) : Option Bool := match op with
  | .eq => pyEq st a b
  | .ne => (pyEq st a b).map (!·)
  | .lt => (match a, b with
    | .int i, .int j => some (decide (i < j))
    | _, _ => none)
  | .le => (match a, b with
    | .int i, .int j => some (decide (i ≤ j))
    | _, _ => none)
  | .gt => (match a, b with
    | .int i, .int j => some (decide (j < i))
    | _, _ => none)
  | .ge => (match a, b with
    | .int i, .int j => some (decide (j ≤ i))
    | _, _ => none)
  | .isN => (match b with
    | .non => (match a with
      | .non => some true
      | _ => some false)
    | _ => none)
  | .notN => (match b with
    | .non => (match a with
      | .non => some false
      | _ => some true)
    | _ => none)
  | .in_ => (match seqOf st b with
    | some ds => inD a ds
    | none => none)
  | .notIn => (match seqOf st b with
    | some ds => (inD a ds).map (!·)
    | none => none)
def ixD (a b : D) (st : Sto) : Res D := match b with
  | .int i => (match seqOf st a with
    | some ds => ofO (atI ds i) st
    | none => .no)
  | _ => .no
def cutD (ds : List D) (lo hi : Option Int) : List D := (ds.drop (HT.sIx ds.length 0 lo)).take (HT.sIx ds.length ds.length hi - HT.sIx ds.length 0 lo)
def slD (a : D) (lo hi : Option Int) (st : Sto) : Res D := match a with
  | .tup ds => .ok (.tup (cutD ds lo hi)) st
  | .ref r => (match lstAt st r with
    | some ds => newL (cutD ds lo hi) st
    | none => .no)
  | _ => .no
def revD (a : D) (st : Sto) : Res D := match a with
  | .tup ds => newT ds.reverse st
  | .ref r => (match lstAt st r with
    | some ds => newL ds.reverse st
    | none => .no)
  | _ => .no
def allO {α : Type} (f : D → Option α) : List D → Option (List α)
  | [] => some []
  | d :: ds => match f d, allO f ds with
    | some a, some as => some (a :: as)
    | _, _ => none
def lenD (st : Sto) : D → Option Int
  | .tup ds => some ds.length
  | .ref r => (lstAt st r).map fun ds => (ds.length : Int)
  | .str x => if x.length ≤ sizeLine then some (x.length : Int) else none
  | _ => none
def lstInts (st : Sto) (d : D) : Option (List Int) := match seqOf st d with
  | some ds => allO D.isInt ds
  | none => none
def lstBools (st : Sto) : D → Option (List Bool)
  | .ref r => (match lstAt st r with
    | some ds => allO D.isBl ds
    | none => none)
  | _ => none
def biD (b : Bi) (ds : List D) (st : Sto) : Res D := match b, ds with
  | .len, [a] => ofO ((lenD st a).map D.int) st
  | .int_, [a] => (match a with
    | .int i => .ok (.int i) st
    | .bl k => .ok (.int (if k then 1 else 0)) st
    | _ => .no)
  | .list_, [a] => (match seqOf st a with
    | some xs => newL xs st
    | none => .no)
  | .tuple_, [a] => (match seqOf st a with
    | some xs => newT xs st
    | none => .no)
  | .sum_, [a] => ofO ((lstInts st a).map fun is => D.int is.sum) st
  | .all_, [a] => ofO ((lstBools st a).map fun bs => D.bl (bs.all id)) st
  | .any_, [a] => ofO ((lstBools st a).map fun bs => D.bl (bs.any id)) st
  | _, _ => .no
def methL (m : Mt) (r : Nat) (xs : List D) (ds : List D) (st : Sto) : Res D := match m, ds with
  | .append, [d] => guardR (decide (xs.length < sizeLine)) (.ok .non (st.set r (.lst (xs ++ [d]))))
  | .pop, [] => (match xs[xs.length - 1]? with
    | some y => .ok y (st.set r (.lst xs.dropLast))
    | none => .no)
  | _, _ => .no
def methD (m : Mt) (o : D) (ds : List D) (st : Sto) : Res D := match o with
  | .ref r => (match st[r]? with
    | some (.lst xs) => methL m r xs ds st
    | _ => .no)
  | _ => .no
def setIx (o i v : D) (st : Sto) : Option Sto := match o, i with
  | .ref r, .int k => (match st[r]? with
    | some (.lst xs) => (match ixN xs.length k with
      | some j => some (st.set r (.lst (xs.set j v)))
      | none => none)
    | _ => none)
  | _, _ => none
def tyD (st : Sto) : D → Option (Option Ty)
  | .non => some none
  | .bl _ => some (some .bool)
  | .int _ => some (some .int)
  | .str _ => some (some .str)
  | .tup _ => some (some .tuple)
  | .ref r => (lstAt st r).map fun _ => some Ty.list
def subTy : Option Ty → Ty → Bool
  | some .bool, .int => true
  | some a, b => decide (a = b)
  | none, _ => false
def isiD (st : Sto) (a : D) (ts : List Ty) : Option Bool := (tyD st a).map fun t => ts.any (subTy t)

def wipeE (env : Ev) : List Nat → Ev
  | [] => env
  | v :: vs => (wipeE env vs).set v none

/-! ### loops -/
inductive Fl where
  | nx (env : Ev) | rt (d : D) | bk (env : Ev) | ct (env : Ev)
/-- what a for walks, at the start: the items; a list is looked at again at each turn -/
inductive Wk where
  | items (ds : List D)
  | lst (r : Nat)
  | rng (lo : Int) (n : Nat)
/-- the item at turn i (some none: the end) -/
def Wk.at (k : Wk) (i : Nat) (st : Sto) : Option (Option D) := match k with
  | .items ds => some ds[i]?
  | .lst r => (lstAt st r).map fun ds => ds[i]?
  | .rng lo n => some (if i < n then some (.int (lo + i)) else none)
/-- the most turns that any loop is given -/
def TURNS : Nat := 2 ^ 40
def forL (k : Wk) (bind : D → Ev → Sto → Res Ev) (body : Ev → Sto → Res Fl) : Nat → Nat → Ev → Sto → Res Fl
  | 0, _, _, _ => .no
  | m + 1, i, env, st => match k.at i st with
    | none => .no
    | some none => .ok (.nx env) st
    | some (some d) => (bind d env st).bind fun env1 st1 => (body env1 st1).bind fun f st2 => match f with
      | .nx env2 => forL k bind body m (i + 1) env2 st2
      | .ct env2 => forL k bind body m (i + 1) env2 st2
      | .bk env2 => .ok (.nx env2) st2
      | .rt d => .ok (.rt d) st2
def whlL (test : Ev → Sto → Res Bool) (body : Ev → Sto → Res Fl) : Nat → Ev → Sto → Res Fl
  | 0, _, _ => .no
  | m + 1, env, st => (test env st).bind fun b st1 => if b then (body env st1).bind fun f st2 => match f with
      | .nx env2 => whlL test body m env2 st2
      | .ct env2 => whlL test body m env2 st2
      | .bk env2 => .ok (.nx env2) st2
      | .rt d => .ok (.rt d) st2
    else .ok (.nx env) st1
def compL (k : Wk) (bind : D → Sto → Res Ev) (test : Ev → Sto → Res Bool) (elt : Ev → Sto → Res D) (r : Nat) : Nat → Nat → Sto → Res D
  | 0, _, _ => .no
  | m + 1, i, st => match k.at i st with
    | none => .no
    | some none => .ok (.ref r) st
    | some (some d) => (bind d st).bind fun env1 st1 => (test env1 st1).bind fun b st2 => if b then
        (elt env1 st2).bind fun y st3 => match st3[r]? with
          | some (.lst acc) => guardR (decide (acc.length < sizeLine)) (compL k bind test elt r m (i + 1) (st3.set r (.lst (acc ++ [y]))))
          | _ => .no
      else compL k bind test elt r m (i + 1) st2

/-! ### evaluation -/
section
variable (cl : Nat → List D → Sto → Res D)
mutual
def evE : CE → Ev → Sto → Res D
  | .var i, env, st => (match env[i]? with
    | some (some d) => .ok d st
    | _ => .no)
  | .cst c, _, st => .ok c.d st
  | .bin op a b, env, st => (evE a env st).bind fun x st1 => (evE b env st1).bind fun y st2 => binD op x y st2
  | .neg a, env, st => (evE a env st).bind fun x st1 => match x with
    | .int i => .ok (.int (-i)) st1
    | _ => .no
  | .cmp op a b, env, st => (evE a env st).bind fun x st1 => (evE b env st1).bind fun y st2 => ofO ((cmpD op x y st2).map D.bl) st2
  | .chain op op' a b c, env, st => (evE a env st).bind fun x st1 => (evE b env st1).bind fun y st2 => (ofO (cmpD op x y st2) st2).bind fun k st3 =>
      if k then (evE c env st3).bind fun z st4 => ofO ((cmpD op' y z st4).map D.bl) st4 else .ok (.bl false) st3
  | .andv a b, env, st => (evE a env st).bind fun x st1 => (ofO (truthy st1 x) st1).bind fun k st2 => if k then evE b env st2 else .ok x st2
  | .orv a b, env, st => (evE a env st).bind fun x st1 => (ofO (truthy st1 x) st1).bind fun k st2 => if k then .ok x st2 else evE b env st2
  | .notv a, env, st => (evE a env st).bind fun x st1 => (ofO (truthy st1 x) st1).bind fun k st2 => .ok (.bl (!k)) st2
  | .ife t a b, env, st => (evE t env st).bind fun x st1 => (ofO (truthy st1 x) st1).bind fun k st2 => if k then evE a env st2 else evE b env st2
  | .tup es, env, st => (evEs es env st).bind fun ds st1 => newT ds st1
  | .lst es, env, st => (evEs es env st).bind fun ds st1 => newL ds st1
  | .ix a b, env, st => (evE a env st).bind fun x st1 => (evE b env st1).bind fun y st2 => ixD x y st2
  | .sl a lo hi, env, st => (evE a env st).bind fun x st1 => (evO lo env st1).bind fun l st2 => (evO hi env st2).bind fun h st3 => slD x l h st3
  | .rev a, env, st => (evE a env st).bind fun x st1 => revD x st1
  | .call f es, env, st => (evEs es env st).bind fun ds st1 => cl f ds st1
  | .callk f es kws perm, env, st => (evEs es env st).bind fun ds st1 => (evEs kws env st1).bind fun zs st2 => cl f (perm.map fun i => (ds ++ zs).getD i .non) st2
  | .bi b es, env, st => (evEs es env st).bind fun ds st1 => biD b ds st1
  | .isi a ts, env, st => (evE a env st).bind fun x st1 => ofO ((isiD st1 x ts).map D.bl) st1
  | .meth m o es, env, st => (evE o env st).bind fun x st1 => (evEs es env st1).bind fun ds st2 => methD m x ds st2
  | .lc elt tg it ifs own, env, st => (evI it env st).bind fun k st1 =>
      compL k (fun d s => asT tg d (wipeE env own) s) (fun env1 s => evIf ifs env1 s) (fun env1 s => evE elt env1 s) st1.length TURNS 0 (st1 ++ [.lst []])
def evEs : CEs → Ev → Sto → Res (List D)
  | .nil, _, st => .ok [] st
  | .cons e es, env, st => (evE e env st).bind fun d st1 => (evEs es env st1).bind fun ds st2 => .ok (d :: ds) st2
def evO : CEo → Ev → Sto → Res (Option Int)
  | .none, _, st => .ok none st
  | .some e, env, st => (evE e env st).bind fun d st1 => match d with
    | .int i => .ok (some i) st1
    | _ => .no
def evIf : CEo → Ev → Sto → Res Bool
  | .none, _, st => .ok true st
  | .some e, env, st => (evE e env st).bind fun x st1 => ofO (truthy st1 x) st1
def evI : CI → Ev → Sto → Res Wk
  | .seq e, env, st => (evE e env st).bind fun x st1 => match x with
    | .tup ds => .ok (.items ds) st1
    | .ref r => (match lstAt st1 r with
      | some _ => .ok (.lst r) st1
      | none => .no)
    | _ => .no
  | .rng1 a, env, st => (evE a env st).bind fun x st1 => match x with
    | .int j => guardR (decide (-(2 ^ 62) ≤ j ∧ j < 2 ^ 62)) (.ok (.rng 0 j.toNat) st1)
    | _ => .no
  | .rng2 a b, env, st => (evE a env st).bind fun x st1 => (evE b env st1).bind fun y st2 => match x, y with
    | .int i, .int j => guardR (decide (-(2 ^ 62) ≤ i ∧ i < 2 ^ 62 ∧ -(2 ^ 62) ≤ j ∧ j < 2 ^ 62)) (.ok (.rng i (j - i).toNat) st2)
    | _, _ => .no
def asT : CT → D → Ev → Sto → Res Ev
  | .var i, d, env, st => .ok (env.set i (some d)) st
  | .tup ts, d, env, st => (match d with
    | .tup ds => asTs ts ds env st
    | _ => .no)
  | .ix o i, d, env, st => (evE o env st).bind fun x st1 => (evE i env st1).bind fun y st2 => (ofO (setIx x y d st2) st2).bind fun st3 _ => .ok env st3
def asTs : CTs → List D → Ev → Sto → Res Ev
  | .nil, ds, env, st => (match ds with
    | [] => .ok env st
    | _ :: _ => .no)
  | .cons t ts, ds, env, st => (match ds with
    | [] => .no
    | d :: r => (asT t d env st).bind fun env1 st1 => asTs ts r env1 st1)
end
def evT (e : CE) (env : Ev) (st : Sto) : Res Bool := (evE cl e env st).bind fun x st1 => ofO (truthy st1 x) st1
mutual
def evS : CS → Ev → Sto → Res Fl
  | .expr e, env, st => (evE cl e env st).bind fun _ st1 => .ok (.nx env) st1
  | .ret e, env, st => (evE cl e env st).bind fun d st1 => .ok (.rt d) st1
  | .retN, _, st => .ok (.rt .non) st
  | .asg t e, env, st => (evE cl e env st).bind fun d st1 => (asT cl t d env st1).bind fun env1 st2 => .ok (.nx env1) st2
  | .par i j a b, env, st => (evE cl a env st).bind fun x st1 => (evE cl b env st1).bind fun y st2 => .ok (.nx ((env.set i (some x)).set j (some y))) st2
  | .par3 i j l a b c, env, st => (evE cl a env st).bind fun x st1 => (evE cl b env st1).bind fun y st2 => (evE cl c env st2).bind fun z st3 => .ok (.nx (((env.set i (some x)).set j (some y)).set l (some z))) st3
  | .aug i op e, env, st => (match env[i]? with
    | some (some x) => (evE cl e env st).bind fun y st1 => (match op, x, y with
      | .add, .int a, .int b => .ok (.nx (env.set i (some (.int (a + b))))) st1
      | .sub, .int a, .int b => .ok (.nx (env.set i (some (.int (a - b))))) st1
      | _, _, _ => .no)
    | _ => .no)
  | .ifs t a b, env, st => (evT cl t env st).bind fun k st1 => if k then evB a env st1 else evB b env st1
  | .whl t a, env, st => whlL (fun e s => evT cl t e s) (fun e s => evB a e s) TURNS env st
  | .for_ t it a, env, st => (evI cl it env st).bind fun k st1 => forL k (fun d e s => asT cl t d e s) (fun e s => evB a e s) TURNS 0 env st1
  | .brk, env, st => .ok (.bk env) st
  | .cont, env, st => .ok (.ct env) st
  | .pass, env, st => .ok (.nx env) st
  | .never, _, _ => .no
def evB : CB → Ev → Sto → Res Fl
  | .nil, env, st => .ok (.nx env) st
  | .cons s b, env, st => (evS s env st).bind fun f st1 => match f with
    | .nx env1 => evB b env1 st1
    | f => .ok f st1
end
end

/-- a def: how many parameters, how many names, its body -/
structure Fn where
  np : Nat
  nn : Nat
  body : CB
def endF (r : Res Fl) : Res D := r.bind fun f st => match f with
  | .nx _ => .ok .non st
  | .rt d => .ok d st
  | _ => .no
def callF (prog : List Fn) : Nat → Nat → List D → Sto → Res D
  | 0, _, _, _ => .no
  | n + 1, i, args, st => match prog[i]? with
    | some f => if args.length = f.np then endF (evB (callF prog n) f.body (args.map some ++ List.replicate (f.nn - args.length) none) st) else .no
    | none => .no
end Mp

/-! P2: how the data lie in the abstract heap; the operators -/
namespace Mp
open PySem PySem.Spec PyProof.Rows L2

section
variable (K : PySem.W.Frag) (ρ : List Addr) (H : Hp)
mutual
inductive RepV : D → V → Prop
  | non : RepV .non .non
  | bl (b : Bool) : RepV (.bl b) (.bl b)
  | int (i : Int) : RepV (.int i) (.int i)
  | str (x : Str) : RepV (.str x) (.str x)
  | tup {a : Addr} {xs : List V} {ds : List D} : SqT K H a xs → RepVs ds xs → RepV (.tup ds) (.ref a)
  | ref {r : Nat} {a : Addr} : ρ[r]? = some a → RepV (.ref r) (.ref a)
inductive RepVs : List D → List V → Prop
  | nil : RepVs [] []
  | cons {d : D} {v : V} {ds : List D} {vs : List V} : RepV d v → RepVs ds vs → RepVs (d :: ds) (v :: vs)
end
/-- a list that nothing writes -/
def FrzL (a : Addr) (xs : List V) : Prop := (∃ o, H a = some (.frz o (.lst xs))) ∨
    ∃ (o : Obj) (its : Array Value) (n : Nat), K.lookup a = some o ∧ o.cls = .type "list" ∧ o.dict = none ∧ o.data = .seq its n ∧ its.size ≤ sizeLine ∧ Vals xs its.toList
def ORep (a : Addr) : O → Prop
  | .lst ds => ∃ xs, H a = some (.lst xs) ∧ RepVs K ρ H ds xs
  | .frz ds => ∃ xs, FrzL K H a xs ∧ RepVs K ρ H ds xs
end
structure StOk (K : PySem.W.Frag) (ρ : List Addr) (H : Hp) (st : Sto) : Prop where
  len : ρ.length = st.length
  inj : ∀ (r q : Nat) (a : Addr) (xs ys : List D), st[r]? = some (.lst xs) → st[q]? = some (.lst ys) → ρ[r]? = some a → ρ[q]? = some a → r = q
  obj : ∀ (r : Nat) (o : O), st[r]? = some o → ∃ a, ρ[r]? = some a ∧ ORep K ρ H a o
structure Ext (ρ : List Addr) (H : Hp) (ρ' : List Addr) (H' : Hp) : Prop where
  pre : ρ <+: ρ'
  tups : ∀ b xs, H b = some (.tup xs) → H' b = some (.tup xs)
  frzs : ∀ b o u, H b = some (.frz o u) → H' b = some (.frz o u)

section
variable {K : PySem.W.Frag} {ρ ρ' ρ2 : List Addr} {H H' H2 : Hp} {st : Sto} {d : D} {ds : List D} {v : V} {vs : List V} {a p : Addr}
theorem Ext.refl : Ext ρ H ρ H := ⟨List.prefix_rfl, fun _ _ h => h, fun _ _ _ h => h⟩
theorem Ext.trans (e : Ext ρ H ρ' H') (f : Ext ρ' H' ρ2 H2) : Ext ρ H ρ2 H2 := ⟨e.pre.trans f.pre, fun b xs h => f.tups b xs (e.tups b xs h), fun b o u h => f.frzs b o u (e.frzs b o u h)⟩
theorem Ext.at (e : Ext ρ H ρ' H') {r : Nat} (h : ρ[r]? = some a) : ρ'[r]? = some a := by
  obtain ⟨t, rfl⟩ := e.pre
  rw [List.getElem?_append_left (List.getElem?_eq_some_iff.mp h).1]
  exact h
theorem Ext.sqT (e : Ext ρ H ρ' H') {xs : List V} (h : SqT K H a xs) : SqT K H' a xs := by
  rcases h with (h | ⟨o, h⟩) | h
  · exact .inl (.inl (e.tups _ _ h))
  · exact .inl (.inr ⟨o, e.frzs _ _ _ h⟩)
  · exact .inr h
mutual
theorem RepV.mono (e : Ext ρ H ρ' H') : ∀ {d : D} {v : V}, RepV K ρ H d v → RepV K ρ' H' d v
  | .non, _, h => by cases h; exact .non
  | .bl _, _, h => by cases h; exact .bl _
  | .int _, _, h => by cases h; exact .int _
  | .str _, _, h => by cases h; exact .str _
  | .tup ds, _, h => by cases h with | tup h1 h2 => exact .tup (e.sqT h1) (RepVs.mono e h2)
  | .ref _, _, h => by cases h with | ref h1 => exact .ref (e.at h1)
theorem RepVs.mono (e : Ext ρ H ρ' H') : ∀ {ds : List D} {vs : List V}, RepVs K ρ H ds vs → RepVs K ρ' H' ds vs
  | [], _, h => by cases h; exact .nil
  | _ :: _, _, h => by cases h with | cons h1 h2 => exact .cons (RepV.mono e h1) (RepVs.mono e h2)
end
theorem RepVs.length : ∀ {ds : List D} {vs : List V}, RepVs K ρ H ds vs → ds.length = vs.length
  | [], _, h => by cases h; rfl
  | _ :: _, _, h => by cases h with | cons h1 h2 => simp [RepVs.length h2]
theorem RepVs.get : ∀ {ds : List D} {vs : List V} {i : Nat} {d : D}, RepVs K ρ H ds vs → ds[i]? = some d → ∃ v, vs[i]? = some v ∧ RepV K ρ H d v
  | [], _, _, _, _, e => by simp at e
  | d :: _, _, 0, _, h, e => by
    cases h with
    | cons h1 h2 => simp at e; subst e; exact ⟨_, rfl, h1⟩
  | _ :: _, _, i + 1, _, h, e => by
    cases h with
    | cons h1 h2 =>
      obtain ⟨v, a, b⟩ := RepVs.get (i := i) h2 (by simpa using e)
      exact ⟨v, by simpa using a, b⟩
theorem RepVs.getV : ∀ {ds : List D} {vs : List V} {i : Nat} {v : V}, RepVs K ρ H ds vs → vs[i]? = some v → ∃ d, ds[i]? = some d ∧ RepV K ρ H d v
  | [], _, _, _, h, e => by cases h; simp at e
  | _ :: _, _, 0, _, h, e => by
    cases h with
    | cons h1 h2 => simp at e; subst e; exact ⟨_, rfl, h1⟩
  | _ :: _, _, i + 1, _, h, e => by
    cases h with
    | cons h1 h2 =>
      obtain ⟨v, a, b⟩ := RepVs.getV (i := i) h2 (by simpa using e)
      exact ⟨v, by simpa using a, b⟩
theorem RepVs.append : ∀ {ds es : List D} {vs ws : List V}, RepVs K ρ H ds vs → RepVs K ρ H es ws → RepVs K ρ H (ds ++ es) (vs ++ ws)
  | [], _, _, _, h, g => by cases h; exact g
  | _ :: _, _, _, _, h, g => by cases h with | cons h1 h2 => exact .cons h1 (RepVs.append h2 g)
theorem RepVs.take : ∀ {ds : List D} {vs : List V} (n : Nat), RepVs K ρ H ds vs → RepVs K ρ H (ds.take n) (vs.take n)
  | _, _, 0, _ => .nil
  | [], _, n + 1, h => by cases h; exact .nil
  | _ :: _, _, n + 1, h => by cases h with | cons h1 h2 => exact .cons h1 (RepVs.take n h2)
theorem RepVs.drop : ∀ {ds : List D} {vs : List V} (n : Nat), RepVs K ρ H ds vs → RepVs K ρ H (ds.drop n) (vs.drop n)
  | _, _, 0, h => h
  | [], _, n + 1, h => by cases h; exact .nil
  | _ :: _, _, n + 1, h => by cases h with | cons h1 h2 => exact RepVs.drop n h2
theorem RepVs.reverse : ∀ {ds : List D} {vs : List V}, RepVs K ρ H ds vs → RepVs K ρ H ds.reverse vs.reverse
  | [], _, h => by cases h; exact .nil
  | _ :: _, _, h => by
    cases h with
    | cons h1 h2 =>
      rw [List.reverse_cons, List.reverse_cons]
      exact (RepVs.reverse h2).append (.cons h1 .nil)
theorem RepVs.set {d : D} {v : V} (q : RepV K ρ H d v) : ∀ {ds : List D} {vs : List V} (n : Nat), RepVs K ρ H ds vs → RepVs K ρ H (ds.set n d) (vs.set n v)
  | [], _, _, h => by cases h; exact .nil
  | _ :: _, _, 0, h => by cases h with | cons h1 h2 => exact .cons q h2
  | _ :: _, _, n + 1, h => by cases h with | cons h1 h2 => exact .cons h1 (RepVs.set q n h2)
theorem RepVs.dropLast : ∀ {ds : List D} {vs : List V}, RepVs K ρ H ds vs → RepVs K ρ H ds.dropLast vs.dropLast
  | [], _, h => by cases h; exact .nil
  | [_], _, h => by cases h with | cons h1 h2 => cases h2; exact .nil
  | _ :: _ :: _, _, h => by
    cases h with
    | cons h1 h2 =>
      cases h2 with
      | cons h3 h4 => exact .cons h1 (RepVs.dropLast (.cons h3 h4))
theorem RepVs.rep {ds : List D} {vs : List V} (h : RepVs K ρ H ds vs) : ∀ n : Nat, RepVs K ρ H (List.replicate n ds).flatten (List.replicate n vs).flatten
  | 0 => .nil
  | n + 1 => by
    rw [List.replicate_succ, List.replicate_succ, List.flatten_cons, List.flatten_cons]
    exact h.append (RepVs.rep h n)
theorem Ext.frzL (e : Ext ρ H ρ' H') {xs : List V} (h : FrzL K H a xs) : FrzL K H' a xs := by
  rcases h with ⟨o, h⟩ | h
  · exact .inl ⟨o, e.frzs _ _ _ h⟩
  · exact .inr h
theorem FrzL.sq {xs : List V} (h : FrzL K H a xs) : SqL K H a xs := by
  rcases h with ⟨o, h⟩ | h
  · exact .inl (.inr ⟨o, h⟩)
  · exact .inr h
/-- a new object, tracked -/
theorem Ext.new {o : HO} (hp : H p = none) : Ext ρ H ρ (upd H p o) :=
  ⟨List.prefix_rfl, fun b xs h => by rw [upd_ne (ne_of_none h hp)]; exact h, fun b u w h => by rw [upd_ne (ne_of_none h hp)]; exact h⟩
theorem ORep.mono {o : O} (e : Ext ρ H ρ' H') (hl : ∀ xs, H a = some (.lst xs) → H' a = some (.lst xs)) (h : ORep K ρ H a o) : ORep K ρ' H' a o := by
  cases o with
  | lst ds => obtain ⟨xs, h1, h2⟩ := h; exact ⟨xs, hl _ h1, h2.mono e⟩
  | frz ds => obtain ⟨xs, h1, h2⟩ := h; exact ⟨xs, e.frzL h1, h2.mono e⟩
theorem StOk.new {o : HO} (s : StOk K ρ H st) (hp : H p = none) : StOk K ρ (upd H p o) st :=
  ⟨s.len, s.inj, fun r u h => by
    obtain ⟨b, h1, h2⟩ := s.obj r u h
    exact ⟨b, h1, h2.mono (Ext.new hp) fun xs q => by rw [upd_ne (ne_of_none q hp)]; exact q⟩⟩
theorem Ext.push {o : HO} (hp : H p = none) : Ext ρ H (ρ ++ [p]) (upd H p o) := ⟨List.prefix_append _ _, (Ext.new (ρ := ρ) (o := o) hp).tups, (Ext.new (ρ := ρ) (o := o) hp).frzs⟩
theorem StOk.push {xs : List V} (s : StOk K ρ H st) (hp : H p = none) (h : RepVs K ρ H ds xs) : StOk K (ρ ++ [p]) (upd H p (.lst xs)) (st ++ [.lst ds]) := by
  have nop : ∀ (r : Nat) (ys : List D), st[r]? = some (.lst ys) → ρ[r]? = some p → False := fun r ys e1 e2 => by
    obtain ⟨b, q1, xs', q2, _⟩ := s.obj r _ e1
    rw [e2] at q1; cases q1
    rw [hp] at q2; cases q2
  refine ⟨by simp [s.len], fun r q a xs ys h1 h2 h3 h4 => ?_, fun r o e => ?_⟩
  · by_cases c1 : r < st.length
    · rw [List.getElem?_append_left c1] at h1
      rw [List.getElem?_append_left (by rw [s.len]; exact c1)] at h3
      by_cases c2 : q < st.length
      · rw [List.getElem?_append_left c2] at h2
        rw [List.getElem?_append_left (by rw [s.len]; exact c2)] at h4
        exact s.inj r q a xs ys h1 h2 h3 h4
      · have e2 : q = st.length := by
          have := (List.getElem?_eq_some_iff.mp h2).1
          simp at this; omega
        subst e2
        rw [← s.len, List.getElem?_concat_length] at h4
        cases h4
        exact (nop r xs h1 h3).elim
    · have e1 : r = st.length := by
        have := (List.getElem?_eq_some_iff.mp h1).1
        simp at this; omega
      subst e1
      rw [← s.len, List.getElem?_concat_length] at h3
      cases h3
      by_cases c2 : q < st.length
      · rw [List.getElem?_append_left c2] at h2
        rw [List.getElem?_append_left (by rw [s.len]; exact c2)] at h4
        exact (nop q ys h2 h4).elim
      · have := (List.getElem?_eq_some_iff.mp h2).1
        simp at this; omega
  · by_cases c1 : r < st.length
    · rw [List.getElem?_append_left c1] at e
      obtain ⟨b, q1, q2⟩ := s.obj r o e
      exact ⟨b, (Ext.push (o := .lst xs) hp).at q1, q2.mono (Ext.push hp) fun ys z => by rw [upd_ne (ne_of_none z hp)]; exact z⟩
    · have e1 : r = st.length := by
        have := (List.getElem?_eq_some_iff.mp e).1
        simp at this; omega
      subst e1
      rw [List.getElem?_concat_length] at e
      cases e
      refine ⟨p, by rw [← s.len, List.getElem?_concat_length], xs, upd_same, h.mono (Ext.push hp)⟩
theorem Ext.lset {xs ys : List V} (h : H a = some (.lst xs)) : Ext ρ H ρ (upd H a (.lst ys)) :=
  ⟨List.prefix_rfl, fun b zs q => by rw [upd_ne (fun z => by subst z; rw [h] at q; cases q)]; exact q, fun b o u q => by rw [upd_ne (fun z => by subst z; rw [h] at q; cases q)]; exact q⟩
theorem StOk.lset {r : Nat} {ds' : List D} {xs ys : List V} (s : StOk K ρ H st) (hr : st[r]? = some (.lst ds)) (ha : ρ[r]? = some a) (hH : H a = some (.lst xs)) (h : RepVs K ρ H ds' ys) :
    StOk K ρ (upd H a (.lst ys)) (st.set r (.lst ds')) := by
  have hlt := (List.getElem?_eq_some_iff.mp hr).1
  have isl : ∀ (q : Nat) (zs : List D), (st.set r (.lst ds'))[q]? = some (.lst zs) → ∃ ws, st[q]? = some (.lst ws) := fun q zs e => by
    by_cases c : r = q
    · subst c; exact ⟨_, hr⟩
    · rw [List.getElem?_set_ne c] at e; exact ⟨_, e⟩
  refine ⟨by simp [s.len], fun q1 q2 b xs1 ys1 h1 h2 h3 h4 => ?_, fun q o e => ?_⟩
  · obtain ⟨w1, e1⟩ := isl q1 _ h1
    obtain ⟨w2, e2⟩ := isl q2 _ h2
    exact s.inj q1 q2 b _ _ e1 e2 h3 h4
  · by_cases c : r = q
    · subst c
      rw [List.getElem?_set_self hlt] at e
      cases e
      exact ⟨a, ha, ys, upd_same, h.mono (Ext.lset hH)⟩
    · rw [List.getElem?_set_ne c] at e
      obtain ⟨b, q1, q2⟩ := s.obj q o e
      refine ⟨b, q1, ?_⟩
      cases o with
      | lst zs =>
        obtain ⟨ws, z1, z2⟩ := q2
        refine ⟨ws, ?_, z2.mono (Ext.lset hH)⟩
        rw [upd_ne (fun z => by subst z; exact c (s.inj r q b _ _ hr e ha q1))]
        exact z1
      | frz zs =>
        obtain ⟨ws, z1, z2⟩ := q2
        exact ⟨ws, (Ext.lset (ρ := ρ) hH).frzL z1, z2.mono (Ext.lset hH)⟩
theorem StOk.at {r : Nat} {ds : List D} (s : StOk K ρ H st) (h : lstAt st r = some ds) : ∃ a xs, ρ[r]? = some a ∧ SqL K H a xs ∧ RepVs K ρ H ds xs := by
  unfold lstAt at h
  cases e : st[r]? with
  | none => rw [e] at h; cases h
  | some o =>
    rw [e] at h
    obtain ⟨a, q1, q2⟩ := s.obj r o e
    cases o with
    | lst zs => cases h; obtain ⟨xs, z1, z2⟩ := q2; exact ⟨a, xs, q1, SqL.of z1, z2⟩
    | frz zs => cases h; obtain ⟨xs, z1, z2⟩ := q2; exact ⟨a, xs, q1, z1.sq, z2⟩
theorem StOk.lst {r : Nat} {ds : List D} (s : StOk K ρ H st) (h : st[r]? = some (.lst ds)) : ∃ a xs, ρ[r]? = some a ∧ H a = some (.lst xs) ∧ RepVs K ρ H ds xs := by
  obtain ⟨a, q1, xs, z1, z2⟩ := s.obj r _ h
  exact ⟨a, xs, q1, z1, z2⟩
/-- a tuple or list, by its items -/
theorem StOk.seq (s : StOk K ρ H st) (h : seqOf st d = some ds) (r : RepV K ρ H d v) : ∃ a xs, v = .ref a ∧ (SqL K H a xs ∨ SqT K H a xs) ∧ RepVs K ρ H ds xs := by
  cases r with
  | tup h1 h2 => cases h; exact ⟨_, _, rfl, .inr h1, h2⟩
  | ref h1 =>
    obtain ⟨a, xs, q1, q2, q3⟩ := s.at h
    rw [h1] at q1; cases q1
    exact ⟨_, xs, rfl, .inl q2, q3⟩
  | _ => cases h
mutual
theorem toPD_ok (s : StOk K ρ H st) : ∀ (n : Nat) (d : D) (v : V) (p : PyData), toPD n st d = some p → RepV K ρ H d v → Dp K H v p
  | _, .non, _, _, h, r => by cases r; simp only [toPD, Option.some.injEq] at h; subst h; exact .non
  | _, .bl _, _, _, h, r => by cases r; simp only [toPD, Option.some.injEq] at h; subst h; exact .bl _
  | _, .int _, _, _, h, r => by cases r; simp only [toPD, Option.some.injEq] at h; subst h; exact .int _
  | _, .str _, _, _, h, r => by cases r; simp only [toPD, Option.some.injEq] at h; subst h; exact .str _
  | 0, .tup _, _, _, h, _ => by simp [toPD] at h
  | 0, .ref _, _, _, h, _ => by simp [toPD] at h
  | n + 1, .tup ds, _, _, h, r => by
    simp only [toPD, Option.map_eq_some_iff] at h
    obtain ⟨ps, h1, rfl⟩ := h
    cases r with
    | tup r1 r2 => exact .tup r1 (toPDs_ok s n ds _ _ h1 r2)
  | n + 1, .ref k, _, _, h, r => by
    cases r with
    | ref r1 =>
      simp only [toPD] at h
      split at h
      · rename_i ds e
        simp only [Option.map_eq_some_iff] at h
        obtain ⟨ps, h1, rfl⟩ := h
        obtain ⟨a, xs, q1, q2, q3⟩ := s.at e
        rw [r1] at q1; cases q1
        exact .lst q2 (toPDs_ok s n ds _ _ h1 q3)
      · cases h
  termination_by n d => (n, sizeOf d)
theorem toPDs_ok (s : StOk K ρ H st) : ∀ (n : Nat) (ds : List D) (vs : List V) (ps : List PyData), toPDs n st ds = some ps → RepVs K ρ H ds vs → DpAll K H vs ps
  | _, [], _, _, h, r => by cases r; simp only [toPDs, Option.some.injEq] at h; subst h; exact .nil
  | n, d :: ds, _, _, h, r => by
    cases r with
    | cons r1 r2 =>
      simp only [toPDs] at h
      split at h
      · rename_i p ps e1 e2
        cases h
        exact .cons (toPD_ok s n d _ _ e1 r1) (toPDs_ok s n ds _ _ e2 r2)
      · cases h
  termination_by n ds => (n, sizeOf ds)
end
end

/-- the wish behind an evaluation -/
def RE (K : PySem.W.Frag) (r : Res D) (ρ : List Addr) (H : Hp) (Q : VK) : Prop :=
  ∃ d st, r = .ok d st ∧ ∀ v ρ' H', Ext ρ H ρ' H' → StOk K ρ' H' st → RepV K ρ' H' d v → Q v H'
section
variable {K : PySem.W.Frag} {ρ ρ' ρ2 : List Addr} {H H' H2 : Hp} {st : Sto} {d : D} {ds : List D} {v : V} {vs : List V} {a p : Addr} {r : Res D} {Q : VK}
theorem RE.mono (e : Ext ρ H ρ' H') (h : RE K r ρ H Q) : RE K r ρ' H' Q := by
  obtain ⟨d, st, e1, h⟩ := h
  exact ⟨d, st, e1, fun v ρ2 H2 x s q => h v ρ2 H2 (e.trans x) s q⟩
theorem RE.ok (h : RE K (.ok d st) ρ H Q) (s : StOk K ρ H st) (q : RepV K ρ H d v) : Q v H := by
  obtain ⟨d', st', e1, h⟩ := h
  cases e1
  exact h v ρ H Ext.refl s q
theorem RE.okE (h : RE K (.ok d st) ρ H Q) (x : Ext ρ H ρ' H') (s : StOk K ρ' H' st) (q : RepV K ρ' H' d v) : Q v H' := (h.mono x).ok s q
theorem RE.no (h : RE K .no ρ H Q) : False := by
  obtain ⟨d', st', e1, h⟩ := h
  cases e1
theorem RE.guard {b : Bool} (h : RE K (guardR b r) ρ H Q) : b = true ∧ RE K r ρ H Q := by
  cases b with
  | true => exact ⟨rfl, h⟩
  | false => exact h.no.elim
theorem RE.newL (h : RE K (newL ds st) ρ H Q) (s : StOk K ρ H st) (q : RepVs K ρ H ds vs) : vs.length ≤ sizeLine ∧ ∀ p, H p = none → Q (.ref p) (upd H p (.lst vs)) := by
  unfold Mp.newL at h
  obtain ⟨hl, h⟩ := h.guard
  refine ⟨by rw [← q.length]; exact of_decide_eq_true hl, fun p hp => ?_⟩
  refine h.okE (Ext.push hp) (s.push hp q) (.ref ?_)
  rw [← s.len, List.getElem?_concat_length]
theorem RE.newT (h : RE K (newT ds st) ρ H Q) (s : StOk K ρ H st) (q : RepVs K ρ H ds vs) : vs.length ≤ sizeLine ∧ (∀ p, H p = none → Q (.ref p) (upd H p (.tup vs))) ∧ ∀ a, SqT K H a vs → Q (.ref a) H := by
  unfold Mp.newT at h
  obtain ⟨hl, h⟩ := h.guard
  refine ⟨by rw [← q.length]; exact of_decide_eq_true hl, fun p hp => ?_, fun a ha => h.ok s (.tup ha q)⟩
  exact h.okE (Ext.new hp) (s.new hp) (.tup (SqT.of upd_same) (q.mono (Ext.new hp)))
end

/-! ### the operators, by values -/
def rI (K : PySem.W.Frag) (f : D → D → Sto → Res D) : R2 := fun x y H Q => ∃ d e ρ st, RepV K ρ H d x ∧ RepV K ρ H e y ∧ StOk K ρ H st ∧ RE K (f d e st) ρ H Q
def rI1 (K : PySem.W.Frag) (f : D → Sto → Res D) : V → Hp → VK → Prop := fun x H Q => ∃ d ρ st, RepV K ρ H d x ∧ StOk K ρ H st ∧ RE K (f d st) ρ H Q
def rIs (K : PySem.W.Frag) (f : List D → Sto → Res D) : List V → Hp → VK → Prop := fun xs H Q => ∃ ds ρ st, RepVs K ρ H ds xs ∧ StOk K ρ H st ∧ RE K (f ds st) ρ H Q
theorem OpR.imp {X : Cx} {f : Value → Value → Sem Value} {r r' : R2} (h : OpR X f r) (i : ∀ x y H Q, r' x y H Q → r x y H Q) : OpR X f r' :=
  fun pins s σ H x y v u Q I rx ry q => h pins s σ H x y v u Q I rx ry (i _ _ _ _ q)
def bopOf : Bop → Operator
  | .add => .Add | .sub => .Sub | .mul => .Mult | .fdiv => .FloorDiv | .mod => .Mod | .pow => .Pow
def copOf : Cop → CmpOp
  | .eq => .Eq | .ne => .NotEq | .lt => .Lt | .le => .LtE | .gt => .Gt | .ge => .GtE | .isN => .Is | .notN => .IsNot | .in_ => .In | .notIn => .NotIn
section
variable {X : Cx}
theorem noFill_tm : fillsNumberSlot (.type "tuple") "mul" = pure false :=
  PySem.fillsNumberSlot_seq (id := "tuple.__mul__") (r := some (.builtin "tuple.__rmul__")) PySem.F.slot_tuple_mul.lookup (by decide +kernel) PySem.F.slot_tuple_rmul.lookup (by decide +kernel)
end
end Mp

/-! P2b: the operators keep what the data say -/
namespace Mp
open PySem PySem.Spec PyProof.Rows L2
section
variable {X : Cx}
/-! ### tuple * int, any -/
theorem tuple_mul1 (l : Addr) (items : Array Value) (n : Nat) (dd : Option Addr) (sl : Array (Option Value)) (x : Int) (u : Tok) (c0 : (decide (x < -(2 ^ 63)) || decide (x ≥ 2 ^ 63)) = false) (c1 : (items.isEmpty || x == 1) = true) :
    Meets (Builtin.«tuple.__mul__» ⟨[.ref l, .int x u], []⟩) (fun _ R s => s.heap.get? l = some { cls := .type "tuple", dict := dd, data := .seq items n, slots := sl } ∧
      R (.ok (.ret (Value.ref l))) s) :=
  .of_wp fun prog w A R s h => by
    obtain ⟨hp, g, d, tk, os⟩ := s
    obtain ⟨hl, h⟩ := h
    have f1 := AutoSeq1.idx_int
    wp_walk using wpAny_loadPart' hl
    repeat (first
      | (refine wpAny_ite_false (decide_eq_false (by rw [c0]; exact Bool.false_ne_true)) ?_; wp_walk using wpAny_loadPart' hl)
      | (refine wpAny_ite_true (decide_eq_true (by rw [c1])) ?_; wp_walk using wpAny_loadPart' hl)
      | (refine wpAny_ite_true (by rfl) ?_; wp_walk using wpAny_loadPart' hl))
    exact ⟨_, rfl, h⟩
theorem tuple_mul0 (l : Addr) (items : Array Value) (n : Nat) (dd : Option Addr) (sl : Array (Option Value)) (x : Int) (u : Tok) (c0 : (decide (x < -(2 ^ 63)) || decide (x ≥ 2 ^ 63)) = false) (c1 : (items.isEmpty || x == 1) = false) (c2 : (decide (x ≤ 0) || items.isEmpty) = true) :
    Meets (Builtin.«tuple.__mul__» ⟨[.ref l, .int x u], []⟩) (fun _ R s => s.heap.get? l = some { cls := .type "tuple", dict := dd, data := .seq items n, slots := sl } ∧
      R (.ok (.ret (Value.ref s.heap.objs.size))) { s with heap := s.heap.push { cls := Value.type "tuple", data := Data.seq #[] }, toks := s.toks }) :=
  .of_wp fun prog w A R s h => by
    obtain ⟨hp, g, d, tk, os⟩ := s
    obtain ⟨hl, h⟩ := h
    have f1 := AutoSeq1.idx_int
    wp_walk using wpAny_loadPart' hl
    repeat (first
      | (refine wpAny_ite_false (decide_eq_false (by rw [c0]; exact Bool.false_ne_true)) ?_; wp_walk using wpAny_loadPart' hl)
      | (refine wpAny_ite_false (decide_eq_false (by rw [c1]; exact Bool.false_ne_true)) ?_; wp_walk using wpAny_loadPart' hl)
      | (refine wpAny_ite_true (decide_eq_true (by rw [c2])) ?_; wp_walk using wpAny_loadPart' hl))
    exact ⟨_, rfl, h⟩
def rRepA (K : PySem.W.Frag) : R2 := fun x y H Q => ∃ l k xs, x = .ref l ∧ y = .int k ∧ SqT K H l xs ∧ -(2 ^ 63) ≤ k ∧ k ≤ 1000 ∧ xs.length ≤ 1000 ∧
  (∀ a, SqT K H a (List.replicate k.toNat xs).flatten → Q (.ref a) H) ∧ ∀ p, H p = none → Q (.ref p) (upd H p (.tup (List.replicate k.toNat xs).flatten))
theorem op_repA : OpR X (binaryOp .Mult) (rRepA X.K) := by
  intro pins s σ H x y v u Q I rx ry h
  obtain ⟨l, k, xs, rfl, rfl, hT, h0, h2, hz, qa, q⟩ := h
  by_cases hb : xs ≠ [] ∧ 2 ≤ k
  · exact op_repT pins s σ H _ _ v u Q I rx ry ⟨l, k, xs, rfl, rfl, hT, hb.1, hb.2, h2, hz, q⟩
  · cases rx
    obtain ⟨t, rfl⟩ := ry
    obtain ⟨its, r, ⟨⟨cls, dd, data, sl⟩, ho, hc, n, hd⟩, hs⟩ := I.tuple hT
    simp only at hc hd
    subst hc hd
    have hle : its.length = xs.length := r.length.symm
    have c0 : (decide (k < -(2 ^ 63)) || decide (k ≥ 2 ^ 63)) = false := by
      rw [decide_eq_false (by omega), decide_eq_false (by omega)] <;> rfl
    have he : its.toArray.isEmpty = decide (xs = []) := by
      cases xs with
      | nil =>
        have : its = [] := List.eq_nil_of_length_eq_zero hle
        subst this; rfl
      | cons a b =>
        cases its with
        | nil => simp at hle
        | cons c d => simp
    cases c1 : (its.toArray.isEmpty || k == 1) with
    | true =>
      refine wpAny_binaryOp_repeat_ref (T := "tuple") (U := "int") (by decide) ⟨_, ho, rfl⟩ (fun s' => typeIs_int s' k t) noFill_tm F.fills_int_mul F.slot_int_rmul repeat_tuple F.slot_int_index.lookup
        (call_meets F.slot_int_rmul (typeIs_int s k t) F.entry_int_rmul (F.args_int_rmul_2 _ _) (int_rmul_tuple k t l its.toArray n dd sl)
          ⟨ho, rfl, ⟨_, ho, rfl⟩, call_meets F.slot_tuple_mul ⟨_, ho, rfl⟩ F.entry_tuple_mul (F.args_tuple_mul_2 _ _) (tuple_mul1 l its.toArray n dd sl k t c0 c1) ⟨ho, ?_⟩⟩)
      refine ⟨.ref l, H, I, rfl, qa l ?_⟩
      have e : (List.replicate k.toNat xs).flatten = xs := by
        rw [he] at c1
        by_cases hx : xs = []
        · subst hx; simp
        · simp only [hx, decide_false, Bool.false_or, beq_iff_eq] at c1
          subst c1
          simp [List.replicate]
      rw [e]; exact hT
    | false =>
      have c2 : (decide (k ≤ 0) || its.toArray.isEmpty) = true := by
        simp only [Bool.or_eq_false_iff, beq_eq_false_iff_ne] at c1
        rw [he] at c1 ⊢
        have hx : xs ≠ [] := of_decide_eq_false c1.1
        have : ¬ 2 ≤ k := fun z => hb ⟨hx, z⟩
        rw [decide_eq_true (by omega), Bool.true_or]
      refine wpAny_binaryOp_repeat_ref (T := "tuple") (U := "int") (by decide) ⟨_, ho, rfl⟩ (fun s' => typeIs_int s' k t) noFill_tm F.fills_int_mul F.slot_int_rmul repeat_tuple F.slot_int_index.lookup
        (call_meets F.slot_int_rmul (typeIs_int s k t) F.entry_int_rmul (F.args_int_rmul_2 _ _) (int_rmul_tuple k t l its.toArray n dd sl)
          ⟨ho, rfl, ⟨_, ho, rfl⟩, call_meets F.slot_tuple_mul ⟨_, ho, rfl⟩ F.entry_tuple_mul (F.args_tuple_mul_2 _ _) (tuple_mul0 l its.toArray n dd sl k t c0 c1 c2) ⟨ho, ?_⟩⟩)
      have e : (List.replicate k.toNat xs).flatten = [] := by
        simp only [Bool.or_eq_true, decide_eq_true_eq] at c2
        rcases c2 with c2 | c2
        · rw [show k.toNat = 0 by omega]; rfl
        · rw [he] at c2
          rw [of_decide_eq_true c2]; simp
      rw [e] at q
      refine ⟨.ref s.heap.objs.size, _, I.laid (t' := s.toks) (o := .tup []) (fun b ob q => Heap.get?_push_of_some _ q) (Nat.le_refl _) ?_, rfl, q _ (I.hok.fresh (Nat.le_refl _))⟩
      exact ⟨by rw [sizeLine_eq]; exact Nat.zero_le _, [], .nil, IsTup.new _ _⟩

/-! ### a op b -/
theorem bin_ok (op : Bop) : OpR X (binaryOp (bopOf op)) (rI X.K (binD op)) := by
  cases op with
  | add =>
    refine OpR.imp (OpR.or op_add (OpR.or op_add_str (OpR.or op_catA op_cat))) fun x y H Q h => ?_
    obtain ⟨d, e, ρ, st, r1, r2, so, h⟩ := h
    cases r1 <;> cases r2 <;> first
      | exact h.no.elim
      | exact .inl ⟨_, _, rfl, rfl, h.ok so (.int _)⟩
      | (obtain ⟨g, h⟩ := h.guard
         exact .inr (.inl ⟨_, _, rfl, rfl, of_decide_eq_true g, h.ok so (.str _)⟩))
      | skip
    · rename_i a xs ds s1 q1 b ys es s2 q2
      have h : RE X.K (newT (ds ++ es) st) ρ H Q := h
      obtain ⟨hl, hn, ha⟩ := h.newT so (q1.append q2)
      refine .inr (.inr (.inl ⟨a, b, xs, ys, rfl, rfl, s1, s2, by simpa using hl, fun e => ha b (by rw [e]; exact s2), fun _ e => ha a (by rw [e, List.append_nil]; exact s1), fun _ _ p hp => hn p hp⟩))
    · rename_i r a q1 q b q2
      have h : RE X.K (match st[r]?, st[q]? with
        | some (.lst xs), some (.lst ys) => Mp.newL (xs ++ ys) st
        | _, _ => .no) ρ H Q := h
      split at h
      · rename_i xs ys e1 e2
        obtain ⟨a', vs, z1, z2, z3⟩ := so.lst e1
        obtain ⟨b', ws, y1, y2, y3⟩ := so.lst e2
        rw [q1] at z1; cases z1
        rw [q2] at y1; cases y1
        obtain ⟨hl, hn⟩ := h.newL so (z3.append y3)
        exact .inr (.inr (.inr ⟨a, b, vs, ws, rfl, rfl, z2, y2, by simpa using hl, hn⟩))
      · exact h.no.elim
  | sub =>
    refine OpR.imp op_sub fun x y H Q h => ?_
    obtain ⟨d, e, ρ, st, r1, r2, so, h⟩ := h
    cases r1 <;> cases r2 <;> first
      | exact h.no.elim
      | exact ⟨_, _, rfl, rfl, h.ok so (.int _)⟩
  | mul =>
    refine OpR.imp (OpR.or (OpR.or op_mul op_mulW) (OpR.or op_repA op_rep)) fun x y H Q h => ?_
    obtain ⟨d, e, ρ, st, r1, r2, so, h⟩ := h
    cases r1 <;> cases r2 <;> first
      | exact h.no.elim
      | (obtain ⟨g, h⟩ := h.guard
         rcases of_decide_eq_true g with g | g | g
         · exact .inl (.inl ⟨_, _, rfl, rfl, (.inl ⟨by omega, by omega⟩), h.ok so (.int _)⟩)
         · exact .inl (.inl ⟨_, _, rfl, rfl, (.inr ⟨by omega, by omega⟩), h.ok so (.int _)⟩)
         · exact .inl (.inr ⟨_, _, rfl, rfl, (by unfold CMulW; exact g), h.ok so (.int _)⟩))
      | skip
    · rename_i a xs ds s1 q1 k
      obtain ⟨g, h⟩ := RE.guard h
      have g := of_decide_eq_true g
      obtain ⟨hl, hn, ha⟩ := h.newT so (q1.rep k.toNat)
      exact .inr (.inl ⟨a, k, xs, rfl, rfl, s1, g.2.1, g.2.2, by rw [← q1.length]; exact g.1, ha, hn⟩)
    · rename_i r a q1 k
      have h : RE X.K (match st[r]? with
        | some (.lst xs) => guardR (decide (-(2 ^ 63) ≤ k ∧ k < 2 ^ 63)) (Mp.newL (List.replicate k.toNat xs).flatten st)
        | _ => .no) ρ H Q := h
      split at h
      · rename_i xs e1
        obtain ⟨a', vs, z1, z2, z3⟩ := so.lst e1
        rw [q1] at z1; cases z1
        obtain ⟨g, h⟩ := h.guard
        have g := of_decide_eq_true g
        obtain ⟨hl, hn⟩ := h.newL so (z3.rep k.toNat)
        rw [PyProof.Rows.lm_len_rep_flat] at hl
        exact .inr (.inr ⟨a, k, vs, rfl, rfl, z2, g.1, g.2, by rw [Nat.mul_comm]; exact hl, hn⟩)
      · exact h.no.elim
  | fdiv =>
    refine OpR.imp op_fdivW fun x y H Q h => ?_
    obtain ⟨d, e, ρ, st, r1, r2, so, h⟩ := h
    cases r1 <;> cases r2 <;> first
      | exact h.no.elim
      | (obtain ⟨g, h⟩ := h.guard
         exact ⟨_, _, rfl, rfl, (by unfold CDivW; exact of_decide_eq_true g), h.ok so (.int _)⟩)
  | mod =>
    refine OpR.imp op_mod fun x y H Q h => ?_
    obtain ⟨d, e, ρ, st, r1, r2, so, h⟩ := h
    cases r1 <;> cases r2 <;> first
      | exact h.no.elim
      | (obtain ⟨g, h⟩ := h.guard
         exact ⟨_, _, rfl, rfl, of_decide_eq_true g, h.ok so (.int _)⟩)
  | pow =>
    refine OpR.imp op_pow fun x y H Q h => ?_
    obtain ⟨d, e, ρ, st, r1, r2, so, h⟩ := h
    cases r1 <;> cases r2 <;> first
      | exact h.no.elim
      | (obtain ⟨g, h⟩ := h.guard
         exact ⟨_, _, rfl, rfl, (by unfold CPow; exact of_decide_eq_true g), h.ok so (.int _)⟩)
theorem un_ok : UnR X (unaryOp .USub) (rI1 X.K fun x st => match x with
    | .int i => .ok (.int (-i)) st
    | _ => .no) := by
  intro pins s σ H x v Q I r h
  refine un_neg pins s σ H x v Q I r ?_
  obtain ⟨d, ρ, st, r1, so, h⟩ := h
  cases r1 <;> first
    | exact h.no.elim
    | exact ⟨_, rfl, h.ok so (.int _)⟩

/-! ### comparisons -/
def cD (op : Cop) (x y : D) (st : Sto) : Res D := ofO ((cmpD op x y st).map D.bl) st
theorem ofO_some {K : PySem.W.Frag} {ρ : List Addr} {H : Hp} {Q : VK} {o : Option D} {st : Sto} (h : RE K (ofO o st) ρ H Q) : ∃ d, o = some d ∧ RE K (.ok d st) ρ H Q := by
  cases o with
  | none => exact h.no.elim
  | some d => exact ⟨d, rfl, h⟩
theorem pyEq_ok {K : PySem.W.Frag} {ρ : List Addr} {H : Hp} {st : Sto} {d e : D} {x y : V} {b : Bool} (so : StOk K ρ H st) (h : pyEq st d e = some b) (r1 : RepV K ρ H d x) (r2 : RepV K ρ H e y) :
    ∃ p q, Dp K H x p ∧ Dp K H y q ∧ SeqAt.shaped p = true ∧ SeqAt.shaped q = true ∧ PyData.eqv p q = b := by
  unfold pyEq at h
  split at h
  · rename_i p q e1 e2
    split at h
    · rename_i g
      simp only [Bool.and_eq_true] at g
      exact ⟨p, q, toPD_ok so _ _ _ _ e1 r1, toPD_ok so _ _ _ _ e2 r2, g.1, g.2, Option.some.inj h⟩
    · cases h
  · cases h
theorem flatV_of {K : PySem.W.Frag} {ρ : List Addr} {H : Hp} {d : D} {x : V} (h : d.flat = true) (r : RepV K ρ H d x) : flatV x = true := by
  cases r <;> first | rfl | cases h
theorem flatVs_of {K : PySem.W.Frag} {ρ : List Addr} {H : Hp} : ∀ {ds : List D} {xs : List V}, ds.all D.flat = true → RepVs K ρ H ds xs → xs.all flatV = true
  | [], _, _, r => by cases r; rfl
  | d :: ds, _, h, r => by
    cases r with
    | cons r1 r2 =>
      rw [List.all_cons, Bool.and_eq_true] at h
      rw [List.all_cons, flatV_of h.1 r1, flatVs_of h.2 r2]; rfl
theorem eqF_ok {K : PySem.W.Frag} {ρ : List Addr} {H : Hp} {d e : D} {x y : V} (hd : d.flat = true) (he : e.flat = true) (r : RepV K ρ H d x) (q : RepV K ρ H e y) : eqV x y = eqF d e := by
  cases r <;> cases q <;> first | rfl | cases hd | cases he
theorem inD_ok {K : PySem.W.Frag} {ρ : List Addr} {H : Hp} {d : D} {x : V} (r : RepV K ρ H d x) (hd : d.flat = true) : ∀ {ds : List D} {xs : List V}, ds.all D.flat = true → RepVs K ρ H ds xs → inV x xs = ds.any fun e => eqF e d
  | [], _, _, q => by cases q; rfl
  | e :: ds, _, h, q => by
    cases q with
    | cons q1 q2 =>
      rw [List.all_cons, Bool.and_eq_true] at h
      have ih := inD_ok r hd h.2 q2
      unfold inV at ih ⊢
      rw [List.any_cons, List.any_cons, ih, eqF_ok h.1 hd q1 r]
theorem cmp_ok (op : Cop) (hu : X.A.units + 64 < cLine) : OpR X (compareOp (copOf op)) (rI X.K (cD op)) := by
  cases op with
  | eq =>
    refine OpR.imp (op_eqD hu) fun x y H Q h => ?_
    obtain ⟨d, e, ρ, st, r1, r2, so, h⟩ := h
    obtain ⟨z, hz, h⟩ := ofO_some h
    obtain ⟨b, hb, rfl⟩ := Option.map_eq_some_iff.mp hz
    obtain ⟨p, q, h1, h2, h3, h4, h5⟩ := pyEq_ok so hb r1 r2
    exact ⟨p, q, h1, h2, h3, h4, by rw [h5]; exact h.ok so (.bl _)⟩
  | ne =>
    refine OpR.imp (op_neD hu) fun x y H Q h => ?_
    obtain ⟨d, e, ρ, st, r1, r2, so, h⟩ := h
    obtain ⟨z, hz, h⟩ := ofO_some h
    obtain ⟨b, hb, rfl⟩ := Option.map_eq_some_iff.mp hz
    obtain ⟨c, hc, rfl⟩ := Option.map_eq_some_iff.mp (show (pyEq st d e).map (!·) = some b from hb)
    obtain ⟨p, q, h1, h2, h3, h4, h5⟩ := pyEq_ok so hc r1 r2
    exact ⟨p, q, h1, h2, h3, h4, by rw [h5]; exact h.ok so (.bl _)⟩
  | lt =>
    refine OpR.imp op_lt fun x y H Q h => ?_
    obtain ⟨d, e, ρ, st, r1, r2, so, h⟩ := h
    cases r1 <;> cases r2 <;> first
      | exact h.no.elim
      | exact ⟨_, _, rfl, rfl, h.ok so (.bl _)⟩
  | le =>
    refine OpR.imp op_le fun x y H Q h => ?_
    obtain ⟨d, e, ρ, st, r1, r2, so, h⟩ := h
    cases r1 <;> cases r2 <;> first
      | exact h.no.elim
      | exact ⟨_, _, rfl, rfl, h.ok so (.bl _)⟩
  | gt =>
    refine OpR.imp op_gt fun x y H Q h => ?_
    obtain ⟨d, e, ρ, st, r1, r2, so, h⟩ := h
    cases r1 <;> cases r2 <;> first
      | exact h.no.elim
      | exact ⟨_, _, rfl, rfl, h.ok so (.bl _)⟩
  | ge =>
    refine OpR.imp op_ge fun x y H Q h => ?_
    obtain ⟨d, e, ρ, st, r1, r2, so, h⟩ := h
    cases r1 <;> cases r2 <;> first
      | exact h.no.elim
      | exact ⟨_, _, rfl, rfl, h.ok so (.bl _)⟩
  | isN =>
    refine OpR.imp op_isN fun x y H Q h => ?_
    obtain ⟨d, e, ρ, st, r1, r2, so, h⟩ := h
    cases r2 <;> first
      | exact h.no.elim
      | (cases r1 <;> exact ⟨rfl, h.ok so (.bl _)⟩)
  | notN =>
    refine OpR.imp op_notN fun x y H Q h => ?_
    obtain ⟨d, e, ρ, st, r1, r2, so, h⟩ := h
    cases r2 <;> first
      | exact h.no.elim
      | (cases r1 <;> exact ⟨rfl, h.ok so (.bl _)⟩)
  | in_ =>
    refine OpR.imp op_in_seq fun x y H Q h => ?_
    obtain ⟨d, e, ρ, st, r1, r2, so, h⟩ := h
    obtain ⟨z, hz, h⟩ := ofO_some h
    obtain ⟨b, hb, rfl⟩ := Option.map_eq_some_iff.mp hz
    have hb : (match seqOf st e with
      | some ds => inD d ds
      | none => none) = some b := hb
    split at hb
    · rename_i ds e1
      obtain ⟨a, xs, rfl, q1, q2⟩ := so.seq e1 r2
      unfold inD at hb
      split at hb
      · rename_i g
        rw [Bool.and_eq_true] at g
        cases hb
        refine ⟨a, xs, rfl, q1, flatV_of g.1 r1, flatVs_of g.2 q2, ?_⟩
        rw [if_neg Bool.false_ne_true, inD_ok r1 g.1 g.2 q2]
        exact h.ok so (.bl _)
      · cases hb
    · cases hb
  | notIn =>
    refine OpR.imp op_notIn_seq fun x y H Q h => ?_
    obtain ⟨d, e, ρ, st, r1, r2, so, h⟩ := h
    obtain ⟨z, hz, h⟩ := ofO_some h
    obtain ⟨b, hb, rfl⟩ := Option.map_eq_some_iff.mp hz
    have hb : (match seqOf st e with
      | some ds => (inD d ds).map (!·)
      | none => none) = some b := hb
    split at hb
    · rename_i ds e1
      obtain ⟨a, xs, rfl, q1, q2⟩ := so.seq e1 r2
      obtain ⟨c, hc, rfl⟩ := Option.map_eq_some_iff.mp hb
      unfold inD at hc
      split at hc
      · rename_i g
        rw [Bool.and_eq_true] at g
        cases hc
        refine ⟨a, xs, rfl, q1, flatV_of g.1 r1, flatVs_of g.2 q2, ?_⟩
        rw [if_pos rfl, inD_ok r1 g.1 g.2 q2]
        exact h.ok so (.bl _)
      · cases hc
    · cases hb
/-! ### truth -/
theorem truV_ok {K : PySem.W.Frag} {ρ : List Addr} {H : Hp} {st : Sto} {d : D} {x : V} {b : Bool} (so : StOk K ρ H st) (h : truthy st d = some b) (r : RepV K ρ H d x) : TruV K x H b := by
  cases r with
  | non => cases h; rfl
  | bl b => cases h; rfl
  | int i => cases h; rfl
  | str x =>
    have h : (if x.length ≤ sizeLine then some ((x.length : Int) != 0) else none) = some b := h
    split at h
    · rename_i g; cases h; exact ⟨g, rfl⟩
    · cases h
  | @tup a xs ds h1 h2 =>
    cases h
    refine .inr (.inl ⟨xs, h1, ?_⟩)
    cases h2 <;> rfl
  | @ref k a h1 =>
    obtain ⟨ds, hd, rfl⟩ := Option.map_eq_some_iff.mp h
    obtain ⟨a', xs, q1, q2, q3⟩ := so.at hd
    rw [h1] at q1; cases q1
    refine .inl ⟨xs, q2, ?_⟩
    cases q3 <;> rfl

/-! ### subscripts, slices -/
theorem RepVs.atI {K : PySem.W.Frag} {ρ : List Addr} {H : Hp} {ds : List D} {xs : List V} {i : Int} {d : D} (q : RepVs K ρ H ds xs) (h : atI ds i = some d) : ∃ v, atI xs i = some v ∧ RepV K ρ H d v := by
  unfold L2.atI at h ⊢
  rw [q.length] at h
  cases e : ixN xs.length i with
  | none => rw [e] at h; cases h
  | some j =>
    rw [e] at h
    exact q.get h
theorem ix_ok : IxR X (rI X.K ixD) := by
  have base := IxR.or (ix_list (X := X)) (ix_tup (X := X))
  intro value slice pins s σ H x y v u Q I rx ry h hs
  refine base value slice pins s σ H x y v u Q I rx ry ?_ hs
  obtain ⟨d, e, ρ, st, r1, r2, so, h⟩ := h
  cases r2 <;> first
    | exact h.no.elim
    | skip
  rename_i i
  have h : RE X.K (match seqOf st d with
      | some ds => ofO (atI ds i) st
      | none => .no) ρ H Q := h
  split at h
  · rename_i ds e1
    obtain ⟨z, hz, h⟩ := ofO_some h
    obtain ⟨a, xs, rfl, q1, q2⟩ := so.seq e1 r1
    obtain ⟨w, hw, rw'⟩ := q2.atI hz
    rcases q1 with q1 | q1
    · exact .inl ⟨a, xs, i, w, rfl, rfl, q1, hw, h.ok so rw'⟩
    · exact .inr ⟨a, xs, i, w, rfl, rfl, q1, hw, h.ok so rw'⟩
  · exact h.no.elim
def rSlI (K : PySem.W.Frag) : V → Option Int → Option Int → Hp → VK → Prop := fun x lo hi H Q => ∃ d ρ st, RepV K ρ H d x ∧ StOk K ρ H st ∧ RE K (slD d lo hi st) ρ H Q
theorem RepVs.cut {K : PySem.W.Frag} {ρ : List Addr} {H : Hp} {ds : List D} {xs : List V} (q : RepVs K ρ H ds xs) (lo hi : Option Int) : RepVs K ρ H (cutD ds lo hi) (cutV xs lo hi) := by
  unfold cutD cutV
  rw [q.length]
  exact (q.drop _).take _
theorem sl_ok : SlR X (rSlI X.K) := by
  have base := SlR.or (sl_list (X := X)) (sl_tupA (X := X))
  intro pins s σ H x v vl vu lo hi sl Q I rx hsl p1 p2 h
  refine base pins s σ H x v vl vu lo hi sl Q I rx hsl p1 p2 ?_
  obtain ⟨d, ρ, st, r1, so, h⟩ := h
  cases r1 <;> first
    | exact h.no.elim
    | skip
  · rename_i a xs ds h1 h2
    have h : RE X.K (.ok (.tup (cutD ds lo hi)) st) ρ H Q := h
    have hc := h2.cut lo hi
    refine .inr ⟨a, xs, rfl, h1, fun e => ?_, fun _ p hp => ?_⟩
    · refine h.ok so (.tup ?_ hc)
      have ec : cutV xs lo hi = xs := by
        unfold cutV
        rw [e.1, e.2]
        simp
      rw [ec]; exact h1
    · exact h.okE (Ext.new hp) (so.new hp) (.tup (SqT.of upd_same) (hc.mono (Ext.new hp)))
  · rename_i k a h1
    have h : RE X.K (match lstAt st k with
      | some ds => Mp.newL (cutD ds lo hi) st
      | none => .no) ρ H Q := h
    split at h
    · rename_i ds e1
      obtain ⟨a', xs, q1, q2, q3⟩ := so.at e1
      rw [h1] at q1; cases q1
      obtain ⟨_, hn⟩ := h.newL so (q3.cut lo hi)
      exact .inl ⟨a, xs, rfl, q2, hn⟩
    · exact h.no.elim
/-- a[::-1] -/
theorem sliceApplied_rev {prog : Program} {w : World} {A : Around} {E : Value → Shared → Prop} {s : Shared} {sl : Addr} {vl vu vs : Value} {n : Nat} {Q : Int × Int × Nat → Shared → Prop} (hs : s.heap.IsSliceOf sl vl vu vs) (pl : IsPart vl none) (pu : IsPart vu none) (ps : IsPart vs (some (-1)))
    (h : Q ((n : Int) - 1, -1, n) s) : wpAny (model prog w) A (Builtin.Slice.sliceApplied (.ref sl) (pure (n : Int))) Q E s := by
  obtain ⟨os, hos, hcs, hds⟩ := id hs
  unfold Builtin.Slice.sliceApplied Builtin.Slice.sliceFields
  refine wpAny_bind (wpAny_bind (wpAny_field hos hds (x := vl) rfl (wpAny_bind (wpAny_field hos hds (x := vu) rfl (wpAny_bind (wpAny_field hos hds (x := vs) rfl (wpAny_pure ?_)))))))
  refine wpAny_bind (HT.slicePart_ ps ?_)
  show wpAny _ _ (if ((-1 : Int) == 0) = true then _ else _) _ _ s
  rw [if_neg (by decide)]
  refine wpAny_bind (HT.slicePart_ pl (wpAny_bind (HT.slicePart_ pu (wpAny_bind (wpAny_pure ?_)))))
  show wpAny _ _ (match Builtin.Slice.sliceAdjust none none (-1) (n : Int) with | (lo, hi) => pure (lo, (-1 : Int), Builtin.Slice.slicePlaces lo hi (-1))) _ _ s
  have e : Builtin.Slice.sliceAdjust none none (-1) (n : Int) = ((n : Int) - 1, -1) := rfl
  rw [e]
  have e2 : Builtin.Slice.slicePlaces ((n : Int) - 1) (-1) (-1) = n := by
    unfold Builtin.Slice.slicePlaces
    simp
    split <;> omega
  show wpAny _ _ (pure ((n : Int) - 1, (-1 : Int), Builtin.Slice.slicePlaces ((n : Int) - 1) (-1) (-1))) _ _ s
  rw [e2]
  exact wpAny_pure h
theorem fm_congr {α β : Type} {f g : α → Option β} : ∀ {l : List α}, (∀ m ∈ l, f m = g m) → l.filterMap f = l.filterMap g
  | [], _ => rfl
  | a :: l, h => by
    rw [List.filterMap_cons, List.filterMap_cons, h a List.mem_cons_self, fm_congr fun m hm => h m (List.mem_cons_of_mem _ hm)]
theorem pick_rev (xs : Array Value) : ((List.range xs.size).filterMap fun (m : Nat) => xs[(((xs.size : Nat) : Int) - 1 + (m : Int) * -1).toNat]?).toArray = xs.toList.reverse.toArray := by
  have h : ∀ (n : Nat) (l : List Value), l.length = n → (List.range n).filterMap (fun (m : Nat) => l[((n : Int) - 1 + (m : Int) * -1).toNat]?) = l.reverse := by
    intro n
    induction n with
    | zero => intro l hl; rw [List.eq_nil_of_length_eq_zero hl]; rfl
    | succ n ih =>
      intro l hl
      obtain ⟨l', a, rfl⟩ : ∃ l' a, l = l' ++ [a] := by
        have : l ≠ [] := by intro e; rw [e] at hl; cases hl
        exact ⟨l.dropLast, l.getLast this, (List.dropLast_concat_getLast this).symm⟩
      have hl' : l'.length = n := by simp at hl; omega
      rw [List.range_succ_eq_map, List.filterMap_cons]
      have e0 : (l' ++ [a])[(((n + 1 : Nat) : Int) - 1 + ((0 : Nat) : Int) * -1).toNat]? = some a := by
        rw [show ((((n + 1 : Nat) : Int) - 1 + ((0 : Nat) : Int) * -1)).toNat = l'.length by omega, List.getElem?_concat_length]
      rw [e0, List.filterMap_map, List.reverse_append]
      show a :: _ = [a].reverse ++ l'.reverse
      rw [← ih l' hl']
      show a :: _ = a :: _
      congr 1
      refine fm_congr fun m hm => ?_
      have hm : m < n := List.mem_range.mp hm
      show (l' ++ [a])[_]? = _
      rw [show ((((n + 1 : Nat) : Int) - 1 + ((Nat.succ m : Nat) : Int) * -1)).toNat = ((n : Int) - 1 + (m : Int) * -1).toNat by omega]
      rw [List.getElem?_append_left (by omega)]
  have := h xs.size xs.toList (by simp)
  rw [← this]
  congr 1
  refine fm_congr fun m hm => ?_
  simp
theorem getItem_tuple_rev {prog : Program} {w : World} {A : Around} {E : Value → Shared → Prop} {s : Shared} {t sl : Addr} {items : Array Value} {vl vu vs : Value} {Q : Value → Shared → Prop} (ht : IsTup s.heap t items) (hs : s.heap.IsSliceOf sl vl vu vs) (pl : IsPart vl none) (pu : IsPart vu none) (ps : IsPart vs (some (-1)))
    (h : Q (.ref s.heap.objs.size) { s with heap := s.heap.push { cls := .type "tuple", data := .seq items.toList.reverse.toArray } })
    (hsz : items.size ≤ sizeLine) : wpAny (model prog w) A (getItem (.ref t) (.ref sl)) Q E s := by
  have htake : sizeOk (.seq items.toList.reverse.toArray) := by
    show items.toList.reverse.toArray.size ≤ sizeLine
    simpa using hsz
  obtain ⟨os, hos, hcs, hds⟩ := id hs
  have hTs : s.TypeIs (.ref sl) "slice" := ⟨os, hos, hcs⟩
  unfold getItem
  try with_reducible refine wpAny_holding ?_
  first | refine wpAny_bind (wpAny_pure ?_) | skip
  refine wpAny_bind (wpAny_sequenceKey ht.typeIs (by decide) ?_)
  refine wpAny_bind (wpAny_callSpecial?_slot (name := Str.ofString "__getitem__") ht.typeIs PyProof.Rows.slot_tuple_getitem
    (wpAny_call_entry PyProof.Rows.slot_tuple_getitem ht.typeIs entry_tuple_getitem ?_ (args_tuple_getitem _ _)))
  show wpAny _ _ (Builtin.Tuple.tupleItemsOf (.ref t) >>= _) _ _ s
  refine wpAny_bind (tupleItemsOf_ ht ?_)
  refine wpAny_bind (wpAny_typeOf hTs ?_)
  rw [if_pos (by decide)]
  refine wpAny_bind (sliceApplied_rev hs pl pu ps ?_)
  show wpAny _ _ (if (((items.size : Nat) : Int) - 1 == 0 && (-1 : Int) == 1 && items.size == items.size) = true then _ else _) _ _ s
  rw [if_neg (by simp)]
  show wpAny _ _ (Builtin.Tuple.tupleExact (((List.range items.size).filterMap fun (m : Nat) => items[(((items.size : Nat) : Int) - 1 + (m : Int) * -1).toNat]?).toArray) >>= _) _ _ s
  rw [pick_rev]
  first
    | exact wpAny_bind (m := Builtin.Tuple.tupleExact _) (wpAny_newObj_type (wpAny_pure ⟨_, rfl, wpAny_pure h⟩) htake)
    | exact wpAny_bind (m := Builtin.Tuple.tupleExact _) (wpAny_newObj_type (wpAny_bind (wpAny_pure (wpAny_pure ⟨_, rfl, wpAny_pure h⟩))) htake)
    | exact wpAny_bind (wpAny_bind (m := Builtin.Tuple.tupleExact _) (wpAny_newObj_type (wpAny_pure (wpAny_pure ⟨_, rfl, wpAny_pure h⟩)) htake))
    | exact wpAny_bind (wpAny_bind (m := Builtin.Tuple.tupleExact _) (wpAny_newObj_type (wpAny_pure ⟨_, rfl, wpAny_pure h⟩) htake))

def tRevT (K : PySem.W.Frag) (te : TE) : TE := fun σ H Q => te σ H fun x H1 => ∃ a xs, x = .ref a ∧ SqT K H1 a xs ∧ ∀ p, H1 p = none → Q (.ref p) (upd H1 p (.tup xs.reverse))
theorem pe_revT {e : Expr} {te : TE} {k : Nat} {p1 p2 p3 pos : Pos} (he : PE X e te) : PE X (.Subscript e (.Slice none none (some (.UnaryOp .USub (.Constant (.int 1) k p1) p2)) p3) pos) (tRevT X.K te) := by
  refine ⟨fun pins s σ H Q I h => ?_⟩
  refine Subscript_ (thn (he.run pins s σ H _ I h) fun v s1 ⟨x, H1, I1, r1, q1⟩ => ?_)
  obtain ⟨a, xs, ex, hx, q⟩ := q1
  subst ex
  cases r1
  have hst : PO X (some (.UnaryOp .USub (.Constant (.int 1) k p1) p2)) (tPart (tUn (rU fun i => .int (-i)) (tC (.int 1)))) := po_some (pe_un un_neg pe_int)
  refine wpAny_Slice (thn (po_none.run pins s1 σ H1 (fun o H2 => o = none ∧ H2 = H1) I1 ⟨rfl, rfl⟩) fun vl s2 ⟨l, H2, I2, pl, el, e2⟩ => ?_)
  subst el e2
  refine thn (po_none.run pins s2 σ H2 (fun o H3 => o = none ∧ H3 = H2) I2 ⟨rfl, rfl⟩) fun vu s3 ⟨u, H3, I3, pu, eu, e3⟩ => ?_
  subst eu e3
  refine thn (hst.run pins s3 σ H3 (fun o H4 => o = some (-1) ∧ H4 = H3) I3 ⟨1, rfl, -1, rfl, rfl, rfl⟩) fun vs s4 ⟨o, H4, I4, ps, eo, e4⟩ => ?_
  subst eo e4
  have I5 : Inv X pins σ H4 { s4 with heap := s4.heap.push { cls := .type "slice", data := .fields #[vl, vu, vs] } } := I4.kept (t' := s4.toks) fun b ob q => Heap.get?_push_of_some _ q
  obtain ⟨its, r, ht, hz⟩ := I5.tuple hx
  have hlen := r.length
  show wpAny (model X.prog X.w) X.A (subscriptTail e (.Slice none none (some (.UnaryOp .USub (.Constant (.int 1) k p1) p2)) p3) (.ref a) (.ref s4.heap.objs.size)) (EP X pins σ Q) X.xe { s4 with heap := s4.heap.push { cls := .type "slice", data := .fields #[vl, vu, vs] } }
  refine tail_any (ops := [.ref a, .ref s4.heap.objs.size]) ht.typeIs (PyProof.Rows.slot_tuple_getitem.lookup) ?_ (by with_unfolding_all rfl)
  refine getItem_tuple_rev ht (Heap.IsSliceOf.new _ vl vu vs) pl pu ps ?_ (by rw [List.size_toArray]; omega)
  refine ⟨.ref _, _, I5.laid (t' := s4.toks) (o := .tup xs.reverse) (fun b ob q => Heap.get?_push_of_some _ q) (Nat.le_refl _) ?_, rfl, q _ (I5.hok.fresh (Nat.le_refl _))⟩
  exact ⟨by rw [List.length_reverse]; exact hz, _, r.reverse, IsTup.new _ _⟩
end
end Mp

/-! P2c: calls of built-ins, methods, stores -/
namespace Mp
open PySem PySem.Spec PyProof.Rows L2
section
variable {X : Cx}
theorem CallR.imp {f : Value} {r r' : List V → Hp → VK → Prop} (h : CallR X f r) (i : ∀ x H Q, r' x H Q → r x H Q) : CallR X f r' :=
  fun pins s σ H xs us Q I rx q => h pins s σ H xs us Q I rx (i _ _ _ q)
theorem MtR.imp {id : String} {r r' : V → List V → Hp → VK → Prop} (h : MtR X id r) (i : ∀ x xs H Q, r' x xs H Q → r x xs H Q) : MtR X id r' :=
  fun pins s σ H x xs v us Q I rx rv q => h pins s σ H x xs v us Q I rx rv (i _ _ _ _ q)
theorem ints_of {K : PySem.W.Frag} {ρ : List Addr} {H : Hp} : ∀ {ds : List D} {xs : List V} {ns : List Int}, allO D.isInt ds = some ns → RepVs K ρ H ds xs → xs = ns.map V.int
  | [], _, _, h, r => by cases r; cases h; rfl
  | d :: ds, _, ns, h, r => by
    cases r with
    | cons r1 r2 =>
      unfold allO at h
      split at h
      · rename_i a as e1 e2
        cases h
        have ih := ints_of e2 r2
        cases r1 <;> first
          | cases e1
          | skip
        rw [ih]; rfl
      · cases h
theorem bools_of {K : PySem.W.Frag} {ρ : List Addr} {H : Hp} : ∀ {ds : List D} {xs : List V} {ns : List Bool}, allO D.isBl ds = some ns → RepVs K ρ H ds xs → xs = ns.map V.bl
  | [], _, _, h, r => by cases r; cases h; rfl
  | d :: ds, _, ns, h, r => by
    cases r with
    | cons r1 r2 =>
      unfold allO at h
      split at h
      · rename_i a as e1 e2
        cases h
        have ih := bools_of e2 r2
        cases r1 <;> first
          | cases e1
          | skip
        rw [ih]; rfl
      · cases h
def biVal : Bi → Value
  | .len => .builtin "len" | .int_ => .type "int" | .list_ => .type "list" | .tuple_ => .type "tuple" | .sum_ => .builtin "sum" | .all_ => .builtin "all" | .any_ => .builtin "any"
theorem one_of {K : PySem.W.Frag} {ρ : List Addr} {H : Hp} {d : D} {xs : List V} (r : RepVs K ρ H [d] xs) : ∃ v, xs = [v] ∧ RepV K ρ H d v := by
  cases r with
  | cons r1 r2 => cases r2; exact ⟨_, rfl, r1⟩
/-- a call of one argument -/
theorem bi_one {b : Bi} {K : PySem.W.Frag} {ρ : List Addr} {H : Hp} {ds : List D} {st : Sto} {Q : VK} (h : RE K (biD b ds st) ρ H Q) : ∃ d, ds = [d] := by
  cases b <;> (match ds, h with
    | [d], _ => exact ⟨d, rfl⟩
    | [], h => exact h.no.elim
    | _ :: _ :: _, h => exact h.no.elim)
theorem sum_tupG {prog : Program} {w : World} {A : Around} {E : Value → Shared → Prop} {s : Shared} {l : Addr} {xs : Array (Int × Tok)} {Q : Value → Shared → Prop} (hh : A.handled = none) (hl : s.heap.IsTuple l (intItems xs))
    (h : ∀ h' tk t', (∀ b o, s.heap.get? b = some o → h'.get? b = some o) → Q (.int (preSum (numAt xs) xs.size) t') { s with heap := h', toks := tk }) :
    wpAny (model prog w) A (call (.builtin "sum") [.ref l]) Q E s := by
  have hlt : l < s.heap.objs.size := by obtain ⟨_, e, _⟩ := hl; exact Heap.lt_size e
  refine call_sum_walkG (wpAny_pyIter_tuple hl ?_)
  refine ⟨_, _, _, _, _, _, numAt xs, rfl, Walks.tuple (A := A.in1) hh s.heap.objs.size l (Nat.ne_of_lt hlt) (intItems xs), ⟨⟨_, Heap.get?_push_size _ rfl, rfl, rfl⟩, hl.push _⟩, fun b hb => ?_, (fun _ _ => intItems_at), fun h' tk t' hk => ?_⟩
  · show b < (s.heap.push _).objs.size
    rw [Heap.size_push]
    rcases List.mem_cons.mp hb with rfl | hb
    · exact Nat.lt_succ_self _
    · rcases List.mem_cons.mp hb with rfl | hb
      · exact Nat.lt_succ_of_lt hlt
      · cases hb
  · have hold : ∀ b o, s.heap.get? b = some o → h'.get? b = some o := fun b o e => by
      refine hk b o (fun hm => ?_) (Heap.get?_push_of_some _ e)
      rcases List.mem_cons.mp hm with e1 | hm
      · exact absurd (e1 ▸ Heap.lt_size e) (Nat.lt_irrefl _)
      · cases hm
    have := h h' tk t' hold
    simpa [intItems] using this
theorem sum_rawT {prog : Program} {w : World} {A : Around} {E : Value → Shared → Prop} {s : Shared} {l : Addr} {its : List Value} {ns : List Int} {Q : Value → Shared → Prop} (hh : A.handled = none) (hl : s.heap.IsTuple l its.toArray) (hi : IntsAre its ns)
    (h : ∀ h' tk t', (∀ b o, s.heap.get? b = some o → h'.get? b = some o) → Q (.int ns.sum t') { s with heap := h', toks := tk }) : wpAny (model prog w) A (call (.builtin "sum") [.ref l]) Q E s := by
  obtain ⟨xs, e⟩ := hi.allInts.items
  have hn : numsOf (intItems xs).toList = ns := by rw [← e]; exact hi.numsOf
  rw [nums_intItems] at hn
  rw [e] at hl
  refine sum_tupG hh hl fun h' tk t' hk => ?_
  have := h h' tk t' hk
  rw [preSum_eq, List.take_of_length_le (by simp), hn]; exact this
/-- sum(xs) of a list or tuple of ints -/
def rSumB (K : PySem.W.Frag) : List V → Hp → VK → Prop := fun vs H Q => ∃ (a : Addr) (ns : List Int), vs = [V.ref a] ∧ (SqL K H a (ns.map V.int) ∨ SqT K H a (ns.map V.int)) ∧ Q (.int ns.sum) H
theorem cr_sumB (hc : X.calm = true) : CallR X (.builtin "sum") (rSumB X.K) := by
  intro pins s σ H vs us Q I r h
  obtain ⟨a, ns, rfl, hs | hs, q⟩ := h
  · exact cr_sum hc pins s σ H _ us Q I r ⟨a, ns, rfl, hs, q⟩
  · obtain ⟨its, rv, hl, _⟩ := I.tuple hs
    rw [Vals.ref1 r]
    exact sum_rawT (I.ok.hd hc) hl rv.ints fun h' tk t' hk => ⟨.int _, H, I.kept hk, ⟨_, rfl⟩, q⟩
theorem bi_ok (b : Bi) (hc : X.calm = true) : CallR X (biVal b) (rIs X.K (biD b)) := by
  cases b with
  | len =>
    refine CallR.imp call_len fun xs H Q h => ?_
    obtain ⟨ds, ρ, st, r, so, h⟩ := h
    obtain ⟨d, rfl⟩ := bi_one h
    obtain ⟨v, rfl, r1⟩ := one_of r
    clear r
    have r := r1
    clear r1
    obtain ⟨z, hz, h⟩ := ofO_some h
    obtain ⟨i, hi, rfl⟩ := Option.map_eq_some_iff.mp hz
    cases r with
    | non => cases hi
    | bl b => cases hi
    | int i => cases hi
    | str x =>
      have hi : (if x.length ≤ sizeLine then some (x.length : Int) else none) = some i := hi
      split at hi
      · rename_i g
        cases hi
        exact ⟨_, x.length, rfl, ⟨g, rfl⟩, h.ok so (.int _)⟩
      · cases hi
    | @tup a xs ds h1 h2 =>
      cases hi
      refine ⟨_, xs.length, rfl, .inr ⟨xs, h1, rfl⟩, ?_⟩
      rw [← h2.length]
      exact h.ok so (.int _)
    | @ref k a h1 =>
      obtain ⟨ds, hd, rfl⟩ := Option.map_eq_some_iff.mp (show (lstAt st k).map (fun ds => (ds.length : Int)) = some i from hi)
      obtain ⟨a', xs, q1, q2, q3⟩ := so.at hd
      rw [h1] at q1; cases q1
      refine ⟨_, xs.length, rfl, .inl ⟨xs, q2, rfl⟩, ?_⟩
      rw [← q3.length]
      exact h.ok so (.int _)
  | int_ =>
    refine CallR.imp call_int1 fun xs H Q h => ?_
    obtain ⟨ds, ρ, st, r, so, h⟩ := h
    obtain ⟨d, rfl⟩ := bi_one h
    obtain ⟨v, rfl, r1⟩ := one_of r
    clear r
    have r := r1
    clear r1
    cases r <;> first
      | exact RE.no h |>.elim
      | exact .inl ⟨_, rfl, RE.ok h so (.int _)⟩
      | exact .inr ⟨_, rfl, RE.ok h so (.int _)⟩
  | list_ =>
    refine CallR.imp call_list_of fun xs H Q h => ?_
    obtain ⟨ds, ρ, st, r, so, h⟩ := h
    obtain ⟨d, rfl⟩ := bi_one h
    obtain ⟨v, rfl, r1⟩ := one_of r
    clear r
    have r := r1
    clear r1
    have h : RE X.K (match seqOf st d with
      | some xs => Mp.newL xs st
      | none => .no) ρ H Q := h
    split at h
    · rename_i ys e
      obtain ⟨a, zs, rfl, q1, q2⟩ := so.seq e r
      obtain ⟨_, hn⟩ := h.newL so q2
      exact ⟨a, zs, rfl, q1, hn⟩
    · exact h.no.elim
  | tuple_ =>
    refine CallR.imp call_tuple_of fun xs H Q h => ?_
    obtain ⟨ds, ρ, st, r, so, h⟩ := h
    obtain ⟨d, rfl⟩ := bi_one h
    obtain ⟨v, rfl, r1⟩ := one_of r
    clear r
    have r := r1
    clear r1
    have h : RE X.K (match seqOf st d with
      | some xs => Mp.newT xs st
      | none => .no) ρ H Q := h
    split at h
    · rename_i ys e
      obtain ⟨a, zs, rfl, q1, q2⟩ := so.seq e r
      obtain ⟨_, hn, ht⟩ := h.newT so q2
      refine ⟨a, zs, rfl, ?_⟩
      rcases q1 with q1 | q1
      · exact .inl ⟨q1, hn⟩
      · exact .inr ⟨q1, ht a q1⟩
    · exact h.no.elim
  | sum_ =>
    refine CallR.imp (cr_sumB hc) fun xs H Q h => ?_
    obtain ⟨ds, ρ, st, r, so, h⟩ := h
    obtain ⟨d, rfl⟩ := bi_one h
    obtain ⟨v, rfl, r1⟩ := one_of r
    clear r
    have r := r1
    clear r1
    obtain ⟨z, hz, h'⟩ := ofO_some h
    obtain ⟨ns, hns, rfl⟩ := Option.map_eq_some_iff.mp hz
    have hns : (match seqOf st d with
      | some ds => allO D.isInt ds
      | none => none) = some ns := hns
    split at hns
    · rename_i ys e
      obtain ⟨a, zs, rfl, q1, q2⟩ := so.seq e r
      have ez := ints_of hns q2
      subst ez
      exact ⟨a, ns, rfl, q1, h'.ok so (.int _)⟩
    · cases hns
  | all_ =>
    refine CallR.imp (cr_all hc) fun xs H Q h => ?_
    obtain ⟨ds, ρ, st, r, so, h⟩ := h
    obtain ⟨d, rfl⟩ := bi_one h
    obtain ⟨v, rfl, r1⟩ := one_of r
    clear r
    have r := r1
    clear r1
    obtain ⟨z, hz, h'⟩ := ofO_some h
    obtain ⟨ns, hns, rfl⟩ := Option.map_eq_some_iff.mp hz
    cases r <;> first
      | cases hns
      | skip
    rename_i k a h1
    have hns : (match lstAt st k with
      | some ds => allO D.isBl ds
      | none => none) = some ns := hns
    split at hns
    · rename_i ys e
      obtain ⟨a', zs, q1, q2, q3⟩ := so.at e
      rw [h1] at q1; cases q1
      have ez := bools_of hns q3
      subst ez
      exact ⟨a, ns, rfl, q2, h'.ok so (.bl _)⟩
    · cases hns
  | any_ =>
    refine CallR.imp (cr_any hc) fun xs H Q h => ?_
    obtain ⟨ds, ρ, st, r, so, h⟩ := h
    obtain ⟨d, rfl⟩ := bi_one h
    obtain ⟨v, rfl, r1⟩ := one_of r
    clear r
    have r := r1
    clear r1
    obtain ⟨z, hz, h'⟩ := ofO_some h
    obtain ⟨ns, hns, rfl⟩ := Option.map_eq_some_iff.mp hz
    cases r <;> first
      | cases hns
      | skip
    rename_i k a h1
    have hns : (match lstAt st k with
      | some ds => allO D.isBl ds
      | none => none) = some ns := hns
    split at hns
    · rename_i ys e
      obtain ⟨a', zs, q1, q2, q3⟩ := so.at e
      rw [h1] at q1; cases q1
      have ez := bools_of hns q3
      subst ez
      exact ⟨a, ns, rfl, q2, h'.ok so (.bl _)⟩
    · cases hns
/-! ### isinstance -/
def tyS : Ty → String
  | .int => "int" | .bool => "bool" | .str => "str" | .tuple => "tuple" | .list => "list"
def tyO : Option Ty → String
  | none => "NoneType"
  | some t => tyS t
theorem sub_ok (a : Option Ty) (b : Ty) : kitB (tyO a) (tyS b) = some (subTy a b) := by
  cases a with
  | none => cases b <;> decide +kernel
  | some a => cases a <;> cases b <;> decide +kernel
theorem kit_any {K : PySem.W.Frag} (a : Option Ty) : ∀ ts : List Ty, PySem.W.kitAny K (.type (tyO a)) (ts.map fun t => Value.type (tyS t)) = some (ts.any (subTy a))
  | [] => rfl
  | t :: ts => by
    refine kitAny_cons (kit_ty (sub_ok a t)) (fun e => ?_) fun e => ?_
    · rw [kit_any a ts, List.any_cons, e, Bool.false_or]
    · rw [List.any_cons, e, Bool.true_or]
theorem ty_ok {K : PySem.W.Frag} {ρ : List Addr} {H : Hp} {st : Sto} {d : D} {x : V} {t : Option Ty} (so : StOk K ρ H st) (h : tyD st d = some t) (r : RepV K ρ H d x) : TyX K H x (.type (tyO t)) := by
  cases r with
  | non => cases h; exact .base .non
  | bl b => cases h; exact .base (.bl _)
  | int i => cases h; exact .base (.int _)
  | str x => cases h; exact .base (.str _)
  | @tup a xs ds h1 h2 =>
    cases h
    rcases h1 with (h1 | ⟨o, h1⟩) | ⟨o, its, n, h1, h3, _⟩
    · exact .base (.tup h1)
    · exact .fTuple h1
    · exact .kTuple h1 h3
  | @ref k a h1 =>
    obtain ⟨ds, hd, rfl⟩ := Option.map_eq_some_iff.mp (show (lstAt st k).map (fun _ => some Ty.list) = some t from h)
    obtain ⟨a', xs, q1, q2, q3⟩ := so.at hd
    rw [h1] at q1; cases q1
    rcases q2 with (q2 | ⟨o, q2⟩) | ⟨o, its, n, q2, q4, _⟩
    · exact .base (.lst q2)
    · exact .base (.frz q2)
    · exact .kList q2 q4
/-- isinstance(x, T) -/
def rIsi1 (K : PySem.W.Frag) (ts : Ty) : List V → Hp → VK → Prop := fun xs H Q => ∃ d x ρ st, xs = [x, .ty (tyS ts)] ∧ RepV K ρ H d x ∧ StOk K ρ H st ∧ RE K (ofO ((isiD st d [ts]).map D.bl) st) ρ H Q
theorem isi1_ok (t : Ty) : CallR X (.builtin "isinstance") (rIsi1 X.K t) := by
  refine CallR.imp call_isi fun xs H Q h => ?_
  obtain ⟨d, x, ρ, st, rfl, r, so, h⟩ := h
  obtain ⟨z, hz, h⟩ := ofO_some h
  obtain ⟨b, hb, rfl⟩ := Option.map_eq_some_iff.mp hz
  obtain ⟨y, hy, rfl⟩ := Option.map_eq_some_iff.mp hb
  refine ⟨x, _, _, _, _, rfl, .ty _, ty_ok so hy r, kit_ty (sub_ok y t), ?_⟩
  have := h.ok so (.bl _)
  simpa using this
/-- isinstance(x, (T, ..)), the tuple just laid -/
def rIsiN (K : PySem.W.Frag) (ts : List Ty) : List V → Hp → VK → Prop := fun xs H Q => ∃ d x tp ρ st, xs = [x, .ref tp] ∧ H tp = some (.tup (ts.map fun t => V.ty (tyS t))) ∧ RepV K ρ H d x ∧ StOk K ρ H st ∧ RE K (ofO ((isiD st d ts).map D.bl) st) ρ H Q
theorem isiN_ok (ts : List Ty) : CallR X (.builtin "isinstance") (rIsiN X.K ts) := by
  refine CallR.imp call_isiT fun xs H Q h => ?_
  obtain ⟨d, x, tp, ρ, st, rfl, hT, r, so, h⟩ := h
  obtain ⟨z, hz, h⟩ := ofO_some h
  obtain ⟨b, hb, rfl⟩ := Option.map_eq_some_iff.mp hz
  obtain ⟨y, hy, rfl⟩ := Option.map_eq_some_iff.mp hb
  refine ⟨x, tp, _, _, ts.map fun t => Value.type (tyS t), _, rfl, hT, ?_, ty_ok so hy r, kit_any y ts, h.ok so (.bl _)⟩
  have : ∀ ts : List Ty, Paired ClsV (ts.map fun t => V.ty (tyS t)) (ts.map fun t => Value.type (tyS t)) := by
    intro ts
    induction ts with
    | nil => exact .nil
    | cons t ts ih => exact .cons (.ty _) ih
  exact this ts

/-! ### methods, stores -/
def rMe (K : PySem.W.Frag) (m : Mt) : V → List V → Hp → VK → Prop := fun x xs H Q => ∃ d ds ρ st, RepV K ρ H d x ∧ RepVs K ρ H ds xs ∧ StOk K ρ H st ∧ RE K (methD m d ds st) ρ H Q
def mtId : Mt → String
  | .append => "list.append" | .pop => "list.pop"
theorem me_inv {K : PySem.W.Frag} {m : Mt} {d : D} {ds : List D} {x : V} {xs : List V} {ρ : List Addr} {H : Hp} {st : Sto} {Q : VK} (r : RepV K ρ H d x) (rs : RepVs K ρ H ds xs) (so : StOk K ρ H st) (h : RE K (methD m d ds st) ρ H Q) :
    ∃ k a ys zs, d = .ref k ∧ x = .ref a ∧ ρ[k]? = some a ∧ st[k]? = some (.lst ys) ∧ H a = some (.lst zs) ∧ RepVs K ρ H ys zs ∧ RE K (methL m k ys ds st) ρ H Q := by
  cases r <;> first
    | exact (RE.no h).elim
    | skip
  rename_i k a h1
  unfold methD at h
  simp only at h
  split at h
  · rename_i ys e
    obtain ⟨a', zs, q1, q2, q3⟩ := so.lst e
    rw [h1] at q1; cases q1
    exact ⟨k, a, ys, zs, rfl, rfl, h1, e, q2, q3, h⟩
  · exact h.no.elim
theorem me_ok (m : Mt) : MtR X (mtId m) (rMe X.K m) := by
  cases m with
  | append =>
    refine MtR.imp (r := rAppend) mt_append fun x xs H Q h => ?_
    obtain ⟨d, ds, ρ, st, r, rs, so, h⟩ := h
    obtain ⟨k, a, ys, zs, rfl, rfl, h1, h2, h3, h4, h⟩ := me_inv r rs so h
    match ds, rs, h with
    | [e], rs, h =>
      obtain ⟨v, rfl, rv⟩ := one_of rs
      obtain ⟨g, h⟩ := RE.guard h
      have g := of_decide_eq_true g
      refine ⟨a, zs, v, rfl, rfl, h3, by rw [← h4.length]; exact g, ?_⟩
      exact h.okE (Ext.lset h3) (so.lset h2 h1 h3 (h4.append (.cons rv .nil))) .non
    | [], _, h => exact (RE.no h).elim
    | _ :: _ :: _, _, h => exact (RE.no h).elim
  | pop =>
    refine MtR.imp (r := rPop) mt_pop fun x xs H Q h => ?_
    obtain ⟨d, ds, ρ, st, r, rs, so, h⟩ := h
    obtain ⟨k, a, ys, zs, rfl, rfl, h1, h2, h3, h4, h⟩ := me_inv r rs so h
    match ds, rs, h with
    | [], rs, h =>
      cases rs
      have h : RE X.K (match ys[ys.length - 1]? with
        | some y => .ok y (st.set k (.lst ys.dropLast))
        | none => .no) ρ H Q := h
      split at h
      · rename_i y e
        obtain ⟨w, e2, rw'⟩ := h4.get e
        rw [h4.length] at e2
        refine ⟨a, zs, w, rfl, rfl, h3, e2, ?_⟩
        exact h.okE (Ext.lset h3) (so.lset h2 h1 h3 h4.dropLast) (rw'.mono (Ext.lset h3))
      · exact h.no.elim
    | _ :: _, _, h => exact (RE.no h).elim
/-- o[i] = v -/
def rSet (K : PySem.W.Frag) : TSet := fun o i v H Q => ∃ d e f ρ st st', RepV K ρ H d o ∧ RepV K ρ H e i ∧ RepV K ρ H f v ∧ StOk K ρ H st ∧ setIx d e f st = some st' ∧ ∀ ρ' H', Ext ρ H ρ' H' → StOk K ρ' H' st' → Q H'
theorem set_ok : PSet X (rSet X.K) := by
  intro pins s σ H o i v ov iv u Q I ro ri rv h
  refine set_list pins s σ H o i v ov iv u Q I ro ri rv ?_
  obtain ⟨d, e, f, ρ, st, st', r1, r2, r3, so, hs, h⟩ := h
  unfold setIx at hs
  split at hs
  · rename_i k j
    split at hs
    · rename_i xs e1
      split at hs
      · rename_i j' e2
        cases hs
        cases r1 with
        | ref r1 =>
          cases r2
          obtain ⟨a, zs, q1, q2, q3⟩ := so.lst e1
          rw [r1] at q1; cases q1
          exact ⟨_, zs, _, j', rfl, rfl, q2, by rw [← q3.length]; exact e2, h _ _ (Ext.lset q2) (so.lset e1 r1 q2 (RepVs.set r3 _ q3))⟩
      · cases hs
    · cases hs
  · cases hs
end
end Mp

/-! P3: the translation of the syntax, and what it keeps -/
namespace Mp
open PySem PySem.Spec PyProof.Rows L2

structure TC where
  N : List Str
  fns : List (Str × List Str)
  cns : List (Str × Int)
  kws : List (Nat × Nat × List Str × List Nat)
def kindIn (sc : Scope) (x : Str) : Option NameKind := sc.names.lookup x
def isVis (sc : Scope) (x : Str) : Bool := match kindIn sc x with
  | some .local => true
  | some .cell => true
  | some .free => true
  | _ => false
def isLoc (sc : Scope) (fn : Str → Bool) (x : Str) : Bool := match kindIn sc x with
  | some .local => true
  | some .cell => fn x
  | _ => false
def isGl (sc : Scope) (x : Str) : Bool := match kindIn sc x with
  | some .globalImplicit => true
  | _ => false
def slotOf (T : TC) (x : Str) : Option Nat := T.N.findIdx? (fun y => decide (y = x))
def okN (x : Str) : Bool := !(x == ("__debug__" : Str)) && !(x == ("__classdict__" : Str)) && !decide (x = "__name__")
def trName (T : TC) (sc : Scope) (x : Str) : Option CE := if okN x then (if isVis sc x then (slotOf T x).map CE.var else if isGl sc x then (T.cns.lookup x).map (fun i => CE.cst (.int i)) else none) else none
def trConst : Const → Option CE
  | .none => some (.cst .non)
  | .bool b => some (.cst (.bl b))
  | .int i => some (.cst (.int i))
  | .str x => some (.cst (.str x))
  | _ => none
def trBop : Operator → Option Bop
  | .Add => some .add | .Sub => some .sub | .Mult => some .mul | .FloorDiv => some .fdiv | .Mod => some .mod | .Pow => some .pow | _ => none
def trCop : CmpOp → Cop
  | .Eq => .eq | .NotEq => .ne | .Lt => .lt | .LtE => .le | .Gt => .gt | .GtE => .ge | .Is => .isN | .IsNot => .notN | .In => .in_ | .NotIn => .notIn
def biOf (x : Str) : Option Bi := if x = "len" then some .len else if x = "int" then some .int_ else if x = "list" then some .list_ else if x = "tuple" then some .tuple_ else if x = "sum" then some .sum_ else if x = "all" then some .all_ else if x = "any" then some .any_ else none
def tyOf (x : Str) : Option Ty := if x = "int" then some .int else if x = "bool" then some .bool else if x = "str" then some .str else if x = "tuple" then some .tuple else if x = "list" then some .list else none
def trTy (sc : Scope) : Expr → Option Ty
  | .Name x _ => if isGl sc x then tyOf x else none
  | _ => none
def trTys (sc : Scope) : List Expr → Option (List Ty)
  | [] => some []
  | e :: es => match trTy sc e, trTys sc es with
    | some t, some ts => some (t :: ts)
    | _, _ => none
/-- the classes of an isinstance -/
def trCls (sc : Scope) : Expr → Option (Bool × List Ty)
  | .Tuple es _ _ => (trTys sc es).map fun ts => (true, ts)
  | e => (trTy sc e).map fun t => (false, [t])
def mtOf (x : Str) : Option Mt := if x = "append" then some .append else if x = "pop" then some .pop else none
def isRecv : Expr → Bool
  | .Name _ _ => true
  | .Subscript _ _ _ => true
  | _ => false
def isRev : Expr → Bool
  | .Slice none none (some (.UnaryOp .USub (.Constant (.int i) _ _) _)) _ => decide (i = 1)
  | _ => false
def trL (f : Expr → Option CE) : List Expr → Option CEs
  | [] => some .nil
  | e :: es => match f e, trL f es with
    | some c, some cs => some (.cons c cs)
    | _, _ => none
def trK (f : Expr → Option CE) : List Keyword → Option CEs
  | [] => some .nil
  | ⟨some _, e, _⟩ :: es => (match f e, trK f es with
    | some c, some cs => some (.cons c cs)
    | _, _ => none)
  | ⟨none, _, _⟩ :: _ => none
def trO (f : Expr → Option CE) : Option Expr → Option CEo
  | none => some .none
  | some e => (f e).map CEo.some
def trAnd (f : Expr → Option CE) : List Expr → Option CE
  | [] => none
  | [e] => f e
  | e :: es => match f e, trAnd f es with
    | some c, some d => some (.andv c d)
    | _, _ => none
def trOr (f : Expr → Option CE) : List Expr → Option CE
  | [] => none
  | [e] => f e
  | e :: es => match f e, trOr f es with
    | some c, some d => some (.orv c d)
    | _, _ => none
def fnIx (T : TC) (x : Str) : Option Nat := T.fns.findIdx? (fun p => decide (p.1 = x))
def kwNames (kws : List Keyword) : List Str := kws.filterMap (·.arg)
def kwFind (T : TC) (i n : Nat) (ks : List Str) : Option (List Nat) := (T.kws.find? fun p => decide (p.1 = i ∧ p.2.1 = n ∧ p.2.2.1 = ks)).map fun p => p.2.2.2
def ownOf (T : TC) (scope : Scope) : List (Str × Nat) := scope.names.filterMap fun y => match y.2 with
  | .local => (slotOf T y.1).map fun i => (y.1, i)
  | .cell => (slotOf T y.1).map fun i => (y.1, i)
  | _ => none
/-- a target of names -/
def trTg (T : TC) (sc : Scope) (fn : Str → Bool) : Expr → Option CT
  | .Name x _ => if isLoc sc fn x then (slotOf T x).map CT.var else none
  | _ => none
def trTgs (T : TC) (sc : Scope) (fn : Str → Bool) : List Expr → Option CTs
  | [] => some .nil
  | e :: es => match trTg T sc fn e, trTgs T sc fn es with
    | some c, some cs => some (.cons c cs)
    | _, _ => none
/-- .. or a tuple of such, or a tuple of these -/
def trTg2 (T : TC) (sc : Scope) (fn : Str → Bool) : Expr → Option CT
  | .Tuple es _ _ => (trTgs T sc fn es).map CT.tup
  | e => trTg T sc fn e
def trTgs2 (T : TC) (sc : Scope) (fn : Str → Bool) : List Expr → Option CTs
  | [] => some .nil
  | e :: es => match trTg2 T sc fn e, trTgs2 T sc fn es with
    | some c, some cs => some (.cons c cs)
    | _, _ => none
def trTg3 (T : TC) (sc : Scope) (fn : Str → Bool) : Expr → Option CT
  | .Tuple es _ _ => (trTgs2 T sc fn es).map CT.tup
  | e => trTg T sc fn e
mutual
def tgVars : CT → List Nat
  | .var i => [i]
  | .tup ts => tgsVars ts
  | .ix _ _ => []
def tgsVars : CTs → List Nat
  | .nil => []
  | .cons t ts => tgVars t ++ tgsVars ts
end
def trIt (T : TC) (f : Expr → Option CE) (sc : Scope) : Expr → Option CI
  | .Call (.Name x _) args [] _ => if x = "range" then (if isGl sc x then (match args with
      | [a] => (f a).map CI.rng1
      | [a, b] => (match f a, f b with
        | some c, some d => some (.rng2 c d)
        | _, _ => none)
      | _ => none) else none) else none
  | _ => none
def trIter (T : TC) (f : Expr → Option CE) (sc : Scope) (e : Expr) : Option CI := match trIt T f sc e with
  | some c => some c
  | none => (f e).map CI.seq
def relFn (scope : Scope) : Str → Bool := fun x => scope.names.lookup x == some .cell
def trE (T : TC) : Nat → Scope → (Str → Bool) → Expr → Option CE
  | 0, _, _, _ => none
  | n + 1, sc, fn, e => match e with
    | .Name x _ => trName T sc x
    | .Constant c _ _ => trConst c
    | .BinOp a op b _ => (match trBop op, trE T n sc fn a, trE T n sc fn b with
      | some o, some x, some y => some (.bin o x y)
      | _, _, _ => none)
    | .UnaryOp .USub a _ => (trE T n sc fn a).map CE.neg
    | .UnaryOp .Not a _ => (trE T n sc fn a).map CE.notv
    | .Compare a [op] [b] _ => (match trE T n sc fn a, trE T n sc fn b with
      | some x, some y => some (.cmp (trCop op) x y)
      | _, _ => none)
    | .Compare a [op, op'] [b, c] _ => (match trE T n sc fn a, trE T n sc fn b, trE T n sc fn c with
      | some x, some y, some z => some (.chain (trCop op) (trCop op') x y z)
      | _, _, _ => none)
    | .BoolOp .And es _ => trAnd (trE T n sc fn) es
    | .BoolOp .Or es _ => trOr (trE T n sc fn) es
    | .IfExp t a b _ => (match trE T n sc fn t, trE T n sc fn a, trE T n sc fn b with
      | some x, some y, some z => some (.ife x y z)
      | _, _, _ => none)
    | .Tuple es _ _ => (trL (trE T n sc fn) es).map CE.tup
    | .List es _ => (trL (trE T n sc fn) es).map CE.lst
    | .Subscript a b _ => (match b with
      | .Slice lo hi none _ => (match trE T n sc fn a, trO (trE T n sc fn) lo, trO (trE T n sc fn) hi with
        | some x, some l, some h => some (.sl x l h)
        | _, _, _ => none)
      | .Slice _ _ (some _) _ => if isRev b then (trE T n sc fn a).map CE.rev else none
      | b => (match trE T n sc fn a, trE T n sc fn b with
        | some x, some y => some (.ix x y)
        | _, _ => none))
    | .Call (.Name x _) args kws _ => if okN x && isGl sc x then (match fnIx T x with
        | some i => (match kws with
          | [] => (trL (trE T n sc fn) args).map (CE.call i)
          | kws => (match trL (trE T n sc fn) args, trK (trE T n sc fn) kws, kwFind T i args.length (kwNames kws) with
            | some cs, some ds, some perm => some (.callk i cs ds perm)
            | _, _, _ => none))
        | none => (match kws, args with
          | [], [a] => (match biOf x, trE T n sc fn a with
            | some b, some c => some (.bi b (.cons c .nil))
            | _, _ => none)
          | [], [a, t] => if x = "isinstance" then (match trE T n sc fn a, trCls sc t with
            | some c, some (_, ts) => if ts.length ≤ 8 then some (.isi c ts) else none
            | _, _ => none) else none
          | _, _ => none)) else none
    | .Call (.Attribute o m apos) args [] pos => if isRecv o && (apos.endLine == pos.line) then (match mtOf m, trE T n sc fn o, args with
        | some .append, some c, [a] => (match trE T n sc fn a with
          | some d => some (.meth .append c (.cons d .nil))
          | none => none)
        | some .pop, some c, [] => some (.meth .pop c .nil)
        | _, _, _ => none) else none
    | .ListComp elt [⟨tg, iter, ifs, z⟩] scope _ => if decide (z = 0) && blkC T.N sc scope (ownOf T scope) then (match trIter T (trE T n sc fn) sc iter, trTg2 T (relS scope sc) (relFn scope) tg, trE T n (relS scope sc) (relFn scope) elt with
      | some it, some t, some c => (match ifs with
        | [] => if (tgVars t).all (fun i => decide (i ∈ (ownOf T scope).map (·.2))) then some (.lc c t it .none ((ownOf T scope).map (·.2))) else none
        | [e] => (match trE T n (relS scope sc) (relFn scope) e with
          | some d => if (tgVars t).all (fun i => decide (i ∈ (ownOf T scope).map (·.2))) then some (.lc c t it (.some d) ((ownOf T scope).map (·.2))) else none
          | none => none)
        | _ => none)
      | _, _, _ => none) else none
    | _ => none

/-! ### readings -/
structure EnvR (K : PySem.W.Frag) (ρ : List Addr) (H : Hp) (env : Ev) (σ : L2.St) : Prop where
  len : env.length = σ.length
  at_ : ∀ (i : Nat) (d : D), env[i]? = some (some d) → ∃ v, σ[i]? = some (some v) ∧ RepV K ρ H d v
section
variable {K : PySem.W.Frag} {ρ ρ' : List Addr} {H H' : Hp} {env : Ev} {σ : L2.St}
theorem EnvR.mono (e : Ext ρ H ρ' H') (r : EnvR K ρ H env σ) : EnvR K ρ' H' env σ := ⟨r.len, fun i d h => by
  obtain ⟨v, h1, h2⟩ := r.at_ i d h
  exact ⟨v, h1, h2.mono e⟩⟩
theorem EnvR.set {i : Nat} {d : D} {v : V} (r : EnvR K ρ H env σ) (q : RepV K ρ H d v) : EnvR K ρ H (env.set i (some d)) (σ.set i (some v)) := ⟨by simp [r.len], fun j e h => by
  by_cases c : i = j
  · subst c
    have hl : i < env.length := by
      have := (List.getElem?_eq_some_iff.mp h).1
      simpa using this
    rw [List.getElem?_set_self hl] at h
    cases h
    exact ⟨v, by rw [List.getElem?_set_self (by rw [← r.len]; exact hl)], q⟩
  · rw [List.getElem?_set_ne c] at h
    rw [List.getElem?_set_ne c]
    exact r.at_ j e h⟩
theorem EnvR.clear {i : Nat} (r : EnvR K ρ H env σ) : EnvR K ρ H (env.set i none) (σ.set i none) := ⟨by simp [r.len], fun j e h => by
  by_cases c : i = j
  · subst c
    have hl : i < env.length := by
      have := (List.getElem?_eq_some_iff.mp h).1
      simpa using this
    rw [List.getElem?_set_self hl] at h
    cases h
  · rw [List.getElem?_set_ne c] at h
    rw [List.getElem?_set_ne c]
    exact r.at_ j e h⟩
theorem EnvR.wipe (r : EnvR K ρ H env σ) : ∀ vs : List Nat, EnvR K ρ H (wipeE env vs) (L2.wipe σ vs)
  | [] => r
  | v :: vs => by
    unfold wipeE L2.wipe
    exact (EnvR.wipe r vs).clear
end
section
variable (K : PySem.W.Frag) (cl : Nat → List D → Sto → Res D)
def iE (c : CE) : TE := fun σ H Q => ∃ env st ρ, EnvR K ρ H env σ ∧ StOk K ρ H st ∧ RE K (evE cl c env st) ρ H Q
def iT (c : CE) : TT := fun σ H Q => ∃ env st ρ, EnvR K ρ H env σ ∧ StOk K ρ H st ∧ ∃ b st', evT cl c env st = .ok b st' ∧ ∀ ρ' H', Ext ρ H ρ' H' → StOk K ρ' H' st' → Q b H'
def iEs (cs : CEs) : TA := fun σ H Q => ∃ env st ρ, EnvR K ρ H env σ ∧ StOk K ρ H st ∧ ∃ ds st', evEs cl cs env st = .ok ds st' ∧ ∀ vs ρ' H', Ext ρ H ρ' H' → StOk K ρ' H' st' → RepVs K ρ' H' ds vs → Q vs H'
def iO (c : CEo) : TO := fun σ H Q => ∃ env st ρ, EnvR K ρ H env σ ∧ StOk K ρ H st ∧ ∃ o st', evO cl c env st = .ok o st' ∧ ∀ ρ' H', Ext ρ H ρ' H' → StOk K ρ' H' st' → Q o H'
def iIf (c : CEo) : TT := fun σ H Q => ∃ env st ρ, EnvR K ρ H env σ ∧ StOk K ρ H st ∧ ∃ b st', evIf cl c env st = .ok b st' ∧ ∀ ρ' H', Ext ρ H ρ' H' → StOk K ρ' H' st' → Q b H'
/-- what a walk is, by values -/
def WkR (ρ : List Addr) (H : Hp) : Wk → It → Prop
  | .items ds, J => ∃ a xs, J = Itt K a ∧ SqT K H a xs ∧ RepVs K ρ H ds xs
  | .lst r, J => ∃ a, J = Itl K a ∧ ρ[r]? = some a
  | .rng lo n, J => J = Itr lo n
def iI (c : CI) : TI := fun σ H R => ∃ env st ρ, EnvR K ρ H env σ ∧ StOk K ρ H st ∧ ∃ k st', evI cl c env st = .ok k st' ∧ ∀ J ρ' H', Ext ρ H ρ' H' → StOk K ρ' H' st' → WkR K ρ' H' k J → R J H'
def iTg (t : CT) : TG := fun v σ H Q => ∃ d env st ρ, RepV K ρ H d v ∧ EnvR K ρ H env σ ∧ StOk K ρ H st ∧ ∃ env' st', asT cl t d env st = .ok env' st' ∧
  ∀ σ' ρ' H', Ext ρ H ρ' H' → StOk K ρ' H' st' → EnvR K ρ' H' env' σ' → σ'.length = σ.length → (∀ j, j ∉ tgVars t → σ'[j]? = σ[j]?) → Q σ' H'
def iTgs (t : CTs) : TGs := fun vs σ H Q => ∃ ds env st ρ, RepVs K ρ H ds vs ∧ EnvR K ρ H env σ ∧ StOk K ρ H st ∧ ∃ env' st', asTs cl t ds env st = .ok env' st' ∧
  ∀ σ' ρ' H', Ext ρ H ρ' H' → StOk K ρ' H' st' → EnvR K ρ' H' env' σ' → σ'.length = σ.length → (∀ j, j ∉ tgsVars t → σ'[j]? = σ[j]?) → Q σ' H'
/-- the promise of the i-th def -/
def spI (i np : Nat) : Sp := fun vs H Q _ => vs.length = np ∧ ∃ ds ρ st, RepVs K ρ H ds vs ∧ StOk K ρ H st ∧ RE K (cl i ds st) ρ H Q
end
def BN : List Str := ["len", "int", "list", "tuple", "sum", "all", "any", "isinstance", "range", "bool", "str"]
def permV {α : Type} (z : α) (perm : List Nat) (us ws : List α) : List α := perm.map fun i => (us ++ ws).getD i z
structure Good (T : TC) (cl : Nat → List D → Sto → Res D) (k : Nat) (sc : Scope) (fn : Str → Bool) (X : Cx) : Prop where
  sc : X.env.scope = sc
  N : X.N = T.N
  nd : X.N.Nodup
  calm : X.calm = true
  fn : ∀ x, fn x = true → X.fn x = true
  room : Room k X.A
  xe : X.xe = fun _ _ => False
  cns : ∀ x i, T.cns.lookup x = some i → ∃ t, X.mg x = some (.int i t)
  free : ∀ x ∈ BN, X.mg x = none
  fns : ∀ (i : Nat) (x : Str) (ps : List Str), T.fns[i]? = some (x, ps) → ∃ f fd, X.mg x = some (.ref f) ∧ PySem.W.keepIn X.K (.ref f) = true ∧ FnOk X.prog X.w X.K X.mg X.base CX0 k f fd ps (spI X.K cl i ps.length) ∧ Binds X.K fd ps [] ∧
    ∀ n ks perm, (i, n, ks, perm) ∈ T.kws → KBn X.K fd ps n ks (permV Value.none perm) (permV V.non perm)
  clen : ∀ i ds st d st', cl i ds st = .ok d st' → ∃ x ps, T.fns[i]? = some (x, ps) ∧ ds.length = ps.length
end Mp

/-! P4: expressions -/
namespace Mp
open PySem PySem.Spec PyProof.Rows L2
section
variable {X : Cx}
theorem PE.imp {e : Expr} {t t' : TE} (h : PE X e t) (i : ∀ σ H Q, t' σ H Q → t σ H Q) : PE X e t' := ⟨fun pins s σ H Q I q => h.run pins s σ H Q I (i σ H Q q)⟩
theorem PT.imp {e : Expr} {t t' : TT} (h : PT X e t) (i : ∀ σ H Q, t' σ H Q → t σ H Q) : PT X e t' := ⟨fun pins s σ H Q I q => h.run pins s σ H Q I (i σ H Q q)⟩
theorem PW.imp {e : Expr} {t t' : TT} (h : PW X e t) (i : ∀ σ H Q, t' σ H Q → t σ H Q) : PW X e t' := ⟨fun wh pins s σ H Q I q => h.run wh pins s σ H Q I (i σ H Q q)⟩
theorem PA.imp {es : List Expr} {t t' : TA} (h : PA X es t) (i : ∀ σ H Q, t' σ H Q → t σ H Q) : PA X es t' := ⟨fun pos pins s σ H Q I q => h.run pos pins s σ H Q I (i σ H Q q)⟩
theorem PK.imp {es : List Keyword} {t t' : TA} (h : PK X es t) (i : ∀ σ H Q, t' σ H Q → t σ H Q) : PK X es t' := ⟨fun pos pins s σ H Q I q => h.run pos pins s σ H Q I (i σ H Q q)⟩
theorem PO.imp {e : Option Expr} {t t' : TO} (h : PO X e t) (i : ∀ σ H Q, t' σ H Q → t σ H Q) : PO X e t' := ⟨fun pins s σ H Q I q => h.run pins s σ H Q I (i σ H Q q)⟩
end
section
variable {α β : Type} {K : PySem.W.Frag} {ρ ρ' : List Addr} {H H' : Hp} {st : Sto} {Q : VK}
theorem bind_ok {r : Res α} {f : α → Sto → Res β} {b : β} {st' : Sto} (h : r.bind f = .ok b st') : ∃ a s, r = .ok a s ∧ f a s = .ok b st' := by
  cases r with
  | ok a s => exact ⟨a, s, rfl, h⟩
  | no => cases h
theorem RE.bind {r : Res α} {f : α → Sto → Res D} (h : RE K (r.bind f) ρ H Q) : ∃ a s, r = .ok a s ∧ RE K (f a s) ρ H Q := by
  cases r with
  | ok a s => exact ⟨a, s, rfl, h⟩
  | no => exact h.no.elim
theorem ofO_ok {o : Option α} {a : α} {s st' : Sto} (h : ofO o s = .ok a st') : o = some a ∧ s = st' := by
  cases o with
  | none => cases h
  | some b => cases h; exact ⟨rfl, rfl⟩
theorem guard_ok {b : Bool} {r : Res α} {a : α} {s : Sto} (h : guardR b r = .ok a s) : b = true ∧ r = .ok a s := by
  cases b with
  | true => exact ⟨rfl, h⟩
  | false => cases h
end
section
variable {T : TC} {cl : Nat → List D → Sto → Res D} {X : Cx} {f : Expr → Option CE}
/-- a part's evaluation, with what follows -/
theorem iE_of {K : PySem.W.Frag} {c : CE} {σ : L2.St} {H : Hp} {Q : VK} {env : Ev} {st s : Sto} {ρ : List Addr} {d : D} (er : EnvR K ρ H env σ) (so : StOk K ρ H st) (e : evE cl c env st = .ok d s)
    (h : ∀ v ρ' H', Ext ρ H ρ' H' → StOk K ρ' H' s → EnvR K ρ' H' env σ → RepV K ρ' H' d v → Q v H') : iE K cl c σ H Q :=
  ⟨env, st, ρ, er, so, d, s, e, fun v ρ' H' x s' r => h v ρ' H' x s' (er.mono x) r⟩
theorem iEs_of {K : PySem.W.Frag} {c : CEs} {σ : L2.St} {H : Hp} {Q : List V → Hp → Prop} {env : Ev} {st s : Sto} {ρ : List Addr} {ds : List D} (er : EnvR K ρ H env σ) (so : StOk K ρ H st) (e : evEs cl c env st = .ok ds s)
    (h : ∀ vs ρ' H', Ext ρ H ρ' H' → StOk K ρ' H' s → EnvR K ρ' H' env σ → RepVs K ρ' H' ds vs → Q vs H') : iEs K cl c σ H Q :=
  ⟨env, st, ρ, er, so, ds, s, e, fun v ρ' H' x s' r => h v ρ' H' x s' (er.mono x) r⟩
theorem iT_of {K : PySem.W.Frag} {c : CE} {σ : L2.St} {H : Hp} {Q : Bool → Hp → Prop} {env : Ev} {st s : Sto} {ρ : List Addr} {b : Bool} (er : EnvR K ρ H env σ) (so : StOk K ρ H st) (e : evT cl c env st = .ok b s)
    (h : ∀ ρ' H', Ext ρ H ρ' H' → StOk K ρ' H' s → EnvR K ρ' H' env σ → Q b H') : iT K cl c σ H Q :=
  ⟨env, st, ρ, er, so, b, s, e, fun ρ' H' x s' => h ρ' H' x s' (er.mono x)⟩
/-- two parts -/
theorem iE_two {K : PySem.W.Frag} {a b : CE} {σ : L2.St} {H : Hp} {Q : VK} {env : Ev} {st : Sto} {ρ : List Addr} {g : D → D → Sto → Res D} {r : R2} (er : EnvR K ρ H env σ) (so : StOk K ρ H st)
    (h : RE K ((evE cl a env st).bind fun x st1 => (evE cl b env st1).bind fun y st2 => g x y st2) ρ H Q) (hr : ∀ x y H Q, rI K g x y H Q → r x y H Q) : tOp r (iE K cl a) (iE K cl b) σ H Q := by
  obtain ⟨d, s1, e1, h⟩ := h.bind
  obtain ⟨d2, s2, e2, h⟩ := h.bind
  refine iE_of er so e1 fun v ρ1 H1 x1 so1 er1 r1 => ?_
  refine iE_of er1 so1 e2 fun v2 ρ2 H2 x2 so2 er2 r2 => ?_
  exact hr _ _ _ _ ⟨d, d2, ρ2, s2, r1.mono x2, r2, so2, h.mono (x1.trans x2)⟩

/-! ### names, constants -/
theorem okN_1 {x : Str} (h : okN x = true) : (x == ("__debug__" : Str)) = false := by
  unfold okN at h
  simp only [Bool.and_eq_true, Bool.not_eq_true'] at h
  exact h.1.1
theorem okN_2 {x : Str} (h : okN x = true) : (x == ("__classdict__" : Str)) = false := by
  unfold okN at h
  simp only [Bool.and_eq_true, Bool.not_eq_true'] at h
  exact h.1.2
theorem okN_3 {x : Str} (h : okN x = true) : x ≠ "__name__" := by
  unfold okN at h
  simp only [Bool.and_eq_true, Bool.not_eq_true', decide_eq_false_iff_not] at h
  exact h.2
theorem isVis_ok {sc : Scope} {x : Str} (h : isVis sc x = true) : Vis sc x := by
  unfold isVis kindIn at h
  unfold Vis
  split at h
  · exact .inl (by assumption)
  · exact .inr (.inl (by assumption))
  · exact .inr (.inr (by assumption))
  · cases h
theorem isGl_ok {sc : Scope} {x : Str} (h : isGl sc x = true) (hs : X.env.scope = sc) : Gl X x := by
  unfold isGl kindIn at h
  split at h
  · rename_i e
    show X.env.scope.names.lookup x = _
    rw [hs]; exact e
  · cases h
theorem slotOf_ok {x : Str} {i : Nat} (h : slotOf T x = some i) : T.N[i]? = some x := by
  unfold slotOf at h
  obtain ⟨hlt, h1, _⟩ := List.findIdx?_eq_some_iff_getElem.mp h
  rw [List.getElem?_eq_getElem hlt]
  exact congrArg some (of_decide_eq_true h1)
theorem name_ok {k : Nat} {sc : Scope} {fn : Str → Bool} (G : Good T cl k sc fn X) {x : Str} {pos : Pos} {c : CE} (h : trName T sc x = some c) : PE X (.Name x pos) (iE X.K cl c) := by
  unfold trName at h
  split at h
  · rename_i ho
    split at h
    · rename_i hv
      obtain ⟨i, hi, rfl⟩ := Option.map_eq_some_iff.mp h
      refine PE.imp (pe_var (i := i) (by rw [G.N]; exact slotOf_ok hi) (by rw [G.sc]; exact isVis_ok hv) (okN_1 ho) (okN_2 ho)) fun σ H Q ⟨env, st, ρ, er, so, h⟩ => ?_
      obtain ⟨d, s, e, h⟩ := h
      simp only [evE] at e
      split at e
      · rename_i d' e1
        cases e
        obtain ⟨v, e2, r⟩ := er.at_ _ _ e1
        exact ⟨v, e2, h v ρ H Ext.refl so r⟩
      · cases e
    · split at h
      · rename_i hg
        obtain ⟨i, hi, rfl⟩ := Option.map_eq_some_iff.mp h
        obtain ⟨t, ht⟩ := G.cns _ _ hi
        refine PE.imp (pe_glob (v := .int i) (isGl_ok hg G.sc) ht ⟨t, rfl⟩ (okN_1 ho)) fun σ H Q ⟨env, st, ρ, er, so, h⟩ => ?_
        exact h.ok so (.int i)
      · cases h
  · cases h
theorem const_ok {x : Const} {j : Nat} {pos : Pos} {c : CE} (h : trConst x = some c) : PE X (.Constant x j pos) (iE X.K cl c) := by
  cases x <;> first
    | (cases h; exact PE.imp pe_non fun σ H Q ⟨env, st, ρ, er, so, h⟩ => h.ok so .non)
    | (cases h; exact PE.imp pe_bl fun σ H Q ⟨env, st, ρ, er, so, h⟩ => h.ok so (.bl _))
    | (cases h; exact PE.imp pe_int fun σ H Q ⟨env, st, ρ, er, so, h⟩ => h.ok so (.int _))
    | (cases h; exact PE.imp pe_str fun σ H Q ⟨env, st, ρ, er, so, h⟩ => h.ok so (.str _))
    | cases h
/-! ### argument lists -/
variable (hs : ∀ e c, f e = some c → ∀ es env, starEach (e :: es) env = (false, eval e env) :: starEach es env) (hf : ∀ e c, f e = some c → PE X e (iE X.K cl c))
include hs in
theorem trL_any (pos : Pos) (env : Env) : ∀ {es : List Expr} {cs : CEs}, trL f es = some cs → (backTo pos (starEach es env)).any (·.1) = false
  | [], _, _ => rfl
  | e :: es, cs, h => by
    unfold trL at h
    split at h
    · rename_i c ds e1 e2
      rw [hs e c e1 es env]
      show (backTo pos ((false, eval e env) :: starEach es env)).any (·.1) = false
      have ih := trL_any pos env e2
      unfold backTo at ih ⊢
      rw [List.map_cons, List.any_cons, ih]
      rfl
    · cases h
include hs hf in
theorem trL_ok : ∀ {es : List Expr} {cs : CEs}, trL f es = some cs → PA X es (iEs X.K cl cs)
  | [], _, h => by
    cases h
    refine PA.imp pa_nil fun σ H Q ⟨env, st, ρ, er, so, ds, s, e, h⟩ => ?_
    simp only [evEs] at e
    cases e
    exact h [] ρ H Ext.refl so .nil
  | e :: es, _, h => by
    unfold trL at h
    split at h
    · rename_i c ds e1 e2
      cases h
      refine PA.imp (pa_cons (hf e c e1) (trL_ok e2) (hs e c e1 es X.env)) fun σ H Q ⟨env, st, ρ, er, so, ds, s, e, h⟩ => ?_
      simp only [evEs] at e
      obtain ⟨d, s1, e1, e⟩ := bind_ok e
      obtain ⟨ds2, s2, e2, e⟩ := bind_ok e
      cases e
      refine iE_of er so e1 fun v ρ1 H1 x1 so1 er1 r1 => ?_
      refine iEs_of er1 so1 e2 fun vs ρ2 H2 x2 so2 er2 r2 => ?_
      exact h _ ρ2 H2 (x1.trans x2) so2 (.cons (r1.mono x2) r2)
    · cases h
include hf in
theorem trK_ok : ∀ {es : List Keyword} {cs : CEs}, trK f es = some cs → PK X es (iEs X.K cl cs)
  | [], _, h => by
    cases h
    refine PK.imp pk_nil fun σ H Q ⟨env, st, ρ, er, so, ds, s, e, h⟩ => ?_
    simp only [evEs] at e
    cases e
    exact h [] ρ H Ext.refl so .nil
  | ⟨none, _, _⟩ :: es, _, h => by cases h
  | ⟨some x, e, p⟩ :: es, _, h => by
    unfold trK at h
    split at h
    · rename_i c ds e1 e2
      cases h
      refine PK.imp (pk_cons (hf e c e1) (trK_ok e2)) fun σ H Q ⟨env, st, ρ, er, so, ds, s, e, h⟩ => ?_
      simp only [evEs] at e
      obtain ⟨d, s1, e1, e⟩ := bind_ok e
      obtain ⟨ds2, s2, e2, e⟩ := bind_ok e
      cases e
      refine iE_of er so e1 fun v ρ1 H1 x1 so1 er1 r1 => ?_
      refine iEs_of er1 so1 e2 fun vs ρ2 H2 x2 so2 er2 r2 => ?_
      exact h _ ρ2 H2 (x1.trans x2) so2 (.cons (r1.mono x2) r2)
    · cases h
theorem trK_all (pos : Pos) (env : Env) : ∀ {es : List Keyword} {cs : CEs}, trK f es = some cs → (backToKw pos (keywordEach es env)).all (·.1.isSome) = true ∧ (backToKw pos (keywordEach es env)).any (·.1.isNone) = false ∧ (backToKw pos (keywordEach es env)).filterMap (·.1) = kwNames es
  | [], _, _ => ⟨rfl, rfl, rfl⟩
  | ⟨none, _, _⟩ :: es, _, h => by cases h
  | ⟨some x, e, p⟩ :: es, _, h => by
    unfold trK at h
    split at h
    · rename_i c ds e1 e2
      obtain ⟨i1, i2, i3⟩ := trK_all pos env e2
      unfold backToKw at i1 i2 i3 ⊢
      simp only [keywordEach, List.map_cons, List.all_cons, List.any_cons, List.filterMap_cons, i1, i2, i3]
      exact ⟨rfl, rfl, rfl⟩
    · cases h
theorem evEs_len {cl : Nat → List D → Sto → Res D} : ∀ {cs : CEs} {es : List Expr} {env : Ev} {st s : Sto} {ds : List D}, trL f es = some cs → evEs cl cs env st = .ok ds s → ds.length = es.length
  | _, [], _, _, _, _, h, e => by
    cases h
    simp only [evEs] at e
    cases e; rfl
  | _, e :: es, _, _, _, _, h, q => by
    unfold trL at h
    split at h
    · cases h
      rename_i c ds e1 e2
      simp only [evEs] at q
      obtain ⟨d, s1, q1, q⟩ := bind_ok q
      obtain ⟨ds2, s2, q2, q⟩ := bind_ok q
      cases q
      simp [evEs_len e2 q2]
    · cases h
theorem evKs_len {cl : Nat → List D → Sto → Res D} : ∀ {cs : CEs} {es : List Keyword} {env : Ev} {st s : Sto} {ds : List D}, trK f es = some cs → evEs cl cs env st = .ok ds s → ds.length = (kwNames es).length
  | _, [], _, _, _, _, h, e => by
    cases h
    simp only [evEs] at e
    cases e; rfl
  | _, ⟨none, _, _⟩ :: es, _, _, _, _, h, _ => by cases h
  | _, ⟨some x, e, p⟩ :: es, _, _, _, _, h, q => by
    unfold trK at h
    split at h
    · cases h
      rename_i c ds e1 e2
      simp only [evEs] at q
      obtain ⟨d, s1, q1, q⟩ := bind_ok q
      obtain ⟨ds2, s2, q2, q⟩ := bind_ok q
      cases q
      simp [kwNames, evKs_len e2 q2]
    · cases h
include hf in
theorem trO_ok {e : Option Expr} {c : CEo} (h : trO f e = some c) : PO X e (iO X.K cl c) := by
  cases e with
  | none =>
    cases h
    refine PO.imp po_none fun σ H Q ⟨env, st, ρ, er, so, o, s, e, h⟩ => ?_
    simp only [evO] at e
    cases e
    exact h ρ H Ext.refl so
  | some e =>
    obtain ⟨d, hd, rfl⟩ := Option.map_eq_some_iff.mp (show (f e).map CEo.some = some c from h)
    refine PO.imp (po_some (hf e d hd)) fun σ H Q ⟨env, st, ρ, er, so, o, s, e, h⟩ => ?_
    simp only [evO] at e
    obtain ⟨d, s1, e1, e⟩ := bind_ok e
    refine iE_of er so e1 fun v ρ1 H1 x1 so1 er1 r1 => ?_
    cases r1 <;> first
      | cases e
      | skip
    exact ⟨_, rfl, h ρ1 H1 x1 so1⟩
/-! ### tests -/
/-- the plain form of a test, from the value -/
theorem iT_plain {K : PySem.W.Frag} {c : CE} {σ : L2.St} {H : Hp} {Q : Bool → Hp → Prop} (h : iT K cl c σ H Q) : iE K cl c σ H fun x H' => ∃ k, TruV K x H' k ∧ Q k H' := by
  obtain ⟨env, st, ρ, er, so, b, s, e, h⟩ := h
  obtain ⟨d, s1, e1, e⟩ := bind_ok e
  obtain ⟨e2, rfl⟩ := ofO_ok e
  exact iE_of er so e1 fun v ρ1 H1 x1 so1 er1 r1 => ⟨b, truV_ok so1 e2 r1, h ρ1 H1 x1 so1⟩
theorem pt_of {e : Expr} {c : CE} (h : PE X e (iE X.K cl c)) (he : ∀ whole, isTrue e X.env whole = (do let v ← whole; standAt e.pos; holding [v] (PySem.truthy v))) : PT X e (iT X.K cl c) :=
  PT.imp (pt_truth h he) fun _ _ _ q => iT_plain q
end
end Mp

/-! P5: every translated expression keeps its reading -/
namespace Mp
open PySem PySem.Spec PyProof.Rows L2
section
variable {T : TC} {cl : Nat → List D → Sto → Res D}
theorem trE_star {n : Nat} {sc : Scope} {fn : Str → Bool} {e : Expr} {c : CE} (h : trE T n sc fn e = some c) (es : List Expr) (env : Env) : starEach (e :: es) env = (false, eval e env) :: starEach es env := by
  cases n with
  | zero => simp [trE] at h
  | succ n => cases e <;> first
    | rfl
    | (simp [trE] at h)
theorem trE_plain {n : Nat} {sc : Scope} {fn : Str → Bool} {e : Expr} {c : CE} (h : trE T n sc fn e = some c) : PlainIx e := by
  cases n with
  | zero => simp [trE] at h
  | succ n => cases e <;> first
    | exact fun _ _ => rfl
    | (simp [trE] at h)
theorem trE_marks {n : Nat} {sc : Scope} {fn : Str → Bool} {e : Expr} {c : CE} (op : CmpOp) (h : trE T n sc fn e = some c) : behindInMarks op e = false := by
  cases n with
  | zero => simp [trE] at h
  | succ n => cases e <;> first
    | rfl
    | (simp [trE] at h)
theorem copOf_tr (op : CmpOp) : copOf (trCop op) = op := by cases op <;> rfl
theorem bopOf_tr {op : Operator} {o : Bop} (h : trBop op = some o) : bopOf o = op := by cases op <;> cases h <;> rfl
variable {k : Nat} {X : Cx} {sc : Scope} {fn : Str → Bool}
theorem Good.units (G : Good T cl k sc fn X) : X.A.units + 64 < cLine := G.room.units
theorem op_tr (G : Good T cl k sc fn X) (op : CmpOp) : OpR X (compareOp op) (rI X.K (cD (trCop op))) := by
  have h := cmp_ok (X := X) (trCop op) G.units
  rw [copOf_tr] at h
  exact h
section
variable {f : Expr → Option CE} (hs : ∀ e c, f e = some c → ∀ es env, starEach (e :: es) env = (false, eval e env) :: starEach es env) (hf : ∀ e c, f e = some c → PE X e (iE X.K cl c)) (ht : ∀ e c, f e = some c → PT X e (iT X.K cl c))
include hf in
theorem and_ok {pos : Pos} : ∀ {es : List Expr} {c : CE}, trAnd f es = some c → PE X (.BoolOp .And es pos) (iE X.K cl c)
  | [], _, h => by cases h
  | [e], c, h => pe_one (hf e c h)
  | e :: e2 :: es, c, h => by
    unfold trAnd at h
    split at h
    · rename_i c1 c2 h1 h2
      cases h
      refine PE.imp (pe_andT (hf e c1 h1) (and_ok h2)) fun σ H Q ⟨env, st, ρ, er, so, h⟩ => ?_
      simp only [evE] at h
      obtain ⟨d, s1, e1, h⟩ := h.bind
      obtain ⟨b, s2, e2, h⟩ := h.bind
      obtain ⟨e3, rfl⟩ := ofO_ok e2
      refine iE_of er so e1 fun v ρ1 H1 x1 so1 er1 r1 => ⟨b, truV_ok so1 e3 r1, ?_⟩
      cases b with
      | true => exact ⟨env, s1, ρ1, er1, so1, h.mono x1⟩
      | false => exact (h.mono x1).ok so1 r1
    · cases h
include hf in
theorem or_ok {pos : Pos} : ∀ {es : List Expr} {c : CE}, trOr f es = some c → PE X (.BoolOp .Or es pos) (iE X.K cl c)
  | [], _, h => by cases h
  | [e], c, h => pe_one (hf e c h)
  | e :: e2 :: es, c, h => by
    unfold trOr at h
    split at h
    · rename_i c1 c2 h1 h2
      cases h
      refine PE.imp (pe_orT (hf e c1 h1) (or_ok h2)) fun σ H Q ⟨env, st, ρ, er, so, h⟩ => ?_
      simp only [evE] at h
      obtain ⟨d, s1, e1, h⟩ := h.bind
      obtain ⟨b, s2, e2, h⟩ := h.bind
      obtain ⟨e3, rfl⟩ := ofO_ok e2
      refine iE_of er so e1 fun v ρ1 H1 x1 so1 er1 r1 => ⟨b, truV_ok so1 e3 r1, ?_⟩
      cases b with
      | false => exact ⟨env, s1, ρ1, er1, so1, h.mono x1⟩
      | true => exact (h.mono x1).ok so1 r1
    · cases h
include ht in
theorem andT_ok {pos : Pos} : ∀ {es : List Expr} {c : CE}, trAnd f es = some c → PW X (.BoolOp .And es pos) (iT X.K cl c)
  | [], _, h => by cases h
  | [e], c, h => pw_and1 (ht e c h)
  | e :: e2 :: es, c, h => by
    unfold trAnd at h
    split at h
    · rename_i c1 c2 h1 h2
      cases h
      refine PW.imp (pw_and (ht e c1 h1) (andT_ok h2)) fun σ H Q ⟨env, st, ρ, er, so, b, s, e, h⟩ => ?_
      obtain ⟨d, s1, e1, e⟩ := bind_ok e
      simp only [evE] at e1
      obtain ⟨d0, s0, e0, e1⟩ := bind_ok e1
      obtain ⟨b0, s2, e2, e1⟩ := bind_ok e1
      obtain ⟨e3, rfl⟩ := ofO_ok e2
      refine iT_of (b := b0) er so (s := s0) (by unfold evT; rw [e0]; show ofO (truthy s0 d0) s0 = _; rw [e3]; exact rfl) fun ρ1 H1 x1 so1 er1 => ?_
      cases b0 with
      | true => exact ⟨env, s0, ρ1, er1, so1, b, s, by unfold evT; rw [show evE cl c2 env s0 = .ok d s1 from e1]; exact e, fun ρ2 H2 x2 so2 => h ρ2 H2 (x1.trans x2) so2⟩
      | false =>
        cases (show Res.ok d0 s0 = Res.ok d s1 from e1)
        obtain ⟨e, rfl⟩ := ofO_ok e
        rw [e3] at e; cases e
        exact h ρ1 H1 x1 so1
    · cases h
include ht in
theorem orT_ok {pos : Pos} : ∀ {es : List Expr} {c : CE}, trOr f es = some c → PW X (.BoolOp .Or es pos) (iT X.K cl c)
  | [], _, h => by cases h
  | [e], c, h => pw_or1 (ht e c h)
  | e :: e2 :: es, c, h => by
    unfold trOr at h
    split at h
    · rename_i c1 c2 h1 h2
      cases h
      refine PW.imp (pw_or (ht e c1 h1) (orT_ok h2)) fun σ H Q ⟨env, st, ρ, er, so, b, s, e, h⟩ => ?_
      obtain ⟨d, s1, e1, e⟩ := bind_ok e
      simp only [evE] at e1
      obtain ⟨d0, s0, e0, e1⟩ := bind_ok e1
      obtain ⟨b0, s2, e2, e1⟩ := bind_ok e1
      obtain ⟨e3, rfl⟩ := ofO_ok e2
      refine iT_of (b := b0) er so (s := s0) (by unfold evT; rw [e0]; show ofO (truthy s0 d0) s0 = _; rw [e3]; exact rfl) fun ρ1 H1 x1 so1 er1 => ?_
      cases b0 with
      | false => exact ⟨env, s0, ρ1, er1, so1, b, s, by unfold evT; rw [show evE cl c2 env s0 = .ok d s1 from e1]; exact e, fun ρ2 H2 x2 so2 => h ρ2 H2 (x1.trans x2) so2⟩
      | true =>
        cases (show Res.ok d0 s0 = Res.ok d s1 from e1)
        obtain ⟨e, rfl⟩ := ofO_ok e
        rw [e3] at e; cases e
        exact h ρ1 H1 x1 so1
    · cases h
/-! ### calls -/
theorem fnIx_ok {x : Str} {i : Nat} (h : fnIx T x = some i) : ∃ ps, T.fns[i]? = some (x, ps) := by
  unfold fnIx at h
  obtain ⟨hlt, h1, _⟩ := List.findIdx?_eq_some_iff_getElem.mp h
  rw [List.getElem?_eq_getElem hlt]
  have h1 : (T.fns[i]).1 = x := of_decide_eq_true h1
  exact ⟨(T.fns[i]).2, by rw [← h1]⟩
include hs hf in
theorem call_ok (G : Good T cl k sc fn X) {x : Str} {p pos : Pos} {args : List Expr} {cs : CEs} {i : Nat} (ho : okN x = true) (hg : isGl sc x = true) (hi : fnIx T x = some i) (h : trL f args = some cs) :
    PE X (.Call (.Name x p) args [] pos) (iE X.K cl (.call i cs)) := by
  obtain ⟨ps, hi⟩ := fnIx_ok hi
  obtain ⟨g, fd, hm, hk, F, hb, _⟩ := G.fns i x ps hi
  have key : ∀ σ H Q, iE X.K cl (.call i cs) σ H Q → iEs X.K cl cs σ H fun vs H1 => spI X.K cl i ps.length vs H1 Q E0 := fun σ H Q ⟨env, st, ρ, er, so, h⟩ => by
    simp only [evE] at h
    obtain ⟨ds, s1, e1, h⟩ := h.bind
    refine iEs_of er so e1 fun vs ρ1 H1 x1 so1 er1 r1 => ⟨?_, ds, ρ1, s1, r1, so1, h.mono x1⟩
    obtain ⟨d, s2, e2, _⟩ := h
    obtain ⟨x', ps', q1, q2⟩ := G.clen _ _ _ _ _ e2
    rw [hi] at q1; cases q1
    rw [← r1.length, q2]
  have PAc := trL_ok hs hf h
  cases args with
  | nil =>
    refine PE.imp (pe_call0 (sp := spI X.K cl i ps.length) (CX := CX0) (E := E0) F G.room (isGl_ok hg G.sc) hm hk hb .nil pass0 (okN_1 ho)) fun σ H Q q => ?_
    have := key σ H Q q
    obtain ⟨env, st, ρ, er, so, ds, s, e, q⟩ := this
    cases h
    simp only [evEs] at e
    cases e
    exact q [] ρ H Ext.refl so .nil
  | cons e es =>
    have he : ∃ c ds, f e = some c ∧ trL f es = some ds := by
      unfold trL at h
      split at h
      · exact ⟨_, _, by assumption, by assumption⟩
      · cases h
    obtain ⟨c, ds, h1, h2⟩ := he
    refine PE.imp (pe_call (sp := spI X.K cl i ps.length) (CX := CX0) (E := E0) F G.room (isGl_ok hg G.sc) hm hk hb .nil pass0 PAc (okN_1 ho) (hs e c h1 es X.env) (trL_any hs pos X.env h2)) fun σ H Q q => ?_
    have q := key σ H Q q
    obtain ⟨env, st, ρ, er, so, ds, s, e, q⟩ := q
    refine ⟨env, st, ρ, er, so, ds, s, e, fun vs ρ' H' x so' r => ?_⟩
    have := q vs ρ' H' x so' r
    show spI X.K cl i ps.length (vs ++ []) H' Q E0
    rw [List.append_nil]
    exact this
/-- f(k = v, ..) -/
theorem pe_callN0 {CX : CXT} {n : Nat} {f : Addr} {fd : FuncData} {ps ks : List Str} {sp : Sp} {E : XK} {x : Str} {p pos : Pos} {kws : List Keyword} {tk : TA} {g : List Value → List Value → List Value} {gV : List V → List V → List V}
    (F : FnOk X.prog X.w X.K X.mg X.base CX k f fd ps sp) (hr : Room k X.A) (hg : Gl X x) (hm : X.mg x = some (.ref f)) (hk : PySem.W.keepIn X.K (.ref f) = true) (hb : KBn X.K fd ps n ks g gV) (hx : Passes CX X E)
    (hkw : PK X kws tk) (hall : (backToKw pos (keywordEach kws X.env)).all (·.1.isSome) = true) (hks : (backToKw pos (keywordEach kws X.env)).filterMap (·.1) = ks)
    (hdb : (x == ("__debug__" : Str)) = false)
    (hpl : ((backTo pos (starEach [] X.env)).any (·.1) || (backToKw pos (keywordEach kws X.env)).any (·.1.isNone)) = false) :
    PE X (.Call (.Name x p) [] kws pos) (fun σ H Q => tk σ H fun zs H2 => n = 0 ∧ zs.length = ks.length ∧ sp (gV [] zs) H2 Q E) := by
  refine ⟨fun pins s σ H Q I h => ?_⟩
  refine wpAny_Call_Name_kw (ld_glob I hg hm ?_ hdb)
  refine PySem.W.callWith_KW0 (h₀ := X.base) I.ok.mod.kin hk hall ?_ hpl
  refine thn (hkw.run pos pins s σ H _ I h) fun ws s2 ⟨zs, H2, I2, rz, l1, l2, q2⟩ => ⟨I2.kIn, ?_⟩
  rw [hks]
  subst l1
  exact run_fnN (us := []) (vs := []) F hr hb hx I2 .nil rz rfl l2 q2
theorem permR {K : PySem.W.Frag} {ρ : List Addr} {H : Hp} {ds zs : List D} {vs ws : List V} (perm : List Nat) (r : RepVs K ρ H ds vs) (q : RepVs K ρ H zs ws) :
    RepVs K ρ H (perm.map fun i => (ds ++ zs).getD i .non) (permV V.non perm vs ws) := by
  have a := r.append q
  unfold permV
  induction perm with
  | nil => exact .nil
  | cons i is ih =>
    refine .cons ?_ ih
    show RepV K ρ H ((ds ++ zs).getD i .non) ((vs ++ ws).getD i .non)
    rw [List.getD_eq_getElem?_getD, List.getD_eq_getElem?_getD]
    cases e : (ds ++ zs)[i]? with
    | none =>
      have : (vs ++ ws)[i]? = none := by
        rw [List.getElem?_eq_none_iff] at e ⊢
        rw [← a.length]; exact e
      rw [this]; exact .non
    | some d =>
      obtain ⟨v, e2, r2⟩ := a.get e
      rw [e2]; exact r2
theorem kwFind_ok {i n : Nat} {ks : List Str} {perm : List Nat} (h : kwFind T i n ks = some perm) : (i, n, ks, perm) ∈ T.kws := by
  unfold kwFind at h
  obtain ⟨p, h1, rfl⟩ := Option.map_eq_some_iff.mp h
  have h2 := List.mem_of_find?_eq_some h1
  have h3 := List.find?_some h1
  have h3 : p.1 = i ∧ p.2.1 = n ∧ p.2.2.1 = ks := of_decide_eq_true h3
  obtain ⟨a, b, c, d⟩ := p
  simp only at h3
  obtain ⟨rfl, rfl, rfl⟩ := h3
  exact h2
include hs hf in
theorem callk_ok (G : Good T cl k sc fn X) {x : Str} {p pos : Pos} {args : List Expr} {kws : List Keyword} {cs ds : CEs} {i : Nat} {perm : List Nat} (ho : okN x = true) (hg : isGl sc x = true) (hi : fnIx T x = some i) (h : trL f args = some cs) (h' : trK f kws = some ds) (hp : kwFind T i args.length (kwNames kws) = some perm) :
    PE X (.Call (.Name x p) args kws pos) (iE X.K cl (.callk i cs ds perm)) := by
  obtain ⟨ps, hi⟩ := fnIx_ok hi
  obtain ⟨g, fd, hm, hk, F, hb, hkb⟩ := G.fns i x ps hi
  have KB := hkb _ _ _ (kwFind_ok hp)
  obtain ⟨a1, a2, a3⟩ := trK_all pos X.env h'
  have key : ∀ σ H Q, iE X.K cl (.callk i cs ds perm) σ H Q → iEs X.K cl cs σ H fun vs H1 => iEs X.K cl ds σ H1 fun zs H2 => vs.length = args.length ∧ zs.length = (kwNames kws).length ∧ spI X.K cl i ps.length (permV V.non perm vs zs) H2 Q E0 := fun σ H Q ⟨env, st, ρ, er, so, q⟩ => by
    simp only [evE] at q
    obtain ⟨xs, s1, e1, q⟩ := q.bind
    obtain ⟨ys, s2, e2, q⟩ := q.bind
    refine iEs_of er so e1 fun vs ρ1 H1 x1 so1 er1 r1 => ?_
    refine iEs_of er1 so1 e2 fun zs ρ2 H2 x2 so2 er2 r2 => ?_
    refine ⟨by rw [← r1.length]; exact evEs_len h e1, by rw [← r2.length]; exact evKs_len h' e2, ?_, _, ρ2, s2, permR perm (r1.mono x2) r2, so2, q.mono (x1.trans x2)⟩
    obtain ⟨d, s3, e3, _⟩ := q
    obtain ⟨x', ps', q1, q2⟩ := G.clen _ _ _ _ _ e3
    rw [hi] at q1; cases q1
    rw [← q2]
    unfold permV
    simp
  cases args with
  | nil =>
    refine PE.imp (pe_callN0 (sp := spI X.K cl i ps.length) (CX := CX0) (E := E0) F G.room (isGl_ok hg G.sc) hm hk KB pass0 (trK_ok hf h') a1 a3 (okN_1 ho) (by rw [a2]; rfl)) fun σ H Q q => ?_
    obtain ⟨env, st, ρ, er, so, xs, s, e, q⟩ := key σ H Q q
    cases h
    simp only [evEs] at e
    cases e
    have q := q [] ρ H Ext.refl so .nil
    obtain ⟨env, st, ρ, er, so, xs, s, e, q⟩ := q
    exact ⟨env, st, ρ, er, so, xs, s, e, fun vs ρ' H' x so' r => ⟨rfl, (q vs ρ' H' x so' r).2⟩⟩
  | cons e es =>
    have he : ∃ c ds, f e = some c ∧ trL f es = some ds := by
      unfold trL at h
      split at h
      · exact ⟨_, _, by assumption, by assumption⟩
      · cases h
    obtain ⟨c, ds', h1, h2⟩ := he
    refine PE.imp (pe_callN (sp := spI X.K cl i ps.length) (CX := CX0) (E := E0) F G.room (isGl_ok hg G.sc) hm hk KB pass0 (trL_ok hs hf h) (trK_ok hf h') a1 a3 (okN_1 ho) (hs e c h1 es X.env) (by rw [a2, trL_any hs pos X.env h]; rfl)) fun σ H Q q => ?_
    exact key σ H Q q
end
end
end Mp

/-! P6: targets, walks, comprehensions; the whole of the expressions -/
namespace Mp
open PySem PySem.Spec PyProof.Rows L2
section
variable {T : TC} {cl : Nat → List D → Sto → Res D} {k : Nat} {X : Cx} {sc : Scope} {fn : Str → Bool}
theorem PG.imp {e : Expr} {t t' : TG} (h : PG X e t) (i : ∀ v σ H Q, t' v σ H Q → t v σ H Q) : PG X e t' := ⟨fun pins s σ H v u Q I r q => h.run pins s σ H v u Q I r (i _ _ _ _ q)⟩
theorem PGs.imp {es : List Expr} {t t' : TGs} (h : PGs X es t) (i : ∀ v σ H Q, t' v σ H Q → t v σ H Q) : PGs X es t' := ⟨fun pins s σ H v u Q I r q => h.run pins s σ H v u Q I r (i _ _ _ _ q)⟩
theorem PI.imp {tg e : Expr} {t t' : TI} (h : PI X tg e t) (i : ∀ σ H R, t' σ H R → t σ H R) : PI X tg e t' := ⟨fun pins s σ H R I q => h.run pins s σ H R I (i _ _ _ q)⟩
/-- what the targets' rules want of the names -/
structure GoodT (T : TC) (sc : Scope) (fn : Str → Bool) (X : Cx) : Prop where
  sc : X.env.scope = sc
  N : X.N = T.N
  nd : X.N.Nodup
  calm : X.calm = true
  fn : ∀ x, fn x = true → X.fn x = true
theorem Good.t (G : Good T cl k sc fn X) : GoodT T sc fn X := ⟨G.sc, G.N, G.nd, G.calm, G.fn⟩
theorem isLoc_ok {x : Str} (h : isLoc sc fn x = true) (G : GoodT T sc fn X) : Loc X.env.scope x ∧ (X.fn x = true ∨ X.env.scope.names.lookup x = some .local) := by
  unfold isLoc kindIn at h
  rw [G.sc]
  unfold L2.Loc
  split at h
  · exact ⟨.inl (by assumption), .inr (by assumption)⟩
  · exact ⟨.inr (by assumption), .inl (G.fn x h)⟩
  · cases h
theorem tgName_ok (G : GoodT T sc fn X) {x : Str} {pos : Pos} {i : Nat} (hl : isLoc sc fn x = true) (hi : slotOf T x = some i) : PG X (.Name x pos) (iTg X.K cl (.var i)) := by
  obtain ⟨h1, h2⟩ := isLoc_ok hl G
  refine PG.imp (pg_name (i := i) G.nd (by rw [G.N]; exact slotOf_ok hi) h1 h2) fun v σ H Q ⟨d, env, st, ρ, r, er, so, env', st', e, h⟩ => ?_
  simp only [asT] at e
  cases e
  refine h _ ρ H Ext.refl so (er.set r) (by simp) fun j hj => ?_
  have : i ≠ j := fun z => hj (by subst z; simp [tgVars])
  rw [List.getElem?_set_ne this]
theorem tg_ok (G : GoodT T sc fn X) {e : Expr} {c : CT} (h : trTg T sc fn e = some c) : PG X e (iTg X.K cl c) ∧ (∀ es env, assignEach (e :: es) env = (false, assign e env) :: assignEach es env) := by
  cases e <;> first
    | (simp [trTg] at h; done)
    | skip
  rename_i x pos
  simp only [trTg] at h
  split at h
  · rename_i hl
    obtain ⟨i, hi, rfl⟩ := Option.map_eq_some_iff.mp h
    exact ⟨tgName_ok G hl hi, fun _ _ => rfl⟩
  · cases h
section
variable {f : Expr → Option CT} {F : List Expr → Option CTs} (hF0 : F [] = some .nil) (hF : ∀ e es, F (e :: es) = match f e, F es with
    | some c, some cs => some (.cons c cs)
    | _, _ => none) (hg : ∀ e c, f e = some c → PG X e (iTg X.K cl c) ∧ ∀ es env, assignEach (e :: es) env = (false, assign e env) :: assignEach es env)
include hF0 hF hg in
theorem tgs_ok : ∀ {es : List Expr} {cs : CTs}, F es = some cs → PGs X es (iTgs X.K cl cs) ∧ (assignEach es X.env).findIdx? (·.1) = none ∧ (assignEach es X.env).length = es.length
  | [], _, h => by
    rw [hF0] at h
    cases h
    refine ⟨PGs.imp pgs_nil fun vs σ H Q ⟨ds, env, st, ρ, r, er, so, env', st', e, h⟩ => ?_, rfl, rfl⟩
    cases r with
    | nil =>
      simp only [asTs] at e
      cases e
      exact ⟨rfl, h σ ρ H Ext.refl so er rfl fun _ _ => rfl⟩
    | cons r1 r2 =>
      simp only [asTs] at e
      cases e
  | e :: es, _, h => by
    rw [hF] at h
    split at h
    · rename_i c cs e1 e2
      cases h
      obtain ⟨p1, p2⟩ := hg e c e1
      obtain ⟨q1, q2, q3⟩ := tgs_ok e2
      refine ⟨PGs.imp (pgs_cons p1 q1 (by rw [p2]; rfl)) fun vs σ H Q ⟨ds, env, st, ρ, r, er, so, env', st', e, h⟩ => ?_, ?_, ?_⟩
      · cases r with
        | nil =>
          simp only [asTs] at e
          cases e
        | @cons d v ds vs r1 r2 =>
          simp only [asTs] at e
          obtain ⟨env1, s1, e1, e⟩ := bind_ok e
          refine ⟨v, vs, rfl, d, env, st, ρ, r1, er, so, env1, s1, e1, fun σ1 ρ1 H1 x1 so1 er1 l1 j1 => ?_⟩
          refine ⟨ds, env1, s1, ρ1, r2.mono x1, er1, so1, env', st', e, fun σ2 ρ2 H2 x2 so2 er2 l2 j2 => ?_⟩
          refine h σ2 ρ2 H2 (x1.trans x2) so2 er2 (l2.trans l1) fun j hj => ?_
          rw [tgsVars, List.mem_append, not_or] at hj
          rw [j2 j hj.2, j1 j hj.1]
      · rw [p2]
        rw [List.findIdx?_cons]
        simp [q2]
      · rw [p2]
        simp [q3]
    · cases h
include hF0 hF hg in
theorem tgTup_ok (hc : X.calm = true) {es : List Expr} {cs : CTs} {n : Nat} {pos : Pos} (h : F es = some cs) : PG X (.Tuple es n pos) (iTg X.K cl (.tup cs)) ∧ (∀ es' env, assignEach (.Tuple es n pos :: es') env = (false, assign (.Tuple es n pos) env) :: assignEach es' env) := by
  obtain ⟨q1, q2, q3⟩ := tgs_ok hF0 hF hg h
  refine ⟨PG.imp (pg_tup hc q1 q3 q2) fun v σ H Q ⟨d, env, st, ρ, r, er, so, env', st', e, h'⟩ => ?_, fun _ _ => rfl⟩
  obtain ⟨a, xs, ds, rfl, rfl, h1, h2⟩ : ∃ a xs ds, d = .tup ds ∧ v = .ref a ∧ SqT X.K H a xs ∧ RepVs X.K ρ H ds xs := by
    cases r with
    | tup h1 h2 => exact ⟨_, _, _, rfl, rfl, h1, h2⟩
    | _ => simp only [asT] at e; cases e
  simp only [asT] at e
  have hlen : ∀ {cs : CTs} {ds : List D} {env env' : Ev} {st st' : Sto} {es : List Expr}, F es = some cs → asTs cl cs ds env st = .ok env' st' → ds.length = es.length := by
    intro cs ds env env' st st' es
    induction es generalizing cs ds env st with
    | nil =>
      intro h e
      rw [hF0] at h; cases h
      cases ds with
      | nil => rfl
      | cons _ _ => simp only [asTs] at e; cases e
    | cons a es ih =>
      intro h e
      rw [hF] at h
      split at h
      · cases h
        cases ds with
        | nil => simp only [asTs] at e; cases e
        | cons d ds =>
          simp only [asTs] at e
          obtain ⟨env1, s1, e1, e⟩ := bind_ok e
          simp [ih (by assumption) e]
      · cases h
  refine ⟨a, xs, rfl, h1, by rw [← h2.length]; exact hlen h e, ds, env, st, ρ, h2, er, so, env', st', e, fun σ2 ρ2 H2 x2 so2 er2 l2 j2 => ?_⟩
  exact h' σ2 ρ2 H2 x2 so2 er2 l2 fun j hj => j2 j (by rw [tgVars] at hj; exact hj)
end
theorem tg2_ok (G : GoodT T sc fn X) {e : Expr} {c : CT} (h : trTg2 T sc fn e = some c) : PG X e (iTg X.K cl c) ∧ (∀ es env, assignEach (e :: es) env = (false, assign e env) :: assignEach es env) := by
  cases e <;> first
    | exact tg_ok G h
    | skip
  rename_i es n pos
  obtain ⟨cs, hcs, rfl⟩ := Option.map_eq_some_iff.mp (show (trTgs T sc fn es).map CT.tup = some c from h)
  exact tgTup_ok (f := trTg T sc fn) (F := trTgs T sc fn) rfl (fun _ _ => rfl) (fun _ _ h => tg_ok G h) G.calm hcs
theorem tg3_ok (G : GoodT T sc fn X) {e : Expr} {c : CT} (h : trTg3 T sc fn e = some c) : PG X e (iTg X.K cl c) ∧ (∀ es env, assignEach (e :: es) env = (false, assign e env) :: assignEach es env) := by
  cases e <;> first
    | exact tg_ok G h
    | skip
  rename_i es n pos
  obtain ⟨cs, hcs, rfl⟩ := Option.map_eq_some_iff.mp (show (trTgs2 T sc fn es).map CT.tup = some c from h)
  exact tgTup_ok (f := trTg2 T sc fn) (F := trTgs2 T sc fn) rfl (fun _ _ => rfl) (fun _ _ h => tg2_ok G h) G.calm hcs

/-! ### walks -/
theorem iter_ok (G : Good T cl k sc fn X) {f : Expr → Option CE} (hs : ∀ e c, f e = some c → ∀ es env, starEach (e :: es) env = (false, eval e env) :: starEach es env) (hf : ∀ e c, f e = some c → PE X e (iE X.K cl c)) {tg e : Expr} {c : CI} (h : trIter T f sc e = some c) : PI X tg e (iI X.K cl c) := by
  unfold trIter at h
  split at h
  · rename_i c' hc
    cases h
    cases e <;> first
      | (simp [trIt] at hc; done)
      | skip
    rename_i fu args kws pos
    cases fu <;> first
      | (simp [trIt] at hc; done)
      | skip
    rename_i x p
    cases kws with
    | cons _ _ => simp [trIt] at hc
    | nil =>
      simp only [trIt] at hc
      split at hc
      · rename_i hx
        subst hx
        split at hc
        · rename_i hgl
          have hm : X.mg "range" = none := G.free "range" (by simp [BN])
          split at hc
          · rename_i a
            obtain ⟨c1, h1, rfl⟩ := Option.map_eq_some_iff.mp hc
            refine PI.imp (pi_range1 (isGl_ok hgl G.sc) hm (pa_cons (hf a c1 h1) pa_nil (hs a c1 h1 [] X.env)) (hs a c1 h1 [] X.env)) fun σ H R ⟨env, st, ρ, er, so, w, s, e, q⟩ => ?_
            simp only [evI] at e
            obtain ⟨d, s1, e1, e⟩ := bind_ok e
            refine iE_of er so e1 fun v ρ1 H1 x1 so1 er1 r1 => ?_
            cases r1 <;> first
              | (cases e; done)
              | skip
            obtain ⟨g, e⟩ := guard_ok e
            have g := of_decide_eq_true g
            cases e
            exact ⟨_, rfl, g.1, g.2, q _ ρ1 H1 x1 so1 rfl⟩
          · rename_i a b
            split at hc
            · rename_i c1 c2 h1 h2
              cases hc
              refine PI.imp (pi_range2 (isGl_ok hgl G.sc) hm (pa_cons (hf a c1 h1) (pa_cons (hf b c2 h2) pa_nil (hs b c2 h2 [] X.env)) (hs a c1 h1 [b] X.env)) (by rw [hs a c1 h1 [b] X.env, hs b c2 h2 [] X.env]; rfl) (hs b c2 h2 [] X.env)) fun σ H R ⟨env, st, ρ, er, so, w, s, e, q⟩ => ?_
              simp only [evI] at e
              obtain ⟨d, s1, e1, e⟩ := bind_ok e
              obtain ⟨d2, s2, e2, e⟩ := bind_ok e
              refine iE_of er so e1 fun v ρ1 H1 x1 so1 er1 r1 => ?_
              refine iE_of er1 so1 e2 fun v2 ρ2 H2 x2 so2 er2 r2 => ?_
              cases r1 <;> cases r2 <;> first
                | (cases e; done)
                | skip
              obtain ⟨g, e⟩ := guard_ok e
              have g := of_decide_eq_true g
              cases e
              exact ⟨_, _, rfl, g, q _ ρ2 H2 (x1.trans x2) so2 rfl⟩
            · cases hc
          · cases hc
        · cases hc
      · cases hc
  · obtain ⟨c1, h1, rfl⟩ := Option.map_eq_some_iff.mp h
    have P := hf e c1 h1
    refine ⟨fun pins s σ H R I ⟨env, st, ρ, er, so, w, s', e, q⟩ => ?_⟩
    simp only [evI] at e
    obtain ⟨d, s1, e1, e⟩ := bind_ok e
    cases d <;> first
      | (cases e; done)
      | skip
    · rename_i ds
      cases e
      refine (pi_tup P).run pins s σ H R I (iE_of er so e1 fun v ρ1 H1 x1 so1 er1 r1 => ?_)
      cases r1 with
      | tup r1 r2 => exact ⟨_, rfl, ⟨_, r1⟩, q _ ρ1 H1 x1 so1 ⟨_, _, rfl, r1, r2⟩⟩
    · rename_i r
      have e : (match lstAt s1 r with
        | some _ => Res.ok (Wk.lst r) s1
        | none => .no) = .ok w s' := e
      split at e
      · rename_i ds hl
        cases e
        refine (pi_list P).run pins s σ H R I (iE_of er so e1 fun v ρ1 H1 x1 so1 er1 r1 => ?_)
        cases r1 with
        | ref r1 =>
          obtain ⟨a, xs, q1, q2, q3⟩ := so1.at hl
          rw [r1] at q1; cases q1
          exact ⟨_, rfl, ⟨_, q2⟩, q _ ρ1 H1 x1 so1 ⟨_, rfl, r1⟩⟩
      · cases e
/-- a turn of a walk: the end, or an item -/
theorem walk_stop {K : PySem.W.Frag} {ρ : List Addr} {H : Hp} {st : Sto} {w : Wk} {J : It} {i : Nat} (so : StOk K ρ H st) (hw : WkR K ρ H w J) (h : w.at i st = some none) : J.stop i H := by
  cases w with
  | items ds =>
    obtain ⟨a, xs, rfl, h1, h2⟩ := hw
    have h : ds[i]? = none := Option.some.inj h
    exact ⟨xs, h1, by rw [← h2.length]; exact List.getElem?_eq_none_iff.mp h⟩
  | lst r =>
    obtain ⟨a, rfl, h1⟩ := hw
    obtain ⟨ds, hd, h⟩ := Option.map_eq_some_iff.mp (show (lstAt st r).map (fun ds => ds[i]?) = some none from h)
    obtain ⟨a', xs, q1, q2, q3⟩ := so.at hd
    rw [h1] at q1; cases q1
    exact ⟨xs, q2, by rw [← q3.length]; exact List.getElem?_eq_none_iff.mp h⟩
  | rng lo n =>
    cases hw
    have h : (if i < n then some (D.int (lo + i)) else none) = none := Option.some.inj h
    split at h
    · cases h
    · rename_i q
      show n ≤ i
      omega
theorem walk_go {K : PySem.W.Frag} {ρ : List Addr} {H : Hp} {st : Sto} {w : Wk} {J : It} {i : Nat} {d : D} (so : StOk K ρ H st) (hw : WkR K ρ H w J) (h : w.at i st = some (some d)) : J.go i H ∧ ∀ x H', J.yld i H x H' → H' = H ∧ RepV K ρ H d x := by
  cases w with
  | items ds =>
    obtain ⟨a, xs, rfl, h1, h2⟩ := hw
    have h : ds[i]? = some d := Option.some.inj h
    obtain ⟨v, e, r⟩ := h2.get h
    refine ⟨⟨xs, v, h1, e⟩, fun x H' hy => ?_⟩
    obtain ⟨rfl, hy⟩ := hy
    have := hy xs h1
    rw [e] at this; cases this
    exact ⟨rfl, r⟩
  | lst r =>
    obtain ⟨a, rfl, h1⟩ := hw
    obtain ⟨ds, hd, h⟩ := Option.map_eq_some_iff.mp (show (lstAt st r).map (fun ds => ds[i]?) = some (some d) from h)
    obtain ⟨a', xs, q1, q2, q3⟩ := so.at hd
    rw [h1] at q1; cases q1
    obtain ⟨v, e, r⟩ := q3.get h
    refine ⟨⟨xs, v, q2, e⟩, fun x H' hy => ?_⟩
    obtain ⟨rfl, hy⟩ := hy
    have := hy xs q2
    rw [e] at this; cases this
    exact ⟨rfl, r⟩
  | rng lo n =>
    cases hw
    have h : (if i < n then some (D.int (lo + i)) else none) = some d := Option.some.inj h
    split at h
    · rename_i q
      cases h
      refine ⟨q, fun x H' hy => ?_⟩
      obtain ⟨rfl, rfl⟩ := hy
      exact ⟨rfl, .int _⟩
    · cases h
theorem WkR.mono {K : PySem.W.Frag} {ρ ρ' : List Addr} {H H' : Hp} {w : Wk} {J : It} (x : Ext ρ H ρ' H') (h : WkR K ρ H w J) : WkR K ρ' H' w J := by
  cases w with
  | items ds => obtain ⟨a, xs, e, h1, h2⟩ := h; exact ⟨a, xs, e, x.sqT h1, h2.mono x⟩
  | lst r => obtain ⟨a, e, h1⟩ := h; exact ⟨a, e, x.at h1⟩
  | rng lo n => exact h
end
end Mp

/-! P7: the whole of the expressions -/
namespace Mp
open PySem PySem.Spec PyProof.Rows L2
section
variable {T : TC} {cl : Nat → List D → Sto → Res D} {k : Nat} {X : Cx} {sc : Scope} {fn : Str → Bool}
theorem wipe_in {σ : L2.St} {j : Nat} : ∀ {vs : List Nat}, j ∈ vs → j < σ.length → (wipe σ vs)[j]? = some none
  | [], h, _ => by cases h
  | v :: vs, h, hl => by
    unfold wipe
    by_cases c : v = j
    · subst c
      rw [List.getElem?_set_self (by rw [wipe_length]; exact hl)]
    · rw [List.getElem?_set_ne c]
      rcases List.mem_cons.mp h with e | e
      · exact absurd e.symm c
      · exact wipe_in e hl
theorem wipe_eq {σ σ2 : L2.St} {vs ws : List Nat} (hl : σ2.length = (wipe σ vs).length) (h : ∀ j, j ∉ ws → σ2[j]? = (wipe σ vs)[j]?) (hs : ∀ j ∈ ws, j ∈ vs) : wipe σ2 vs = wipe σ vs := by
  rw [wipe_length] at hl
  apply List.ext_getElem?
  intro j
  by_cases c : j ∈ vs
  · by_cases d : j < σ.length
    · rw [wipe_in c (by rw [hl]; exact d), wipe_in c d]
    · rw [List.getElem?_eq_none (by rw [wipe_length, hl]; omega), List.getElem?_eq_none (by rw [wipe_length]; omega)]
  · rw [wipe_out c, h j fun z => c (hs j z)]
theorem pts_ok {f : Expr → Option CE} {X' : Cx} (ht : ∀ e c, f e = some c → PT X' e (iT X'.K cl c)) : (PTs X' [] (iIf X'.K cl .none)) ∧ ∀ e c, f e = some c → PTs X' [e] (iIf X'.K cl (.some c)) := by
  refine ⟨⟨fun pins s σ H Q I ⟨env, st, ρ, er, so, b, s', e, h⟩ => ?_⟩, fun e c h => ⟨fun pins s σ H Q I ⟨env, st, ρ, er, so, b, s', e1, h1⟩ => ?_⟩⟩
  · simp only [evIf] at e
    cases e
    exact pts_nil.run pins s σ H Q I (h ρ H Ext.refl so)
  · simp only [evIf] at e1
    exact (pts_one (ht e c h)).run pins s σ H Q I ⟨env, st, ρ, er, so, b, s', e1, h1⟩
theorem lc_ok (hc : X.calm = true) (hN : X.N.Nodup) {elt tg iter : Expr} {ifs : List Expr} {scope : Scope} {own : List (Str × Nat)} {pos : Pos} {c : CE} {t : CT} {it : CI} {ci : CEo} (hi : PI X tg iter (iI X.K cl it)) (ok : BlkOk X.N X.env.scope scope own)
    (hg : ∀ (s : Shared) (H : Hp) (C : Addr) (cl' : List (Str × Addr)) (fp : List Addr), PG (X.blk s H scope (compEnvC scope cl' C X.env) fp) tg (iTg X.K cl t)) (ht : ∀ (s : Shared) (H : Hp) (C : Addr) (cl' : List (Str × Addr)) (fp : List Addr), PTs (X.blk s H scope (compEnvC scope cl' C X.env) fp) ifs (iIf X.K cl ci))
    (he : ∀ (s : Shared) (H : Hp) (C : Addr) (cl' : List (Str × Addr)) (fp : List Addr), PE (X.blk s H scope (compEnvC scope cl' C X.env) fp) elt (iE X.K cl c)) (hs : ∀ x, foldedSetIterable iter X.env x = pure x) (hv : ∀ j ∈ tgVars t, j ∈ own.map (·.2)) :
    (PE X (.ListComp elt [⟨tg, iter, ifs, 0⟩] scope pos) (tLc (iI X.K cl it) (iTg X.K cl t) (iIf X.K cl ci) (iE X.K cl c) (own.map (·.2)))) ∧ ∀ σ H Q, iE X.K cl (.lc c t it ci (own.map (·.2))) σ H Q → tLc (iI X.K cl it) (iTg X.K cl t) (iIf X.K cl ci) (iE X.K cl c) (own.map (·.2)) σ H Q := by
  refine ⟨pe_lc hc hN hi ok hg ht he hs, fun σ H Q ⟨env, st, ρ, er, so, h⟩ => ?_⟩
  simp only [evE] at h
  obtain ⟨w, s1, e1, h⟩ := h.bind
  refine ⟨env, st, ρ, er, so, w, s1, e1, fun J ρ1 H1 x1 so1 hw D hD => ?_⟩
  have er1 := er.mono x1
  have h := h.mono x1
  generalize hbi : (fun (d : Mp.D) (s : Sto) => asT cl t d (wipeE env (own.map (·.2))) s) = bi at h
  generalize hte : (fun (env1 : Ev) (s : Sto) => evIf cl ci env1 s) = te at h
  generalize hel : (fun (env1 : Ev) (s : Sto) => evE cl c env1 s) = el at h
  refine ⟨fun i m H2 => ∃ st2 ρ2, StOk X.K ρ2 H2 st2 ∧ WkR X.K ρ2 H2 w J ∧ EnvR X.K ρ2 H2 env σ ∧ ρ2[s1.length]? = some D ∧ RE X.K (compL w bi te el s1.length m i st2) ρ2 H2 Q, ⟨TURNS, s1 ++ [.lst []], ρ1 ++ [D], so1.push hD .nil, hw.mono (Ext.push hD), er1.mono (Ext.push hD), by rw [← so1.len, List.getElem?_concat_length], h.mono (Ext.push hD)⟩, ?_⟩
  rintro i m H2 ⟨st2, ρ2, so2, hw2, er2, hr2, h2⟩
  cases m with
  | zero => exact h2.no.elim
  | succ m =>
    have h2 : RE X.K (match w.at i st2 with
      | none => .no
      | some none => .ok (.ref s1.length) st2
      | some (some d) => (bi d st2).bind fun env1 st1 => (te env1 st1).bind fun b st2 => if b then
          (el env1 st2).bind fun y st3 => match st3[s1.length]? with
            | some (.lst acc) => guardR (decide (acc.length < sizeLine)) (compL w bi te el s1.length m (i + 1) (st3.set s1.length (.lst (acc ++ [y]))))
            | _ => .no
        else compL w bi te el s1.length m (i + 1) st2) ρ2 H2 Q := h2
    split at h2
    · exact h2.no.elim
    · rename_i e
      exact .inl ⟨walk_stop so2 hw2 e, h2.ok so2 (.ref hr2)⟩
    · rename_i d e
      obtain ⟨g1, g2⟩ := walk_go so2 hw2 e
      obtain ⟨env1, s3, e3, h2⟩ := h2.bind
      obtain ⟨b, s4, e4, h2⟩ := h2.bind
      refine .inr ⟨g1, fun H' => ∃ st2 ρ2, StOk X.K ρ2 H' st2 ∧ WkR X.K ρ2 H' w J ∧ EnvR X.K ρ2 H' env σ ∧ ρ2[s1.length]? = some D ∧ RE X.K (compL w bi te el s1.length m (i + 1) st2) ρ2 H' Q, fun H' q => ⟨m, Nat.lt_succ_self m, q⟩, fun x H' hy => ?_⟩
      obtain ⟨rfl, rx⟩ := g2 x H' hy
      subst hbi hte hel
      refine ⟨d, wipeE env (own.map (·.2)), st2, ρ2, rx, er2.wipe _, so2, env1, s3, e3, fun σ3 ρ3 H3 x3 so3 er3 l3 j3 => ⟨wipe_eq l3 j3 hv, ?_⟩⟩
      refine ⟨env1, s3, ρ3, er3, so3, b, s4, e4, fun ρ4 H4 x4 so4 => ?_⟩
      cases b with
      | false => exact ⟨s4, ρ4, so4, hw2.mono (x3.trans x4), er2.mono (x3.trans x4), (x3.trans x4).at hr2, h2.mono (x3.trans x4)⟩
      | true =>
        obtain ⟨y, s5, e5, h2⟩ := RE.bind h2
        refine ⟨env1, s4, ρ4, er3.mono x4, so4, y, s5, e5, fun yv ρ5 H5 x5 so5 ry => ?_⟩
        have xx := (x3.trans x4).trans x5
        split at h2
        · rename_i acc ea
          obtain ⟨hl, h2⟩ := h2.guard
          have hl := of_decide_eq_true hl
          obtain ⟨a, xs, q1, q2, q3⟩ := so5.lst ea
          rw [xx.at hr2] at q1; cases q1
          have xn : Ext ρ5 H5 ρ5 (upd H5 D (.lst (xs ++ [yv]))) := Ext.lset q2
          exact ⟨xs, q2, by rw [← q3.length]; exact hl, _, ρ5, so5.lset ea (xx.at hr2) q2 (q3.append (.cons ry .nil)), hw2.mono (xx.trans xn), er2.mono (xx.trans xn), xx.at hr2, h2.mono (xx.trans xn)⟩
        · exact h2.no.elim
theorem fold_ok {n : Nat} {e : Expr} {f : CI} {env : Env} (h : trIter T (trE T n sc fn) sc e = some f) (x : Value) : foldedSetIterable e env x = pure x := by
  cases e <;> first
    | rfl
    | skip
  exfalso
  unfold trIter at h
  simp only [trIt] at h
  cases n <;> simp [trE] at h
theorem relFn_blk {s : Shared} {H : Hp} {scope : Scope} {cenv : Env} {fp : List Addr} (x : Str) (h : relFn scope x = true) : (X.blk s H scope cenv fp).fn x = true := h
theorem Good.blk (G : Good T cl k sc fn X) (s : Shared) (H : Hp) (scope : Scope) (C : Addr) (cl' : List (Str × Addr)) (fp : List Addr) : Good T cl k (relS scope sc) (relFn scope) (X.blk s H scope (compEnvC scope cl' C X.env) fp) where
  sc := by
    show relS scope X.env.scope = _
    rw [G.sc]
  N := G.N
  nd := G.nd
  calm := G.calm
  fn := fun x h => h
  room := ⟨G.room.hd, G.room.dp, G.room.un⟩
  xe := rfl
  cns := G.cns
  free := G.free
  fns := G.fns
  clen := G.clen
end
end Mp

/-! P8: every expression -/
namespace Mp
open PySem PySem.Spec PyProof.Rows L2
section
variable {T : TC} {cl : Nat → List D → Sto → Res D} {k : Nat}
theorem isTrue_ife {M : Model} {A : Around} {E : Value → Shared → Prop} {s : Shared} {t a b : Expr} {pos : Pos} {env : Env} {wh : Sem Value} {Q : Bool → Shared → Prop}
    (h : wpAny M A (isTrue t env (eval t env)) (fun c s1 => if c = true then wpAny M A (isTrue a env (eval a env)) Q E s1 else wpAny M A (isTrue b env (eval b env)) Q E s1) E s) : wpAny M A (isTrue (.IfExp t a b pos) env wh) Q E s := by
  show wpAny M A (isTrue t env (eval t env) >>= fun c => if c = true then isTrue a env (eval a env) else isTrue b env (eval b env)) Q E s
  refine wpAny_bind (wpAny_mono h (fun c s1 q => ?_) fun _ _ z => z)
  cases c with
  | true => exact q
  | false => exact q
theorem range_gl {X : Cx} : True := trivial
theorem biOf_ok {x : Str} {b : Bi} (h : biOf x = some b) (hm : ∀ y ∈ BN, y = x → True) : x ∈ BN ∧ bootBuiltins x = some (biVal b) := by
  unfold biOf at h
  repeat (first
    | (split at h
       · rename_i e
         subst e
         cases h
         exact ⟨by simp [BN], by decide +kernel⟩)
    | (cases h; done))
theorem call_bi {X : Cx} {sc : Scope} {fn : Str → Bool} {f : Expr → Option CE} (G : Good T cl k sc fn X) (hs : ∀ e c, f e = some c → ∀ es env, starEach (e :: es) env = (false, eval e env) :: starEach es env) (hf : ∀ e c, f e = some c → PE X e (iE X.K cl c))
    {x : Str} {p pos : Pos} {a : Expr} {b : Bi} {c : CE} (ho : okN x = true) (hg : isGl sc x = true) (hb : biOf x = some b) (h : f a = some c) : PE X (.Call (.Name x p) [a] [] pos) (iE X.K cl (.bi b (.cons c .nil))) := by
  obtain ⟨hm, hv⟩ := biOf_ok hb fun _ _ _ => trivial
  have hm := G.free x hm
  have PAc : PA X [a] (iEs X.K cl (.cons c .nil)) := trL_ok (f := f) hs hf (by simp [trL, h])
  have key : ∀ σ H Q, iE X.K cl (.bi b (.cons c .nil)) σ H Q → tCB (rIs X.K (biD b)) (iEs X.K cl (.cons c .nil)) σ H Q := fun σ H Q ⟨env, st, ρ, er, so, q⟩ => by
    simp only [evE] at q
    obtain ⟨ds, s1, e1, q⟩ := q.bind
    exact iEs_of er so e1 fun vs ρ1 H1 x1 so1 er1 r1 => ⟨ds, ρ1, s1, r1, so1, q.mono x1⟩
  have hok := bi_ok (X := X) b G.calm
  cases b <;> first
    | exact PE.imp (pe_callB hok (isGl_ok hg G.sc) hm hv PAc (okN_3 ho) (okN_1 ho) (hs a c h [] X.env) (by rfl)) key
    | exact PE.imp (pe_callTy hok (isGl_ok hg G.sc) hm hv PAc (okN_3 ho) (okN_1 ho) (hs a c h [] X.env) (by rfl)) key
theorem tyOf_ok {x : Str} {t : Ty} (h : tyOf x = some t) : x ∈ BN ∧ bootBuiltins x = some (.type (tyS t)) ∧ (x == ("__debug__" : Str)) = false ∧ x ≠ "__name__" := by
  unfold tyOf at h
  repeat (first
    | (split at h
       · rename_i e
         subst e
         cases h
         exact ⟨by simp [BN], by decide +kernel, by decide +kernel, by decide +kernel⟩)
    | (cases h; done))
theorem trTy_ok {X : Cx} {sc : Scope} {fn : Str → Bool} (G : Good T cl k sc fn X) {e : Expr} {t : Ty} (h : trTy sc e = some t) : PE X e (tC (.ty (tyS t))) ∧ ∀ es env, starEach (e :: es) env = (false, eval e env) :: starEach es env := by
  cases e <;> first
    | (simp [trTy] at h; done)
    | skip
  rename_i x pos
  simp only [trTy] at h
  split at h
  · rename_i hg
    obtain ⟨h1, h2, h3, h4⟩ := tyOf_ok h
    exact ⟨pe_bltn (isGl_ok hg G.sc) (G.free x h1) h2 rfl h4 h3, fun _ _ => rfl⟩
  · cases h
def tTys (ts : List Ty) : TA := fun _ H Q => Q (ts.map fun t => V.ty (tyS t)) H
theorem trTys_ok {X : Cx} {sc : Scope} {fn : Str → Bool} (G : Good T cl k sc fn X) : ∀ {es : List Expr} {ts : List Ty}, trTys sc es = some ts → PA X es (tTys ts)
  | [], _, h => by
    cases h
    exact PA.imp pa_nil fun σ H Q q => q
  | e :: es, _, h => by
    unfold trTys at h
    split at h
    · rename_i t ts h1 h2
      cases h
      obtain ⟨p, q⟩ := trTy_ok G h1
      exact PA.imp (pa_cons p (trTys_ok G h2) (q es X.env)) fun σ H Q q => q
    · cases h
theorem trTys_len {sc : Scope} : ∀ {es : List Expr} {ts : List Ty}, trTys sc es = some ts → es.length = ts.length
  | [], _, h => by cases h; rfl
  | e :: es, _, h => by
    unfold trTys at h
    split at h
    · rename_i t ts h1 h2
      cases h
      simp [trTys_len h2]
    · cases h
theorem call_isi {X : Cx} {sc : Scope} {fn : Str → Bool} {f : Expr → Option CE} (G : Good T cl k sc fn X) (hs : ∀ e c, f e = some c → ∀ es env, starEach (e :: es) env = (false, eval e env) :: starEach es env) (hf : ∀ e c, f e = some c → PE X e (iE X.K cl c))
    {p pos : Pos} {a t : Expr} {b : Bool} {ts : List Ty} {c : CE} (hg : isGl sc "isinstance" = true) (hb : trCls sc t = some (b, ts)) (h : f a = some c) (hz : ts.length ≤ sizeLine) : PE X (.Call (.Name "isinstance" p) [a, t] [] pos) (iE X.K cl (.isi c ts)) := by
  have hm : X.mg "isinstance" = none := G.free "isinstance" (by simp [BN])
  have hv : bootBuiltins "isinstance" = some (.builtin "isinstance") := by decide +kernel
  by_cases htt : ∃ es n pos', t = .Tuple es n pos'
  · obtain ⟨es, n, pos', rfl⟩ := htt
    obtain ⟨ts', hts, e⟩ := Option.map_eq_some_iff.mp (show (trTys sc es).map (fun ts => (true, ts)) = some (b, ts) from hb)
    cases e
    refine PE.imp (pe_callB (isiN_ok ts) (isGl_ok hg G.sc) hm hv (pa_cons (hf a c h) (pa_cons (pe_tup (trTys_ok G hts)) pa_nil) (hs a c h _ X.env)) (by decide) (by decide) (hs a c h _ X.env) (by rfl)) fun σ H Q ⟨env, st, ρ, er, so, q⟩ => ?_
    simp only [evE] at q
    obtain ⟨d, s1, e1, q⟩ := q.bind
    refine iE_of er so e1 fun v ρ1 H1 x1 so1 er1 r1 => ?_
    refine ⟨by rw [List.length_map]; exact hz, fun p hp => ?_⟩
    exact ⟨d, v, p, ρ1, s1, rfl, upd_same, r1.mono (Ext.new hp), so1.new hp, q.mono (x1.trans (Ext.new hp))⟩
  · have hb' : (trTy sc t).map (fun t => (false, [t])) = some (b, ts) := by
      cases t <;> first
        | exact hb
        | exact absurd ⟨_, _, _, rfl⟩ htt
    obtain ⟨ty, hty, e⟩ := Option.map_eq_some_iff.mp hb'
    cases e
    obtain ⟨pt, st⟩ := trTy_ok G hty
    refine PE.imp (pe_callB (isi1_ok ty) (isGl_ok hg G.sc) hm hv (pa_cons (hf a c h) (pa_cons pt pa_nil (st [] X.env)) (hs a c h _ X.env)) (by decide) (by decide) (hs a c h _ X.env) (by rw [st [] X.env]; rfl)) fun σ H Q ⟨env, st, ρ, er, so, q⟩ => ?_
    simp only [evE] at q
    obtain ⟨d, s1, e1, q⟩ := q.bind
    refine iE_of er so e1 fun v ρ1 H1 x1 so1 er1 r1 => ?_
    exact ⟨d, v, ρ1, s1, rfl, r1, so1, q.mono x1⟩
theorem mtOf_ok {x : Str} {m : Mt} (h : mtOf x = some m) : (m = .append ∧ x = "append") ∨ (m = .pop ∧ x = "pop") := by
  unfold mtOf at h
  split at h
  · rename_i e; cases h; exact .inl ⟨rfl, e⟩
  · split at h
    · rename_i e; cases h; exact .inr ⟨rfl, e⟩
    · cases h
theorem recv_ok {o : Expr} (h : isRecv o = true) (m : Str) (env : Env) (w : Sem Value) : attributeBase o m env w = w := by
  cases o <;> first
    | rfl
    | cases h
theorem tyV_list {K : PySem.W.Frag} {ρ : List Addr} {H : Hp} {st : Sto} {r : Nat} {x : V} (q : RepV K ρ H (.ref r) x) (so : StOk K ρ H st) : tyV K "list" x H := by
  cases q with
  | ref q =>
    have hlt : r < st.length := by rw [← so.len]; exact (List.getElem?_eq_some_iff.mp q).1
    obtain ⟨a, q1, q2⟩ := so.obj r st[r] (List.getElem?_eq_getElem hlt)
    rw [q] at q1; cases q1
    refine .inl ⟨rfl, ?_⟩
    cases e : st[r] with
    | lst ds => rw [e] at q2; obtain ⟨xs, z1, _⟩ := q2; exact ⟨xs, SqL.of z1⟩
    | frz ds => rw [e] at q2; obtain ⟨xs, z1, _⟩ := q2; exact ⟨xs, z1.sq⟩
theorem methD_ref {m : Mt} {d : D} {ds : List D} {st s : Sto} {a : D} (h : methD m d ds st = .ok a s) : ∃ r, d = .ref r := by
  cases d <;> first
    | exact ⟨_, rfl⟩
    | cases h
theorem meth_ok {X : Cx} {f : Expr → Option CE} (hs : ∀ e c, f e = some c → ∀ es env, starEach (e :: es) env = (false, eval e env) :: starEach es env) (hf : ∀ e c, f e = some c → PE X e (iE X.K cl c)) {o : Expr} {x : Str} {ap pos : Pos} {args : List Expr} {c : CE} {m : Mt} {cs : CEs}
    (hr : isRecv o = true) (hl : (ap.endLine == pos.line) = true) (hm : mtOf x = some m) (ho : f o = some c) (ha : trL f args = some cs) (hargs : (m = .append ∧ ∃ a, args = [a]) ∨ (m = .pop ∧ args = [])) : PE X (.Call (.Attribute o x ap) args [] pos) (iE X.K cl (.meth m c cs)) := by
  have PAc := trL_ok hs hf ha
  have key : ∀ σ H Q, iE X.K cl (.meth m c cs) σ H Q → iE X.K cl c σ H fun v H1 => tyV X.K "list" v H1 ∧ iEs X.K cl cs σ H1 fun xs H2 => rMe X.K m v xs H2 Q := fun σ H Q ⟨env, st, ρ, er, so, q⟩ => by
    simp only [evE] at q
    obtain ⟨d, s1, e1, q⟩ := q.bind
    obtain ⟨ds, s2, e2, q⟩ := q.bind
    refine iE_of er so e1 fun v ρ1 H1 x1 so1 er1 r1 => ?_
    have hd : ∃ r, d = .ref r := by
      obtain ⟨a, s3, e3, _⟩ := q
      exact methD_ref e3
    obtain ⟨r, rfl⟩ := hd
    refine ⟨tyV_list r1 so1, iEs_of er1 so1 e2 fun vs ρ2 H2 x2 so2 er2 r2 => ?_⟩
    exact ⟨.ref r, ds, ρ2, s2, r1.mono x2, r2, so2, q.mono (x1.trans x2)⟩
  rcases mtOf_ok hm with ⟨rfl, rfl⟩ | ⟨rfl, rfl⟩
  · rcases hargs with ⟨_, a, rfl⟩ | ⟨e, _⟩
    · have h1 : ∃ d, f a = some d := by
        unfold trL at ha
        split at ha
        · exact ⟨_, by assumption⟩
        · cases ha
      obtain ⟨d, h1⟩ := h1
      refine PE.imp (pe_bm PySem.F.plainAttrs_list PySem.F.slot_list_append PySem.F.type_list_append (me_ok .append) (hf o c ho) PAc (recv_ok hr _ _ _) (by rw [hs a d h1 [] X.env]; rfl) hl (hs a d h1 [] X.env)) key
    · cases e
  · rcases hargs with ⟨e, _⟩ | ⟨_, rfl⟩
    · cases e
    · refine PE.imp (pe_bm0 PySem.F.plainAttrs_list PySem.F.slot_list_pop PySem.F.type_list_pop (me_ok .pop) (hf o c ho) (recv_ok hr _ _ _) hl) fun σ H Q q => ?_
      obtain ⟨env, st, ρ, er, so, d, s, e, q⟩ := key σ H Q q
      refine ⟨env, st, ρ, er, so, d, s, e, fun v ρ' H' x so' r => ?_⟩
      obtain ⟨q1, env2, st2, ρ2, er2, so2, ds, s2, e2, q⟩ := q v ρ' H' x so' r
      cases ha
      simp only [evEs] at e2
      cases e2
      exact ⟨q1, q [] ρ2 H' Ext.refl so2 .nil⟩
theorem rev_ok {X : Cx} {a b : Expr} {pos : Pos} {c : CE} (hb : isRev b = true) (h : PE X a (iE X.K cl c)) : PE X (.Subscript a b pos) (iE X.K cl (.rev c)) := by
  unfold isRev at hb
  split at hb
  · have e := of_decide_eq_true hb
    subst e
    refine ⟨fun pins s σ H Q I ⟨env, st, ρ, er, so, q⟩ => ?_⟩
    simp only [evE] at q
    obtain ⟨d, s1, e1, q⟩ := q.bind
    cases d <;> first
      | exact q.no.elim
      | skip
    · rename_i ds
      refine (pe_revT h).run pins s σ H Q I (iE_of er so e1 fun v ρ1 H1 x1 so1 er1 r1 => ?_)
      have q : RE X.K (Mp.newT ds.reverse s1) ρ H Q := q
      cases r1 with
      | tup r1 r2 =>
        obtain ⟨_, hn, _⟩ := (q.mono x1).newT so1 r2.reverse
        exact ⟨_, _, rfl, r1, hn⟩
    · rename_i r
      have q : RE X.K (match lstAt s1 r with
        | some ds => Mp.newL ds.reverse s1
        | none => .no) ρ H Q := q
      split at q
      · rename_i ds hl
        refine (pe_revL h).run pins s σ H Q I (iE_of er so e1 fun v ρ1 H1 x1 so1 er1 r1 => ?_)
        cases r1 with
        | ref r1 =>
          obtain ⟨a, xs, q1, q2, q3⟩ := so1.at hl
          rw [r1] at q1; cases q1
          obtain ⟨_, hn⟩ := (q.mono x1).newL so1 q3.reverse
          exact ⟨_, _, rfl, q2, hn⟩
      · exact q.no.elim
  · cases hb
theorem exp_ok : ∀ (n : Nat) (sc : Scope) (fn : Str → Bool) (X : Cx), Good T cl k sc fn X → ∀ (e : Expr) (c : CE), trE T n sc fn e = some c → PE X e (iE X.K cl c) ∧ PT X e (iT X.K cl c)
  | 0, _, _, _, _, _, _, h => by simp [trE] at h
  | n + 1, sc, fn, X, G, e, c, h => by
    have ih := exp_ok n
    have hs : ∀ e c, trE T n sc fn e = some c → ∀ es env, starEach (e :: es) env = (false, eval e env) :: starEach es env := fun e c h es env => trE_star h es env
    have hf : ∀ e c, trE T n sc fn e = some c → PE X e (iE X.K cl c) := fun e c h => (ih sc fn X G e c h).1
    have ht : ∀ e c, trE T n sc fn e = some c → PT X e (iT X.K cl c) := fun e c h => (ih sc fn X G e c h).2
    cases e with
    | Name x pos =>
      have h1 := name_ok (pos := pos) G (show trName T sc x = some c from h)
      exact ⟨h1, pt_of h1 fun _ => rfl⟩
    | Constant x j pos =>
      have h1 : PE X (.Constant x j pos) (iE X.K cl c) := const_ok (show trConst x = some c from h)
      exact ⟨h1, pt_of h1 fun _ => rfl⟩
    | BinOp a op b pos =>
      simp only [trE] at h
      split at h
      · rename_i o x y h1 h2 h3
        cases h
        have ho := bin_ok (X := X) o
        rw [bopOf_tr h1] at ho
        have hp : PE X (.BinOp a op b pos) (iE X.K cl (.bin o x y)) := PE.imp (pe_op ho (hf a x h2) (hf b y h3)) fun σ H Q ⟨env, st, ρ, er, so, q⟩ => by
          simp only [evE] at q
          exact iE_two er so q fun _ _ _ _ z => z
        exact ⟨hp, pt_of hp fun _ => rfl⟩
      · cases h
    | UnaryOp op a pos =>
      cases op with
      | USub =>
        obtain ⟨x, h1, rfl⟩ := Option.map_eq_some_iff.mp (show (trE T n sc fn a).map CE.neg = some c from h)
        have hp : PE X (.UnaryOp .USub a pos) (iE X.K cl (.neg x)) := PE.imp (pe_un un_ok (hf a x h1)) fun σ H Q ⟨env, st, ρ, er, so, q⟩ => by
          simp only [evE] at q
          obtain ⟨d, s1, e1, q⟩ := q.bind
          exact iE_of er so e1 fun v ρ1 H1 x1 so1 er1 r1 => ⟨d, ρ1, s1, r1, so1, q.mono x1⟩
        exact ⟨hp, pt_of hp fun _ => rfl⟩
      | Not =>
        obtain ⟨x, h1, rfl⟩ := Option.map_eq_some_iff.mp (show (trE T n sc fn a).map CE.notv = some c from h)
        refine ⟨PE.imp (pe_notT (hf a x h1)) fun σ H Q ⟨env, st, ρ, er, so, q⟩ => ?_, PT.imp (pt_not (ht a x h1)) fun σ H Q ⟨env, st, ρ, er, so, b, s, e, q⟩ => ?_⟩
        · simp only [evE] at q
          obtain ⟨d, s1, e1, q⟩ := q.bind
          obtain ⟨b, s2, e2, q⟩ := q.bind
          obtain ⟨e3, rfl⟩ := ofO_ok e2
          exact iE_of er so e1 fun v ρ1 H1 x1 so1 er1 r1 => ⟨b, truV_ok so1 e3 r1, q.okE x1 so1 (.bl _)⟩
        · obtain ⟨d, s1, e1, e⟩ := bind_ok e
          simp only [evE] at e1
          obtain ⟨d0, s0, e0, e1⟩ := bind_ok e1
          obtain ⟨b0, s2, e2, e1⟩ := bind_ok e1
          obtain ⟨e3, rfl⟩ := ofO_ok e2
          have e1 : Res.ok (D.bl (!b0)) s0 = Res.ok d s1 := e1
          injection e1 with q1 q2
          subst q1 q2
          obtain ⟨eb, es⟩ := ofO_ok e
          cases eb
          subst es
          exact iT_of (b := b0) er so (s := s0) (by unfold evT; rw [e0]; show ofO (truthy s0 d0) s0 = _; rw [e3]; exact rfl) fun ρ1 H1 x1 so1 er1 => q ρ1 H1 x1 so1
      | _ => simp [trE] at h
    | Compare a ops es pos =>
      cases ops with
      | nil => simp [trE] at h
      | cons op ops =>
        cases ops with
        | nil =>
          cases es with
          | nil => simp [trE] at h
          | cons b es =>
            cases es with
            | cons _ _ => simp [trE] at h
            | nil =>
              simp only [trE] at h
              split at h
              · rename_i x y h1 h2
                cases h
                have key : ∀ σ H Q, iE X.K cl (.cmp (trCop op) x y) σ H Q → tOp (rI X.K (cD (trCop op))) (iE X.K cl x) (iE X.K cl y) σ H Q := fun σ H Q ⟨env, st, ρ, er, so, q⟩ => by
                  simp only [evE] at q
                  exact iE_two (g := cD (trCop op)) er so q fun _ _ _ _ z => z
                refine ⟨PE.imp (pe_cmpR (op_tr G op) (hf a x h1) (hf b y h2) (trE_marks op h2)) key, PT.imp (pt_cmpR (op_tr G op) (hf a x h1) (hf b y h2) (trE_marks op h2)) fun σ H Q ⟨env, st, ρ, er, so, b, s, e, q⟩ => ?_⟩
                refine key σ H _ ⟨env, st, ρ, er, so, ?_⟩
                obtain ⟨d, s1, e1, e⟩ := bind_ok e
                refine ⟨d, s1, e1, fun v ρ1 H1 x1 so1 r1 => ?_⟩
                simp only [evE] at e1
                obtain ⟨d1, s2, _, e1⟩ := bind_ok e1
                obtain ⟨d2, s3, _, e1⟩ := bind_ok e1
                obtain ⟨e1, _⟩ := ofO_ok e1
                obtain ⟨bb, _, rfl⟩ := Option.map_eq_some_iff.mp e1
                cases e
                cases r1
                exact ⟨_, rfl, q ρ1 H1 x1 so1⟩
              · cases h
        | cons op' ops =>
          cases ops with
          | cons _ _ => (cases es <;> simp [trE] at h)
          | nil =>
            match es, h with
            | [b, c'], h =>
              simp only [trE] at h
              split at h
              · rename_i x y z h1 h2 h3
                cases h
                have key : ∀ σ H Q, iE X.K cl (.chain (trCop op) (trCop op') x y z) σ H Q → tChain (rI X.K (cD (trCop op))) (rI X.K (cD (trCop op'))) (iE X.K cl x) (iE X.K cl y) (iE X.K cl z) σ H Q := fun σ H Q ⟨env, st, ρ, er, so, q⟩ => by
                  simp only [evE] at q
                  obtain ⟨d1, s1, e1, q⟩ := q.bind
                  obtain ⟨d2, s2, e2, q⟩ := q.bind
                  obtain ⟨b, s3, e3, q⟩ := q.bind
                  obtain ⟨e4, rfl⟩ := ofO_ok e3
                  refine iE_of er so e1 fun v ρ1 H1 x1 so1 er1 r1 => ?_
                  refine iE_of er1 so1 e2 fun v2 ρ2 H2 x2 so2 er2 r2 => ?_
                  refine ⟨d1, d2, ρ2, s2, r1.mono x2, r2, so2, ?_⟩
                  refine ⟨.bl b, s2, by unfold cD; rw [e4]; rfl, fun w ρ3 H3 x3 so3 r3 => ?_⟩
                  cases r3
                  refine ⟨b, rfl, ?_⟩
                  have xx := (x1.trans x2).trans x3
                  cases b with
                  | true =>
                    have q : RE X.K ((evE cl z env s2).bind fun w s4 => ofO ((cmpD (trCop op') d2 w s4).map D.bl) s4) ρ H Q := q
                    obtain ⟨d3, s4, e4, q⟩ := q.bind
                    refine iE_of (er.mono xx) so3 e4 fun v3 ρ4 H4 x4 so4 er4 r4 => ?_
                    exact ⟨d2, d3, ρ4, s4, (r2.mono x3).mono x4, r4, so4, q.mono (xx.trans x4)⟩
                  | false => exact q.okE xx so3 (.bl _)
                have hm : lastMarks [op, op'] [b, c'] = false := by
                  show lastMarks [op'] [c'] = false
                  exact trE_marks op' h3
                refine ⟨PE.imp (pe_chain (op_tr G op) (op_tr G op') (hf a x h1) (hf b y h2) (hf c' z h3) hm) key, PT.imp (pt_chain (op_tr G op) (op_tr G op') (hf a x h1) (hf b y h2) (hf c' z h3) hm) fun σ H Q ⟨env, st, ρ, er, so, b, s, e, q⟩ => ?_⟩
                refine key σ H _ ⟨env, st, ρ, er, so, ?_⟩
                obtain ⟨d, s1, e1, e⟩ := bind_ok e
                refine ⟨d, s1, e1, fun v ρ1 H1 x1 so1 r1 => ?_⟩
                simp only [evE] at e1
                obtain ⟨d1, s2, _, e1⟩ := bind_ok e1
                obtain ⟨d2, s3, _, e1⟩ := bind_ok e1
                obtain ⟨b2, s4, _, e1⟩ := bind_ok e1
                have hb : ∃ bb, d = .bl bb := by
                  cases b2 with
                  | true =>
                    obtain ⟨d3, s5, _, e1⟩ := bind_ok (show ((evE cl z env s4).bind fun w s4 => ofO ((cmpD (trCop op') d2 w s4).map D.bl) s4) = .ok d s1 from e1)
                    obtain ⟨e1, _⟩ := ofO_ok e1
                    obtain ⟨bb, _, rfl⟩ := Option.map_eq_some_iff.mp e1
                    exact ⟨_, rfl⟩
                  | false =>
                    cases (show Res.ok (D.bl false) s4 = Res.ok d s1 from e1)
                    exact ⟨_, rfl⟩
                obtain ⟨bb, rfl⟩ := hb
                cases e
                cases r1
                exact ⟨_, rfl, q ρ1 H1 x1 so1⟩
              · cases h
            | [], h => simp [trE] at h
            | [_], h => simp [trE] at h
            | _ :: _ :: _ :: _, h => simp [trE] at h
    | BoolOp op es pos =>
      cases op with
      | And =>
        have h : trAnd (trE T n sc fn) es = some c := h
        exact ⟨and_ok hf h, (andT_ok ht h).pt⟩
      | Or =>
        have h : trOr (trE T n sc fn) es = some c := h
        exact ⟨or_ok hf h, (orT_ok ht h).pt⟩
    | IfExp t a b pos =>
      simp only [trE] at h
      split at h
      · rename_i x y z h1 h2 h3
        cases h
        refine ⟨PE.imp (pe_ifExp (ht t x h1) (hf a y h2) (hf b z h3)) fun σ H Q ⟨env, st, ρ, er, so, q⟩ => ?_, ⟨fun pins s σ H Q I ⟨env, st, ρ, er, so, b', s', e, q⟩ => ?_⟩⟩
        · simp only [evE] at q
          obtain ⟨d, s1, e1, q⟩ := q.bind
          obtain ⟨b, s2, e2, q⟩ := q.bind
          obtain ⟨e3, rfl⟩ := ofO_ok e2
          refine iT_of (b := b) er so (s := s1) (by unfold evT; rw [e1]; show ofO (truthy s1 d) s1 = _; rw [e3]; exact rfl) fun ρ1 H1 x1 so1 er1 => ?_
          cases b with
          | true => exact ⟨env, s1, ρ1, er1, so1, q.mono x1⟩
          | false => exact ⟨env, s1, ρ1, er1, so1, q.mono x1⟩
        · obtain ⟨d, s1, e1, e⟩ := bind_ok e
          simp only [evE] at e1
          obtain ⟨d0, s0, e0, e1⟩ := bind_ok e1
          obtain ⟨b0, s2, e2, e1⟩ := bind_ok e1
          obtain ⟨e3, rfl⟩ := ofO_ok e2
          refine isTrue_ife (thn ((ht t x h1).run pins s σ H (fun c H1 => c = b0 ∧ ∃ ρ1, Ext ρ H ρ1 H1 ∧ StOk X.K ρ1 H1 s0) I (iT_of (b := b0) er so (s := s0) (by unfold evT; rw [e0]; show ofO (truthy s0 d0) s0 = _; rw [e3]; exact rfl) fun ρ1 H1 x1 so1 er1 => ⟨rfl, ρ1, x1, so1⟩)) fun c s3 ⟨H1, I1, hc, ρ1, x1, so1⟩ => ?_)
          subst hc
          cases c with
          | true => exact (ht a y h2).run pins s3 σ H1 Q I1 ⟨env, s0, ρ1, er.mono x1, so1, b', s', by unfold evT; rw [show evE cl y env s0 = .ok d s1 from e1]; exact e, fun ρ2 H2 x2 so2 => q ρ2 H2 (x1.trans x2) so2⟩
          | false => exact (ht b z h3).run pins s3 σ H1 Q I1 ⟨env, s0, ρ1, er.mono x1, so1, b', s', by unfold evT; rw [show evE cl z env s0 = .ok d s1 from e1]; exact e, fun ρ2 H2 x2 so2 => q ρ2 H2 (x1.trans x2) so2⟩
      · cases h
    | Tuple es j pos =>
      obtain ⟨cs, h1, rfl⟩ := Option.map_eq_some_iff.mp (show (trL (trE T n sc fn) es).map CE.tup = some c from h)
      have hp : PE X (.Tuple es j pos) (iE X.K cl (.tup cs)) := PE.imp (pe_tup (trL_ok hs hf h1)) fun σ H Q ⟨env, st, ρ, er, so, q⟩ => by
        simp only [evE] at q
        obtain ⟨ds, s1, e1, q⟩ := q.bind
        refine iEs_of er so e1 fun vs ρ1 H1 x1 so1 er1 r1 => ?_
        obtain ⟨a1, a2, _⟩ := (q.mono x1).newT so1 r1
        exact ⟨a1, a2⟩
      exact ⟨hp, pt_of hp fun _ => rfl⟩
    | List es pos =>
      obtain ⟨cs, h1, rfl⟩ := Option.map_eq_some_iff.mp (show (trL (trE T n sc fn) es).map CE.lst = some c from h)
      have hp : PE X (.List es pos) (iE X.K cl (.lst cs)) := PE.imp (pe_lst (trL_ok hs hf h1)) fun σ H Q ⟨env, st, ρ, er, so, q⟩ => by
        simp only [evE] at q
        obtain ⟨ds, s1, e1, q⟩ := q.bind
        refine iEs_of er so e1 fun vs ρ1 H1 x1 so1 er1 r1 => ?_
        exact (q.mono x1).newL so1 r1
      exact ⟨hp, pt_of hp fun _ => rfl⟩
    | Subscript a b pos =>
      have hp : PE X (.Subscript a b pos) (iE X.K cl c) := by
        by_cases hsl : ∃ lo hi st p, b = .Slice lo hi st p
        · obtain ⟨lo, hi, st, p, rfl⟩ := hsl
          cases st with
          | none =>
            simp only [trE] at h
            split at h
            · rename_i x l u h1 h2 h3
              cases h
              refine PE.imp (pe_slice sl_ok (hf a x h1) (trO_ok hf h2) (trO_ok hf h3)) fun σ H Q ⟨env, st, ρ, er, so, q⟩ => ?_
              simp only [evE] at q
              obtain ⟨d, s1, e1, q⟩ := q.bind
              obtain ⟨o1, s2, e2, q⟩ := q.bind
              obtain ⟨o2, s3, e3, q⟩ := q.bind
              refine iE_of er so e1 fun v ρ1 H1 x1 so1 er1 r1 => ?_
              refine ⟨env, s1, ρ1, er1, so1, o1, s2, e2, fun ρ2 H2 x2 so2 => ?_⟩
              refine ⟨env, s2, ρ2, er1.mono x2, so2, o2, s3, e3, fun ρ3 H3 x3 so3 => ?_⟩
              exact ⟨d, ρ3, s3, (r1.mono x2).mono x3, so3, q.mono ((x1.trans x2).trans x3)⟩
            · cases h
          | some st =>
            simp only [trE] at h
            split at h
            · rename_i hr
              obtain ⟨x, h1, rfl⟩ := Option.map_eq_some_iff.mp h
              exact rev_ok hr (hf a x h1)
            · cases h
        · have h' : (match trE T n sc fn a, trE T n sc fn b with
              | some x, some y => some (CE.ix x y)
              | _, _ => none) = some c := by
            cases b <;> first
              | exact h
              | exact absurd ⟨_, _, _, _, rfl⟩ hsl
          split at h'
          · rename_i x y h1 h2
            cases h'
            refine PE.imp (pe_ix ix_ok (hf a x h1) (hf b y h2) (trE_plain h2)) fun σ H Q ⟨env, st, ρ, er, so, q⟩ => ?_
            simp only [evE] at q
            exact iE_two er so q fun _ _ _ _ z => z
          · cases h'
      exact ⟨hp, pt_of hp fun _ => rfl⟩
    | Call fu args kws pos =>
      have hp : PE X (.Call fu args kws pos) (iE X.K cl c) := by
        cases fu with
        | Name x p =>
          simp only [trE] at h
          split at h
          · rename_i hog
            rw [Bool.and_eq_true] at hog
            split at h
            · rename_i i hi
              cases kws with
              | nil =>
                obtain ⟨cs, h1, rfl⟩ := Option.map_eq_some_iff.mp h
                exact call_ok hs hf G hog.1 hog.2 hi h1
              | cons kw kws =>
                simp only at h
                split at h
                · rename_i cs ds perm h1 h2 h3
                  cases h
                  exact callk_ok hs hf G hog.1 hog.2 hi h1 h2 h3
                · cases h
            · rename_i hi
              cases kws with
              | cons _ _ => simp at h
              | nil =>
                match args, h with
                | [a], h =>
                  simp only at h
                  split at h
                  · rename_i b c1 h1 h2
                    cases h
                    exact call_bi G hs hf hog.1 hog.2 h1 h2
                  · cases h
                | [a, t], h =>
                  by_cases hx : x = "isinstance"
                  · subst hx
                    have h : (match trE T n sc fn a, trCls sc t with
                      | some c, some (_, ts) => if ts.length ≤ 8 then some (CE.isi c ts) else none
                      | _, _ => none) = some c := by
                      simp only [if_pos] at h
                      exact h
                    split at h
                    · rename_i c1 b ts h1 h2
                      split at h
                      · rename_i hz
                        cases h
                        exact call_isi G hs hf hog.2 h2 h1 (Nat.le_trans hz (by rw [sizeLine_eq]; decide))
                      · cases h
                    · cases h
                  · simp only [if_neg hx] at h
                    cases h
                | [], h => simp at h
                | _ :: _ :: _ :: _, h => simp at h
          · cases h
        | Attribute o m apos =>
          cases kws with
          | cons _ _ => simp [trE] at h
          | nil =>
            simp only [trE] at h
            split at h
            · rename_i hrl
              rw [Bool.and_eq_true] at hrl
              split at h
              · rename_i c1 a h1 h2
                split at h
                · rename_i d h3
                  cases h
                  exact meth_ok hs hf hrl.1 hrl.2 h1 h2 (by simp [trL, h3]) (.inl ⟨rfl, a, rfl⟩)
                · cases h
              · rename_i c1 h1 h2
                cases h
                exact meth_ok hs hf hrl.1 hrl.2 h1 h2 rfl (.inr ⟨rfl, rfl⟩)
              · cases h
            · cases h
        | _ => simp [trE] at h
      exact ⟨hp, pt_of hp fun _ => rfl⟩
    | ListComp elt gs scope pos =>
      have hp : PE X (.ListComp elt gs scope pos) (iE X.K cl c) := by
        match gs, h with
        | [⟨tg, iter, ifs, z⟩], h =>
          simp only [trE] at h
          split at h
          · rename_i hb
            rw [Bool.and_eq_true] at hb
            obtain ⟨hz, hb⟩ := hb
            have hz := of_decide_eq_true hz
            subst hz
            split at h
            · rename_i it t c1 h1 h2 h3
              have hbl : BlkOk X.N X.env.scope scope (ownOf T scope) := by rw [G.N, G.sc]; exact blkOk_by hb
              have GB := fun (s : Shared) (H : Hp) (C : Addr) (cl' : List (Str × Addr)) (fp : List Addr) => G.blk s H scope C cl' fp
              have hi : PI X tg iter (iI X.K cl it) := iter_ok G hs hf h1
              have hpt : ∀ (s : Shared) (H : Hp) (C : Addr) (cl' : List (Str × Addr)) (fp : List Addr), ∀ e c, trE T n (relS scope sc) (relFn scope) e = some c → PT (X.blk s H scope (compEnvC scope cl' C X.env) fp) e (iT X.K cl c) := fun s H C cl' fp e c he => (ih _ _ _ (GB s H C cl' fp) e c he).2
              split at h
              · split at h
                · rename_i hv
                  cases h
                  have hv : ∀ j ∈ tgVars t, j ∈ (ownOf T scope).map (·.2) := fun j hj => of_decide_eq_true (List.all_eq_true.mp hv j hj)
                  obtain ⟨p1, p2⟩ := lc_ok (pos := pos) G.calm G.nd hi hbl (fun s H C cl' fp => (tg2_ok (GB s H C cl' fp).t h2).1) (fun s H C cl' fp => (pts_ok (f := trE T n (relS scope sc) (relFn scope)) (hpt s H C cl' fp)).1) (fun s H C cl' fp => (ih _ _ _ (GB s H C cl' fp) elt c1 h3).1) (fun x => fold_ok h1 x) hv
                  exact PE.imp p1 p2
                · cases h
              · rename_i e
                split at h
                · rename_i d hd
                  split at h
                  · rename_i hv
                    cases h
                    have hv : ∀ j ∈ tgVars t, j ∈ (ownOf T scope).map (·.2) := fun j hj => of_decide_eq_true (List.all_eq_true.mp hv j hj)
                    obtain ⟨p1, p2⟩ := lc_ok (pos := pos) G.calm G.nd hi hbl (fun s H C cl' fp => (tg2_ok (GB s H C cl' fp).t h2).1) (fun s H C cl' fp => (pts_ok (f := trE T n (relS scope sc) (relFn scope)) (hpt s H C cl' fp)).2 e d hd) (fun s H C cl' fp => (ih _ _ _ (GB s H C cl' fp) elt c1 h3).1) (fun x => fold_ok h1 x) hv
                    exact PE.imp p1 p2
                  · cases h
                · cases h
              · cases h
            · cases h
          · cases h
        | [], h => simp [trE] at h
        | _ :: _ :: _, h => simp [trE] at h
      exact ⟨hp, pt_of hp fun _ => rfl⟩
    | _ => simp [trE] at h
end
end Mp

/-! P9: statements -/
namespace Mp
open PySem PySem.Spec PyProof.Rows L2
/-- what the swapped stores of a written tuple are (none: not followed) -/
def swpNames (sc : Scope) (line : Nat) : List Expr → List Str
  | [] => []
  | .Name x p :: r => if kindIn sc x == some .local && p.line == line then x :: swpNames sc line r else swpNames sc line r
  | _ :: r => swpNames sc line r
def isComp : Expr → Bool
  | .ListComp _ _ _ _ => true
  | .SetComp _ _ _ _ => true
  | .DictComp _ _ _ _ _ => true
  | _ => false
def isCall : Expr → Bool
  | .Call _ _ _ _ => true
  | _ => false
def isTup : Expr → Bool
  | .Tuple _ _ _ => true
  | _ => false
def hasStar (vs : List Expr) : Bool := vs.any fun | .Starred .. => true | _ => false
def trAug : Operator → Option Bop
  | .Add => some .add
  | .Sub => some .sub
  | _ => none
def trAsg (T : TC) (f : Expr → Option CE) (sc : Scope) (fn : Str → Bool) (tg e : Expr) : CS := match tg with
  | .Name x _ => if isLoc sc fn x then (match slotOf T x, f e with
    | some i, some c => .asg (.var i) c
    | _, _ => .never) else .never
  | .Tuple ts n p => (match e with
    | .Tuple vs n' p' => (match ts, vs with
      | [.Name x px, .Name y py], [a, b] => if kindIn sc x == some .local && kindIn sc y == some .local && px.line == py.line && !decide (x = y) && decide (sc.kind = .function) && !hasStar [a, b] && !([a, b].all (foldedForSure 8)) && !([a, b].all (constantsAlone 8)) then
          (match slotOf T x, slotOf T y, f a, f b with
          | some i, some j, some c, some d => .par i j c d
          | _, _, _, _ => .never)
        else .never
      | [.Name x px, .Name y py, .Name z pz], [a, b, c] => if kindIn sc x == some .local && kindIn sc y == some .local && kindIn sc z == some .local && px.line == py.line && px.line == pz.line && !decide (x = y) && !decide (x = z) && !decide (y = z) && decide (sc.kind = .function) && !hasStar [a, b, c] && !([a, b, c].all (foldedForSure 8)) && !([a, b, c].all (constantsAlone 8)) then
          (match slotOf T x, slotOf T y, slotOf T z, f a, f b, f c with
          | some i, some j, some l, some d, some e, some g => .par3 i j l d e g
          | _, _, _, _, _, _ => .never)
        else .never
      | _, _ => .never)
    | e => (match trTg3 T sc fn (.Tuple ts n p), f e with
      | some t, some c => .asg t c
      | _, _ => .never))
  | .Subscript o i _ => (match f o, f i, f e with
    | some c, some d, some g => .asg (.ix c d) g
    | _, _, _ => .never)
  | _ => .never
def trBf (f : Stmt → CS) : List Stmt → CB
  | [] => .nil
  | s :: r => .cons (f s) (trBf f r)
def trS (T : TC) : Nat → Scope → (Str → Bool) → Stmt → CS
  | 0, _, _, _ => .never
  | n + 1, sc, fn, s => match s with
    | .Expr e _ => if isCall e then (match trE T n sc fn e with
      | some c => .expr c
      | none => .never) else .never
    | .Return (some e) _ => (match trE T n sc fn e with
      | some c => .ret c
      | none => .never)
    | .Return none _ => .retN
    | .Assign [tg] e _ => trAsg T (trE T n sc fn) sc fn tg e
    | .AugAssign (.Name x _) op e _ => if isLoc sc fn x then (match slotOf T x, trAug op, trE T n sc fn e with
      | some i, some o, some c => .aug i o c
      | _, _, _ => .never) else .never
    | .If t a b _ => (match trE T n sc fn t with
      | some c => .ifs c (trBf (trS T n sc fn) a) (trBf (trS T n sc fn) b)
      | none => .never)
    | .While t a [] _ => (match trE T n sc fn t with
      | some c => .whl c (trBf (trS T n sc fn) a)
      | none => .never)
    | .For tg it a [] _ => (match trTg3 T sc fn tg, trIter T (trE T n sc fn) sc it with
      | some t, some c => .for_ t c (trBf (trS T n sc fn) a)
      | _, _ => .never)
    | .Break _ => .brk
    | .Continue _ => .cont
    | .Pass _ => .pass
    | _ => .never
def trB (T : TC) (n : Nat) (sc : Scope) (fn : Str → Bool) (b : List Stmt) : CB := trBf (trS T n sc fn) b
section
variable (K : PySem.W.Frag) (cl : Nat → List D → Sto → Res D)
def FlR (fl : Fl) (st : Sto) (ρ : List Addr) (H : Hp) (E : Ends) : Prop := match fl with
  | .nx env => ∀ σ' ρ' H', Ext ρ H ρ' H' → StOk K ρ' H' st → EnvR K ρ' H' env σ' → E.nx σ' H'
  | .rt d => ∀ v ρ' H', Ext ρ H ρ' H' → StOk K ρ' H' st → RepV K ρ' H' d v → E.rt v H'
  | .bk env => ∀ σ' ρ' H', Ext ρ H ρ' H' → StOk K ρ' H' st → EnvR K ρ' H' env σ' → E.bk σ' H'
  | .ct env => ∀ σ' ρ' H', Ext ρ H ρ' H' → StOk K ρ' H' st → EnvR K ρ' H' env σ' → E.ct σ' H'
def iS (c : CS) : TS := fun E σ H => ∃ env st ρ, EnvR K ρ H env σ ∧ StOk K ρ H st ∧ ∃ fl st', evS cl c env st = .ok fl st' ∧ FlR K fl st' ρ H E
def iB (c : CB) : TS := fun E σ H => ∃ env st ρ, EnvR K ρ H env σ ∧ StOk K ρ H st ∧ ∃ fl st', evB cl c env st = .ok fl st' ∧ FlR K fl st' ρ H E
end
section
variable {T : TC} {cl : Nat → List D → Sto → Res D} {k : Nat} {X : Cx} {sc : Scope} {fn : Str → Bool} {K : PySem.W.Frag} {ρ ρ' : List Addr} {H H' : Hp}
theorem FlR.mono {fl : Fl} {st : Sto} {E : Ends} (x : Ext ρ H ρ' H') (h : FlR K fl st ρ H E) : FlR K fl st ρ' H' E := by
  cases fl with
  | nx env => exact fun σ2 ρ2 H2 x2 so er => h σ2 ρ2 H2 (x.trans x2) so er
  | rt d => exact fun v ρ2 H2 x2 so er => h v ρ2 H2 (x.trans x2) so er
  | bk env => exact fun σ2 ρ2 H2 x2 so er => h σ2 ρ2 H2 (x.trans x2) so er
  | ct env => exact fun σ2 ρ2 H2 x2 so er => h σ2 ρ2 H2 (x.trans x2) so er
theorem PS.imp {s : Stmt} {t t' : TS} (h : PS X s t) (i : ∀ E σ H, t' E σ H → t E σ H) : PS X s t' := ⟨fun pins s σ H E I q => h.run pins s σ H E I (i E σ H q)⟩
theorem PSs.imp {s : List Stmt} {t t' : TS} (h : PSs X s t) (i : ∀ E σ H, t' E σ H → t E σ H) : PSs X s t' := ⟨fun pins s σ H E I q => h.run pins s σ H E I (i E σ H q)⟩
theorem never_ok {s : Stmt} : PS X s (iS X.K cl .never) := PS.imp ps_never fun E σ H ⟨env, st, ρ, er, so, fl, st', e, h⟩ => by
  simp only [evS] at e
  cases e
theorem Good.own (G : Good T cl k sc fn X) : PassesOwn (model X.prog X.w) X.A X.env X.xe := by
  rw [G.xe]
  exact PassesOwn.never
theorem for_ok (G : Good T cl k sc fn X) {tg iter : Expr} {body : List Stmt} {pos : Pos} {t : CT} {it : CI} {b : CB} (hi : PI X tg iter (iI X.K cl it)) (hg : PG X tg (iTg X.K cl t)) (hb : PSs X body (iB X.K cl b)) (hs : ∀ x, foldedSetIterable iter X.env x = pure x) :
    PS X (.For tg iter body [] pos) (iS X.K cl (.for_ t it b)) := by
  refine PS.imp (ps_for G.own G.calm hi hg hb hs) fun E σ H ⟨env, st, ρ, er, so, fl, st', e, h⟩ => ?_
  simp only [evS] at e
  obtain ⟨w, s1, e1, e⟩ := bind_ok e
  refine ⟨env, st, ρ, er, so, w, s1, e1, fun J ρ1 H1 x1 so1 hw => ?_⟩
  generalize hbi : (fun (d : Mp.D) (e : Ev) (s : Sto) => asT cl t d e s) = bi at e
  generalize hbo : (fun (e : Ev) (s : Sto) => evB cl b e s) = bo at e
  refine ⟨fun i m σ2 H2 => ∃ env2 st2 ρ2, EnvR X.K ρ2 H2 env2 σ2 ∧ StOk X.K ρ2 H2 st2 ∧ WkR X.K ρ2 H2 w J ∧ forL w bi bo m i env2 st2 = .ok fl st' ∧ FlR X.K fl st' ρ2 H2 E, ⟨TURNS, env, s1, ρ1, er.mono x1, so1, hw, e, h.mono x1⟩, ?_⟩
  rintro i m σ2 H2 ⟨env2, st2, ρ2, er2, so2, hw2, e2, h2⟩
  cases m with
  | zero => cases e2
  | succ m =>
    have e2 : (match w.at i st2 with
      | none => Res.no
      | some none => Res.ok (Fl.nx env2) st2
      | some (some d) => (bi d env2 st2).bind fun env1 st1 => (bo env1 st1).bind fun f st2 => match f with
        | Fl.nx env2 => forL w bi bo m (i + 1) env2 st2
        | Fl.ct env2 => forL w bi bo m (i + 1) env2 st2
        | Fl.bk env2 => Res.ok (Fl.nx env2) st2
        | Fl.rt d => Res.ok (Fl.rt d) st2) = .ok fl st' := e2
    split at e2
    · cases e2
    · rename_i ew
      cases e2
      exact .inl ⟨walk_stop so2 hw2 ew, h2 σ2 ρ2 H2 Ext.refl so2 er2⟩
    · rename_i d ew
      obtain ⟨g1, g2⟩ := walk_go so2 hw2 ew
      obtain ⟨env3, s3, e3, e2⟩ := bind_ok e2
      obtain ⟨f, s4, e4, e2⟩ := bind_ok e2
      refine .inr ⟨g1, fun σ' H' => ∃ env2 st2 ρ2, EnvR X.K ρ2 H' env2 σ' ∧ StOk X.K ρ2 H' st2 ∧ WkR X.K ρ2 H' w J ∧ forL w bi bo m (i + 1) env2 st2 = .ok fl st' ∧ FlR X.K fl st' ρ2 H' E, fun σ' H' q => ⟨m, Nat.lt_succ_self m, q⟩, fun x H' hy => ?_⟩
      obtain ⟨rfl, rx⟩ := g2 x H' hy
      subst hbi hbo
      refine ⟨d, env2, st2, ρ2, rx, er2, so2, env3, s3, e3, fun σ3 ρ3 H3 x3 so3 er3 _ _ => ?_⟩
      refine ⟨env3, s3, ρ3, er3, so3, f, s4, e4, ?_⟩
      cases f with
      | nx env5 => exact fun σ5 ρ5 H5 x5 so5 er5 => ⟨env5, s4, ρ5, er5, so5, hw2.mono (x3.trans x5), e2, h2.mono (x3.trans x5)⟩
      | ct env5 => exact fun σ5 ρ5 H5 x5 so5 er5 => ⟨env5, s4, ρ5, er5, so5, hw2.mono (x3.trans x5), e2, h2.mono (x3.trans x5)⟩
      | bk env5 =>
        cases e2
        exact fun σ5 ρ5 H5 x5 so5 er5 => h2 σ5 ρ5 H5 (x3.trans x5) so5 er5
      | rt d5 =>
        cases e2
        exact fun v ρ5 H5 x5 so5 er5 => h2 v ρ5 H5 (x3.trans x5) so5 er5
theorem while_ok (G : Good T cl k sc fn X) {t : Expr} {body : List Stmt} {pos : Pos} {c : CE} {b : CB} (ht : PT X t (iT X.K cl c)) (hb : PSs X body (iB X.K cl b)) : PS X (.While t body [] pos) (iS X.K cl (.whl c b)) := by
  refine PS.imp (ps_while G.own ht hb) fun E σ H ⟨env, st, ρ, er, so, fl, st', e, h⟩ => ?_
  simp only [evS] at e
  generalize hte : (fun (e : Ev) (s : Sto) => evT cl c e s) = te at e
  generalize hbo : (fun (e : Ev) (s : Sto) => evB cl b e s) = bo at e
  refine ⟨fun m σ2 H2 => ∃ env2 st2 ρ2, EnvR X.K ρ2 H2 env2 σ2 ∧ StOk X.K ρ2 H2 st2 ∧ whlL te bo m env2 st2 = .ok fl st' ∧ FlR X.K fl st' ρ2 H2 E, ⟨TURNS, env, st, ρ, er, so, e, h⟩, ?_⟩
  rintro m σ2 H2 ⟨env2, st2, ρ2, er2, so2, e2, h2⟩
  cases m with
  | zero => cases e2
  | succ m =>
    have e2 : ((te env2 st2).bind fun b st1 => if b then (bo env2 st1).bind fun f st2 => match f with
        | Fl.nx env2 => whlL te bo m env2 st2
        | Fl.ct env2 => whlL te bo m env2 st2
        | Fl.bk env2 => Res.ok (Fl.nx env2) st2
        | Fl.rt d => Res.ok (Fl.rt d) st2
      else Res.ok (Fl.nx env2) st1) = Res.ok fl st' := e2
    obtain ⟨bb, s3, e3, e2⟩ := bind_ok e2
    subst hte
    refine ⟨env2, st2, ρ2, er2, so2, bb, s3, e3, fun ρ3 H3 x3 so3 => ?_⟩
    cases bb with
    | false =>
      cases (show Res.ok (Fl.nx env2) s3 = Res.ok fl st' from e2)
      exact h2 σ2 ρ3 H3 x3 so3 (er2.mono x3)
    | true =>
      obtain ⟨f, s4, e4, e2⟩ := bind_ok (show ((bo env2 s3).bind fun f st2 => match f with
        | Fl.nx env2 => whlL _ bo m env2 st2
        | Fl.ct env2 => whlL _ bo m env2 st2
        | Fl.bk env2 => Res.ok (Fl.nx env2) st2
        | Fl.rt d => Res.ok (Fl.rt d) st2) = Res.ok fl st' from e2)
      subst hbo
      refine ⟨fun σ' H' => ∃ env2 st2 ρ2, EnvR X.K ρ2 H' env2 σ' ∧ StOk X.K ρ2 H' st2 ∧ whlL (fun (e : Ev) (s : Sto) => evT cl c e s) (fun (e : Ev) (s : Sto) => evB cl b e s) m env2 st2 = .ok fl st' ∧ FlR X.K fl st' ρ2 H' E, fun σ' H' q => ⟨m, Nat.lt_succ_self m, q⟩, ?_⟩
      refine ⟨env2, s3, ρ3, er2.mono x3, so3, f, s4, e4, ?_⟩
      cases f with
      | nx env5 => exact fun σ5 ρ5 H5 x5 so5 er5 => ⟨env5, s4, ρ5, er5, so5, e2, h2.mono (x3.trans x5)⟩
      | ct env5 => exact fun σ5 ρ5 H5 x5 so5 er5 => ⟨env5, s4, ρ5, er5, so5, e2, h2.mono (x3.trans x5)⟩
      | bk env5 =>
        cases e2
        exact fun σ5 ρ5 H5 x5 so5 er5 => h2 σ5 ρ5 H5 (x3.trans x5) so5 er5
      | rt d5 =>
        cases e2
        exact fun v ρ5 H5 x5 so5 er5 => h2 v ρ5 H5 (x3.trans x5) so5 er5
/-- a target by its rule -/
theorem asg_of {tg e : Expr} {te : TE} {g : TG} {c : CE} {t : CT} {s : Stmt} (h : PS X s (tAsg (iE X.K cl c) (iTg X.K cl t))) : PS X s (iS X.K cl (.asg t c)) := by
  refine PS.imp h fun E σ H ⟨env, st, ρ, er, so, fl, st', e, h⟩ => ?_
  simp only [evS] at e
  obtain ⟨d, s1, e1, e⟩ := bind_ok e
  obtain ⟨env1, s2, e2, e⟩ := bind_ok e
  cases e
  refine iE_of er so e1 fun v ρ1 H1 x1 so1 er1 r1 => ?_
  exact ⟨d, env, s1, ρ1, r1, er1, so1, env1, st', e2, fun σ2 ρ2 H2 x2 so2 er2 _ _ => h σ2 ρ2 H2 (x1.trans x2) so2 er2⟩
theorem sw_name {e : Expr} {y : Str} {py : Pos} {l : Nat} {env : Env} (h : isComp e = false) : swapsWith e (some (.Name y py)) l env = pure false := by
  cases e <;> first
    | rfl
    | cases h
theorem kindIn_loc {sc : Scope} {x : Str} (h : (kindIn sc x == some .local) = true) : sc.names.lookup x = some .local := eq_of_beq h
theorem blockK {env : Env} (h : env.scope.kind = .function) : (env.blockKind != .function) = false := by
  have : env.blockKind = .function := by unfold Env.blockKind; rw [h]; rfl
  rw [this]; rfl
theorem swp2 {env : Env} {x y : Str} {px py p p' : Pos} {n n' : Nat} {a b : Expr} (hk : env.scope.kind = .function) (hx : env.scope.names.lookup x = some .local) (hy : env.scope.names.lookup y = some .local) (hl : (px.line == py.line) = true) (hn : x ≠ y)
    (h1 : hasStar [a, b] = false) (h2 : [a, b].all (foldedForSure 8) = false) (h3 : [a, b].all (constantsAlone 8) = false) : swappedStores [.Tuple [.Name x px, .Name y py] n p] (.Tuple [a, b] n' p') env = pure (some [x, y]) := by
  have kx : env.kindOf x = some .local := hx
  have ky : env.kindOf y = some .local := hy
  have hl' : (py.line == px.line) = true := by rw [beq_iff_eq] at hl ⊢; exact hl.symm
  have h1' : ([a, b].any fun | .Starred .. => true | _ => false) = false := h1
  have hxx : (px.line == px.line) = true := beq_self_eq_true _
  have hne : (x == y) = false := beq_eq_false_iff_ne.mpr hn
  have hne' : (y == x) = false := beq_eq_false_iff_ne.mpr (Ne.symm hn)
  unfold swappedStores
  simp only [List.length_cons, List.length_nil, blockK hk, h1', h2, h3, List.head?_cons, Option.map_some, Option.getD_some, List.filterMap_cons, List.filterMap_nil, kx, ky, Expr.pos, hl', hxx, beq_self_eq_true, Bool.and_self, if_true, List.eraseDups_cons, List.filter_cons, List.filter_nil, hne, hne', Bool.not_false, Bool.or_false, bne_self_eq_false, Bool.false_or, List.eraseDups_nil]
  rw [if_neg (show ¬ ((!(true || 0 + 1 + 1 == 3)) = true) by decide)]
  show (if hasStar [a, b] = true then pure none else _) = _
  rw [if_neg (by rw [h1]; decide)]
  rfl
theorem swp3 {env : Env} {x y z : Str} {px py pz p p' : Pos} {n n' : Nat} {a b c : Expr} (hk : env.scope.kind = .function) (hx : env.scope.names.lookup x = some .local) (hy : env.scope.names.lookup y = some .local) (hz : env.scope.names.lookup z = some .local) (hl : (px.line == py.line) = true) (hl2 : (px.line == pz.line) = true) (hn : x ≠ y) (hn2 : x ≠ z) (hn3 : y ≠ z)
    (h1 : hasStar [a, b, c] = false) (h2 : [a, b, c].all (foldedForSure 8) = false) (h3 : [a, b, c].all (constantsAlone 8) = false) : swappedStores [.Tuple [.Name x px, .Name y py, .Name z pz] n p] (.Tuple [a, b, c] n' p') env = pure (some [x, y, z]) := by
  have kx : env.kindOf x = some .local := hx
  have ky : env.kindOf y = some .local := hy
  have kz : env.kindOf z = some .local := hz
  have hl' : (py.line == px.line) = true := by rw [beq_iff_eq] at hl ⊢; exact hl.symm
  have hl2' : (pz.line == px.line) = true := by rw [beq_iff_eq] at hl2 ⊢; exact hl2.symm
  have hxx : (px.line == px.line) = true := beq_self_eq_true _
  have n1 : (x == y) = false := beq_eq_false_iff_ne.mpr hn
  have n2 : (y == x) = false := beq_eq_false_iff_ne.mpr (Ne.symm hn)
  have n3 : (x == z) = false := beq_eq_false_iff_ne.mpr hn2
  have n4 : (z == x) = false := beq_eq_false_iff_ne.mpr (Ne.symm hn2)
  have n5 : (y == z) = false := beq_eq_false_iff_ne.mpr hn3
  have n6 : (z == y) = false := beq_eq_false_iff_ne.mpr (Ne.symm hn3)
  unfold swappedStores
  simp only [List.length_cons, List.length_nil, blockK hk, h2, h3, List.head?_cons, Option.map_some, Option.getD_some, List.filterMap_cons, List.filterMap_nil, kx, ky, kz, Expr.pos, hl', hl2', hxx, beq_self_eq_true, Bool.and_self, if_true, List.eraseDups_cons, List.filter_cons, List.filter_nil, n1, n2, n3, n4, n5, n6, Bool.not_false, Bool.or_false, bne_self_eq_false, Bool.false_or, List.eraseDups_nil]
  rw [if_neg (show ¬ ((!(0 + 1 + 1 + 1 == 2 || true)) = true) by decide)]
  show (if hasStar [a, b, c] = true then pure none else _) = _
  rw [if_neg (by rw [h1]; decide)]
  rfl
end
end Mp

/-! P10: every statement; defs; the law's end -/
namespace Mp
open PySem PySem.Spec PyProof.Rows L2
section
variable {T : TC} {cl : Nat → List D → Sto → Res D} {k : Nat}
theorem swL_false {X : Cx} {elt : Expr} {gs : List Comprehension} {scope : Scope} {pos py : Pos} {y : Str} {l : Nat} {env : Env} {b : Bool}
    (h : (env.blockKind == .function && env.kindOf y == some .local && py.line == (Expr.ListComp elt gs scope pos).pos.line && !(scope.names.any fun (n, k) => n == y && (k == .local || k == .cell))) = b) : swapsWith (.ListComp elt gs scope pos) (some (.Name y py)) l env = pure b := by
  rw [← h]
  rfl
theorem asg_ok {X : Cx} {sc : Scope} {fn : Str → Bool} {n : Nat} (G : Good T cl k sc fn X) {tg e : Expr} {pos : Pos} : PS X (.Assign [tg] e pos) (iS X.K cl (trAsg T (trE T n sc fn) sc fn tg e)) := by
  have hf : ∀ e c, trE T n sc fn e = some c → PE X e (iE X.K cl c) := fun e c h => (exp_ok n sc fn X G e c h).1
  have hs : ∀ e c, trE T n sc fn e = some c → ∀ es env, starEach (e :: es) env = (false, eval e env) :: starEach es env := fun e c h es env => trE_star h es env
  cases tg with
  | Name x px =>
    simp only [trAsg]
    split
    · rename_i hl
      split
      · rename_i i c h1 h2
        obtain ⟨l1, l2⟩ := isLoc_ok hl G.t
        have hN : X.N[i]? = some x := by rw [G.N]; exact slotOf_ok h1
        have fin : ∀ {te : TE}, (∀ σ H Q, iE X.K cl c σ H Q → te σ H Q) → PS X (.Assign [.Name x px] e pos) (tAsg te (gName i)) → PS X (.Assign [.Name x px] e pos) (iS X.K cl (.asg (.var i) c)) := fun {te} hte hp => by
          refine PS.imp hp fun E σ H ⟨env, st, ρ, er, so, fl, st', e, h⟩ => ?_
          simp only [evS] at e
          obtain ⟨d, s1, e1, e⟩ := bind_ok e
          simp only [asT] at e
          cases e
          refine hte _ _ _ (iE_of er so e1 fun v ρ1 H1 x1 so1 er1 r1 => ?_)
          exact h _ ρ1 H1 x1 so1 (er1.set r1)
        by_cases hc : isComp e = true
        · cases e with
          | ListComp elt gs scope p =>
            match gs, h2 with
            | [⟨tg, iter, ifs, z⟩], h2 =>
              cases n with
              | zero => simp [trE] at h2
              | succ n =>
                have h2' := h2
                simp only [trE] at h2
                split at h2
                · rename_i hb
                  rw [Bool.and_eq_true] at hb
                  obtain ⟨hz, hb⟩ := hb
                  have hz := of_decide_eq_true hz
                  subst hz
                  split at h2
                  · rename_i it t c1 q1 q2 q3
                    have hfn : ∀ e c, trE T n sc fn e = some c → PE X e (iE X.K cl c) := fun e c h => (exp_ok n sc fn X G e c h).1
                    have hsn : ∀ e c, trE T n sc fn e = some c → ∀ es env, starEach (e :: es) env = (false, eval e env) :: starEach es env := fun e c h es env => trE_star h es env
                    have hbl : BlkOk X.N X.env.scope scope (ownOf T scope) := by rw [G.N, G.sc]; exact blkOk_by hb
                    have GB := fun (s : Shared) (H : Hp) (C : Addr) (cl' : List (Str × Addr)) (fp : List Addr) => G.blk s H scope C cl' fp
                    have hi : PI X tg iter (iI X.K cl it) := iter_ok G hsn hfn q1
                    have hpt : ∀ (s : Shared) (H : Hp) (C : Addr) (cl' : List (Str × Addr)) (fp : List Addr), ∀ e c, trE T n (relS scope sc) (relFn scope) e = some c → PT (X.blk s H scope (compEnvC scope cl' C X.env) fp) e (iT X.K cl c) := fun s H C cl' fp e c he => (exp_ok n _ _ _ (GB s H C cl' fp) e c he).2
                    have go : ∀ (ci : CEo), (∀ (s : Shared) (H : Hp) (C : Addr) (cl' : List (Str × Addr)) (fp : List Addr), PTs (X.blk s H scope (compEnvC scope cl' C X.env) fp) ifs (iIf X.K cl ci)) → (∀ j ∈ tgVars t, j ∈ (ownOf T scope).map (·.2)) → c = .lc c1 t it ci ((ownOf T scope).map (·.2)) →
                        PS X (.Assign [.Name x px] (.ListComp elt [⟨tg, iter, ifs, 0⟩] scope p) pos) (iS X.K cl (.asg (.var i) c)) := fun ci hpts hv ec => by
                      obtain ⟨p1, p2⟩ := lc_ok (c := c1) (pos := p) G.calm G.nd hi hbl (fun s H C cl' fp => (tg2_ok (GB s H C cl' fp).t q2).1) hpts (fun s H C cl' fp => (exp_ok n _ _ _ (GB s H C cl' fp) elt c1 q3).1) (fun x => fold_ok q1 x) hv
                      cases hb2 : (X.env.blockKind == .function && X.env.kindOf x == some .local && px.line == (Expr.ListComp elt [⟨tg, iter, ifs, 0⟩] scope p).pos.line && !(scope.names.any fun (n, k) => n == x && (k == .local || k == .cell))) with
                      | true =>
                        have hloc : X.env.scope.names.lookup x = some .local := by
                          simp only [Bool.and_eq_true] at hb2
                          exact eq_of_beq hb2.1.1.2
                        exact fin (fun σ H Q q => p2 σ H Q (by rw [← ec]; exact q)) (ps_setLc G.calm G.nd hN hloc (swL_false (X := X) hb2) hi hbl (fun s H C cl' fp => (tg2_ok (GB s H C cl' fp).t q2).1) hpts (fun s H C cl' fp => (exp_ok n _ _ _ (GB s H C cl' fp) elt c1 q3).1) (fun x => fold_ok q1 x))
                      | false =>
                        exact fin (fun σ H Q q => q) (ps_set G.nd hN l1 (hf _ c h2') (swL_false (X := X) hb2) l2)
                    split at h2
                    · split at h2
                      · rename_i hv
                        cases h2
                        exact go .none (fun s H C cl' fp => (pts_ok (f := trE T n (relS scope sc) (relFn scope)) (hpt s H C cl' fp)).1) (fun j hj => of_decide_eq_true (List.all_eq_true.mp hv j hj)) rfl
                      · cases h2
                    · rename_i e'
                      split at h2
                      · rename_i d hd
                        split at h2
                        · rename_i hv
                          cases h2
                          exact go (.some d) (fun s H C cl' fp => (pts_ok (f := trE T n (relS scope sc) (relFn scope)) (hpt s H C cl' fp)).2 e' d hd) (fun j hj => of_decide_eq_true (List.all_eq_true.mp hv j hj)) rfl
                        · cases h2
                      · cases h2
                    · cases h2
                  · cases h2
                · cases h2
            | [], h2 => cases n <;> simp [trE] at h2
            | _ :: _ :: _, h2 => cases n <;> simp [trE] at h2
          | SetComp _ _ _ _ => cases n <;> simp [trE] at h2
          | DictComp _ _ _ _ _ => cases n <;> simp [trE] at h2
          | _ => cases hc
        · have hc : isComp e = false := by
            cases q : isComp e with
            | true => exact absurd q hc
            | false => rfl
          exact fin (fun σ H Q q => q) (ps_set G.nd hN l1 (hf e c h2) (sw_name hc) l2)
      · exact never_ok
    · exact never_ok
  | Tuple ts m p =>
    by_cases hv : ∃ vs m' p', e = .Tuple vs m' p'
    · obtain ⟨vs, m', p', rfl⟩ := hv
      simp only [trAsg]
      split
      · rename_i x px y py a b
        split
        · rename_i hcond
          simp only [Bool.and_eq_true, Bool.not_eq_true', decide_eq_true_eq, decide_eq_false_iff_not] at hcond
          obtain ⟨⟨⟨⟨⟨⟨⟨kx, ky⟩, kl⟩, kn⟩, kk⟩, k1⟩, k2⟩, k3⟩ := hcond
          split
          · rename_i i j c d h1 h2 h3 h4
            have lx : X.env.scope.names.lookup x = some .local := by rw [G.sc]; exact kindIn_loc kx
            have ly : X.env.scope.names.lookup y = some .local := by rw [G.sc]; exact kindIn_loc ky
            have hij : i ≠ j := fun z => by
              subst z
              have q1 := slotOf_ok h1
              rw [slotOf_ok h2] at q1
              exact kn (Option.some.inj q1).symm
            have PAc := trL_ok (f := trE T n sc fn) hs hf (es := [a, b]) (cs := .cons c (.cons d .nil)) (by simp [trL, h3, h4])
            refine PS.imp (ps_par (i := i) (j := j) G.calm G.nd (by rw [G.N]; exact slotOf_ok h1) (by rw [G.N]; exact slotOf_ok h2) hij lx ly PAc (swp2 (by rw [G.sc]; exact kk) lx ly kl kn k1 k2 k3)) fun E σ H ⟨env, st, ρ, er, so, fl, st', e, h⟩ => ?_
            simp only [evS] at e
            obtain ⟨d1, s1, e1, e⟩ := bind_ok e
            obtain ⟨d2, s2, e2, e⟩ := bind_ok e
            cases e
            refine ⟨env, st, ρ, er, so, [d1, d2], st', by simp only [evEs, e1, e2, Res.bind], fun vs ρ1 H1 x1 so1 r1 => ?_⟩
            cases r1 with
            | cons r1 r2 =>
              cases r2 with
              | cons r2 r3 =>
                cases r3
                exact ⟨_, _, rfl, h _ ρ1 H1 x1 so1 (((er.mono x1).set r1).set r2)⟩
          · exact never_ok
        · exact never_ok
      · rename_i x px y py z pz a b c
        split
        · rename_i hcond
          simp only [Bool.and_eq_true, Bool.not_eq_true', decide_eq_true_eq, decide_eq_false_iff_not] at hcond
          obtain ⟨⟨⟨⟨⟨⟨⟨⟨⟨⟨⟨kx, ky⟩, kz⟩, kl⟩, kl2⟩, kn⟩, kn2⟩, kn3⟩, kk⟩, k1⟩, k2⟩, k3⟩ := hcond
          split
          · rename_i i j l d e' g h1 h2 h3 h4 h5 h6
            have lx : X.env.scope.names.lookup x = some .local := by rw [G.sc]; exact kindIn_loc kx
            have ly : X.env.scope.names.lookup y = some .local := by rw [G.sc]; exact kindIn_loc ky
            have lz : X.env.scope.names.lookup z = some .local := by rw [G.sc]; exact kindIn_loc kz
            have ne : ∀ {u w : Str} {i j : Nat}, slotOf T u = some i → slotOf T w = some j → u ≠ w → i ≠ j := fun {u w i j} a b c z => by
              subst z
              have q1 := slotOf_ok a
              rw [slotOf_ok b] at q1
              exact c (Option.some.inj q1).symm
            have PAc := trL_ok (f := trE T n sc fn) hs hf (es := [a, b, c]) (cs := .cons d (.cons e' (.cons g .nil))) (by simp [trL, h4, h5, h6])
            refine PS.imp (ps_par3 (i := i) (j := j) (l := l) G.calm G.nd (by rw [G.N]; exact slotOf_ok h1) (by rw [G.N]; exact slotOf_ok h2) (by rw [G.N]; exact slotOf_ok h3) (ne h1 h2 kn) (ne h1 h3 kn2) (ne h2 h3 kn3) lx ly lz PAc (swp3 (by rw [G.sc]; exact kk) lx ly lz kl kl2 kn kn2 kn3 k1 k2 k3)) fun E σ H ⟨env, st, ρ, er, so, fl, st', e, h⟩ => ?_
            simp only [evS] at e
            obtain ⟨d1, s1, e1, e⟩ := bind_ok e
            obtain ⟨d2, s2, e2, e⟩ := bind_ok e
            obtain ⟨d3, s3, e3, e⟩ := bind_ok e
            cases e
            refine ⟨env, st, ρ, er, so, [d1, d2, d3], st', by simp only [evEs, e1, e2, e3, Res.bind], fun vs ρ1 H1 x1 so1 r1 => ?_⟩
            cases r1 with
            | cons r1 r2 =>
              cases r2 with
              | cons r2 r3 =>
                cases r3 with
                | cons r3 r4 =>
                  cases r4
                  exact ⟨_, _, _, rfl, h _ ρ1 H1 x1 so1 ((((er.mono x1).set r1).set r2).set r3)⟩
          · exact never_ok
        · exact never_ok
      · exact never_ok
    · have ht : trAsg T (trE T n sc fn) sc fn (.Tuple ts m p) e = (match trTg3 T sc fn (.Tuple ts m p), trE T n sc fn e with
          | some t, some c => .asg t c
          | _, _ => .never) := by
        cases e <;> first
          | rfl
          | exact absurd ⟨_, _, _, rfl⟩ hv
      rw [ht]
      split
      · rename_i t c h1 h2
        obtain ⟨g1, g2⟩ := tg3_ok (cl := cl) G.t h1
        have q1 : swapsWithSole [.Tuple ts m p] e pos.line X.env = pure false := by
          cases e <;> rfl
        have q2 : swappedStores [.Tuple ts m p] e X.env = pure none := by
          cases e <;> first
            | rfl
            | exact absurd ⟨_, _, _, rfl⟩ hv
        exact asg_of (te := iE X.K cl c) (g := iTg X.K cl t) (tg := .Tuple ts m p) (e := e) (ps_asg (hf e c h2) g1 q1 q2 (by rw [g2]; rfl))
      · exact never_ok
  | Subscript o i p =>
    simp only [trAsg]
    split
    · rename_i c d g h1 h2 h3
      have hg : PG X (.Subscript o i p) (iTg X.K cl (.ix c d)) := by
        have hpl : ∀ v, assign (.Subscript o i p) X.env v = (do
            let ov ← holding [v] (eval o X.env)
            let iv ← holding [v, ov] (eval i X.env)
            standAt p
            holding [v, ov, iv] (setItem ov iv v)
            release [v, ov, iv] []) := by
          intro v
          cases i <;> first
            | rfl
            | (cases n <;> simp [trE] at h2)
        refine PG.imp (pg_sub (hf o c h1) (hf i d h2) set_ok hpl) fun v σ H Q ⟨d0, env, st, ρ, r, er, so, env', st', e, h⟩ => ?_
        simp only [asT] at e
        obtain ⟨d1, s1, e1, e⟩ := bind_ok e
        obtain ⟨d2, s2, e2, e⟩ := bind_ok e
        obtain ⟨st3, s3, e3, e⟩ := bind_ok e
        obtain ⟨e4, rfl⟩ := ofO_ok e3
        cases e
        refine iE_of er so e1 fun v1 ρ1 H1 x1 so1 er1 r1 => ?_
        refine iE_of er1 so1 e2 fun v2 ρ2 H2 x2 so2 er2 r2 => ?_
        refine ⟨d1, d2, d0, ρ2, s2, st', r1.mono x2, r2, r.mono (x1.trans x2), so2, e4, fun ρ3 H3 x3 so3 => ?_⟩
        exact h σ ρ3 H3 ((x1.trans x2).trans x3) so3 (er2.mono x3) rfl fun _ _ => rfl
      have q1 : swapsWithSole [.Subscript o i p] e pos.line X.env = pure false := by
        cases e <;> rfl
      have q2 : swappedStores [.Subscript o i p] e X.env = pure none := by
        cases e <;> rfl
      exact asg_of (te := iE X.K cl g) (g := iTg X.K cl (.ix c d)) (tg := .Subscript o i p) (e := e) (ps_asg (hf e g h3) hg q1 q2 rfl)
    · exact never_ok
  | _ => exact never_ok
theorem stm_ok : ∀ (n : Nat) (sc : Scope) (fn : Str → Bool) (X : Cx), Good T cl k sc fn X → (∀ s : Stmt, PS X s (iS X.K cl (trS T n sc fn s))) ∧ ∀ b : List Stmt, PSs X b (iB X.K cl (trB T n sc fn b)) := by
  intro n
  induction n with
  | zero =>
    intro sc fn X G
    have hS : ∀ s : Stmt, PS X s (iS X.K cl (trS T 0 sc fn s)) := fun s => by
      simp only [trS]
      exact never_ok
    refine ⟨hS, fun b => ?_⟩
    induction b with
    | nil =>
      simp only [trB, trBf]
      refine PSs.imp pss_nil fun E σ H ⟨env, st, ρ, er, so, fl, st', e, h⟩ => ?_
      simp only [evB] at e
      cases e
      exact h σ ρ H Ext.refl so er
    | cons s b ih =>
      simp only [trB, trBf]
      refine PSs.imp (pss_cons (hS s) (show PSs X b (iB X.K cl (trBf _ b)) from ih)) fun E σ H ⟨env, st, ρ, er, so, fl, st', e, h⟩ => ?_
      simp only [evB, trS, evS] at e
      cases e
  | succ n ih =>
    intro sc fn X G
    obtain ⟨ihS, ihB⟩ := ih sc fn X G
    have hf : ∀ e c, trE T n sc fn e = some c → PE X e (iE X.K cl c) := fun e c h => (exp_ok n sc fn X G e c h).1
    have ht : ∀ e c, trE T n sc fn e = some c → PT X e (iT X.K cl c) := fun e c h => (exp_ok n sc fn X G e c h).2
    have hs : ∀ e c, trE T n sc fn e = some c → ∀ es env, starEach (e :: es) env = (false, eval e env) :: starEach es env := fun e c h es env => trE_star h es env
    have hS : ∀ s : Stmt, PS X s (iS X.K cl (trS T (n + 1) sc fn s)) := by
      intro s
      cases s with
      | Expr e pos =>
        simp only [trS]
        split
        · rename_i hc
          split
          · rename_i c h1
            have hsw : swapsWith e none pos.line X.env = pure false := by
              cases e <;> first
                | rfl
                | cases hc
            refine PS.imp (ps_expr (hf e c h1) hsw) fun E σ H ⟨env, st, ρ, er, so, fl, st', e, h⟩ => ?_
            simp only [evS] at e
            obtain ⟨d, s1, e1, e⟩ := bind_ok e
            cases e
            exact iE_of er so e1 fun v ρ1 H1 x1 so1 er1 r1 => h σ ρ1 H1 x1 so1 er1
          · exact never_ok
        · exact never_ok
      | Return o pos =>
        cases o with
        | none =>
          simp only [trS]
          refine PS.imp ps_retN fun E σ H ⟨env, st, ρ, er, so, fl, st', e, h⟩ => ?_
          simp only [evS] at e
          cases e
          exact h .non ρ H Ext.refl so .non
        | some e =>
          simp only [trS]
          split
          · rename_i c h1
            refine PS.imp (ps_ret (hf e c h1)) fun E σ H ⟨env, st, ρ, er, so, fl, st', e, h⟩ => ?_
            simp only [evS] at e
            obtain ⟨d, s1, e1, e⟩ := bind_ok e
            cases e
            exact iE_of er so e1 fun v ρ1 H1 x1 so1 er1 r1 => h v ρ1 H1 x1 so1 r1
          · exact never_ok
      | Assign tgs e pos =>
        match tgs with
        | [tg] =>
          simp only [trS]
          exact asg_ok G
        | [] => simp only [trS]; exact never_ok
        | _ :: _ :: _ => simp only [trS]; exact never_ok
      | AugAssign tg op e pos =>
        cases tg with
        | Name x px =>
          simp only [trS]
          split
          · rename_i hl
            split
            · rename_i i o c h1 h2 h3
              obtain ⟨l1, l2⟩ := isLoc_ok hl G.t
              have hN : X.N[i]? = some x := by rw [G.N]; exact slotOf_ok h1
              cases op <;> first
                | (cases h2; done)
                | skip
              · cases h2
                refine PS.imp (ps_aug (i := i) G.nd hN l1 (hf e c h3) ip_add l2) fun E σ H ⟨env, st, ρ, er, so, fl, st', e, h⟩ => ?_
                simp only [evS] at e
                split at e
                · rename_i d0 q0
                  obtain ⟨d, s1, e1, e⟩ := bind_ok e
                  obtain ⟨v0, w0, r0⟩ := er.at_ _ _ q0
                  refine ⟨v0, w0, iE_of er so e1 fun v ρ1 H1 x1 so1 er1 r1 => ?_⟩
                  have r0 := r0.mono x1
                  cases r0 <;> cases r1 <;> first
                    | (cases e; done)
                    | skip
                  cases e
                  exact ⟨_, _, rfl, rfl, h _ ρ1 H1 x1 so1 (er1.set (.int _))⟩
                · cases e
              · cases h2
                refine PS.imp (ps_aug (i := i) G.nd hN l1 (hf e c h3) ip_sub l2) fun E σ H ⟨env, st, ρ, er, so, fl, st', e, h⟩ => ?_
                simp only [evS] at e
                split at e
                · rename_i d0 q0
                  obtain ⟨d, s1, e1, e⟩ := bind_ok e
                  obtain ⟨v0, w0, r0⟩ := er.at_ _ _ q0
                  refine ⟨v0, w0, iE_of er so e1 fun v ρ1 H1 x1 so1 er1 r1 => ?_⟩
                  have r0 := r0.mono x1
                  cases r0 <;> cases r1 <;> first
                    | (cases e; done)
                    | skip
                  cases e
                  exact ⟨_, _, rfl, rfl, h _ ρ1 H1 x1 so1 (er1.set (.int _))⟩
                · cases e
            · exact never_ok
          · exact never_ok
        | _ => simp only [trS]; exact never_ok
      | If t a b pos =>
        simp only [trS]
        split
        · rename_i c h1
          refine PS.imp (ps_if (ht t c h1) (ihB a) (ihB b)) fun E σ H ⟨env, st, ρ, er, so, fl, st', e, h⟩ => ?_
          simp only [evS] at e
          obtain ⟨bb, s1, e1, e⟩ := bind_ok e
          refine iT_of er so e1 fun ρ1 H1 x1 so1 er1 => ?_
          cases bb with
          | true => exact ⟨env, s1, ρ1, er1, so1, fl, st', e, h.mono x1⟩
          | false => exact ⟨env, s1, ρ1, er1, so1, fl, st', e, h.mono x1⟩
        · exact never_ok
      | While t a els pos =>
        cases els with
        | cons _ _ => simp only [trS]; exact never_ok
        | nil =>
          simp only [trS]
          split
          · rename_i c h1
            exact while_ok G (ht t c h1) (ihB a)
          · exact never_ok
      | For tg it a els pos =>
        cases els with
        | cons _ _ => simp only [trS]; exact never_ok
        | nil =>
          simp only [trS]
          split
          · rename_i t c h1 h2
            exact for_ok G (iter_ok G hs hf h2) (tg3_ok G.t h1).1 (ihB a) (fun x => fold_ok h2 x)
          · exact never_ok
      | Break pos =>
        simp only [trS]
        refine PS.imp ps_break fun E σ H ⟨env, st, ρ, er, so, fl, st', e, h⟩ => ?_
        simp only [evS] at e
        cases e
        exact h σ ρ H Ext.refl so er
      | Continue pos =>
        simp only [trS]
        refine PS.imp ps_continue fun E σ H ⟨env, st, ρ, er, so, fl, st', e, h⟩ => ?_
        simp only [evS] at e
        cases e
        exact h σ ρ H Ext.refl so er
      | Pass pos =>
        simp only [trS]
        refine PS.imp ps_pass fun E σ H ⟨env, st, ρ, er, so, fl, st', e, h⟩ => ?_
        simp only [evS] at e
        cases e
        exact h σ ρ H Ext.refl so er
      | _ => simp only [trS]; exact never_ok
    refine ⟨hS, fun b => ?_⟩
    induction b with
    | nil =>
      simp only [trB, trBf]
      refine PSs.imp pss_nil fun E σ H ⟨env, st, ρ, er, so, fl, st', e, h⟩ => ?_
      simp only [evB] at e
      cases e
      exact h σ ρ H Ext.refl so er
    | cons s b ih =>
      simp only [trB, trBf]
      refine PSs.imp (pss_cons (hS s) (show PSs X b (iB X.K cl (trBf _ b)) from ih)) fun E σ H ⟨env, st, ρ, er, so, fl, st', e, h⟩ => ?_
      simp only [evB] at e
      obtain ⟨f, s1, e1, e⟩ := bind_ok e
      refine ⟨env, st, ρ, er, so, f, s1, e1, ?_⟩
      cases f with
      | nx env1 => exact fun σ' ρ1 H1 x1 so1 er1 => ⟨env1, s1, ρ1, er1, so1, fl, st', e, h.mono x1⟩
      | rt d =>
        cases e
        exact h
      | bk env1 =>
        cases e
        exact h
      | ct env1 =>
        cases e
        exact h
end
end Mp

/-! P11: the defs of a text, the law's end -/
namespace Mp
open PySem PySem.Spec PyProof.Rows L2
/-- a def: its name, its parameters, all its names, what it is here, where it stands -/
structure Fdt where
  x : Str
  ps : List Str
  N : List Str
  fn : Fn
  d : He.DefD
/-- what a text's constants and keyword calls are -/
structure Txt where
  fds : List Fdt
  cns : List (Str × Int)
  kws : List (Nat × Nat × List Str × List Nat)
def Txt.fns (t : Txt) : List (Str × List Str) := t.fds.map fun f => (f.x, f.ps)
def Txt.prog (t : Txt) : List Fn := t.fds.map fun f => f.fn
def Txt.tc (t : Txt) (N : List Str) : TC := ⟨N, t.fns, t.cns, t.kws⟩
structure FdOk (t : Txt) (f : Fdt) : Prop where
  sc : FnScope f.N f.ps f.d.scope
  np : f.fn.np = f.ps.length
  nn : f.fn.nn = f.N.length
  body : trB (t.tc f.N) 60 f.d.scope (fun _ => true) f.d.body = f.fn.body
  dat : f.d = ⟨(f.x, none), f.x, f.x, f.d.params, f.d.body, f.d.scope, [], []⟩
  bind : ∀ (kV doc pm : Value) (an : Option Addr) (cdv ct : Value) (us : List Value), us.length = f.ps.length → bindArgs (PySem.W.fnOf f.x f.x f.d.params f.d.body f.d.scope .none kV doc pm an cdv ct) ⟨us, []⟩ = pure (f.ps.zip us)
def KwOk (t : Txt) (p : Nat × Nat × List Str × List Nat) : Prop := ∀ f, t.fds[p.1]? = some f → ∀ (kV doc pm : Value) (an : Option Addr) (cdv ct : Value) (us ws : List Value), us.length = p.2.1 → ws.length = p.2.2.1.length →
  bindArgs (PySem.W.fnOf f.x f.x f.d.params f.d.body f.d.scope .none kV doc pm an cdv ct) ⟨us, p.2.2.1.zip ws⟩ = pure (f.ps.zip (permV Value.none p.2.2.2 us ws))
theorem vals_perm {vs zs : List V} {us ws : List Value} (perm : List Nat) (r : Vals vs us) (q : Vals zs ws) : Vals (permV V.non perm vs zs) (permV Value.none perm us ws) := by
  have a := r.append q
  unfold permV
  induction perm with
  | nil => exact .nil
  | cons i is ih =>
    refine .cons ?_ ih
    show RelV ((vs ++ zs).getD i .non) ((us ++ ws).getD i .none)
    rw [List.getD_eq_getElem?_getD, List.getD_eq_getElem?_getD]
    cases e : (vs ++ zs)[i]? with
    | none => rw [a.none_of e]; rfl
    | some d =>
      obtain ⟨v, e2, r2⟩ := a.get e
      rw [e2]; exact r2
theorem callF_len {prog : List Fn} {n i : Nat} {ds : List D} {st s : Sto} {d : D} (h : callF prog n i ds st = .ok d s) : ∃ f, prog[i]? = some f ∧ ds.length = f.np := by
  cases n with
  | zero => cases h
  | succ n =>
    unfold callF at h
    split at h
    · rename_i f e
      split at h
      · rename_i g
        exact ⟨f, e, g⟩
      · cases h
    · cases h
section
variable {t : Txt} {P : Program} {w : World} {K : PySem.W.Frag} {mg : Str → Option Value} {base : Heap}
theorem start_ok {ρ : List Addr} {H : Hp} {ds : List D} {vs : List V} {N : List Str} {nn : Nat} (h : RepVs K ρ H ds vs) (hn : nn = N.length) : EnvR K ρ H (ds.map some ++ List.replicate (nn - ds.length) none) (L2.start N vs) := by
  unfold L2.start
  have hl := h.length
  refine ⟨by simp [hl, hn], fun i d e => ?_⟩
  by_cases c : i < ds.length
  · rw [List.getElem?_append_left (by simpa using c), List.getElem?_map] at e
    rw [List.getElem?_append_left (by simpa [← hl] using c), List.getElem?_map]
    cases q : ds[i]? with
    | none => rw [q] at e; cases e
    | some d' =>
      rw [q] at e; cases e
      obtain ⟨v, e2, r⟩ := h.get q
      exact ⟨v, by rw [e2]; rfl, r⟩
  · rw [List.getElem?_append_right (by simpa using c), List.getElem?_replicate] at e
    split at e <;> cases e
theorem all_okF (hF : ∀ (i : Nat) (f : Fdt), t.fds[i]? = some f → mg f.x = some (.ref (He.ga K f.x)) ∧ FdOk t f ∧ ∃ fd, FunD K f.x f.x f.d.params f.d.body f.d.scope [] [] (He.ga K f.x) fd)
    (hk : ∀ p ∈ t.kws, KwOk t p) (hc : ∀ x i, t.cns.lookup x = some i → ∃ u, mg x = some (.int i u)) (hb : ∀ x ∈ BN, mg x = none) :
    ∀ (n i : Nat) (f : Fdt), t.fds[i]? = some f → ∀ fd : FuncData, FunD K f.x f.x f.d.params f.d.body f.d.scope [] [] (He.ga K f.x) fd → FnOk P w K mg base CX0 n (He.ga K f.x) fd f.ps (spI K (callF t.prog n) i f.ps.length)
  | 0, i, f, hi, fd, F => by
    refine ⟨fun vs H Q E h => h.1, fun A outer s H args us vs Q E _ _ _ _ h => ?_⟩
    obtain ⟨_, ds, ρ, st, _, _, h⟩ := h
    exact (show RE K Res.no ρ H Q from h).no.elim
  | n + 1, i, f, hi, fd, F => by
    obtain ⟨h1, h2, _⟩ := hF i f hi
    have ih := all_okF hF hk hc hb n
    refine F.ok h2.sc (fun vs H Q E h => h.1) fun cdv A outer s H vs Q E hr h => ?_
    obtain ⟨hl, ds, ρ, st, rs, so, h⟩ := h
    have G : Good (t.tc f.N) (callF t.prog n) n f.d.scope (fun _ => true) (cxOf CX0 P w K mg base f.N f.x f.d.scope (He.ga K f.x) cdv A outer s H E).nox := {
      sc := rfl
      N := rfl
      nd := h2.sc.nd
      calm := rfl
      fn := fun _ _ => rfl
      room := hr
      xe := rfl
      cns := hc
      free := hb
      fns := fun j x ps hj => by
        have hj : (t.fds.map fun f => (f.x, f.ps))[j]? = some (x, ps) := hj
        rw [List.getElem?_map] at hj
        cases q : t.fds[j]? with
        | none => rw [q] at hj; cases hj
        | some g =>
          rw [q] at hj; cases hj
          obtain ⟨g1, g2, gd, GF⟩ := hF j g q
          refine ⟨_, gd, g1, GF.kp, ih j g q gd GF, GF.bindsN g2.bind, fun m ks perm hm => ?_⟩
          have hkw := hk _ hm g q
          obtain ⟨oc, od, dV, kV, doc, pm, an, cdv, ct, osl, rfl, lk, hcd, hD, hK⟩ := GF.ex
          rcases hD with ⟨_, rfl⟩ | ⟨e, _⟩
          · exact ⟨fun s us ws X l1 l2 => .of_eq (hkw kV doc pm an cdv ct us ws l1 l2), fun r1 r2 => vals_perm perm r1 r2⟩
          · exact absurd rfl e
      clen := fun j ds st d st' e => by
        obtain ⟨g, q1, q2⟩ := callF_len e
        have q1 : (t.fds.map fun f => f.fn)[j]? = some g := q1
        rw [List.getElem?_map] at q1
        cases q : t.fds[j]? with
        | none => rw [q] at q1; cases q1
        | some g' =>
          rw [q] at q1; cases q1
          refine ⟨g'.x, g'.ps, ?_, ?_⟩
          · show (t.fds.map fun f => (f.x, f.ps))[j]? = _
            rw [List.getElem?_map, q]; rfl
          · rw [q2, (hF j g' q).2.1.np] }
    refine ⟨_, PSs.nox ((stm_ok 60 f.d.scope (fun _ => true) _ G).2 f.d.body), ?_⟩
    rw [h2.body]
    obtain ⟨d, s', e, h⟩ := h
    unfold callF at e
    split at e
    · rename_i g eg
      have eg : (t.fds.map fun f => f.fn)[i]? = some g := eg
      rw [List.getElem?_map, hi] at eg
      cases eg
      split at e
      · obtain ⟨fl, s2, e1, e2⟩ := bind_ok e
        refine ⟨_, st, ρ, start_ok rs h2.nn, so, fl, s2, e1, ?_⟩
        cases fl with
        | nx env => cases e2; exact fun σ' ρ' H' x so' er => h .non ρ' H' x so' .non
        | rt d' => cases e2; exact fun v ρ' H' x so' r => h v ρ' H' x so' r
        | bk env => cases e2
        | ct env => cases e2
      · cases e
    · cases e
theorem frzL_of {H : Hp} {a : Addr} {ns : List Int} (hO : Only H) (h : SqL K H a (ns.map V.int)) : FrzL K H a (ns.map V.int) := by
  rcases h with (h | ⟨o, h⟩) | h
  · rcases hO a with q | ⟨o, xs, q⟩
    · rw [q] at h; cases h
    · rw [q] at h; cases h
  · exact .inl ⟨o, h⟩
  · exact .inr h
theorem script_rep {ρ : List Addr} {H : Hp} : ∀ ns : List Int, RepVs K ρ H (ns.map D.int) (ns.map V.int)
  | [] => .nil
  | n :: ns => .cons (.int n) (script_rep ns)
/-- the law's promise, from its evaluation -/
theorem law_sp {n i : Nat} (h : ∀ ns : List Int, ns.length ≤ 63 → ∃ st, callF t.prog n i [.ref 0] [.frz (ns.map D.int)] = .ok (.bl true) st) (H : Hp) (a : Addr) (ns : List Int) (hl : ns.length ≤ 63) (hO : Only H) (hS : SqL K H a (ns.map V.int)) :
    spI K (callF t.prog n) i 1 [.ref a] H (fun v _ => v = .bl true) (fun _ _ _ => False) := by
  obtain ⟨st, e⟩ := h ns hl
  refine ⟨rfl, [.ref 0], [a], [.frz (ns.map D.int)], .cons (.ref rfl) .nil, ⟨rfl, fun r q b xs ys h1 => ?_, fun r o h1 => ?_⟩, .bl true, st, e, fun v ρ' H' _ _ r => by cases r; rfl⟩
  · cases r with
    | zero => cases h1
    | succ r => simp at h1
  · cases r with
    | zero => cases h1; exact ⟨a, rfl, _, frzL_of hO hS, script_rep ns⟩
    | succ r => simp at h1
end
end Mp

/-! P12: reasoning on evaluations -/
namespace Mp
open PySem L2
/-- it ends, so -/
def wp {α : Type} (r : Res α) (Q : α → Sto → Prop) : Prop := ∃ a s, r = .ok a s ∧ Q a s
section
variable {α β : Type} {r : Res α} {Q Q' : α → Sto → Prop} {a : α} {s st : Sto}
theorem wp_mono (h : wp r Q) (i : ∀ a s, Q a s → Q' a s) : wp r Q' := by
  obtain ⟨a, s, e, q⟩ := h
  exact ⟨a, s, e, i a s q⟩
theorem wp_ok : wp (.ok a s) Q ↔ Q a s := ⟨fun ⟨_, _, e, q⟩ => (by cases e; exact q), fun q => ⟨_, _, rfl, q⟩⟩
theorem wp_no : wp (.no : Res α) Q ↔ False := ⟨fun ⟨_, _, e, _⟩ => (by cases e), fun h => h.elim⟩
theorem wp_bind {f : α → Sto → Res β} {Q : β → Sto → Prop} : wp (r.bind f) Q ↔ wp r fun a s => wp (f a s) Q := by
  cases r with
  | ok a s => exact ⟨fun h => wp_ok.mpr h, fun h => wp_ok.mp h⟩
  | no => exact ⟨fun h => (by obtain ⟨_, _, e, _⟩ := h; cases e), fun h => (by obtain ⟨_, _, e, _⟩ := h; cases e)⟩
theorem wp_guard {b : Bool} : wp (guardR b r) Q ↔ b = true ∧ wp r Q := by
  cases b with
  | true => exact ⟨fun h => ⟨rfl, h⟩, fun h => h.2⟩
  | false => exact ⟨fun h => (wp_no.mp h).elim, fun h => (by cases h.1)⟩
theorem wp_ofO {o : Option α} : wp (ofO o s) Q ↔ ∃ a, o = some a ∧ Q a s := by
  cases o with
  | none => exact ⟨fun h => (wp_no.mp h).elim, fun ⟨_, h, _⟩ => (by cases h)⟩
  | some b => exact ⟨fun h => ⟨b, rfl, wp_ok.mp h⟩, fun ⟨_, h, q⟩ => (by cases h; exact wp_ok.mpr q)⟩
theorem wp_ite {b : Bool} {r' : Res α} : wp (if b = true then r else r') Q ↔ (b = true → wp r Q) ∧ (b = false → wp r' Q) := by
  cases b with
  | true => exact ⟨fun h => ⟨fun _ => h, fun z => (by cases z)⟩, fun h => h.1 rfl⟩
  | false => exact ⟨fun h => ⟨fun z => (by cases z), fun _ => h⟩, fun h => h.2 rfl⟩
theorem wp_iteP {c : Prop} [Decidable c] {r' : Res α} : wp (if c then r else r') Q ↔ (c → wp r Q) ∧ (¬ c → wp r' Q) := by
  by_cases h : c
  · rw [if_pos h]; exact ⟨fun q => ⟨fun _ => q, fun z => (z h).elim⟩, fun q => q.1 h⟩
  · rw [if_neg h]; exact ⟨fun q => ⟨fun z => (h z).elim, fun _ => q⟩, fun q => q.2 h⟩
theorem wp_ofO_some : wp (ofO (some a) s) Q ↔ Q a s := wp_ok
theorem wp_newL {ds : List D} {Q : D → Sto → Prop} : wp (newL ds st) Q ↔ ds.length ≤ sizeLine ∧ Q (.ref st.length) (st ++ [.lst ds]) := by
  unfold newL
  rw [wp_guard, decide_eq_true_eq, wp_ok]
theorem wp_newT {ds : List D} {Q : D → Sto → Prop} : wp (newT ds st) Q ↔ ds.length ≤ sizeLine ∧ Q (.tup ds) st := by
  unfold newT
  rw [wp_guard, decide_eq_true_eq, wp_ok]
/-- a call -/
theorem wp_call {prog : List Fn} {n i : Nat} {args : List D} {Q : D → Sto → Prop} {f : Fn} (hp : prog[i]? = some f) (hl : args.length = f.np) :
    wp (callF prog (n + 1) i args st) Q ↔ wp (evB (callF prog n) f.body (args.map some ++ List.replicate (f.nn - args.length) none) st) fun fl s => match fl with
      | .nx _ => Q .non s
      | .rt d => Q d s
      | _ => False := by
  unfold callF
  rw [hp]
  simp only [hl, if_true]
  unfold endF
  rw [wp_bind]
  constructor
  · intro h
    refine wp_mono h fun fl s q => ?_
    cases fl with
    | nx e => exact wp_ok.mp q
    | rt d => exact wp_ok.mp q
    | bk e => exact wp_no.mp q
    | ct e => exact wp_no.mp q
  · intro h
    refine wp_mono h fun fl s q => ?_
    cases fl with
    | nx e => exact wp_ok.mpr q
    | rt d => exact wp_ok.mpr q
    | bk e => exact q.elim
    | ct e => exact q.elim
end
/-! ### the store -/
section
variable {st : Sto} {o o' : O} {r : Nat} {ds : List D}
theorem get_last : (st ++ [o])[st.length]? = some o := List.getElem?_concat_length
theorem set_last : (st ++ [o]).set st.length o' = st ++ [o'] := by
  rw [List.set_append_right _ _ (Nat.le_refl _)]
  simp
theorem lstAt_last : lstAt (st ++ [.lst ds]) st.length = some ds := by
  unfold lstAt
  rw [get_last]
theorem get_old (h : st[r]? = some o) : (st ++ [o'])[r]? = some o := by
  rw [List.getElem?_append_left (List.getElem?_eq_some_iff.mp h).1]
  exact h
end
/-! ### loops -/
section
variable {k : Wk} {bind : D → Ev → Sto → Res Ev} {body : Ev → Sto → Res Fl} {Q : Fl → Sto → Prop}
/-- a for over n items, by an invariant P over (turn, names, store) -/
theorem wp_for (n : Nat) (P : Nat → Ev → Sto → Prop) (hn : n < TURNS) {env : Ev} {st : Sto} (h0 : P 0 env st)
    (hit : ∀ i env st, i ≤ n → P i env st → ∃ o, k.at i st = some o ∧ (o = none ↔ i = n))
    (turn : ∀ i env st d, i < n → P i env st → k.at i st = some (some d) → wp (bind d env st) fun env1 st1 => wp (body env1 st1) fun f st2 => match f with
      | .nx env2 => P (i + 1) env2 st2
      | .ct env2 => P (i + 1) env2 st2
      | .bk env2 => Q (.nx env2) st2
      | .rt d => Q (.rt d) st2)
    (fin : ∀ env st, P n env st → Q (.nx env) st) : wp (forL k bind body TURNS 0 env st) Q := by
  have key : ∀ (m i : Nat) (env : Ev) (st : Sto), i ≤ n → n - i < m → P i env st → wp (forL k bind body m i env st) Q := by
    intro m
    induction m with
    | zero => intro i env st _ h; omega
    | succ m ih =>
      intro i env st hi hm hP
      obtain ⟨o, ho, hc⟩ := hit i env st hi hP
      show wp (match k.at i st with
        | none => Res.no
        | some none => .ok (.nx env) st
        | some (some d) => (bind d env st).bind fun env1 st1 => (body env1 st1).bind fun f st2 => match f with
          | .nx env2 => forL k bind body m (i + 1) env2 st2
          | .ct env2 => forL k bind body m (i + 1) env2 st2
          | .bk env2 => .ok (.nx env2) st2
          | .rt d => .ok (.rt d) st2) Q
      rw [ho]
      cases o with
      | none =>
        have : i = n := hc.mp rfl
        subst this
        exact wp_ok.mpr (fin env st hP)
      | some d =>
        have hlt : i < n := by
          have : i ≠ n := fun z => by have := hc.mpr z; cases this
          omega
        refine wp_bind.mpr (wp_mono (turn i env st d hlt hP ho) fun env1 st1 q => wp_bind.mpr (wp_mono q fun f st2 q => ?_))
        cases f with
        | nx env2 => exact ih _ _ _ hlt (by omega) q
        | ct env2 => exact ih _ _ _ hlt (by omega) q
        | bk env2 => exact wp_ok.mpr q
        | rt d => exact wp_ok.mpr q
  exact key TURNS 0 env st (Nat.zero_le _) (by omega) h0
/-- a while, by an invariant over (names, store) and a measure below the line -/
theorem wp_while {test : Ev → Sto → Res Bool} (P : Nat → Ev → Sto → Prop) (n : Nat) (hn : n < TURNS) {env : Ev} {st : Sto} (h0 : P n env st)
    (turn : ∀ m env st, P m env st → wp (test env st) fun b st1 => (b = true → wp (body env st1) fun f st2 => match f with
      | .nx env2 => ∃ m', m' < m ∧ P m' env2 st2
      | .ct env2 => ∃ m', m' < m ∧ P m' env2 st2
      | .bk env2 => Q (.nx env2) st2
      | .rt d => Q (.rt d) st2) ∧ (b = false → Q (.nx env) st1)) : wp (whlL test body TURNS env st) Q := by
  have key : ∀ (m n : Nat) (env : Ev) (st : Sto), n < m → P n env st → wp (whlL test body m env st) Q := by
    intro m
    induction m with
    | zero => intro n env st h; omega
    | succ m ih =>
      intro n env st hm hP
      show wp ((test env st).bind fun b st1 => if b then (body env st1).bind fun f st2 => match f with
        | .nx env2 => whlL test body m env2 st2
        | .ct env2 => whlL test body m env2 st2
        | .bk env2 => .ok (.nx env2) st2
        | .rt d => .ok (.rt d) st2
      else .ok (.nx env) st1) Q
      refine wp_bind.mpr (wp_mono (turn n env st hP) fun b st1 q => ?_)
      cases b with
      | false => exact wp_ok.mpr (q.2 rfl)
      | true =>
        refine wp_bind.mpr (wp_mono (q.1 rfl) fun f st2 q => ?_)
        cases f with
        | nx env2 => obtain ⟨m', h1, h2⟩ := q; exact ih m' env2 st2 (by omega) h2
        | ct env2 => obtain ⟨m', h1, h2⟩ := q; exact ih m' env2 st2 (by omega) h2
        | bk env2 => exact wp_ok.mpr q
        | rt d => exact wp_ok.mpr q
  exact key TURNS n env st hn h0
/-- a comprehension over n items -/
theorem wp_comp {bind : D → Sto → Res Ev} {test : Ev → Sto → Res Bool} {elt : Ev → Sto → Res D} {r : Nat} {Q : D → Sto → Prop} (n : Nat) (P : Nat → Sto → Prop) (hn : n < TURNS) {st : Sto} (h0 : P 0 st)
    (hit : ∀ i st, i ≤ n → P i st → ∃ o, k.at i st = some o ∧ (o = none ↔ i = n))
    (turn : ∀ i st d, i < n → P i st → k.at i st = some (some d) → wp (bind d st) fun env1 st1 => wp (test env1 st1) fun b st2 =>
      (b = true → wp (elt env1 st2) fun y st3 => ∃ acc, st3[r]? = some (.lst acc) ∧ acc.length < sizeLine ∧ P (i + 1) (st3.set r (.lst (acc ++ [y])))) ∧ (b = false → P (i + 1) st2))
    (fin : ∀ st, P n st → Q (.ref r) st) : wp (compL k bind test elt r TURNS 0 st) Q := by
  have key : ∀ (m i : Nat) (st : Sto), i ≤ n → n - i < m → P i st → wp (compL k bind test elt r m i st) Q := by
    intro m
    induction m with
    | zero => intro i st _ h; omega
    | succ m ih =>
      intro i st hi hm hP
      obtain ⟨o, ho, hc⟩ := hit i st hi hP
      show wp (match k.at i st with
        | none => Res.no
        | some none => .ok (.ref r) st
        | some (some d) => (bind d st).bind fun env1 st1 => (test env1 st1).bind fun b st2 => if b then
            (elt env1 st2).bind fun y st3 => match st3[r]? with
              | some (.lst acc) => guardR (decide (acc.length < sizeLine)) (compL k bind test elt r m (i + 1) (st3.set r (.lst (acc ++ [y]))))
              | _ => .no
          else compL k bind test elt r m (i + 1) st2) Q
      rw [ho]
      cases o with
      | none =>
        have : i = n := hc.mp rfl
        subst this
        exact wp_ok.mpr (fin st hP)
      | some d =>
        have hlt : i < n := by
          have : i ≠ n := fun z => by have := hc.mpr z; cases this
          omega
        refine wp_bind.mpr (wp_mono (turn i st d hlt hP ho) fun env1 st1 q => wp_bind.mpr (wp_mono q fun b st2 q => ?_))
        cases b with
        | false => exact ih _ _ hlt (by omega) (q.2 rfl)
        | true =>
          refine wp_bind.mpr (wp_mono (q.1 rfl) fun y st3 q => ?_)
          obtain ⟨acc, e, hl, q⟩ := q
          rw [e]
          exact wp_guard.mpr ⟨decide_eq_true hl, ih _ _ hlt (by omega) q⟩
  exact key TURNS 0 st (Nat.zero_le _) (by omega) h0
end
theorem at_items {ds : List D} {i : Nat} {st : Sto} (h : i ≤ ds.length) : ∃ o, (Wk.items ds).at i st = some o ∧ (o = none ↔ i = ds.length) := ⟨ds[i]?, rfl, by
  rw [List.getElem?_eq_none_iff]; omega⟩
theorem at_lst {ds : List D} {i r : Nat} {st : Sto} (h : i ≤ ds.length) (hl : lstAt st r = some ds) : ∃ o, (Wk.lst r).at i st = some o ∧ (o = none ↔ i = ds.length) := ⟨ds[i]?, by show (lstAt st r).map (fun ds => ds[i]?) = _; rw [hl]; rfl, by
  rw [List.getElem?_eq_none_iff]; omega⟩
theorem at_rng {lo : Int} {n i : Nat} {st : Sto} (h : i ≤ n) : ∃ o, (Wk.rng lo n).at i st = some o ∧ (o = none ↔ i = n) := ⟨_, rfl, by
  split
  · simp; omega
  · simp; omega⟩
theorem at_rng_some {lo : Int} {n i : Nat} {st : Sto} {d : D} (h : (Wk.rng lo n).at i st = some (some d)) : d = .int (lo + i) := by
  have h : some (if i < n then some (D.int (lo + i)) else none) = some (some d) := h
  split at h
  · exact (Option.some.inj (Option.some.inj h)).symm
  · cases h
theorem at_items_some {ds : List D} {i : Nat} {st : Sto} {d : D} (h : (Wk.items ds).at i st = some (some d)) : ds[i]? = some d := Option.some.inj h
theorem at_lst_some {ds : List D} {i r : Nat} {st : Sto} {d : D} (hl : lstAt st r = some ds) (h : (Wk.lst r).at i st = some (some d)) : ds[i]? = some d := by
  have h : (lstAt st r).map (fun ds => ds[i]?) = some (some d) := h
  rw [hl] at h
  exact Option.some.inj h
theorem turns_eq : TURNS = 1099511627776 := by unfold TURNS; decide
end Mp
namespace Mp
open PySem L2
section
variable {st : Sto}
theorem pyEq_int {a b : Int} : pyEq st (.int a) (.int b) = some (a == b) := by
  simp [pyEq, toPD, SeqAt.shaped, PyData.canLay0, PyData.depth, PyData.eqv]
theorem pyEq_bl {a b : Bool} : pyEq st (.bl a) (.bl b) = some (a == b) := by
  simp [pyEq, toPD, SeqAt.shaped, PyData.canLay0, PyData.depth, PyData.eqv]
theorem isi_one {a : D} {t : Option Ty} {ts : List Ty} (h : tyD st a = some t) : isiD st a ts = some (ts.any (subTy t)) := by
  unfold isiD
  rw [h]; rfl
theorem toPDs_ints : ∀ (n : Nat) (xs : List Int), toPDs n st (xs.map D.int) = some (xs.map PyData.int)
  | n, [] => by simp [toPDs]
  | n, x :: xs => by simp [toPDs, toPD, toPDs_ints n xs]
theorem lay_ints : ∀ xs : List Int, PyData.canLayAll0 (xs.map PyData.int) = true
  | [] => by simp [PyData.canLayAll0]
  | x :: xs => by simp [PyData.canLayAll0, PyData.canLay0, lay_ints xs]
theorem depth_ints : ∀ xs : List Int, PyData.depthAll (xs.map PyData.int) = 0
  | [] => by simp [PyData.depthAll]
  | x :: xs => by simp [PyData.depthAll, PyData.depth, depth_ints xs]
theorem eqv_ints : ∀ xs ys : List Int, PyData.eqvAll (xs.map PyData.int) (ys.map PyData.int) = decide (xs = ys)
  | [], [] => by simp [PyData.eqvAll]
  | [], _ :: _ => by simp [PyData.eqvAll]
  | _ :: _, [] => by simp [PyData.eqvAll]
  | x :: xs, y :: ys => by
    simp only [List.map_cons, PyData.eqvAll, PyData.eqv, eqv_ints xs ys, List.cons.injEq, Bool.decide_and]
    rfl
/-- tuples of ints -/
theorem pyEq_ints {xs ys : List Int} : pyEq st (.tup (xs.map D.int)) (.tup (ys.map D.int)) = some (decide (xs = ys)) := by
  simp only [pyEq, toPD, toPDs_ints, Option.map_some, SeqAt.shaped, PyData.canLay0, lay_ints, PyData.depth, depth_ints, PyData.eqv, eqv_ints]
  simp
/-- lists of ints -/
theorem pyEq_lists {r q : Nat} {xs ys : List Int} (h : lstAt st r = some (xs.map D.int)) (g : lstAt st q = some (ys.map D.int)) : pyEq st (.ref r) (.ref q) = some (decide (xs = ys)) := by
  simp only [pyEq, toPD, h, g, toPDs_ints, Option.map_some, SeqAt.shaped, PyData.canLay0, lay_ints, PyData.depth, depth_ints, PyData.eqv, eqv_ints]
  simp
theorem allO_ints : ∀ xs : List Int, allO D.isInt (xs.map D.int) = some xs
  | [] => rfl
  | x :: xs => by simp [allO, D.isInt, allO_ints xs]
theorem allO_bools : ∀ xs : List Bool, allO D.isBl (xs.map D.bl) = some xs
  | [] => rfl
  | x :: xs => by simp [allO, D.isBl, allO_bools xs]
end
/-- a store that goes on from another -/
def Pre (st st' : Sto) : Prop := ∀ (r : Nat) (o : O), st[r]? = some o → st'[r]? = some o
theorem Pre.refl {st : Sto} : Pre st st := fun _ _ h => h
theorem Pre.trans {a b c : Sto} (h : Pre a b) (g : Pre b c) : Pre a c := fun r o e => g r o (h r o e)
theorem Pre.push {st : Sto} {o : O} : Pre st (st ++ [o]) := fun r o e => get_old e
theorem Pre.len {a b : Sto} (h : Pre a b) : a.length ≤ b.length := by
  cases e : a.length with
  | zero => exact Nat.zero_le _
  | succ n =>
    have hlt : n < a.length := by omega
    have := h n a[n] (List.getElem?_eq_getElem hlt)
    have := (List.getElem?_eq_some_iff.mp this).1
    omega
theorem Pre.lst {a b : Sto} (h : Pre a b) {r : Nat} {ds : List D} (e : lstAt a r = some ds) : lstAt b r = some ds := by
  unfold lstAt at e ⊢
  cases q : a[r]? with
  | none => rw [q] at e; cases e
  | some o => rw [h r o q]; rw [q] at e; exact e
/-- a new list, changed later -/
theorem Pre.set {a b : Sto} (h : Pre a b) {r : Nat} {o : O} (hr : a.length ≤ r) : Pre a (b.set r o) := fun q u e => by
  have hq : q < a.length := (List.getElem?_eq_some_iff.mp e).1
  rw [List.getElem?_set_ne (by omega)]
  exact h q u e
end Mp

/-! P13: the steps of an evaluation, one equation each -/
namespace Mp
open PySem L2
section
variable {cl : Nat → List D → Sto → Res D} {env : Ev} {st : Sto} {a b c t : CE} {es kws : CEs} {lo hi : CEo}
theorem e_var {i : Nat} : evE cl (.var i) env st = (match env[i]? with
    | some (some d) => .ok d st
    | _ => .no) := rfl
theorem e_cst {c : Cn} : evE cl (.cst c) env st = .ok c.d st := rfl
theorem e_bin {op : Bop} : evE cl (.bin op a b) env st = (evE cl a env st).bind fun x st1 => (evE cl b env st1).bind fun y st2 => binD op x y st2 := rfl
theorem e_neg : evE cl (.neg a) env st = (evE cl a env st).bind fun x st1 => match x with
    | .int i => .ok (.int (-i)) st1
    | _ => .no := rfl
theorem e_cmp {op : Cop} : evE cl (.cmp op a b) env st = (evE cl a env st).bind fun x st1 => (evE cl b env st1).bind fun y st2 => cD op x y st2 := rfl
theorem e_chain {op op' : Cop} : evE cl (.chain op op' a b c) env st = (evE cl a env st).bind fun x st1 => (evE cl b env st1).bind fun y st2 => (ofO (cmpD op x y st2) st2).bind fun k st3 =>
      if k then (evE cl c env st3).bind fun z st4 => cD op' y z st4 else .ok (.bl false) st3 := rfl
theorem e_and : evE cl (.andv a b) env st = (evE cl a env st).bind fun x st1 => (ofO (truthy st1 x) st1).bind fun k st2 => if k then evE cl b env st2 else .ok x st2 := rfl
theorem e_or : evE cl (.orv a b) env st = (evE cl a env st).bind fun x st1 => (ofO (truthy st1 x) st1).bind fun k st2 => if k then .ok x st2 else evE cl b env st2 := rfl
theorem e_not : evE cl (.notv a) env st = (evE cl a env st).bind fun x st1 => (ofO (truthy st1 x) st1).bind fun k st2 => .ok (.bl (!k)) st2 := rfl
theorem e_ife : evE cl (.ife t a b) env st = (evE cl t env st).bind fun x st1 => (ofO (truthy st1 x) st1).bind fun k st2 => if k then evE cl a env st2 else evE cl b env st2 := rfl
theorem e_tup : evE cl (.tup es) env st = (evEs cl es env st).bind fun ds st1 => newT ds st1 := rfl
theorem e_lst : evE cl (.lst es) env st = (evEs cl es env st).bind fun ds st1 => newL ds st1 := rfl
theorem e_ix : evE cl (.ix a b) env st = (evE cl a env st).bind fun x st1 => (evE cl b env st1).bind fun y st2 => ixD x y st2 := rfl
theorem e_sl : evE cl (.sl a lo hi) env st = (evE cl a env st).bind fun x st1 => (evO cl lo env st1).bind fun l st2 => (evO cl hi env st2).bind fun h st3 => slD x l h st3 := rfl
theorem e_rev : evE cl (.rev a) env st = (evE cl a env st).bind fun x st1 => revD x st1 := rfl
theorem e_call {f : Nat} : evE cl (.call f es) env st = (evEs cl es env st).bind fun ds st1 => cl f ds st1 := rfl
theorem e_callk {f : Nat} {perm : List Nat} : evE cl (.callk f es kws perm) env st = (evEs cl es env st).bind fun ds st1 => (evEs cl kws env st1).bind fun zs st2 => cl f (perm.map fun i => (ds ++ zs).getD i .non) st2 := rfl
theorem e_bi {b : Bi} : evE cl (.bi b es) env st = (evEs cl es env st).bind fun ds st1 => biD b ds st1 := rfl
theorem e_isi {ts : List Ty} : evE cl (.isi a ts) env st = (evE cl a env st).bind fun x st1 => ofO ((isiD st1 x ts).map D.bl) st1 := rfl
theorem e_meth {m : Mt} : evE cl (.meth m a es) env st = (evE cl a env st).bind fun x st1 => (evEs cl es env st1).bind fun ds st2 => methD m x ds st2 := rfl
theorem es_nil : evEs cl .nil env st = .ok [] st := rfl
theorem es_cons : evEs cl (.cons a es) env st = (evE cl a env st).bind fun d st1 => (evEs cl es env st1).bind fun ds st2 => .ok (d :: ds) st2 := rfl
theorem o_none : evO cl .none env st = .ok none st := rfl
theorem o_some : evO cl (.some a) env st = (evE cl a env st).bind fun d st1 => match d with
    | .int i => .ok (some i) st1
    | _ => .no := rfl
theorem t_ev : evT cl a env st = (evE cl a env st).bind fun x st1 => ofO (truthy st1 x) st1 := rfl
theorem if_none : evIf cl .none env st = .ok true st := rfl
theorem if_some : evIf cl (.some a) env st = (evE cl a env st).bind fun x st1 => ofO (truthy st1 x) st1 := rfl
theorem i_rng1 : evI cl (.rng1 a) env st = (evE cl a env st).bind fun x st1 => match x with
    | .int j => guardR (decide (-(2 ^ 62) ≤ j ∧ j < 2 ^ 62)) (.ok (.rng 0 j.toNat) st1)
    | _ => .no := rfl
theorem i_rng2 : evI cl (.rng2 a b) env st = (evE cl a env st).bind fun x st1 => (evE cl b env st1).bind fun y st2 => match x, y with
    | .int i, .int j => guardR (decide (-(2 ^ 62) ≤ i ∧ i < 2 ^ 62 ∧ -(2 ^ 62) ≤ j ∧ j < 2 ^ 62)) (.ok (.rng i (j - i).toNat) st2)
    | _, _ => .no := rfl
theorem i_seq : evI cl (.seq a) env st = (evE cl a env st).bind fun x st1 => match x with
    | .tup ds => .ok (.items ds) st1
    | .ref r => (match lstAt st1 r with
      | some _ => .ok (.lst r) st1
      | none => .no)
    | _ => .no := rfl
theorem s_expr : evS cl (.expr a) env st = (evE cl a env st).bind fun _ st1 => .ok (.nx env) st1 := rfl
theorem s_ret : evS cl (.ret a) env st = (evE cl a env st).bind fun d st1 => .ok (.rt d) st1 := rfl
theorem s_retN : evS cl .retN env st = .ok (.rt .non) st := rfl
theorem s_asg {t : CT} : evS cl (.asg t a) env st = (evE cl a env st).bind fun d st1 => (asT cl t d env st1).bind fun env1 st2 => .ok (.nx env1) st2 := rfl
theorem s_par {i j : Nat} : evS cl (.par i j a b) env st = (evE cl a env st).bind fun x st1 => (evE cl b env st1).bind fun y st2 => .ok (.nx ((env.set i (some x)).set j (some y))) st2 := rfl
theorem s_par3 {i j l : Nat} : evS cl (.par3 i j l a b c) env st = (evE cl a env st).bind fun x st1 => (evE cl b env st1).bind fun y st2 => (evE cl c env st2).bind fun z st3 => .ok (.nx (((env.set i (some x)).set j (some y)).set l (some z))) st3 := rfl
theorem s_ifs {x y : CB} : evS cl (.ifs a x y) env st = (evT cl a env st).bind fun k st1 => if k then evB cl x env st1 else evB cl y env st1 := rfl
theorem s_brk : evS cl .brk env st = .ok (.bk env) st := rfl
theorem s_cont : evS cl .cont env st = .ok (.ct env) st := rfl
theorem s_pass : evS cl .pass env st = .ok (.nx env) st := rfl
theorem s_never : evS cl .never env st = .no := rfl
theorem b_nil : evB cl .nil env st = .ok (.nx env) st := rfl
theorem b_cons {s : CS} {b : CB} : evB cl (.cons s b) env st = (evS cl s env st).bind fun f st1 => match f with
    | .nx env1 => evB cl b env1 st1
    | f => .ok f st1 := rfl
theorem t_var {i : Nat} {d : D} : asT cl (.var i) d env st = .ok (env.set i (some d)) st := rfl
theorem t_tup {ts : CTs} {ds : List D} : asT cl (.tup ts) (.tup ds) env st = asTs cl ts ds env st := rfl
theorem t_ix {d : D} : asT cl (.ix a b) d env st = (evE cl a env st).bind fun x st1 => (evE cl b env st1).bind fun y st2 => (ofO (setIx x y d st2) st2).bind fun st3 _ => .ok env st3 := rfl
theorem ts_nil : asTs cl .nil [] env st = .ok env st := rfl
theorem ts_cons {t : CT} {ts : CTs} {d : D} {ds : List D} : asTs cl (.cons t ts) (d :: ds) env st = (asT cl t d env st).bind fun env1 st1 => asTs cl ts ds env1 st1 := rfl
/-! loops, kept whole -/
theorem s_for {t : CT} {it : CI} {x : CB} : evS cl (.for_ t it x) env st = (evI cl it env st).bind fun k st1 => forL k (fun d e s => asT cl t d e s) (fun e s => evB cl x e s) TURNS 0 env st1 := rfl
theorem s_whl {x : CB} : evS cl (.whl t x) env st = whlL (fun e s => evT cl t e s) (fun e s => evB cl x e s) TURNS env st := rfl
theorem e_lc {t : CT} {it : CI} {i : CEo} {own : List Nat} : evE cl (.lc a t it i own) env st = (evI cl it env st).bind fun k st1 =>
      compL k (fun d s => asT cl t d (wipeE env own) s) (fun env1 s => evIf cl i env1 s) (fun env1 s => evE cl a env1 s) st1.length TURNS 0 (st1 ++ [.lst []]) := rfl
end
section
variable {st : Sto} {i j : Int} {xs ys ds : List D} {Q : D → Sto → Prop} {r q : Nat}
theorem d_add : binD .add (.int i) (.int j) st = .ok (.int (i + j)) st := rfl
theorem d_addT : binD .add (.tup xs) (.tup ys) st = newT (xs ++ ys) st := rfl
theorem d_addL : wp (binD .add (.ref r) (.ref q) st) Q ↔ ∃ xs ys, st[r]? = some (.lst xs) ∧ st[q]? = some (.lst ys) ∧ xs.length + ys.length ≤ sizeLine ∧ Q (.ref st.length) (st ++ [.lst (xs ++ ys)]) := by
  show wp (match st[r]?, st[q]? with
    | some (.lst xs), some (.lst ys) => newL (xs ++ ys) st
    | _, _ => .no) Q ↔ _
  constructor
  · intro h
    split at h
    · rename_i a b e1 e2
      obtain ⟨h1, h2⟩ := wp_newL.mp h
      exact ⟨a, b, e1, e2, by simpa using h1, h2⟩
    · exact (wp_no.mp h).elim
  · rintro ⟨a, b, e1, e2, h1, h2⟩
    rw [e1, e2]
    exact wp_newL.mpr ⟨by simpa using h1, h2⟩
theorem d_sub : binD .sub (.int i) (.int j) st = .ok (.int (i - j)) st := rfl
theorem d_mul : binD .mul (.int i) (.int j) st = guardR (decide (i.natAbs < 2 ^ 64 ∨ j.natAbs < 2 ^ 64 ∨ i.natAbs.log2 + j.natAbs.log2 < 1000000)) (.ok (.int (i * j)) st) := rfl
theorem d_mulT : binD .mul (.tup xs) (.int i) st = guardR (decide (xs.length ≤ 1000 ∧ -(2 ^ 63) ≤ i ∧ i ≤ 1000)) (newT (List.replicate i.toNat xs).flatten st) := rfl
theorem d_fdiv : binD .fdiv (.int i) (.int j) st = guardR (decide (0 < j ∧ j.natAbs.log2 < 9000)) (.ok (.int (i / j)) st) := rfl
theorem d_mod : binD .mod (.int i) (.int j) st = guardR (decide (0 < j)) (.ok (.int (i % j)) st) := rfl
theorem d_pow : binD .pow (.int i) (.int j) st = guardR (decide (0 ≤ j ∧ j ≤ 1000000 ∧ i.natAbs < 2 ^ 64)) (.ok (.int (i ^ j.toNat)) st) := rfl
theorem c_lt : cmpD .lt (.int i) (.int j) st = some (decide (i < j)) := rfl
theorem c_le : cmpD .le (.int i) (.int j) st = some (decide (i ≤ j)) := rfl
theorem c_gt : cmpD .gt (.int i) (.int j) st = some (decide (j < i)) := rfl
theorem c_ge : cmpD .ge (.int i) (.int j) st = some (decide (j ≤ i)) := rfl
theorem c_eq {a b : D} : cmpD .eq a b st = pyEq st a b := rfl
theorem c_ne {a b : D} : cmpD .ne a b st = (pyEq st a b).map (!·) := rfl
theorem c_isN_non : cmpD .isN .non .non st = some true := rfl
theorem c_isN_int : cmpD .isN (.int i) .non st = some false := rfl
theorem c_isN_bl {b : Bool} : cmpD .isN (.bl b) .non st = some false := rfl
theorem c_isN_tup : cmpD .isN (.tup xs) .non st = some false := rfl
theorem c_isN_ref : cmpD .isN (.ref r) .non st = some false := rfl
theorem c_isN_str {x : Str} : cmpD .isN (.str x) .non st = some false := rfl
theorem c_notN_non : cmpD .notN .non .non st = some false := rfl
theorem c_notN_int : cmpD .notN (.int i) .non st = some true := rfl
theorem c_notN_tup : cmpD .notN (.tup xs) .non st = some true := rfl
theorem c_notN_ref : cmpD .notN (.ref r) .non st = some true := rfl
theorem w_cD {op : Cop} {a b : D} : wp (cD op a b st) Q ↔ ∃ k, cmpD op a b st = some k ∧ Q (.bl k) st := by
  unfold cD
  rw [wp_ofO]
  constructor
  · rintro ⟨d, e, h⟩
    obtain ⟨k, e1, rfl⟩ := Option.map_eq_some_iff.mp e
    exact ⟨k, e1, h⟩
  · rintro ⟨k, e, h⟩
    exact ⟨_, by rw [e]; rfl, h⟩
theorem t_non : truthy st .non = some false := rfl
theorem t_bl {b : Bool} : truthy st (.bl b) = some b := rfl
theorem t_int : truthy st (.int i) = some (i != 0) := rfl
theorem t_tup' : truthy st (.tup xs) = some (!xs.isEmpty) := rfl
theorem x_tup : ixD (.tup xs) (.int i) st = ofO (atI xs i) st := rfl
theorem x_ref : wp (ixD (.ref r) (.int i) st) Q ↔ ∃ ds, lstAt st r = some ds ∧ ∃ d, atI ds i = some d ∧ Q d st := by
  show wp (match lstAt st r with
      | some ds => ofO (atI ds i) st
      | none => .no) Q ↔ _
  cases e : lstAt st r with
  | none => exact ⟨fun h => (wp_no.mp h).elim, fun ⟨_, h, _⟩ => (by cases h)⟩
  | some ds => exact ⟨fun h => ⟨ds, rfl, wp_ofO.mp h⟩, fun ⟨_, h, g⟩ => (by cases h; exact wp_ofO.mpr g)⟩
theorem l_tup {lo hi : Option Int} : slD (.tup xs) lo hi st = .ok (.tup (cutD xs lo hi)) st := rfl
theorem l_ref {lo hi : Option Int} : wp (slD (.ref r) lo hi st) Q ↔ ∃ ds, lstAt st r = some ds ∧ (cutD ds lo hi).length ≤ sizeLine ∧ Q (.ref st.length) (st ++ [.lst (cutD ds lo hi)]) := by
  show wp (match lstAt st r with
      | some ds => newL (cutD ds lo hi) st
      | none => .no) Q ↔ _
  cases e : lstAt st r with
  | none => exact ⟨fun h => (wp_no.mp h).elim, fun ⟨_, h, _⟩ => (by cases h)⟩
  | some ds => exact ⟨fun h => ⟨ds, rfl, wp_newL.mp h⟩, fun ⟨_, h, g⟩ => (by cases h; exact wp_newL.mpr g)⟩
theorem r_tup : revD (.tup xs) st = newT xs.reverse st := rfl
theorem r_ref : wp (revD (.ref r) st) Q ↔ ∃ ds, lstAt st r = some ds ∧ ds.length ≤ sizeLine ∧ Q (.ref st.length) (st ++ [.lst ds.reverse]) := by
  show wp (match lstAt st r with
      | some ds => newL ds.reverse st
      | none => .no) Q ↔ _
  cases e : lstAt st r with
  | none => exact ⟨fun h => (wp_no.mp h).elim, fun ⟨_, h, _⟩ => (by cases h)⟩
  | some ds =>
    rw [wp_newL, List.length_reverse]
    exact ⟨fun h => ⟨ds, rfl, h⟩, fun ⟨_, h, g⟩ => (by cases h; exact g)⟩
theorem f_len {a : D} : wp (biD .len [a] st) Q ↔ ∃ n, lenD st a = some n ∧ Q (.int n) st := by
  show wp (ofO ((lenD st a).map D.int) st) Q ↔ _
  rw [wp_ofO]
  constructor
  · rintro ⟨d, e, h⟩
    obtain ⟨k, e1, rfl⟩ := Option.map_eq_some_iff.mp e
    exact ⟨k, e1, h⟩
  · rintro ⟨k, e, h⟩
    exact ⟨_, by rw [e]; rfl, h⟩
theorem n_tup : lenD st (.tup xs) = some (xs.length : Int) := rfl
theorem n_ref : lenD st (.ref r) = (lstAt st r).map fun ds => (ds.length : Int) := rfl
theorem f_int : biD .int_ [.int i] st = .ok (.int i) st := rfl
theorem f_intb {b : Bool} : biD .int_ [.bl b] st = .ok (.int (if b then 1 else 0)) st := rfl
theorem f_tupT : biD .tuple_ [.tup xs] st = newT xs st := rfl
theorem f_tupL : wp (biD .tuple_ [.ref r] st) Q ↔ ∃ ds, lstAt st r = some ds ∧ ds.length ≤ sizeLine ∧ Q (.tup ds) st := by
  show wp (match lstAt st r with
      | some ds => newT ds st
      | none => .no) Q ↔ _
  cases e : lstAt st r with
  | none => exact ⟨fun h => (wp_no.mp h).elim, fun ⟨_, h, _⟩ => (by cases h)⟩
  | some ds => exact ⟨fun h => ⟨ds, rfl, wp_newT.mp h⟩, fun ⟨_, h, g⟩ => (by cases h; exact wp_newT.mpr g)⟩
theorem f_lstT : biD .list_ [.tup xs] st = newL xs st := rfl
theorem f_lstL : wp (biD .list_ [.ref r] st) Q ↔ ∃ ds, lstAt st r = some ds ∧ ds.length ≤ sizeLine ∧ Q (.ref st.length) (st ++ [.lst ds]) := by
  show wp (match lstAt st r with
      | some ds => newL ds st
      | none => .no) Q ↔ _
  cases e : lstAt st r with
  | none => exact ⟨fun h => (wp_no.mp h).elim, fun ⟨_, h, _⟩ => (by cases h)⟩
  | some ds => exact ⟨fun h => ⟨ds, rfl, wp_newL.mp h⟩, fun ⟨_, h, g⟩ => (by cases h; exact wp_newL.mpr g)⟩
theorem f_sum : wp (biD .sum_ [.ref r] st) Q ↔ ∃ ds, lstAt st r = some ds ∧ ∃ ns, allO D.isInt ds = some ns ∧ Q (.int ns.sum) st := by
  show wp (ofO ((match lstAt st r with
    | some ds => allO D.isInt ds
    | none => none).map fun (is : List Int) => D.int is.sum) st) Q ↔ _
  rw [wp_ofO]
  cases e : lstAt st r with
  | none => exact ⟨fun ⟨_, h, _⟩ => (by cases h), fun ⟨_, h, _⟩ => (by cases h)⟩
  | some ds =>
    constructor
    · rintro ⟨d, h, g⟩
      obtain ⟨k, e1, rfl⟩ := Option.map_eq_some_iff.mp h
      exact ⟨ds, rfl, k, e1, g⟩
    · rintro ⟨_, h, k, e1, g⟩
      cases h
      exact ⟨_, (by show (allO D.isInt ds).map (fun (is : List Int) => D.int is.sum) = _; rw [e1]; rfl), g⟩
theorem f_sumT : wp (biD .sum_ [.tup xs] st) Q ↔ ∃ ns, allO D.isInt xs = some ns ∧ Q (.int ns.sum) st := by
  show wp (ofO ((allO D.isInt xs).map fun (is : List Int) => D.int is.sum) st) Q ↔ _
  rw [wp_ofO]
  constructor
  · rintro ⟨d, h, g⟩
    obtain ⟨k, e1, rfl⟩ := Option.map_eq_some_iff.mp h
    exact ⟨k, e1, g⟩
  · rintro ⟨k, e1, g⟩
    exact ⟨_, (by rw [e1]; rfl), g⟩
theorem f_all : wp (biD .all_ [.ref r] st) Q ↔ ∃ ds, lstAt st r = some ds ∧ ∃ ns, allO D.isBl ds = some ns ∧ Q (.bl (ns.all id)) st := by
  show wp (ofO ((match lstAt st r with
    | some ds => allO D.isBl ds
    | none => none).map fun (is : List Bool) => D.bl (is.all id)) st) Q ↔ _
  rw [wp_ofO]
  cases e : lstAt st r with
  | none => exact ⟨fun ⟨_, h, _⟩ => (by cases h), fun ⟨_, h, _⟩ => (by cases h)⟩
  | some ds =>
    constructor
    · rintro ⟨d, h, g⟩
      obtain ⟨k, e1, rfl⟩ := Option.map_eq_some_iff.mp h
      exact ⟨ds, rfl, k, e1, g⟩
    · rintro ⟨_, h, k, e1, g⟩
      cases h
      exact ⟨_, (by show (allO D.isBl ds).map (fun (is : List Bool) => D.bl (is.all id)) = _; rw [e1]; rfl), g⟩
theorem f_any : wp (biD .any_ [.ref r] st) Q ↔ ∃ ds, lstAt st r = some ds ∧ ∃ ns, allO D.isBl ds = some ns ∧ Q (.bl (ns.any id)) st := by
  show wp (ofO ((match lstAt st r with
    | some ds => allO D.isBl ds
    | none => none).map fun (is : List Bool) => D.bl (is.any id)) st) Q ↔ _
  rw [wp_ofO]
  cases e : lstAt st r with
  | none => exact ⟨fun ⟨_, h, _⟩ => (by cases h), fun ⟨_, h, _⟩ => (by cases h)⟩
  | some ds =>
    constructor
    · rintro ⟨d, h, g⟩
      obtain ⟨k, e1, rfl⟩ := Option.map_eq_some_iff.mp h
      exact ⟨ds, rfl, k, e1, g⟩
    · rintro ⟨_, h, k, e1, g⟩
      cases h
      exact ⟨_, (by show (allO D.isBl ds).map (fun (is : List Bool) => D.bl (is.any id)) = _; rw [e1]; rfl), g⟩
theorem m_app {d : D} : wp (methD .append (.ref r) [d] st) Q ↔ ∃ xs, st[r]? = some (.lst xs) ∧ xs.length < sizeLine ∧ Q .non (st.set r (.lst (xs ++ [d]))) := by
  show wp (match st[r]? with
    | some (.lst xs) => methL .append r xs [d] st
    | _ => .no) Q ↔ _
  constructor
  · intro h
    split at h
    · rename_i a e1
      obtain ⟨h1, h2⟩ := wp_guard.mp (show wp (guardR (decide (a.length < sizeLine)) (.ok .non (st.set r (.lst (a ++ [d]))))) Q from h)
      exact ⟨a, e1, of_decide_eq_true h1, wp_ok.mp h2⟩
    · exact (wp_no.mp h).elim
  · rintro ⟨a, e1, h1, h2⟩
    rw [e1]
    exact wp_guard.mpr ⟨decide_eq_true h1, wp_ok.mpr h2⟩
theorem m_pop : wp (methD .pop (.ref r) [] st) Q ↔ ∃ xs y, st[r]? = some (.lst xs) ∧ xs[xs.length - 1]? = some y ∧ Q y (st.set r (.lst xs.dropLast)) := by
  show wp (match st[r]? with
    | some (.lst xs) => methL .pop r xs [] st
    | _ => .no) Q ↔ _
  constructor
  · intro h
    split at h
    · rename_i a e1
      have h : wp (match a[a.length - 1]? with
        | some y => .ok y (st.set r (.lst a.dropLast))
        | none => .no) Q := h
      split at h
      · rename_i y e2
        exact ⟨a, y, e1, e2, wp_ok.mp h⟩
      · exact (wp_no.mp h).elim
    · exact (wp_no.mp h).elim
  · rintro ⟨a, y, e1, e2, h⟩
    rw [e1]
    show wp (match a[a.length - 1]? with
        | some y => .ok y (st.set r (.lst a.dropLast))
        | none => .no) Q
    rw [e2]
    exact wp_ok.mpr h
theorem x_set {v : D} : setIx (.ref r) (.int i) v st = (match st[r]? with
    | some (.lst xs) => (match ixN xs.length i with
      | some j => some (st.set r (.lst (xs.set j v)))
      | none => none)
    | _ => none) := rfl
end
end Mp

set_option maxHeartbeats 0
namespace Hd
open PySem PySem.Spec PyProof.Rows L2
def top (i : Nat) : Stmt := PySem.Challenge.pw_wholedigits_k01_whole_digits_of_numbers.main.body.getD i (.Pass ⟨0, 0, 0, 0⟩)
def s_is_integer : Stmt := top 7
def d_is_integer : He.DefD := ⟨("is_integer", none), "is_integer", "is_integer", defArgs (top 7), defBody (top 7), defScope (top 7), [], []⟩
def s_is_natural : Stmt := top 8
def d_is_natural : He.DefD := ⟨("is_natural", none), "is_natural", "is_natural", defArgs (top 8), defBody (top 8), defScope (top 8), [], []⟩
def s_is_base : Stmt := top 9
def d_is_base : He.DefD := ⟨("is_base", none), "is_base", "is_base", defArgs (top 9), defBody (top 9), defScope (top 9), [], []⟩
def s_are_digits : Stmt := top 10
def d_are_digits : He.DefD := ⟨("are_digits", none), "are_digits", "are_digits", defArgs (top 10), defBody (top 10), defScope (top 10), [], []⟩
def s_check_base : Stmt := top 11
def d_check_base : He.DefD := ⟨("check_base", none), "check_base", "check_base", defArgs (top 11), defBody (top 11), defScope (top 11), [], []⟩
def s_check_from : Stmt := top 12
def d_check_from : He.DefD := ⟨("check_from", none), "check_from", "check_from", defArgs (top 12), defBody (top 12), defScope (top 12), [], []⟩
def s_check_digits : Stmt := top 13
def d_check_digits : He.DefD := ⟨("check_digits", none), "check_digits", "check_digits", defArgs (top 13), defBody (top 13), defScope (top 13), [], []⟩
def s_digits_of : Stmt := top 14
def d_digits_of : He.DefD := ⟨("digits_of", none), "digits_of", "digits_of", defArgs (top 14), defBody (top 14), defScope (top 14), [], []⟩
def s_number_from : Stmt := top 15
def d_number_from : He.DefD := ⟨("number_from", none), "number_from", "number_from", defArgs (top 15), defBody (top 15), defScope (top 15), [], []⟩
def s_digits : Stmt := top 17
def d_digits : He.DefD := ⟨("digits", none), "digits", "digits", defArgs (top 17), defBody (top 17), defScope (top 17), [], []⟩
def s_number_of : Stmt := top 18
def d_number_of : He.DefD := ⟨("number_of", none), "number_of", "number_of", defArgs (top 18), defBody (top 18), defScope (top 18), [], []⟩
def s_digit_sum : Stmt := top 19
def d_digit_sum : He.DefD := ⟨("digit_sum", none), "digit_sum", "digit_sum", defArgs (top 19), defBody (top 19), defScope (top 19), [], []⟩
def s_power_of : Stmt := top 20
def d_power_of : He.DefD := ⟨("power_of", none), "power_of", "power_of", defArgs (top 20), defBody (top 20), defScope (top 20), [], []⟩
def s_power_in : Stmt := top 21
def d_power_in : He.DefD := ⟨("power_in", none), "power_in", "power_in", defArgs (top 21), defBody (top 21), defScope (top 21), [], []⟩
def s_check_block : Stmt := top 22
def d_check_block : He.DefD := ⟨("check_block", none), "check_block", "check_block", defArgs (top 22), defBody (top 22), defScope (top 22), [], []⟩
def s_block_count : Stmt := top 23
def d_block_count : He.DefD := ⟨("block_count", none), "block_count", "block_count", defArgs (top 23), defBody (top 23), defScope (top 23), [], []⟩
def s__law_feed : Stmt := top 25
def d__law_feed : He.DefD := ⟨("_law_feed", none), "_law_feed", "_law_feed", defArgs (top 25), defBody (top 25), defScope (top 25), [], []⟩
def s__law_drawn : Stmt := top 26
def d__law_drawn : He.DefD := ⟨("_law_drawn", none), "_law_drawn", "_law_drawn", defArgs (top 26), defBody (top 26), defScope (top 26), [], []⟩
def s__law_same : Stmt := top 27
def d__law_same : He.DefD := ⟨("_law_same", none), "_law_same", "_law_same", defArgs (top 27), defBody (top 27), defScope (top 27), [], []⟩
def s__law_base : Stmt := top 28
def d__law_base : He.DefD := ⟨("_law_base", none), "_law_base", "_law_base", defArgs (top 28), defBody (top 28), defScope (top 28), [], []⟩
def s__law_power : Stmt := top 29
def d__law_power : He.DefD := ⟨("_law_power", none), "_law_power", "_law_power", defArgs (top 29), defBody (top 29), defScope (top 29), [], []⟩
def s__law_digits : Stmt := top 30
def d__law_digits : He.DefD := ⟨("_law_digits", none), "_law_digits", "_law_digits", defArgs (top 30), defBody (top 30), defScope (top 30), [], []⟩
def s__law_number : Stmt := top 31
def d__law_number : He.DefD := ⟨("_law_number", none), "_law_number", "_law_number", defArgs (top 31), defBody (top 31), defScope (top 31), [], []⟩
def s__law_great : Stmt := top 32
def d__law_great : He.DefD := ⟨("_law_great", none), "_law_great", "_law_great", defArgs (top 32), defBody (top 32), defScope (top 32), [], []⟩
def s__law_right : Stmt := top 33
def d__law_right : He.DefD := ⟨("_law_right", none), "_law_right", "_law_right", defArgs (top 33), defBody (top 33), defScope (top 33), [], []⟩
def s_law : Stmt := top 34
def d_law : He.DefD := ⟨("law", none), "law", "law", defArgs (top 34), defBody (top 34), defScope (top 34), [], []⟩
def fnD : List He.DefD := ([d_is_integer, d_is_natural, d_is_base, d_are_digits, d_check_base, d_check_from, d_check_digits, d_digits_of, d_number_from, d_digits, d_number_of, d_digit_sum, d_power_of, d_power_in, d_check_block, d_block_count, d__law_feed, d__law_drawn, d__law_same, d__law_base, d__law_power, d__law_digits, d__law_number, d__law_great, d__law_right, d_law] : List He.DefD)
def faD : List He.Fa := ([.glo "is_integer", .glo "is_natural", .glo "is_base", .glo "are_digits", .glo "check_base", .glo "check_from", .glo "check_digits", .glo "digits_of", .glo "number_from", .glo "digits", .glo "number_of", .glo "digit_sum", .glo "power_of", .glo "power_in", .glo "check_block", .glo "block_count", .glo "_law_feed", .glo "_law_drawn", .glo "_law_same", .glo "_law_base", .glo "_law_power", .glo "_law_digits", .glo "_law_number", .glo "_law_great", .glo "_law_right", .glo "law", .int "LEAST_BASE" 2, .int "MOST_BASE" 5, .free "ValueError", .free "all"] : List He.Fa) ++ ([.free "any", .free "bool", .free "int", .free "isinstance", .free "len", .free "list", .free "range", .free "str", .free "sum", .free "super", .free "tuple"] : List He.Fa)
abbrev R : PySem.W.OpenRow := PySem.W.OpenLaw.row PySem.Challenge.rw_wholedigits_k01_whole_digits_of_numbers
abbrev hk : PySem.W.Hook := He.hookD 5 faD fnD
def ob (s : PySem.W.SharedT) : He.AlD := He.obsDG 5 faD fnD (HandSHeadRun.getT s)
theorem ob_eq (s : PySem.W.SharedT) : ob s = hk.obs s.abs := He.obsDG_eq (HandSHeadRun.getT_eq s)
def looseN : List PySem.Str := (["DigitsError", "InvalidInteger", "InvalidRows", "LEAST_BASE", "MOST_BASE", "is_integer", "is_natural", "is_base", "are_digits", "check_base", "check_from", "check_digits", "digits_of", "number_from", "digits", "number_of", "digit_sum", "power_of", "power_in", "check_block", "block_count", "_law_feed", "_law_drawn", "_law_same", "_law_base", "_law_power", "_law_digits", "_law_number", "_law_great", "_law_right"] : List PySem.Str)
theorem run (w : World) : HandSHeadRun.RunEq R (PySem.W.view R.prog [34]) hk ob 20000 looseN w := by
  intro os
  kernel_rfl
end Hd

namespace Mp
open PySem PySem.Spec PyProof.Rows L2
abbrev i_is_integer : Nat := 0
abbrev i_is_natural : Nat := 1
abbrev i_is_base : Nat := 2
abbrev i_are_digits : Nat := 3
abbrev i_check_base : Nat := 4
abbrev i_check_from : Nat := 5
abbrev i_check_digits : Nat := 6
abbrev i_digits_of : Nat := 7
abbrev i_number_from : Nat := 8
abbrev i_digits : Nat := 9
abbrev i_number_of : Nat := 10
abbrev i_digit_sum : Nat := 11
abbrev i_power_of : Nat := 12
abbrev i_power_in : Nat := 13
abbrev i_check_block : Nat := 14
abbrev i_block_count : Nat := 15
abbrev i__law_feed : Nat := 16
abbrev i__law_drawn : Nat := 17
abbrev i__law_same : Nat := 18
abbrev i__law_base : Nat := 19
abbrev i__law_power : Nat := 20
abbrev i__law_digits : Nat := 21
abbrev i__law_number : Nat := 22
abbrev i__law_great : Nat := 23
abbrev i__law_right : Nat := 24
abbrev i_law : Nat := 25
def b_is_integer : CB := (.cons (.ret (.andv (.isi (.var 0) [.int]) (.notv (.isi (.var 0) [.bool])))) .nil)
def f_is_integer : Fdt := ⟨"is_integer", ["value"], ["value"], ⟨1, 1, b_is_integer⟩, Hd.d_is_integer⟩
def b_is_natural : CB := (.cons (.ret (.andv (.call i_is_integer (.cons (.var 0) .nil)) (.cmp .ge (.var 0) (.cst (.int 0))))) .nil)
def f_is_natural : Fdt := ⟨"is_natural", ["value"], ["value"], ⟨1, 1, b_is_natural⟩, Hd.d_is_natural⟩
def b_is_base : CB := (.cons (.ret (.andv (.call i_is_integer (.cons (.var 0) .nil)) (.chain .le .le (.cst (.int 2)) (.var 0) (.cst (.int 5))))) .nil)
def f_is_base : Fdt := ⟨"is_base", ["value"], ["value"], ⟨1, 1, b_is_base⟩, Hd.d_is_base⟩
def b_are_digits : CB := (.cons (.ret (.andv (.isi (.var 1) [.tuple]) (.bi .all_ (.cons (.lc (.andv (.call i_is_natural (.cons (.var 2) .nil)) (.cmp .lt (.var 2) (.var 0))) (.var 2) (.seq (.var 1)) .none [2]) .nil)))) .nil)
def f_are_digits : Fdt := ⟨"are_digits", ["k", "value"], ["k", "value", "own"], ⟨2, 3, b_are_digits⟩, Hd.d_are_digits⟩
def b_check_base : CB := (.cons (.ifs (.notv (.call i_is_base (.cons (.var 0) .nil))) (.cons (.never) .nil) .nil) .nil)
def f_check_base : Fdt := ⟨"check_base", ["k"], ["k"], ⟨1, 1, b_check_base⟩, Hd.d_check_base⟩
def b_check_from : CB := (.cons (.ifs (.orv (.notv (.call i_is_integer (.cons (.var 0) .nil))) (.cmp .lt (.var 0) (.var 1))) (.cons (.never) .nil) .nil) .nil)
def f_check_from : Fdt := ⟨"check_from", ["value", "least"], ["value", "least"], ⟨2, 2, b_check_from⟩, Hd.d_check_from⟩
def b_check_digits : CB := (.cons (.ifs (.notv (.call i_are_digits (.cons (.var 0) (.cons (.var 1) .nil)))) (.cons (.never) .nil) .nil) .nil)
def f_check_digits : Fdt := ⟨"check_digits", ["k", "rows"], ["k", "rows"], ⟨2, 2, b_check_digits⟩, Hd.d_check_digits⟩
def b_digits_of : CB := (.cons (.asg (.var 2) (.lst .nil)) (.cons (.whl (.cmp .gt (.var 1) (.cst (.int 0))) (.cons (.expr (.meth .append (.var 2) (.cons (.bin .mod (.var 1) (.var 0)) .nil))) (.cons (.asg (.var 1) (.bin .fdiv (.var 1) (.var 0))) .nil))) (.cons (.ret (.bi .tuple_ (.cons (.var 2) .nil))) .nil)))
def f_digits_of : Fdt := ⟨"digits_of", ["k", "n"], ["k", "n", "found"], ⟨2, 3, b_digits_of⟩, Hd.d_digits_of⟩
def b_number_from : CB := (.cons (.asg (.var 2) (.cst (.int 0))) (.cons (.for_ (.var 3) (.seq (.rev (.var 1))) (.cons (.asg (.var 2) (.bin .add (.bin .mul (.var 2) (.var 0)) (.var 3))) .nil)) (.cons (.ret (.var 2)) .nil)))
def f_number_from : Fdt := ⟨"number_from", ["k", "rows"], ["k", "rows", "found", "own"], ⟨2, 4, b_number_from⟩, Hd.d_number_from⟩
def b_digits : CB := (.cons (.expr (.call i_check_base (.cons (.var 0) .nil))) (.cons (.expr (.call i_check_from (.cons (.var 1) (.cons (.cst (.int 0)) .nil)))) (.cons (.ret (.call i_digits_of (.cons (.var 0) (.cons (.var 1) .nil)))) .nil)))
def f_digits : Fdt := ⟨"digits", ["k", "n"], ["k", "n"], ⟨2, 2, b_digits⟩, Hd.d_digits⟩
def b_number_of : CB := (.cons (.expr (.call i_check_base (.cons (.var 0) .nil))) (.cons (.expr (.call i_check_digits (.cons (.var 0) (.cons (.var 1) .nil)))) (.cons (.ret (.call i_number_from (.cons (.var 0) (.cons (.var 1) .nil)))) .nil)))
def f_number_of : Fdt := ⟨"number_of", ["k", "rows"], ["k", "rows"], ⟨2, 2, b_number_of⟩, Hd.d_number_of⟩
def b_digit_sum : CB := (.cons (.expr (.call i_check_base (.cons (.var 0) .nil))) (.cons (.expr (.call i_check_from (.cons (.var 1) (.cons (.cst (.int 0)) .nil)))) (.cons (.ret (.bi .sum_ (.cons (.call i_digits_of (.cons (.var 0) (.cons (.var 1) .nil))) .nil))) .nil)))
def f_digit_sum : Fdt := ⟨"digit_sum", ["k", "n"], ["k", "n"], ⟨2, 2, b_digit_sum⟩, Hd.d_digit_sum⟩
def b_power_of : CB := (.cons (.asg (.var 2) (.cst (.int 0))) (.cons (.whl (.cmp .eq (.bin .mod (.var 1) (.var 0)) (.cst (.int 0))) (.cons (.par 2 1 (.bin .add (.var 2) (.cst (.int 1))) (.bin .fdiv (.var 1) (.var 0))) .nil)) (.cons (.ret (.var 2)) .nil)))
def f_power_of : Fdt := ⟨"power_of", ["k", "n"], ["k", "n", "found"], ⟨2, 3, b_power_of⟩, Hd.d_power_of⟩
def b_power_in : CB := (.cons (.expr (.call i_check_base (.cons (.var 0) .nil))) (.cons (.expr (.call i_check_from (.cons (.var 1) (.cons (.cst (.int 1)) .nil)))) (.cons (.ret (.call i_power_of (.cons (.var 0) (.cons (.var 1) .nil)))) .nil)))
def f_power_in : Fdt := ⟨"power_in", ["k", "n"], ["k", "n"], ⟨2, 2, b_power_in⟩, Hd.d_power_in⟩
def b_check_block : CB := (.cons (.expr (.call i_check_digits (.cons (.var 0) (.cons (.var 1) .nil)))) (.cons (.ifs (.orv (.cmp .eq (.var 1) (.tup .nil)) (.cmp .eq (.ix (.var 1) (.neg (.cst (.int 1)))) (.cst (.int 0)))) (.cons (.never) .nil) .nil) .nil))
def f_check_block : Fdt := ⟨"check_block", ["k", "rows"], ["k", "rows"], ⟨2, 2, b_check_block⟩, Hd.d_check_block⟩
def b_block_count : CB := (.cons (.expr (.call i_check_base (.cons (.var 0) .nil))) (.cons (.expr (.call i_check_block (.cons (.var 0) (.cons (.var 1) .nil)))) (.cons (.expr (.call i_check_from (.cons (.var 2) (.cons (.cst (.int 0)) .nil)))) (.cons (.asg (.var 3) (.call i_digits_of (.cons (.var 0) (.cons (.var 2) .nil)))) (.cons (.ret (.bi .len (.cons (.lc (.cst (.int 1)) (.var 4) (.rng1 (.bin .add (.bin .sub (.bi .len (.cons (.var 3) .nil)) (.bi .len (.cons (.var 1) .nil))) (.cst (.int 1)))) (.some (.cmp .eq (.sl (.var 3) (.some (.var 4)) (.some (.bin .add (.var 4) (.bi .len (.cons (.var 1) .nil))))) (.var 1))) [4]) .nil))) .nil)))))
def f_block_count : Fdt := ⟨"block_count", ["k", "rows", "n"], ["k", "rows", "n", "own", "at"], ⟨3, 5, b_block_count⟩, Hd.d_block_count⟩
def b__law_feed : CB := (.cons (.ret (.lst (.cons (.bi .list_ (.cons (.sl (.var 0) .none (.some (.cst (.int 63)))) .nil)) (.cons (.cst (.int 0)) (.cons (.cst (.int 0)) .nil))))) .nil)
def f__law_feed : Fdt := ⟨"_law_feed", ["script"], ["script"], ⟨1, 1, b__law_feed⟩, Hd.d__law_feed⟩
def b__law_drawn : CB := (.cons (.ifs (.cmp .eq (.ix (.var 0) (.cst (.int 2))) (.cst (.int 0))) (.cons (.asg (.var 2) (.ix (.var 0) (.cst (.int 0)))) (.cons (.asg (.var 3) (.ix (.var 0) (.cst (.int 1)))) (.cons (.asg (.ix (.var 0) (.cst (.int 1))) (.bin .add (.var 3) (.cst (.int 1)))) (.cons (.asg (.var 4) (.cst (.int 0))) (.cons (.ifs (.cmp .gt (.bi .len (.cons (.var 2) .nil)) (.cst (.int 0))) (.cons (.asg (.var 4) (.ix (.var 2) (.bin .mod (.bi .int_ (.cons (.var 3) .nil)) (.bi .len (.cons (.var 2) .nil))))) .nil) .nil) (.cons (.ifs (.orv (.cmp .ge (.var 3) (.bi .len (.cons (.var 2) .nil))) (.cmp .lt (.var 4) (.bin .pow (.cst (.int 10)) (.cst (.int 18))))) (.cons (.asg (.var 5) (.bin .mod (.bi .int_ (.cons (.bin .add (.bin .add (.bin .add (.bin .mod (.bi .int_ (.cons (.var 4) .nil)) (.cst (.int 999979))) (.bin .mul (.bin .mul (.var 3) (.var 3)) (.cst (.int 307)))) (.bin .mul (.var 3) (.cst (.int 53)))) (.cst (.int 17))) .nil)) (.cst (.int 999979)))) (.cons (.asg (.var 6) (.bin .mod (.bi .int_ (.cons (.bin .add (.bin .add (.bin .mul (.bin .mul (.var 5) (.var 5)) (.cst (.int 5))) (.bin .mul (.var 5) (.cst (.int 11)))) (.var 3)) .nil)) (.cst (.int 2147483629)))) (.cons (.ret (.bin .mod (.bi .int_ (.cons (.bin .mod (.bi .int_ (.cons (.bin .mul (.var 6) (.cst (.int 69621))) .nil)) (.cst (.int 2147483647))) .nil)) (.var 1))) .nil))) .nil) (.cons (.asg (.ix (.var 0) (.cst (.int 2))) (.var 4)) .nil))))))) .nil) (.cons (.asg (.var 7) (.bin .mod (.bi .int_ (.cons (.ix (.var 0) (.cst (.int 2))) .nil)) (.var 1))) (.cons (.asg (.ix (.var 0) (.cst (.int 2))) (.bin .fdiv (.bi .int_ (.cons (.ix (.var 0) (.cst (.int 2))) .nil)) (.var 1))) (.cons (.ret (.var 7)) .nil))))
def f__law_drawn : Fdt := ⟨"_law_drawn", ["feed", "many"], ["feed", "many", "cells", "at", "cell", "first", "second", "digit"], ⟨2, 8, b__law_drawn⟩, Hd.d__law_drawn⟩
def b__law_same : CB := (.cons (.ifs (.isi (.var 1) [.tuple, .list]) (.cons (.ifs (.orv (.cmp .ne (.isi (.var 0) [.tuple]) (.isi (.var 1) [.tuple])) (.cmp .ne (.isi (.var 0) [.list]) (.isi (.var 1) [.list]))) (.cons (.ret (.cst (.bl false))) .nil) .nil) (.cons (.ret (.andv (.cmp .eq (.bi .len (.cons (.var 0) .nil)) (.bi .len (.cons (.var 1) .nil))) (.bi .all_ (.cons (.lc (.call i__law_same (.cons (.ix (.var 0) (.var 2)) (.cons (.ix (.var 1) (.var 2)) .nil))) (.var 2) (.rng1 (.bi .len (.cons (.var 1) .nil))) .none [2]) .nil)))) .nil)) .nil) (.cons (.ifs (.cmp .isN (.var 1) (.cst .non)) (.cons (.ret (.cmp .isN (.var 0) (.cst .non))) .nil) .nil) (.cons (.ifs (.isi (.var 1) [.bool]) (.cons (.ret (.andv (.isi (.var 0) [.bool]) (.cmp .eq (.var 0) (.var 1)))) .nil) .nil) (.cons (.ifs (.isi (.var 1) [.int]) (.cons (.ret (.andv (.isi (.var 0) [.int]) (.andv (.notv (.isi (.var 0) [.bool])) (.cmp .eq (.var 0) (.var 1))))) .nil) .nil) (.cons (.ret (.andv (.isi (.var 0) [.str]) (.cmp .eq (.var 0) (.var 1)))) .nil)))))
def f__law_same : Fdt := ⟨"_law_same", ["found", "due"], ["found", "due", "at"], ⟨2, 3, b__law_same⟩, Hd.d__law_same⟩
def b__law_base : CB := (.cons (.ret (.ix (.lst (.cons (.cst (.int 2)) (.cons (.cst (.int 3)) (.cons (.cst (.int 2)) (.cons (.cst (.int 4)) (.cons (.cst (.int 5)) (.cons (.cst (.int 2)) (.cons (.cst (.int 3)) .nil)))))))) (.call i__law_drawn (.cons (.var 0) (.cons (.cst (.int 7)) .nil))))) .nil)
def f__law_base : Fdt := ⟨"_law_base", ["feed"], ["feed"], ⟨1, 1, b__law_base⟩, Hd.d__law_base⟩
def b__law_power : CB := (.cons (.asg (.var 2) (.cst (.int 1))) (.cons (.for_ (.var 3) (.rng1 (.var 1)) (.cons (.asg (.var 2) (.bin .mul (.var 2) (.var 0))) .nil)) (.cons (.ret (.var 2)) .nil)))
def f__law_power : Fdt := ⟨"_law_power", ["k", "e"], ["k", "e", "found", "turn"], ⟨2, 4, b__law_power⟩, Hd.d__law_power⟩
def b__law_digits : CB := (.cons (.asg (.var 2) (.lst .nil)) (.cons (.for_ (.var 3) (.rng1 (.cst (.int 700))) (.cons (.ifs (.cmp .eq (.var 1) (.cst (.int 0))) (.cons (.brk) .nil) .nil) (.cons (.expr (.meth .append (.var 2) (.cons (.bin .mod (.bi .int_ (.cons (.var 1) .nil)) (.var 0)) .nil))) (.cons (.asg (.var 1) (.bin .fdiv (.var 1) (.var 0))) .nil)))) (.cons (.ret (.var 2)) .nil)))
def f__law_digits : Fdt := ⟨"_law_digits", ["k", "n"], ["k", "n", "found", "turn"], ⟨2, 4, b__law_digits⟩, Hd.d__law_digits⟩
def b__law_number : CB := (.cons (.asg (.var 2) (.cst (.int 0))) (.cons (.for_ (.var 3) (.seq (.rev (.var 1))) (.cons (.asg (.var 2) (.bin .add (.bin .mul (.var 2) (.var 0)) (.var 3))) .nil)) (.cons (.ret (.var 2)) .nil)))
def f__law_number : Fdt := ⟨"_law_number", ["k", "some"], ["k", "some", "found", "own"], ⟨2, 4, b__law_number⟩, Hd.d__law_number⟩
def b__law_great : CB := (.cons (.ret (.ix (.lst (.cons (.call i__law_drawn (.cons (.var 0) (.cons (.cst (.int 20)) .nil))) (.cons (.call i__law_drawn (.cons (.var 0) (.cons (.cst (.int 900)) .nil))) (.cons (.call i__law_drawn (.cons (.var 0) (.cons (.bin .pow (.cst (.int 10)) (.cst (.int 30))) .nil))) .nil)))) (.call i__law_drawn (.cons (.var 0) (.cons (.cst (.int 3)) .nil))))) .nil)
def f__law_great : Fdt := ⟨"_law_great", ["feed"], ["feed"], ⟨1, 1, b__law_great⟩, Hd.d__law_great⟩
def b__law_right : CB := (.cons (.asg (.var 1) (.call i__law_base (.cons (.var 0) .nil))) (.cons (.asg (.var 2) (.call i__law_great (.cons (.var 0) .nil))) (.cons (.asg (.var 3) (.call i__law_digits (.cons (.var 1) (.cons (.var 2) .nil)))) (.cons (.ifs (.notv (.call i__law_same (.cons (.lst (.cons (.call i_digits (.cons (.var 1) (.cons (.var 2) .nil))) (.cons (.callk i_digits .nil (.cons (.var 2) (.cons (.var 1) .nil)) [1, 0]) (.cons (.call i_number_of (.cons (.var 1) (.cons (.bi .tuple_ (.cons (.var 3) .nil)) .nil))) (.cons (.callk i_number_of .nil (.cons (.bin .add (.bi .tuple_ (.cons (.var 3) .nil)) (.tup (.cons (.cst (.int 0)) (.cons (.cst (.int 0)) .nil)))) (.cons (.var 1) .nil)) [1, 0]) .nil))))) (.cons (.lst (.cons (.bi .tuple_ (.cons (.var 3) .nil)) (.cons (.bi .tuple_ (.cons (.var 3) .nil)) (.cons (.var 2) (.cons (.var 2) .nil))))) .nil)))) (.cons (.ret (.cst (.bl false))) .nil) .nil) (.cons (.ifs (.orv (.notv (.call i__law_same (.cons (.lst (.cons (.call i_digit_sum (.cons (.var 1) (.cons (.var 2) .nil))) (.cons (.callk i_digit_sum .nil (.cons (.var 2) (.cons (.var 1) .nil)) [1, 0]) (.cons (.call i_digits (.cons (.var 1) (.cons (.cst (.int 0)) .nil))) (.cons (.call i_digit_sum (.cons (.var 1) (.cons (.cst (.int 0)) .nil))) .nil))))) (.cons (.lst (.cons (.bi .sum_ (.cons (.var 3) .nil)) (.cons (.bi .sum_ (.cons (.var 3) .nil)) (.cons (.tup .nil) (.cons (.cst (.int 0)) .nil))))) .nil)))) (.cmp .ne (.bin .mod (.bi .int_ (.cons (.bin .sub (.var 2) (.call i_digit_sum (.cons (.var 1) (.cons (.var 2) .nil)))) .nil)) (.bin .sub (.var 1) (.cst (.int 1)))) (.cst (.int 0)))) (.cons (.ret (.cst (.bl false))) .nil) .nil) (.cons (.asg (.var 4) (.bin .add (.bi .tuple_ (.cons (.lc (.call i__law_drawn (.cons (.var 0) (.cons (.var 1) .nil))) (.var 5) (.rng1 (.call i__law_drawn (.cons (.var 0) (.cons (.cst (.int 4)) .nil)))) .none [5]) .nil)) (.tup (.cons (.bin .add (.cst (.int 1)) (.call i__law_drawn (.cons (.var 0) (.cons (.bin .sub (.var 1) (.cst (.int 1))) .nil)))) .nil)))) (.cons (.ifs (.andv (.cmp .gt (.bi .len (.cons (.var 3) .nil)) (.cst (.int 3))) (.cmp .eq (.call i__law_drawn (.cons (.var 0) (.cons (.cst (.int 2)) .nil))) (.cst (.int 0)))) (.cons (.asg (.var 5) (.call i__law_drawn (.cons (.var 0) (.cons (.bin .sub (.bi .len (.cons (.var 3) .nil)) (.cst (.int 2))) .nil)))) (.cons (.ifs (.cmp .ne (.ix (.var 3) (.bin .add (.var 5) (.cst (.int 1)))) (.cst (.int 0))) (.cons (.asg (.var 4) (.tup (.cons (.ix (.var 3) (.var 5)) (.cons (.ix (.var 3) (.bin .add (.var 5) (.cst (.int 1)))) .nil)))) .nil) .nil) .nil)) .nil) (.cons (.asg (.var 6) (.cst (.int 0))) (.cons (.for_ (.var 5) (.rng1 (.bi .len (.cons (.var 3) .nil))) (.cons (.ifs (.cmp .eq (.bi .tuple_ (.cons (.sl (.var 3) (.some (.var 5)) (.some (.bin .add (.var 5) (.bi .len (.cons (.var 4) .nil))))) .nil)) (.var 4)) (.cons (.asg (.var 6) (.bin .add (.var 6) (.cst (.int 1)))) .nil) .nil) .nil)) (.cons (.ifs (.notv (.call i__law_same (.cons (.lst (.cons (.call i_block_count (.cons (.var 1) (.cons (.var 4) (.cons (.var 2) .nil)))) (.cons (.callk i_block_count .nil (.cons (.var 2) (.cons (.var 4) (.cons (.var 1) .nil))) [2, 1, 0]) (.cons (.call i_block_count (.cons (.var 1) (.cons (.var 4) (.cons (.cst (.int 0)) .nil)))) .nil)))) (.cons (.lst (.cons (.var 6) (.cons (.var 6) (.cons (.cst (.int 0)) .nil)))) .nil)))) (.cons (.ret (.cst (.bl false))) .nil) .nil) (.cons (.asg (.var 7) (.bi .sum_ (.cons (.lc (.bin .mul (.var 8) (.call i_block_count (.cons (.var 1) (.cons (.tup (.cons (.var 8) .nil)) (.cons (.var 2) .nil))))) (.var 8) (.rng2 (.cst (.int 1)) (.var 1)) .none [8]) .nil))) (.cons (.ifs (.cmp .ne (.var 7) (.call i_digit_sum (.cons (.var 1) (.cons (.var 2) .nil)))) (.cons (.ret (.cst (.bl false))) .nil) .nil) (.cons (.asg (.var 9) (.call i__law_drawn (.cons (.var 0) (.cons (.cst (.int 9)) .nil)))) (.cons (.asg (.var 10) (.ife (.cmp .lt (.var 2) (.bin .pow (.cst (.int 10)) (.cst (.int 20)))) (.var 2) (.bin .fdiv (.var 2) (.bin .pow (.cst (.int 10)) (.cst (.int 7)))))) (.cons (.asg (.var 11) (.bin .add (.bin .add (.bin .mul (.var 10) (.var 1)) (.cst (.int 1))) (.call i__law_drawn (.cons (.var 0) (.cons (.bin .sub (.var 1) (.cst (.int 1))) .nil))))) (.cons (.asg (.var 12) (.bin .mul (.var 11) (.call i__law_power (.cons (.var 1) (.cons (.var 9) .nil))))) (.cons (.ifs (.notv (.call i__law_same (.cons (.lst (.cons (.call i_power_in (.cons (.var 1) (.cons (.var 12) .nil))) (.cons (.callk i_power_in .nil (.cons (.var 12) (.cons (.var 1) .nil)) [1, 0]) (.cons (.call i_digits (.cons (.var 1) (.cons (.var 12) .nil))) .nil)))) (.cons (.lst (.cons (.var 9) (.cons (.var 9) (.cons (.bin .add (.bin .add (.bin .mul (.tup (.cons (.cst (.int 0)) .nil)) (.var 9)) (.tup (.cons (.bin .mod (.bi .int_ (.cons (.var 11) .nil)) (.var 1)) .nil))) (.bi .tuple_ (.cons (.call i__law_digits (.cons (.var 1) (.cons (.var 10) .nil))) .nil))) .nil)))) .nil)))) (.cons (.ret (.cst (.bl false))) .nil) .nil) (.cons (.asg (.var 13) (.bi .tuple_ (.cons (.lc (.call i__law_drawn (.cons (.var 0) (.cons (.var 1) .nil))) (.var 5) (.rng1 (.call i__law_drawn (.cons (.var 0) (.cons (.cst (.int 12)) .nil)))) .none [5]) .nil))) (.cons (.ret (.call i__law_same (.cons (.lst (.cons (.call i_number_of (.cons (.var 1) (.cons (.var 13) .nil))) (.cons (.call i_number_of (.cons (.var 1) (.cons (.tup .nil) .nil))) (.cons (.call i_digits (.cons (.var 1) (.cons (.call i_number_of (.cons (.var 1) (.cons (.var 13) .nil))) .nil))) .nil)))) (.cons (.lst (.cons (.call i__law_number (.cons (.var 1) (.cons (.var 13) .nil))) (.cons (.cst (.int 0)) (.cons (.bi .tuple_ (.cons (.call i__law_digits (.cons (.var 1) (.cons (.call i__law_number (.cons (.var 1) (.cons (.var 13) .nil))) .nil))) .nil)) .nil)))) .nil)))) .nil)))))))))))))))))))
def f__law_right : Fdt := ⟨"_law_right", ["feed"], ["feed", "k", "n", "own", "block", "at", "count", "weights", "d", "e", "low", "unit", "wide", "loose"], ⟨1, 14, b__law_right⟩, Hd.d__law_right⟩
def b_law : CB := (.cons (.asg (.var 1) (.call i__law_feed (.cons (.var 0) .nil))) (.cons (.for_ (.var 2) (.rng1 (.cst (.int 8))) (.cons (.ifs (.notv (.call i__law_right (.cons (.var 1) .nil))) (.cons (.ret (.cst (.bl false))) .nil) .nil) .nil)) (.cons (.ret (.cst (.bl true))) .nil)))
def f_law : Fdt := ⟨"law", ["script"], ["script", "feed", "turn"], ⟨1, 3, b_law⟩, Hd.d_law⟩
def fds : List Fdt := ([f_is_integer, f_is_natural, f_is_base, f_are_digits, f_check_base, f_check_from, f_check_digits, f_digits_of, f_number_from, f_digits, f_number_of, f_digit_sum, f_power_of, f_power_in, f_check_block, f_block_count, f__law_feed, f__law_drawn, f__law_same, f__law_base, f__law_power, f__law_digits, f__law_number, f__law_great, f__law_right, f_law] : List Fdt)
def cnsT : List (Str × Int) := [("LEAST_BASE", (2 : Int)), ("MOST_BASE", (5 : Int))]
def kwsT : List (Nat × Nat × List Str × List Nat) := ([(i_digits, 0, ["n", "k"], [1, 0]), (i_number_of, 0, ["rows", "k"], [1, 0]), (i_digit_sum, 0, ["n", "k"], [1, 0]), (i_block_count, 0, ["n", "rows", "k"], [2, 1, 0]), (i_power_in, 0, ["n", "k"], [1, 0])] : List (Nat × Nat × List Str × List Nat))
def txt : Txt := ⟨fds, cnsT, kwsT⟩
theorem p_is_integer : txt.prog[i_is_integer]? = some ⟨1, 1, b_is_integer⟩ := rfl
theorem p_is_natural : txt.prog[i_is_natural]? = some ⟨1, 1, b_is_natural⟩ := rfl
theorem p_is_base : txt.prog[i_is_base]? = some ⟨1, 1, b_is_base⟩ := rfl
theorem p_are_digits : txt.prog[i_are_digits]? = some ⟨2, 3, b_are_digits⟩ := rfl
theorem p_check_base : txt.prog[i_check_base]? = some ⟨1, 1, b_check_base⟩ := rfl
theorem p_check_from : txt.prog[i_check_from]? = some ⟨2, 2, b_check_from⟩ := rfl
theorem p_check_digits : txt.prog[i_check_digits]? = some ⟨2, 2, b_check_digits⟩ := rfl
theorem p_digits_of : txt.prog[i_digits_of]? = some ⟨2, 3, b_digits_of⟩ := rfl
theorem p_number_from : txt.prog[i_number_from]? = some ⟨2, 4, b_number_from⟩ := rfl
theorem p_digits : txt.prog[i_digits]? = some ⟨2, 2, b_digits⟩ := rfl
theorem p_number_of : txt.prog[i_number_of]? = some ⟨2, 2, b_number_of⟩ := rfl
theorem p_digit_sum : txt.prog[i_digit_sum]? = some ⟨2, 2, b_digit_sum⟩ := rfl
theorem p_power_of : txt.prog[i_power_of]? = some ⟨2, 3, b_power_of⟩ := rfl
theorem p_power_in : txt.prog[i_power_in]? = some ⟨2, 2, b_power_in⟩ := rfl
theorem p_check_block : txt.prog[i_check_block]? = some ⟨2, 2, b_check_block⟩ := rfl
theorem p_block_count : txt.prog[i_block_count]? = some ⟨3, 5, b_block_count⟩ := rfl
theorem p__law_feed : txt.prog[i__law_feed]? = some ⟨1, 1, b__law_feed⟩ := rfl
theorem p__law_drawn : txt.prog[i__law_drawn]? = some ⟨2, 8, b__law_drawn⟩ := rfl
theorem p__law_same : txt.prog[i__law_same]? = some ⟨2, 3, b__law_same⟩ := rfl
theorem p__law_base : txt.prog[i__law_base]? = some ⟨1, 1, b__law_base⟩ := rfl
theorem p__law_power : txt.prog[i__law_power]? = some ⟨2, 4, b__law_power⟩ := rfl
theorem p__law_digits : txt.prog[i__law_digits]? = some ⟨2, 4, b__law_digits⟩ := rfl
theorem p__law_number : txt.prog[i__law_number]? = some ⟨2, 4, b__law_number⟩ := rfl
theorem p__law_great : txt.prog[i__law_great]? = some ⟨1, 1, b__law_great⟩ := rfl
theorem p__law_right : txt.prog[i__law_right]? = some ⟨1, 14, b__law_right⟩ := rfl
theorem p_law : txt.prog[i_law]? = some ⟨1, 3, b_law⟩ := rfl
end Mp

namespace Mp
open PySem PySem.Spec PyProof.Rows L2
theorem k_is_integer : FdOk txt f_is_integer := ⟨⟨rfl, rfl, rfl, by decide +kernel, rfl, by decide +kernel, by decide +kernel⟩, rfl, rfl, by kernel_rfl, rfl, fun _ _ _ _ _ _ us hl => match us, hl with | [_], _ => rfl⟩
theorem k_is_natural : FdOk txt f_is_natural := ⟨⟨rfl, rfl, rfl, by decide +kernel, rfl, by decide +kernel, by decide +kernel⟩, rfl, rfl, by kernel_rfl, rfl, fun _ _ _ _ _ _ us hl => match us, hl with | [_], _ => rfl⟩
theorem k_is_base : FdOk txt f_is_base := ⟨⟨rfl, rfl, rfl, by decide +kernel, rfl, by decide +kernel, by decide +kernel⟩, rfl, rfl, by kernel_rfl, rfl, fun _ _ _ _ _ _ us hl => match us, hl with | [_], _ => rfl⟩
theorem k_are_digits : FdOk txt f_are_digits := ⟨⟨rfl, rfl, rfl, by decide +kernel, rfl, by decide +kernel, by decide +kernel⟩, rfl, rfl, by kernel_rfl, rfl, fun _ _ _ _ _ _ us hl => match us, hl with | [_, _], _ => rfl⟩
theorem k_check_base : FdOk txt f_check_base := ⟨⟨rfl, rfl, rfl, by decide +kernel, rfl, by decide +kernel, by decide +kernel⟩, rfl, rfl, by kernel_rfl, rfl, fun _ _ _ _ _ _ us hl => match us, hl with | [_], _ => rfl⟩
theorem k_check_from : FdOk txt f_check_from := ⟨⟨rfl, rfl, rfl, by decide +kernel, rfl, by decide +kernel, by decide +kernel⟩, rfl, rfl, by kernel_rfl, rfl, fun _ _ _ _ _ _ us hl => match us, hl with | [_, _], _ => rfl⟩
theorem k_check_digits : FdOk txt f_check_digits := ⟨⟨rfl, rfl, rfl, by decide +kernel, rfl, by decide +kernel, by decide +kernel⟩, rfl, rfl, by kernel_rfl, rfl, fun _ _ _ _ _ _ us hl => match us, hl with | [_, _], _ => rfl⟩
theorem k_digits_of : FdOk txt f_digits_of := ⟨⟨rfl, rfl, rfl, by decide +kernel, rfl, by decide +kernel, by decide +kernel⟩, rfl, rfl, by kernel_rfl, rfl, fun _ _ _ _ _ _ us hl => match us, hl with | [_, _], _ => rfl⟩
theorem k_number_from : FdOk txt f_number_from := ⟨⟨rfl, rfl, rfl, by decide +kernel, rfl, by decide +kernel, by decide +kernel⟩, rfl, rfl, by kernel_rfl, rfl, fun _ _ _ _ _ _ us hl => match us, hl with | [_, _], _ => rfl⟩
theorem k_digits : FdOk txt f_digits := ⟨⟨rfl, rfl, rfl, by decide +kernel, rfl, by decide +kernel, by decide +kernel⟩, rfl, rfl, by kernel_rfl, rfl, fun _ _ _ _ _ _ us hl => match us, hl with | [_, _], _ => rfl⟩
theorem k_number_of : FdOk txt f_number_of := ⟨⟨rfl, rfl, rfl, by decide +kernel, rfl, by decide +kernel, by decide +kernel⟩, rfl, rfl, by kernel_rfl, rfl, fun _ _ _ _ _ _ us hl => match us, hl with | [_, _], _ => rfl⟩
theorem k_digit_sum : FdOk txt f_digit_sum := ⟨⟨rfl, rfl, rfl, by decide +kernel, rfl, by decide +kernel, by decide +kernel⟩, rfl, rfl, by kernel_rfl, rfl, fun _ _ _ _ _ _ us hl => match us, hl with | [_, _], _ => rfl⟩
theorem k_power_of : FdOk txt f_power_of := ⟨⟨rfl, rfl, rfl, by decide +kernel, rfl, by decide +kernel, by decide +kernel⟩, rfl, rfl, by kernel_rfl, rfl, fun _ _ _ _ _ _ us hl => match us, hl with | [_, _], _ => rfl⟩
theorem k_power_in : FdOk txt f_power_in := ⟨⟨rfl, rfl, rfl, by decide +kernel, rfl, by decide +kernel, by decide +kernel⟩, rfl, rfl, by kernel_rfl, rfl, fun _ _ _ _ _ _ us hl => match us, hl with | [_, _], _ => rfl⟩
theorem k_check_block : FdOk txt f_check_block := ⟨⟨rfl, rfl, rfl, by decide +kernel, rfl, by decide +kernel, by decide +kernel⟩, rfl, rfl, by kernel_rfl, rfl, fun _ _ _ _ _ _ us hl => match us, hl with | [_, _], _ => rfl⟩
theorem k_block_count : FdOk txt f_block_count := ⟨⟨rfl, rfl, rfl, by decide +kernel, rfl, by decide +kernel, by decide +kernel⟩, rfl, rfl, by kernel_rfl, rfl, fun _ _ _ _ _ _ us hl => match us, hl with | [_, _, _], _ => rfl⟩
theorem k__law_feed : FdOk txt f__law_feed := ⟨⟨rfl, rfl, rfl, by decide +kernel, rfl, by decide +kernel, by decide +kernel⟩, rfl, rfl, by kernel_rfl, rfl, fun _ _ _ _ _ _ us hl => match us, hl with | [_], _ => rfl⟩
theorem k__law_drawn : FdOk txt f__law_drawn := ⟨⟨rfl, rfl, rfl, by decide +kernel, rfl, by decide +kernel, by decide +kernel⟩, rfl, rfl, by kernel_rfl, rfl, fun _ _ _ _ _ _ us hl => match us, hl with | [_, _], _ => rfl⟩
theorem k__law_same : FdOk txt f__law_same := ⟨⟨rfl, rfl, rfl, by decide +kernel, rfl, by decide +kernel, by decide +kernel⟩, rfl, rfl, by kernel_rfl, rfl, fun _ _ _ _ _ _ us hl => match us, hl with | [_, _], _ => rfl⟩
theorem k__law_base : FdOk txt f__law_base := ⟨⟨rfl, rfl, rfl, by decide +kernel, rfl, by decide +kernel, by decide +kernel⟩, rfl, rfl, by kernel_rfl, rfl, fun _ _ _ _ _ _ us hl => match us, hl with | [_], _ => rfl⟩
theorem k__law_power : FdOk txt f__law_power := ⟨⟨rfl, rfl, rfl, by decide +kernel, rfl, by decide +kernel, by decide +kernel⟩, rfl, rfl, by kernel_rfl, rfl, fun _ _ _ _ _ _ us hl => match us, hl with | [_, _], _ => rfl⟩
theorem k__law_digits : FdOk txt f__law_digits := ⟨⟨rfl, rfl, rfl, by decide +kernel, rfl, by decide +kernel, by decide +kernel⟩, rfl, rfl, by kernel_rfl, rfl, fun _ _ _ _ _ _ us hl => match us, hl with | [_, _], _ => rfl⟩
theorem k__law_number : FdOk txt f__law_number := ⟨⟨rfl, rfl, rfl, by decide +kernel, rfl, by decide +kernel, by decide +kernel⟩, rfl, rfl, by kernel_rfl, rfl, fun _ _ _ _ _ _ us hl => match us, hl with | [_, _], _ => rfl⟩
theorem k__law_great : FdOk txt f__law_great := ⟨⟨rfl, rfl, rfl, by decide +kernel, rfl, by decide +kernel, by decide +kernel⟩, rfl, rfl, by kernel_rfl, rfl, fun _ _ _ _ _ _ us hl => match us, hl with | [_], _ => rfl⟩
theorem k__law_right : FdOk txt f__law_right := ⟨⟨rfl, rfl, rfl, by decide +kernel, rfl, by decide +kernel, by decide +kernel⟩, rfl, rfl, by kernel_rfl, rfl, fun _ _ _ _ _ _ us hl => match us, hl with | [_], _ => rfl⟩
theorem k_law : FdOk txt f_law := ⟨⟨rfl, rfl, rfl, by decide +kernel, rfl, by decide +kernel, by decide +kernel⟩, rfl, rfl, by kernel_rfl, rfl, fun _ _ _ _ _ _ us hl => match us, hl with | [_], _ => rfl⟩
theorem k_part0 : ∀ f ∈ ([f_is_integer, f_is_natural, f_is_base, f_are_digits, f_check_base, f_check_from, f_check_digits, f_digits_of, f_number_from, f_digits, f_number_of, f_digit_sum, f_power_of, f_power_in, f_check_block, f_block_count, f__law_feed, f__law_drawn, f__law_same, f__law_base, f__law_power, f__law_digits, f__law_number, f__law_great, f__law_right, f_law] : List Fdt), FdOk txt f := List.forall_mem_cons.mpr ⟨k_is_integer, List.forall_mem_cons.mpr ⟨k_is_natural, List.forall_mem_cons.mpr ⟨k_is_base, List.forall_mem_cons.mpr ⟨k_are_digits, List.forall_mem_cons.mpr ⟨k_check_base, List.forall_mem_cons.mpr ⟨k_check_from, List.forall_mem_cons.mpr ⟨k_check_digits, List.forall_mem_cons.mpr ⟨k_digits_of, List.forall_mem_cons.mpr ⟨k_number_from, List.forall_mem_cons.mpr ⟨k_digits, List.forall_mem_cons.mpr ⟨k_number_of, List.forall_mem_cons.mpr ⟨k_digit_sum, List.forall_mem_cons.mpr ⟨k_power_of, List.forall_mem_cons.mpr ⟨k_power_in, List.forall_mem_cons.mpr ⟨k_check_block, List.forall_mem_cons.mpr ⟨k_block_count, List.forall_mem_cons.mpr ⟨k__law_feed, List.forall_mem_cons.mpr ⟨k__law_drawn, List.forall_mem_cons.mpr ⟨k__law_same, List.forall_mem_cons.mpr ⟨k__law_base, List.forall_mem_cons.mpr ⟨k__law_power, List.forall_mem_cons.mpr ⟨k__law_digits, List.forall_mem_cons.mpr ⟨k__law_number, List.forall_mem_cons.mpr ⟨k__law_great, List.forall_mem_cons.mpr ⟨k__law_right, List.forall_mem_cons.mpr ⟨k_law, List.forall_mem_nil _⟩⟩⟩⟩⟩⟩⟩⟩⟩⟩⟩⟩⟩⟩⟩⟩⟩⟩⟩⟩⟩⟩⟩⟩⟩⟩
theorem k_mem : ∀ f ∈ fds, FdOk txt f := k_part0
theorem k_all (i : Nat) (f : Fdt) (hi : fds[i]? = some f) : FdOk txt f := k_mem f (List.mem_of_getElem? hi)
theorem kw_0 : KwOk txt (i_digits, 0, ["n", "k"], [1, 0]) := fun f hf => by
  obtain rfl := Option.some.inj (show some f_digits = some f from hf)
  exact fun _ _ _ _ _ _ us ws h1 h2 => match us, ws, h1, h2 with | [], [_, _], _, _ => rfl
theorem kw_1 : KwOk txt (i_number_of, 0, ["rows", "k"], [1, 0]) := fun f hf => by
  obtain rfl := Option.some.inj (show some f_number_of = some f from hf)
  exact fun _ _ _ _ _ _ us ws h1 h2 => match us, ws, h1, h2 with | [], [_, _], _, _ => rfl
theorem kw_2 : KwOk txt (i_digit_sum, 0, ["n", "k"], [1, 0]) := fun f hf => by
  obtain rfl := Option.some.inj (show some f_digit_sum = some f from hf)
  exact fun _ _ _ _ _ _ us ws h1 h2 => match us, ws, h1, h2 with | [], [_, _], _, _ => rfl
theorem kw_3 : KwOk txt (i_block_count, 0, ["n", "rows", "k"], [2, 1, 0]) := fun f hf => by
  obtain rfl := Option.some.inj (show some f_block_count = some f from hf)
  exact fun _ _ _ _ _ _ us ws h1 h2 => match us, ws, h1, h2 with | [], [_, _, _], _, _ => rfl
theorem kw_4 : KwOk txt (i_power_in, 0, ["n", "k"], [1, 0]) := fun f hf => by
  obtain rfl := Option.some.inj (show some f_power_in = some f from hf)
  exact fun _ _ _ _ _ _ us ws h1 h2 => match us, ws, h1, h2 with | [], [_, _], _, _ => rfl
theorem kw_all : ∀ p ∈ txt.kws, KwOk txt p := List.forall_mem_cons.mpr ⟨kw_0, List.forall_mem_cons.mpr ⟨kw_1, List.forall_mem_cons.mpr ⟨kw_2, List.forall_mem_cons.mpr ⟨kw_3, List.forall_mem_cons.mpr ⟨kw_4, List.forall_mem_nil _⟩⟩⟩⟩⟩
theorem facts {P : Program} {w : World} {K : PySem.W.Frag} {mg : Str → Option Value} {h : Heap} (X : K.In h) (G : h.Ns mainGlobals mg) (c : He.SaysD Hd.faD Hd.fnD K) :
    (∀ (i : Nat) (f : Fdt), txt.fds[i]? = some f → mg f.x = some (.ref (He.ga K f.x)) ∧ FdOk txt f ∧ ∃ fd, FunD K f.x f.x f.d.params f.d.body f.d.scope [] [] (He.ga K f.x) fd) ∧
    (∀ x i, txt.cns.lookup x = some i → ∃ u, mg x = some (.int i u)) ∧ ∀ x ∈ BN, mg x = none := by
  refine ⟨fun i f hi => ?_, fun x i hi => ?_, fun x hx => ?_⟩
  · have hd : Hd.fnD[i]? = some f.d := by
      have e : Hd.fnD = fds.map Fdt.d := rfl
      have hi' : fds[i]? = some f := hi
      rw [e, List.getElem?_map, hi']; rfl
    have ok := k_all i f hi
    obtain ⟨fd, F⟩ := c.def_ i hd
    have hg : Hd.faD[i]? = some (.glo f.x) := by
      have hi' : fds[i]? = some f := hi
      have e : Hd.faD.take 26 = fds.map fun f => He.Fa.glo f.x := rfl
      have hlt : i < 26 := by
        have := (List.getElem?_eq_some_iff.mp hi').1
        exact this
      rw [← List.getElem?_take_of_lt hlt, e, List.getElem?_map, hi']; rfl
    have hm := He.glo_ok X G (c.fact i hg)
    refine ⟨hm, ok, fd, ?_⟩
    rw [ok.dat] at F
    exact F
  · have hm : (x, i) ∈ cnsT := PySem.mem_of_lookup hi
    have key : ∀ p ∈ cnsT, ∃ u, mg p.1 = some (.int p.2 u) := (List.forall_mem_cons.mpr ⟨He.int_ok X G (c.fact 26 (f := .int "LEAST_BASE" 2) rfl), List.forall_mem_cons.mpr ⟨He.int_ok X G (c.fact 27 (f := .int "MOST_BASE" 5) rfl), List.forall_mem_nil _⟩⟩)
    exact key (x, i) hm
  · have key : ∀ x ∈ BN, mg x = none := (List.forall_mem_cons.mpr ⟨He.free_ok X G (c.fact 34 (f := .free "len") rfl), List.forall_mem_cons.mpr ⟨He.free_ok X G (c.fact 32 (f := .free "int") rfl), List.forall_mem_cons.mpr ⟨He.free_ok X G (c.fact 35 (f := .free "list") rfl), List.forall_mem_cons.mpr ⟨He.free_ok X G (c.fact 40 (f := .free "tuple") rfl), List.forall_mem_cons.mpr ⟨He.free_ok X G (c.fact 38 (f := .free "sum") rfl), List.forall_mem_cons.mpr ⟨He.free_ok X G (c.fact 29 (f := .free "all") rfl), List.forall_mem_cons.mpr ⟨He.free_ok X G (c.fact 30 (f := .free "any") rfl), List.forall_mem_cons.mpr ⟨He.free_ok X G (c.fact 33 (f := .free "isinstance") rfl), List.forall_mem_cons.mpr ⟨He.free_ok X G (c.fact 36 (f := .free "range") rfl), List.forall_mem_cons.mpr ⟨He.free_ok X G (c.fact 31 (f := .free "bool") rfl), List.forall_mem_cons.mpr ⟨He.free_ok X G (c.fact 37 (f := .free "str") rfl), List.forall_mem_nil _⟩⟩⟩⟩⟩⟩⟩⟩⟩⟩⟩)
    exact key x hx
theorem law_bind (K : PySem.W.Frag) (fd : FuncData) (F : FunD K "law" "law" Hd.d_law.params Hd.d_law.body Hd.d_law.scope [] [] (He.ga K "law") fd) (s : Shared) (v : Value) : BindsTo s fd ⟨[v], []⟩ [("script", v)] :=
  FunD.bindsA (ps := ["script"]) F (fun _ _ _ _ _ _ us hl => match us, hl with | [_], _ => rfl) s [v] rfl
end Mp

namespace Mp
open PySem L2
/-! digits, plain -/
def dig (k n : Nat) : List Nat := if h : n = 0 ∨ k < 2 then [] else (n % k) :: dig k (n / k)
termination_by n
decreasing_by exact Nat.div_lt_self (by omega) (by omega)
theorem dig_zero {k : Nat} : dig k 0 = [] := by
  rw [dig]; simp
theorem dig_pos {k n : Nat} (hk : 2 ≤ k) (hn : 0 < n) : dig k n = n % k :: dig k (n / k) := by
  rw [dig, dif_neg (by omega)]
def num (k : Nat) : List Nat → Nat
  | [] => 0
  | x :: xs => num k xs * k + x
theorem num_dig {k : Nat} (hk : 2 ≤ k) : ∀ n, num k (dig k n) = n := by
  intro n
  induction n using Nat.strongRecOn with
  | _ n ih =>
    by_cases h : n = 0
    · subst h; rw [dig_zero]; rfl
    · rw [dig_pos hk (by omega)]
      show num k (dig k (n / k)) * k + n % k = n
      rw [ih (n / k) (Nat.div_lt_self (by omega) (by omega)), Nat.mul_comm]
      exact Nat.div_add_mod n k
theorem num_zeros {k : Nat} : ∀ xs : List Nat, num k (xs ++ [0, 0]) = num k xs
  | [] => by simp [num]
  | x :: xs => by
    show num k (xs ++ [0, 0]) * k + x = num k xs * k + x
    rw [num_zeros xs]
theorem dig_lt {k : Nat} (hk : 2 ≤ k) : ∀ n, ∀ d ∈ dig k n, d < k := by
  intro n
  induction n using Nat.strongRecOn with
  | _ n ih =>
    by_cases h : n = 0
    · subst h; rw [dig_zero]; intro d hd; cases hd
    · rw [dig_pos hk (by omega)]
      intro d hd
      rcases List.mem_cons.mp hd with rfl | hd
      · exact Nat.mod_lt _ (by omega)
      · exact ih (n / k) (Nat.div_lt_self (by omega) (by omega)) d hd
theorem div_half {k n L : Nat} (hk : 2 ≤ k) (h : n < 2 ^ (L + 1)) : n / k < 2 ^ L := by
  have h1 : n / k ≤ n / 2 := Nat.div_le_div_left hk (by omega)
  rw [Nat.pow_succ] at h
  omega
theorem dig_len {k : Nat} (hk : 2 ≤ k) : ∀ (L n : Nat), n < 2 ^ L → (dig k n).length ≤ L
  | 0, n, h => by
    have : n = 0 := by
      rw [Nat.pow_zero] at h
      omega
    subst this; rw [dig_zero]; exact Nat.le_refl _
  | L + 1, n, h => by
    by_cases h0 : n = 0
    · subst h0; rw [dig_zero]; exact Nat.zero_le _
    · rw [dig_pos hk (by omega)]
      exact Nat.succ_le_succ (dig_len hk L (n / k) (div_half hk h))
theorem dig_sum {k : Nat} (hk : 2 ≤ k) : ∀ n, ∃ q, n = (dig k n).sum + (k - 1) * q := by
  intro n
  induction n using Nat.strongRecOn with
  | _ n ih =>
    by_cases h : n = 0
    · subst h; rw [dig_zero]; exact ⟨0, rfl⟩
    · rw [dig_pos hk (by omega)]
      obtain ⟨q, e⟩ := ih (n / k) (Nat.div_lt_self (by omega) (by omega))
      refine ⟨n / k + q, ?_⟩
      rw [List.sum_cons, Nat.mul_add]
      have h1 : n = k * (n / k) + n % k := (Nat.div_add_mod n k).symm
      have h2 : k * (n / k) = (k - 1) * (n / k) + n / k := by
        have h3 : k = (k - 1) + 1 := by omega
        generalize n / k = z
        conv => lhs; rw [h3, Nat.add_mul, Nat.one_mul]
      omega
theorem num_lt {k : Nat} (hk : 2 ≤ k) : ∀ l : List Nat, (∀ d ∈ l, d < k) → num k l < k ^ l.length
  | [], _ => by simp [num]
  | x :: xs, h => by
    have h1 := num_lt hk xs (fun d hd => h d (List.mem_cons_of_mem _ hd))
    have h2 := h x (List.mem_cons_self ..)
    show num k xs * k + x < k ^ (xs.length + 1)
    rw [Nat.pow_succ]
    have h3 : (num k xs + 1) * k ≤ k ^ xs.length * k := Nat.mul_le_mul_right _ h1
    rw [Nat.add_mul, Nat.one_mul] at h3
    omega
theorem dig_unit {k low c : Nat} (hk : 2 ≤ k) (h0 : 0 < c) (hc : c < k) : dig k (low * k + c) = c :: dig k low := by
  rw [dig_pos hk (by omega)]
  have h1 : (low * k + c) % k = c := by
    rw [Nat.add_comm, Nat.add_mul_mod_self_right, Nat.mod_eq_of_lt hc]
  have h2 : (low * k + c) / k = low := by
    rw [Nat.add_comm, Nat.add_mul_div_right _ _ (by omega), Nat.div_eq_of_lt hc, Nat.zero_add]
  rw [h1, h2]
theorem mul_mod_self' {a k : Nat} : (a * k) % k = 0 := Nat.mul_mod_left a k
theorem dig_wide {k u : Nat} (hk : 2 ≤ k) (h0 : 0 < u) : ∀ e, dig k (u * k ^ e) = List.replicate e 0 ++ dig k u
  | 0 => by simp
  | e + 1 => by
    have hp : 0 < u * k ^ e := Nat.mul_pos h0 (Nat.pow_pos (by omega))
    have h1 : u * k ^ (e + 1) = u * k ^ e * k := by rw [Nat.pow_succ, Nat.mul_assoc]
    rw [h1, dig_pos hk (Nat.mul_pos hp (by omega)), Nat.mul_mod_left, Nat.mul_div_cancel _ (by omega), dig_wide hk h0 e]
    rfl
/-- how often the block stands at a place below m -/
def bc (bl own : List Nat) : Nat → Nat
  | 0 => 0
  | m + 1 => bc bl own m + if (own.drop m).take bl.length = bl then 1 else 0
theorem bc_stop {bl own : List Nat} (hb : 1 ≤ bl.length) : ∀ j, bc bl own (own.length + 1 - bl.length + j) = bc bl own (own.length + 1 - bl.length)
  | 0 => rfl
  | j + 1 => by
    rw [← bc_stop hb j]
    show bc bl own (own.length + 1 - bl.length + j) + (if (own.drop (own.length + 1 - bl.length + j)).take bl.length = bl then 1 else 0) = _
    rw [if_neg]
    · rfl
    · intro h
      have h1 := congrArg List.length h
      rw [List.length_take, List.length_drop] at h1
      omega
theorem bc_eq {bl own : List Nat} (hb : 1 ≤ bl.length) : bc bl own own.length = bc bl own (own.length + 1 - bl.length) := by
  have h := bc_stop (bl := bl) (own := own) hb (own.length - (own.length + 1 - bl.length))
  rw [show own.length + 1 - bl.length + (own.length - (own.length + 1 - bl.length)) = own.length by omega] at h
  exact h
theorem bc_le {bl own : List Nat} : ∀ m, bc bl own m ≤ m
  | 0 => Nat.le_refl _
  | m + 1 => by
    show bc bl own m + (if _ then 1 else 0) ≤ m + 1
    have := bc_le (bl := bl) (own := own) m
    split <;> omega
theorem bc_one {d x : Nat} {xs : List Nat} : ∀ m, bc [d] (x :: xs) (m + 1) = (if x = d then 1 else 0) + bc [d] xs m
  | 0 => by
    show 0 + (if [x] = [d] then 1 else 0) = _ + 0
    simp
  | m + 1 => by
    show bc [d] (x :: xs) (m + 1) + (if (xs.drop m).take 1 = [d] then 1 else 0) = _ + (bc [d] xs m + if (xs.drop m).take 1 = [d] then 1 else 0)
    rw [bc_one m]
    omega
def wsum (f : Nat → Nat) : Nat → Nat
  | 0 => 0
  | m + 1 => wsum f m + (m + 1) * f (m + 1)
theorem wsum_add {f g : Nat → Nat} : ∀ m, wsum (fun d => f d + g d) m = wsum f m + wsum g m
  | 0 => rfl
  | m + 1 => by
    show wsum (fun d => f d + g d) m + (m + 1) * (f (m + 1) + g (m + 1)) = _
    rw [wsum_add m, Nat.mul_add]
    show _ = (wsum f m + (m + 1) * f (m + 1)) + (wsum g m + (m + 1) * g (m + 1))
    omega
theorem wsum_at {x : Nat} : ∀ m, wsum (fun d => if x = d then 1 else 0) m = if x ≤ m then x else 0
  | 0 => by
    show 0 = _
    split <;> omega
  | m + 1 => by
    show wsum _ m + (m + 1) * (if x = m + 1 then 1 else 0) = _
    rw [wsum_at m]
    by_cases h : x = m + 1
    · subst h; simp
    · rw [if_neg h]
      by_cases h2 : x ≤ m
      · rw [if_pos h2, if_pos (by omega)]; omega
      · rw [if_neg h2, if_neg (by omega)]; omega
theorem weights {k : Nat} : ∀ own : List Nat, (∀ d ∈ own, d < k) → wsum (fun d => bc [d] own own.length) (k - 1) = own.sum
  | [], _ => by
    have : ∀ m, wsum (fun d => bc [d] [] ([] : List Nat).length) m = 0 := fun m => by
      induction m with
      | zero => rfl
      | succ m ih =>
        show wsum _ m + (m + 1) * 0 = 0
        rw [ih]; rfl
    exact this _
  | x :: xs, h => by
    have h1 := weights xs (fun d hd => h d (List.mem_cons_of_mem _ hd))
    have h2 := h x (List.mem_cons_self ..)
    have e : (fun d => bc [d] (x :: xs) (x :: xs).length) = fun d => (if x = d then 1 else 0) + bc [d] xs xs.length := funext fun d => bc_one xs.length
    rw [e, wsum_add, wsum_at, h1, if_pos (by omega), List.sum_cons]
/-! data -/
def dI (l : List Nat) : List D := l.map fun (x : Nat) => D.int (x : Int)
theorem dI_map (l : List Nat) : dI l = (l.map Int.ofNat).map D.int := by
  unfold dI; rw [List.map_map]; rfl
theorem dI_len {l : List Nat} : (dI l).length = l.length := by unfold dI; rw [List.length_map]
theorem dI_app {a b : List Nat} : dI a ++ dI b = dI (a ++ b) := by unfold dI; rw [List.map_append]
theorem dI_rev {a : List Nat} : (dI a).reverse = dI a.reverse := by unfold dI; rw [List.map_reverse]
theorem ofNat_inj : ∀ {xs ys : List Nat}, xs.map Int.ofNat = ys.map Int.ofNat ↔ xs = ys := fun {xs ys} => ⟨fun h => by
  induction xs generalizing ys with
  | nil => cases ys with
    | nil => rfl
    | cons => cases h
  | cons x xs ih => cases ys with
    | nil => cases h
    | cons y ys =>
      rw [List.map_cons, List.map_cons, List.cons.injEq] at h
      rw [ih h.2, Int.ofNat.inj h.1], fun h => by rw [h]⟩
theorem pyEq_dI {st : Sto} {xs ys : List Nat} : pyEq st (.tup (dI xs)) (.tup (dI ys)) = some (decide (xs = ys)) := by
  rw [dI_map, dI_map, pyEq_ints]
  simp only [ofNat_inj]
theorem sum_ofNat : ∀ l : List Nat, (l.map Int.ofNat).sum = (l.sum : Int)
  | [] => rfl
  | x :: xs => by
    rw [List.map_cons, List.sum_cons, List.sum_cons, sum_ofNat xs]
    exact (Int.natCast_add ..).symm
theorem allO_dI {l : List Nat} : allO D.isInt (dI l) = some (l.map Int.ofNat) := by rw [dI_map, allO_ints]
theorem cut_dI {own : List Nat} {i l : Nat} : cutD (dI own) (some (i : Int)) (some ((i : Int) + (l : Int))) = dI ((own.drop i).take l) := by
  unfold cutD
  rw [← Int.natCast_add, HT.sIx_nat, HT.sIx_nat, dI_len]
  unfold dI
  rw [List.map_take, List.map_drop]
  by_cases h : i ≤ own.length
  · rw [Nat.min_eq_left h]
    by_cases h2 : i + l ≤ own.length
    · rw [Nat.min_eq_left h2, Nat.add_sub_cancel_left]
    · rw [Nat.min_eq_right (by omega), List.take_of_length_le, List.take_of_length_le]
      · rw [List.length_drop, List.length_map]; omega
      · rw [List.length_drop, List.length_map]; omega
  · rw [Nat.min_eq_right (by omega), List.drop_eq_nil_of_le (by rw [List.length_map]; omega), List.drop_eq_nil_of_le (by rw [List.length_map]; omega)]
    simp
theorem at_dI {xs : List Nat} {i : Nat} {x : Nat} (h : xs[i]? = some x) : atI (dI xs) (i : Int) = some (.int x) := by
  have hl := (List.getElem?_eq_some_iff.mp h).1
  unfold atI ixN
  rw [dI_len, if_pos (by omega), if_pos (by omega)]
  show (dI xs)[(i : Int).toNat]? = _
  rw [Int.toNat_natCast]
  unfold dI
  rw [List.getElem?_map, h]; rfl
theorem atI_nat {ds : List D} {i : Nat} {x : D} (h : ds[i]? = some x) : atI ds (i : Int) = some x := by
  have hl := (List.getElem?_eq_some_iff.mp h).1
  unfold atI ixN
  rw [if_pos (by omega), if_pos (by omega)]
  show ds[(i : Int).toNat]? = _
  rw [Int.toNat_natCast, h]

local macro_rules | `(tactic| walk_at "ev") => `(tactic| try simp only [e_var, e_cst, e_bin, e_neg, e_cmp, e_chain, e_and, e_or, e_not, e_ife, e_tup, e_lst, e_ix, e_sl, e_rev, e_call, e_callk, e_bi, e_isi, e_meth, es_nil, es_cons, o_none, o_some, t_ev, if_none, if_some, i_rng1, i_rng2, i_seq, s_expr, s_ret, s_retN, s_asg, s_par, s_par3, s_ifs, s_brk, s_cont, s_pass, s_never, b_nil, b_cons, t_var, t_tup, t_ix, ts_nil, ts_cons, d_add, d_addT, d_addL, d_sub, d_mul, d_mulT, d_fdiv, d_mod, d_pow, c_lt, c_le, c_gt, c_ge, c_eq, c_ne, c_isN_non, c_isN_int, c_isN_bl, c_isN_tup, c_isN_ref, c_isN_str, c_notN_non, c_notN_int, c_notN_tup, c_notN_ref, w_cD, t_non, t_bl, t_int, t_tup', x_tup, x_ref, l_tup, l_ref, r_tup, r_ref, f_len, n_tup, n_ref, f_int, f_intb, f_tupT, f_tupL, f_lstT, f_lstL, f_sum, f_sumT, allO_dI, f_all, f_any, m_app, m_pop, wp_bind, wp_ok, wp_guard, wp_newL, wp_newT, wp_ofO, wp_ite, wp_no, Cn.d, List.getElem?_cons_zero, List.getElem?_cons_succ, List.getElem?_nil, List.set_cons_zero, List.set_cons_succ, List.map_cons, List.map_nil, List.cons_append, List.nil_append, List.length_cons, List.length_nil, List.replicate, Nat.sub_zero, Nat.zero_add, Nat.reduceAdd, Nat.reduceSub, Option.some.injEq, exists_eq_left', exists_eq', Option.map_some, pyEq_int, pyEq_bl, get_last, set_last, lstAt_last, O.lst.injEq, D.int.injEq, dI_len, pyEq_dI, dI_app, dI_rev, forall_const, true_implies, Bool.false_eq_true, false_implies, true_and, and_true, eq_self_iff_true, reduceCtorEq, implies_true, decide_eq_true_eq, decide_eq_false_iff_not, Bool.not_eq_true', Bool.not_eq_false', Bool.not_eq_true, Bool.true_eq_false, List.getD_cons_zero, List.getD_cons_succ, List.length_map, true_or, or_true, false_or, or_false, false_and, and_false, beq_self_eq_true, Bool.not_true, Bool.not_false, decide_true, decide_false, Bool.or_false, Bool.true_or, Bool.false_or, Bool.or_true, Bool.and_true, Bool.true_and, not_true_eq_false, not_false_eq_true])
local macro_rules | `(tactic| walk_at "evh") => `(tactic| try simp only [e_var, e_cst, e_bin, e_neg, e_cmp, e_chain, e_and, e_or, e_not, e_ife, e_tup, e_lst, e_ix, e_sl, e_rev, e_call, e_callk, e_bi, e_isi, e_meth, es_nil, es_cons, o_none, o_some, t_ev, if_none, if_some, i_rng1, i_rng2, i_seq, s_expr, s_ret, s_retN, s_asg, s_par, s_par3, s_ifs, s_brk, s_cont, s_pass, s_never, b_nil, b_cons, t_var, t_tup, t_ix, ts_nil, ts_cons, d_add, d_addT, d_addL, d_sub, d_mul, d_mulT, d_fdiv, d_mod, d_pow, c_lt, c_le, c_gt, c_ge, c_eq, c_ne, c_isN_non, c_isN_int, c_isN_bl, c_isN_tup, c_isN_ref, c_isN_str, c_notN_non, c_notN_int, c_notN_tup, c_notN_ref, w_cD, t_non, t_bl, t_int, t_tup', x_tup, x_ref, l_tup, l_ref, r_tup, r_ref, f_len, n_tup, n_ref, f_int, f_intb, f_tupT, f_tupL, f_lstT, f_lstL, f_sum, f_sumT, allO_dI, f_all, f_any, m_app, m_pop, wp_bind, wp_ok, wp_guard, wp_newL, wp_newT, wp_ofO, wp_ite, wp_no, Cn.d, List.getElem?_cons_zero, List.getElem?_cons_succ, List.getElem?_nil, List.set_cons_zero, List.set_cons_succ, List.map_cons, List.map_nil, List.cons_append, List.nil_append, List.length_cons, List.length_nil, List.replicate, Nat.sub_zero, Nat.zero_add, Nat.reduceAdd, Nat.reduceSub, Option.some.injEq, exists_eq_left', exists_eq', Option.map_some, pyEq_int, pyEq_bl, get_last, set_last, lstAt_last, O.lst.injEq, D.int.injEq, dI_len, pyEq_dI, dI_app, dI_rev, forall_const, true_implies, Bool.false_eq_true, false_implies, true_and, and_true, eq_self_iff_true, reduceCtorEq, implies_true, decide_eq_true_eq, decide_eq_false_iff_not, Bool.not_eq_true', Bool.not_eq_false', Bool.not_eq_true, Bool.true_eq_false, List.getD_cons_zero, List.getD_cons_succ, List.length_map, true_or, or_true, false_or, or_false, false_and, and_false, beq_self_eq_true, Bool.not_true, Bool.not_false, decide_true, decide_false, Bool.or_false, Bool.true_or, Bool.false_or, Bool.or_true, Bool.and_true, Bool.true_and, not_true_eq_false, not_false_eq_true, *])

theorem is_integer_i {n : Nat} {k : Int} {st : Sto} {Q : D → Sto → Prop} (h : Q (.bl true) st) : wp (callF txt.prog (n + 1) i_is_integer [.int k] st) Q := by
  rw [wp_call p_is_integer rfl]
  unfold b_is_integer
  walk_at "ev"
  simp only [isi_one (show tyD st (.int k) = some (some .int) from rfl)]
  walk_at "ev"
  exact ⟨fun _ => h, fun z => by cases z⟩
theorem is_natural_s {n : Nat} {k : Int} {st : Sto} {Q : D → Sto → Prop} (hk : 0 ≤ k) (h : Q (.bl true) st) : wp (callF txt.prog (n + 2) i_is_natural [.int k] st) Q := by
  rw [wp_call p_is_natural rfl]
  unfold b_is_natural
  walk_at "ev"
  refine is_integer_i ?_
  walk_at "ev"
  rw [decide_eq_true hk]; exact h
theorem is_base_s {n : Nat} {k : Int} {st : Sto} {Q : D → Sto → Prop} (h2 : 2 ≤ k) (h5 : k ≤ 5) (h : Q (.bl true) st) : wp (callF txt.prog (n + 2) i_is_base [.int k] st) Q := by
  rw [wp_call p_is_base rfl]
  unfold b_is_base
  walk_at "ev"
  refine is_integer_i ?_
  walk_at "ev"
  exact ⟨fun _ => by rw [decide_eq_true h5]; exact h, fun z => (z h2).elim⟩
theorem check_base_s {n : Nat} {k : Int} {st : Sto} {Q : D → Sto → Prop} (h2 : 2 ≤ k) (h5 : k ≤ 5) (h : Q .non st) : wp (callF txt.prog (n + 3) i_check_base [.int k] st) Q := by
  rw [wp_call p_check_base rfl]
  unfold b_check_base
  walk_at "ev"
  refine is_base_s h2 h5 ?_
  walk_at "ev"
  exact h
theorem check_from_s {n : Nat} {k l : Int} {st : Sto} {Q : D → Sto → Prop} (hl : l ≤ k) (h : Q .non st) : wp (callF txt.prog (n + 2) i_check_from [.int k, .int l] st) Q := by
  rw [wp_call p_check_from rfl]
  unfold b_check_from
  walk_at "ev"
  refine is_integer_i ?_
  walk_at "ev"
  exact ⟨fun z => by omega, fun _ => h⟩
theorem sizeLine_eq : sizeLine = 16777216 := by unfold sizeLine; decide
theorem log_small {k : Nat} (h : k ≤ 1000) : ((k : Int)).natAbs.log2 < 9000 := by
  show k.log2 < 9000
  by_cases h0 : k = 0
  · subst h0; decide
  · have := (Nat.log2_lt h0).mpr (show k < 2 ^ 10 by omega)
    omega
theorem digits_of_s {n k m : Nat} {st : Sto} {Q : D → Sto → Prop} (hk : 2 ≤ k) (h5 : k ≤ 5) (hm : m < 2 ^ 600) (h : ∀ st', Pre st st' → Q (.tup (dI (dig k m))) st') : wp (callF txt.prog (n + 1) i_digits_of [.int k, .int m] st) Q := by
  rw [wp_call p_digits_of rfl]
  unfold b_digits_of
  walk_at "ev"
  refine ⟨Nat.zero_le _, ?_⟩
  rw [s_whl]
  have hL := dig_len (k := k) hk _ _ hm
  have hsz := sizeLine_eq
  refine wp_while (fun i env s => ∃ (j : Nat) (pre : List Nat), env = [some (.int k), some (.int j), some (.ref st.length)] ∧ s = st ++ [.lst (dI pre)] ∧ pre ++ dig k j = dig k m ∧ i = (dig k j).length) (dig k m).length ?_ ⟨m, [], rfl, rfl, rfl, rfl⟩ ?_
  · rw [turns_eq]; omega
  · rintro i env s ⟨j, pre, rfl, rfl, hp, rfl⟩
    walk_at "ev"
    constructor
    · intro hj
      have hl := congrArg List.length hp
      rw [List.length_append] at hl
      have hp2 := hp
      rw [dig_pos (n := j) hk (by omega)] at hp2
      refine ⟨by omega, by omega, ⟨by omega, log_small (by omega)⟩, (dig k (j / k)).length, ?_, j / k, pre ++ [j % k], by rw [Int.natCast_ediv], ?_, ?_, rfl⟩
      · rw [dig_pos (n := j) hk (by omega)]; exact Nat.lt_succ_self _
      · rw [← dI_app]
        rfl
      · rw [List.append_assoc]; exact hp2
    · intro hj
      have hj : j = 0 := by omega
      subst hj
      rw [dig_zero, List.append_nil] at hp
      subst hp
      exact ⟨by omega, h _ Pre.push⟩
/-- so many trues -/
def trs (i : Nat) : List D := (List.replicate i true).map D.bl
theorem trs_succ {i : Nat} : trs (i + 1) = trs i ++ [.bl true] := by
  unfold trs
  rw [List.replicate_succ', List.map_append]; rfl
theorem trs_len {i : Nat} : (trs i).length = i := by unfold trs; simp
theorem trs_all {i : Nat} : allO D.isBl (trs i) = some (List.replicate i true) := allO_bools _
theorem all_rep {i : Nat} : (List.replicate i true).all id = true := by simp
theorem are_digits_s {n k : Nat} {xs : List Nat} {st : Sto} {Q : D → Sto → Prop} (hx : ∀ d ∈ xs, d < k) (hl : xs.length < 10000) (h : ∀ st', Pre st st' → Q (.bl true) st') : wp (callF txt.prog (n + 3) i_are_digits [.int k, .tup (dI xs)] st) Q := by
  rw [wp_call p_are_digits rfl]
  unfold b_are_digits
  walk_at "ev"
  have hsz := sizeLine_eq
  simp only [isi_one (show tyD st (.tup (dI xs)) = some (some .tuple) from rfl)]
  walk_at "ev"
  refine ⟨fun _ => ?_, fun z => by cases z⟩
  rw [e_lc]
  walk_at "ev"
  refine wp_comp xs.length (fun i s => s = st ++ [.lst (trs i)]) (by rw [turns_eq]; omega) rfl ?_ ?_ ?_
  · intro i s hi _
    have := at_items (ds := dI xs) (st := s) (i := i) (by rw [dI_len]; exact hi)
    rw [dI_len] at this
    exact this
  · rintro i s d hi rfl hd
    have hd := at_items_some hd
    have e : (dI xs)[i]? = some (D.int (xs[i] : Nat)) := by unfold dI; rw [List.getElem?_map, List.getElem?_eq_getElem hi]; rfl
    rw [e] at hd
    cases hd
    have hlt := hx xs[i] (List.getElem_mem hi)
    walk_at "ev"
    unfold wipeE wipeE
    walk_at "ev"
    refine is_natural_s (by omega) ?_
    walk_at "ev"
    refine ⟨by rw [trs_len]; omega, ?_⟩
    rw [decide_eq_true (by omega), trs_succ]
  · rintro s rfl
    walk_at "ev"
    refine ⟨_, trs_all, ?_⟩
    rw [all_rep]
    exact h _ Pre.push
theorem check_digits_s {n k : Nat} {xs : List Nat} {st : Sto} {Q : D → Sto → Prop} (hx : ∀ d ∈ xs, d < k) (hl : xs.length < 10000) (h : ∀ st', Pre st st' → Q .non st') : wp (callF txt.prog (n + 4) i_check_digits [.int k, .tup (dI xs)] st) Q := by
  rw [wp_call p_check_digits rfl]
  unfold b_check_digits
  walk_at "ev"
  refine are_digits_s hx hl fun s hs => ?_
  walk_at "ev"
  exact h _ hs
theorem number_from_s {n k : Nat} {xs : List Nat} {st : Sto} {Q : D → Sto → Prop} (hk : k ≤ 5) (hl : xs.length < 10000) (h : Q (.int (num k xs)) st) : wp (callF txt.prog (n + 1) i_number_from [.int k, .tup (dI xs)] st) Q := by
  rw [wp_call p_number_from rfl]
  unfold b_number_from
  walk_at "ev"
  have hsz := sizeLine_eq
  rw [s_for]
  walk_at "ev"
  refine ⟨by rw [List.length_reverse]; omega, ?_⟩
  refine wp_for xs.length (fun i env s => s = st ∧ ∃ t, env = [some (.int k), some (.tup (dI xs)), some (.int (num k (xs.reverse.take i).reverse)), t]) (by rw [turns_eq]; omega) ⟨rfl, none, rfl⟩ ?_ ?_ ?_
  · intro i e s hi _
    have := at_items (ds := dI xs.reverse) (st := s) (i := i) (by rw [dI_len, List.length_reverse]; exact hi)
    rw [dI_len, List.length_reverse] at this
    exact this
  · rintro i e s d hi ⟨rfl, t, rfl⟩ hd
    have hd := at_items_some hd
    have hi' : i < xs.reverse.length := by rw [List.length_reverse]; exact hi
    have e : (dI xs.reverse)[i]? = some (D.int (xs.reverse[i] : Nat)) := by unfold dI; rw [List.getElem?_map, List.getElem?_eq_getElem hi']; rfl
    rw [e] at hd
    cases hd
    walk_at "ev"
    refine ⟨Or.inr (Or.inl (by omega)), some (.int (xs.reverse[i] : Nat)), ?_⟩
    rw [List.take_succ, List.getElem?_eq_getElem hi', List.reverse_append]
    show _ = [some (D.int k), some (.tup (dI xs)), some (.int ((num k (List.take i xs.reverse).reverse * k + xs.reverse[i] : Nat) : Int)), _]
    rw [Int.natCast_add, Int.natCast_mul]
  · rintro e s ⟨rfl, t, rfl⟩
    walk_at "ev"
    rw [List.take_of_length_le (by rw [List.length_reverse]; exact Nat.le_refl _), List.reverse_reverse]
    exact h

theorem digits_s {n k m : Nat} {st : Sto} {Q : D → Sto → Prop} (hk : 2 ≤ k) (h5 : k ≤ 5) (hm : m < 2 ^ 600) (h : ∀ st', Pre st st' → Q (.tup (dI (dig k m))) st') : wp (callF txt.prog (n + 4) i_digits [.int k, .int m] st) Q := by
  rw [wp_call p_digits rfl]
  unfold b_digits
  walk_at "ev"
  refine check_base_s (by omega) (by omega) ?_
  walk_at "ev"
  refine check_from_s (by omega) ?_
  walk_at "ev"
  refine digits_of_s hk h5 hm fun s hs => ?_
  exact h _ hs
theorem number_of_s {n k : Nat} {xs : List Nat} {st : Sto} {Q : D → Sto → Prop} (hk : 2 ≤ k) (h5 : k ≤ 5) (hx : ∀ d ∈ xs, d < k) (hl : xs.length < 10000) (h : ∀ st', Pre st st' → Q (.int (num k xs)) st') : wp (callF txt.prog (n + 5) i_number_of [.int k, .tup (dI xs)] st) Q := by
  rw [wp_call p_number_of rfl]
  unfold b_number_of
  walk_at "ev"
  refine check_base_s (by omega) (by omega) ?_
  walk_at "ev"
  refine check_digits_s hx hl fun s hs => ?_
  walk_at "ev"
  refine number_from_s h5 hl ?_
  exact h _ hs
theorem digit_sum_s {n k m : Nat} {st : Sto} {Q : D → Sto → Prop} (hk : 2 ≤ k) (h5 : k ≤ 5) (hm : m < 2 ^ 600) (h : ∀ st', Pre st st' → Q (.int ((dig k m).sum : Nat)) st') : wp (callF txt.prog (n + 4) i_digit_sum [.int k, .int m] st) Q := by
  rw [wp_call p_digit_sum rfl]
  unfold b_digit_sum
  walk_at "ev"
  refine check_base_s (by omega) (by omega) ?_
  walk_at "ev"
  refine check_from_s (by omega) ?_
  walk_at "ev"
  refine digits_of_s hk h5 hm fun s hs => ?_
  walk_at "ev"
  rw [sum_ofNat]
  exact h _ hs
theorem power_in_s {n k u e : Nat} {st : Sto} {Q : D → Sto → Prop} (hk : 2 ≤ k) (h5 : k ≤ 5) (hu : u % k ≠ 0) (he : e < 1000) (h : Q (.int e) st) : wp (callF txt.prog (n + 4) i_power_in [.int k, .int (u * k ^ e : Nat)] st) Q := by
  have hu0 : 0 < u := by
    apply Nat.pos_of_ne_zero
    intro z
    rw [z, Nat.zero_mod] at hu
    exact hu rfl
  rw [wp_call p_power_in rfl]
  unfold b_power_in
  walk_at "ev"
  refine check_base_s (by omega) (by omega) ?_
  walk_at "ev"
  refine check_from_s ?_ ?_
  · have : 0 < u * k ^ e := Nat.mul_pos hu0 (Nat.pow_pos (by omega))
    omega
  walk_at "ev"
  rw [wp_call p_power_of rfl]
  unfold b_power_of
  walk_at "ev"
  rw [s_whl]
  refine wp_while (fun i env s => ∃ (j : Nat), s = st ∧ i + j = e ∧ env = [some (.int k), some (.int (u * k ^ i : Nat)), some (.int j)]) e ?_ ⟨0, rfl, rfl, rfl⟩ ?_
  · rw [turns_eq]; omega
  · rintro i env s ⟨j, rfl, hj, rfl⟩
    walk_at "ev"
    refine ⟨by omega, ?_, ?_⟩
    · intro hz
      cases i with
      | zero =>
        rw [Nat.pow_zero, Nat.mul_one] at hz
        have hz := eq_of_beq hz
        omega
      | succ i =>
        refine ⟨⟨by omega, log_small (by omega)⟩, i, by omega, j + 1, by omega, ?_⟩
        have h1 : u * k ^ (i + 1) = u * k ^ i * k := by rw [Nat.pow_succ, Nat.mul_assoc]
        rw [h1, ← Int.natCast_ediv, Nat.mul_div_cancel _ (by omega)]
        rfl
    · intro hz
      cases i with
      | zero =>
        rw [Nat.zero_add] at hj
        subst hj
        exact h
      | succ i =>
        have h1 : u * k ^ (i + 1) = u * k ^ i * k := by rw [Nat.pow_succ, Nat.mul_assoc]
        rw [h1, ← Int.natCast_emod, Nat.mul_mod_left] at hz
        cases hz
theorem at_neg1 {xs : List Nat} {x : Nat} {h : xs ≠ []} (hx : xs.getLast h = x) : atI (dI xs) (-1) = some (.int x) := by
  have hp : 0 < xs.length := List.length_pos_iff.mpr h
  unfold atI ixN
  rw [dI_len, if_neg (by omega), if_pos (by omega)]
  show (dI xs)[(-1 + (xs.length : Int)).toNat]? = _
  rw [show (-1 + (xs.length : Int)).toNat = xs.length - 1 by omega]
  unfold dI
  rw [List.getElem?_map, ← List.getLast?_eq_getElem?, List.getLast?_eq_some_getLast h, hx]; rfl
theorem check_block_s {n k : Nat} {xs : List Nat} {st : Sto} {Q : D → Sto → Prop} (hx : ∀ d ∈ xs, d < k) (hl : xs.length < 10000) (h0 : xs ≠ []) (h1 : xs.getLast h0 ≠ 0) (h : ∀ st', Pre st st' → Q .non st') : wp (callF txt.prog (n + 5) i_check_block [.int k, .tup (dI xs)] st) Q := by
  rw [wp_call p_check_block rfl]
  unfold b_check_block
  walk_at "ev"
  refine check_digits_s hx hl fun s hs => ?_
  walk_at "ev"
  refine ⟨Nat.zero_le _, ?_⟩
  have e : pyEq s (.tup (dI xs)) (.tup []) = some false := by
    have := pyEq_dI (st := s) (xs := xs) (ys := [])
    rw [decide_eq_false h0] at this
    exact this
  simp only [e, at_neg1 (h := h0) rfl]
  walk_at "ev"
  refine ⟨fun z => ?_, fun _ => h _ hs⟩
  have z := eq_of_beq z
  omega
/-- so many ones -/
def ones (i : Nat) : List D := List.replicate i (.int 1)
theorem ones_succ {i : Nat} : ones (i + 1) = ones i ++ [.int 1] := by unfold ones; rw [List.replicate_succ']
theorem ones_len {i : Nat} : (ones i).length = i := by unfold ones; simp
theorem block_count_s {n k m : Nat} {xs : List Nat} {st : Sto} {Q : D → Sto → Prop} (hk : 2 ≤ k) (h5 : k ≤ 5) (hm : m < 2 ^ 600) (hx : ∀ d ∈ xs, d < k) (hl : xs.length < 10000) (h0 : xs ≠ []) (h1 : xs.getLast h0 ≠ 0) (h : ∀ st', Pre st st' → Q (.int (bc xs (dig k m) (dig k m).length : Nat)) st') : wp (callF txt.prog (n + 6) i_block_count [.int k, .tup (dI xs), .int m] st) Q := by
  rw [wp_call p_block_count rfl]
  unfold b_block_count
  walk_at "ev"
  refine check_base_s (by omega) (by omega) ?_
  walk_at "ev"
  refine check_block_s hx hl h0 h1 fun s1 hs1 => ?_
  walk_at "ev"
  refine check_from_s (by omega) ?_
  walk_at "ev"
  refine digits_of_s hk h5 hm fun s2 hs2 => ?_
  walk_at "ev"
  rw [e_lc]
  walk_at "ev"
  have hL := dig_len (k := k) hk _ _ hm
  have hsz := sizeLine_eq
  have hp : 0 < xs.length := List.length_pos_iff.mpr h0
  refine ⟨by omega, ?_⟩
  rw [show (((dig k m).length : Int) - (xs.length : Int) + 1).toNat = (dig k m).length + 1 - xs.length by omega]
  refine wp_comp ((dig k m).length + 1 - xs.length) (fun i s => s = s2 ++ [.lst (ones (bc xs (dig k m) i))]) (by rw [turns_eq]; omega) rfl (fun i s hi _ => at_rng hi) ?_ ?_
  · rintro i s d hi rfl hd
    have hd := at_rng_some hd
    subst hd
    walk_at "ev"
    unfold wipeE wipeE
    walk_at "ev"
    rw [Int.zero_add, cut_dI]
    walk_at "ev"
    have hle := bc_le (bl := xs) (own := dig k m) i
    refine ⟨fun e => ⟨by rw [ones_len]; omega, ?_⟩, fun e => ?_⟩
    · rw [← ones_succ]
      show _ = s2 ++ [.lst (ones (bc xs (dig k m) i + if _ then 1 else 0))]
      rw [if_pos e]
    · show _ = s2 ++ [.lst (ones (bc xs (dig k m) i + if _ then 1 else 0))]
      rw [if_neg e]
      rfl
  · rintro s rfl
    walk_at "ev"
    rw [← bc_eq hp, ones_len]
    exact h _ ((hs1.trans hs2).trans Pre.push)

/-- the same but for one place -/
def Keep (f : Nat) (st st' : Sto) : Prop := ∀ (r : Nat) (o : O), r ≠ f → st[r]? = some o → st'[r]? = some o
theorem Keep.refl {f : Nat} {st : Sto} : Keep f st st := fun _ _ _ h => h
theorem Keep.trans {f : Nat} {a b c : Sto} (h : Keep f a b) (g : Keep f b c) : Keep f a c := fun r o n e => g r o n (h r o n e)
theorem Pre.keep {f : Nat} {a b : Sto} (h : Pre a b) : Keep f a b := fun r o _ e => h r o e
theorem Keep.set {f : Nat} {a b : Sto} {o : O} (h : Keep f a b) : Keep f a (b.set f o) := fun r u n e => by
  rw [List.getElem?_set_ne (Ne.symm n)]
  exact h r u n e
theorem Keep.set2 {f r : Nat} {a b : Sto} {o : O} (h : Keep f a b) (hr : a.length ≤ r) : Keep f a (b.set r o) := fun q u n e => by
  have hq : q < a.length := (List.getElem?_eq_some_iff.mp e).1
  rw [List.getElem?_set_ne (by omega)]
  exact h q u n e
/-- the feed -/
def Feed (f b : Nat) (st : Sto) : Prop := ∃ (c at_ : Nat) (rest : Int) (cells : List Int), st[f]? = some (.lst [.ref c, .int at_, .int rest]) ∧ st[c]? = some (.lst (cells.map D.int)) ∧ c + 1 = f ∧ at_ ≤ b ∧ cells.length < 1000
theorem Feed.pre {f b : Nat} {st st' : Sto} (h : Feed f b st) (p : Pre st st') : Feed f b st' := by
  obtain ⟨c, a, r, cells, h1, h2, h3, h4, h5⟩ := h
  exact ⟨c, a, r, cells, p _ _ h1, p _ _ h2, h3, h4, h5⟩
theorem Feed.up {f b b' : Nat} {st : Sto} (h : Feed f b st) (hb : b ≤ b') : Feed f b' st := by
  obtain ⟨c, a, r, cells, h1, h2, h3, h4, h5⟩ := h
  exact ⟨c, a, r, cells, h1, h2, h3, by omega, h5⟩
theorem Feed.lt {f b : Nat} {st : Sto} (h : Feed f b st) : f < st.length := by
  obtain ⟨c, a, r, cells, h1, _⟩ := h
  exact (List.getElem?_eq_some_iff.mp h1).1
theorem lstAt_of {st : Sto} {r : Nat} {ds : List D} (h : st[r]? = some (.lst ds)) : lstAt st r = some ds := by unfold lstAt; rw [h]
section
variable {st : Sto} {f c : Nat} {x y z v : D} {o : O} {ds : List D}
theorem lset_self (hf : f < st.length) : lstAt (st.set f (.lst ds)) f = some ds := lstAt_of (List.getElem?_set_self hf)
theorem lset_ne (hc : c ≠ f) : lstAt (st.set f o) c = lstAt st c := by
  unfold lstAt
  rw [List.getElem?_set_ne (Ne.symm hc)]
theorem set3_1 (h : st[f]? = some (.lst [x, y, z])) : setIx (.ref f) (.int 1) v st = some (st.set f (.lst [x, v, z])) := by
  rw [x_set, h]; rfl
theorem set3_2 (h : st[f]? = some (.lst [x, y, z])) : setIx (.ref f) (.int 2) v st = some (st.set f (.lst [x, y, v])) := by
  rw [x_set, h]; rfl
theorem set3_2' (hf : f < st.length) : setIx (.ref f) (.int 2) v (st.set f (.lst [x, y, z])) = some (st.set f (.lst [x, y, v])) := by
  rw [set3_2 (List.getElem?_set_self hf), List.set_set]
theorem at3_0 : atI [x, y, z] 0 = some x := rfl
theorem at3_1 : atI [x, y, z] 1 = some y := rfl
theorem at3_2 : atI [x, y, z] 2 = some z := rfl
end
theorem modN {m : Nat} (x : Int) (hm : 0 < m) : ∃ v : Nat, x % (m : Int) = v ∧ v < m := by
  have h0 := Int.emod_nonneg x (show (m : Int) ≠ 0 by omega)
  have h1 := Int.emod_lt_of_pos x (show (0 : Int) < m by omega)
  exact ⟨(x % (m : Int)).toNat, by omega, by omega⟩
theorem log_lt {m L : Nat} (h : m < 2 ^ L) (hL : 0 < L) : m.log2 < L := by
  by_cases h0 : m = 0
  · subst h0; exact hL
  · exact (Nat.log2_lt h0).mpr h
theorem drawn_s {n f b m : Nat} {st : Sto} {Q : D → Sto → Prop} (F : Feed f b st) (hb : b < 2 ^ 40) (hm : 0 < m) (hm2 : m < 2 ^ 200)
    (h : ∀ (v : Nat) (st' : Sto), v < m → Feed f (b + 1) st' → Keep f st st' → Q (.int v) st') : wp (callF txt.prog (n + 1) i__law_drawn [.ref f, .int m] st) Q := by
  have hf := F.lt
  obtain ⟨c, a, rest, cells, h1, h2, h3, h4, h5⟩ := F
  have h3' := h3
  have h3 : c ≠ f := by omega
  have l1 := lstAt_of h1
  have l2 := lstAt_of h2
  have hlog : ((m : Int)).natAbs.log2 < 9000 := by
    have := log_lt hm2 (by omega)
    show m.log2 < 9000
    omega
  have go : ∀ (x r : Int) (a' : Nat), a' ≤ b + 1 → Q (.int (x % (m : Int))) (st.set f (.lst [.ref c, .int a', .int r])) := fun x r a' ha => by
    obtain ⟨v, e, hv⟩ := modN x hm
    rw [e]
    exact h v _ hv ⟨c, a', r, cells, List.getElem?_set_self hf, by rw [List.getElem?_set_ne (Ne.symm h3)]; exact h2, h3', ha, h5⟩ Keep.refl.set
  have hpow : (a : Int).natAbs < 2 ^ 64 := by omega
  have e1 : ∀ o, lstAt (st.set f o) c = some (cells.map D.int) := fun o => by rw [lset_ne h3]; exact l2
  have e2 : ∀ ds, lstAt (st.set f (.lst ds)) f = some ds := fun ds => lset_self hf
  have e3 : ∀ v, setIx (.ref f) (.int 1) v st = some (st.set f (.lst [.ref c, v, .int rest])) := fun v => set3_1 h1
  have e4 : ∀ v, setIx (.ref f) (.int 2) v st = some (st.set f (.lst [.ref c, .int a, v])) := fun v => set3_2 h1
  have e5 : ∀ x y z v, setIx (.ref f) (.int 2) v (st.set f (.lst [x, y, z])) = some (st.set f (.lst [x, y, v])) := fun x y z v => set3_2' hf
  have e6 : ∀ x y z : D, atI [x, y, z] 0 = some x := fun _ _ _ => rfl
  have e7 : ∀ x y z : D, atI [x, y, z] 1 = some y := fun _ _ _ => rfl
  have e8 : ∀ x y z : D, atI [x, y, z] 2 = some z := fun _ _ _ => rfl
  have hm' : (0 : Int) < m := by omega
  have gx : ∀ (x r : Int), Q (.int (x % (m : Int))) (st.set f (.lst [.ref c, .int (a + 1), .int r])) := fun x r => go x r (a + 1) (by omega)
  have gy : ∀ (x r : Int), Q (.int (x % (m : Int))) (st.set f (.lst [.ref c, .int a, .int r])) := fun x r => go x r a (by omega)
  have n0 : ((0 : Int) == 0) = true := rfl
  have n1 : (0 : Int) < 999979 := by decide
  have n2 : (0 : Int) < 2147483629 := by decide
  have n3 : (0 : Int) < 2147483647 := by decide
  have n4 : Int.natAbs 307 < 2 ^ 64 := by decide
  have n5 : Int.natAbs 53 < 2 ^ 64 := by decide
  have n6 : Int.natAbs 5 < 2 ^ 64 := by decide
  have n7 : Int.natAbs 11 < 2 ^ 64 := by decide
  have n8 : Int.natAbs 69621 < 2 ^ 64 := by decide
  have n9 : Int.natAbs 10 < 2 ^ 64 := by decide
  have n10 : ∀ x : Int, (x % 999979).natAbs < 2 ^ 64 := fun x => by omega
  have n11 : (0 : Int) ≤ 18 := by decide
  have n12 : (18 : Int) ≤ 1000000 := by decide
  have n13 : (0 : Int) < 10 ^ Int.toNat 18 := by decide
  rw [wp_call p__law_drawn rfl]
  unfold b__law_drawn
  clear h go h1 h2 h3' h3 h4 h5 hf hm hb hm2 l2
  by_cases hr : rest = 0
  · subst hr
    by_cases hc : 0 < (cells.length : Int)
    · obtain ⟨z, hz⟩ : ∃ z : Int, atI (cells.map D.int) ((a : Int) % (cells.length : Int)) = some (.int z) := by
        obtain ⟨v, e, hv⟩ := modN (a : Int) (m := cells.length) (by omega)
        rw [e]
        exact ⟨cells[v], atI_nat (by rw [List.getElem?_map, List.getElem?_eq_getElem hv]; rfl)⟩
      by_cases ha : (cells.length : Int) ≤ (a : Int)
      · walk_at "evh"
      · by_cases hz : z < 10 ^ Int.toNat 18
        · walk_at "evh"
        · walk_at "evh"
    · by_cases ha : (cells.length : Int) ≤ (a : Int)
      · walk_at "evh"
      · walk_at "evh"
  · have hr' : (rest == 0) = false := by simpa using hr
    walk_at "evh"

/-- found and due the same -/
def Same (n : Nat) (d : D) : Prop := ∀ (st : Sto) (Q : D → Sto → Prop), (∀ st', Pre st st' → Q (.bl true) st') → wp (callF txt.prog n i__law_same [d, d] st) Q
theorem same_int {n : Nat} {k : Int} : Same (n + 1) (.int k) := by
  intro st Q h
  have g : Q (.bl true) st := h _ Pre.refl
  have e1 : isiD st (.int k) [.tuple, .list] = some false := rfl
  have e2 : isiD st (.int k) [.bool] = some false := rfl
  have e3 : isiD st (.int k) [.int] = some true := rfl
  rw [wp_call p__law_same rfl]
  unfold b__law_same
  clear h
  walk_at "evh"
theorem same_items {n : Nat} {cl : Nat → List D → Sto → Res D} {a b : D} {ds : List D} {st : Sto} {Q : D → Sto → Prop} (hcl : cl = callF txt.prog n) (hs : ∀ d ∈ ds, Same n d) (hl : ds.length < 10000)
    (hixa : ∀ s R i d, Pre st s → atI ds i = some d → R d s → wp (ixD a (.int i) s) R) (hixb : ∀ s R i d, Pre st s → atI ds i = some d → R d s → wp (ixD b (.int i) s) R)
    (h : ∀ st', Pre st st' → Q (.bl true) st') :
    wp ((compL (Wk.rng 0 ds.length) (fun d s => .ok (wipeE [some a, some b, none] [2] |>.set 2 (some d)) s) (fun _ s => .ok true s) (fun env1 s => evE cl (.call i__law_same (.cons (.ix (.var 0) (.var 2)) (.cons (.ix (.var 1) (.var 2)) .nil))) env1 s) st.length TURNS 0 (st ++ [.lst []])).bind fun d s => biD .all_ [d] s) Q := by
  subst hcl
  have hsz := sizeLine_eq
  rw [wp_bind]
  refine wp_comp ds.length (fun i s => Pre st s ∧ lstAt s st.length = some (trs i) ∧ s[st.length]? = some (.lst (trs i))) (by rw [turns_eq]; omega) ⟨Pre.push, lstAt_last, get_last⟩ (fun i s hi _ => at_rng hi) ?_ ?_
  · rintro i s d hi ⟨hp, hq, hq2⟩ hd
    have hd := at_rng_some hd
    subst hd
    have hat : atI ds (i : Int) = some ds[i] := atI_nat (List.getElem?_eq_getElem hi)
    walk_at "ev"
    unfold wipeE wipeE
    walk_at "ev"
    rw [Int.zero_add]
    refine hixa _ _ _ _ hp hat ?_
    refine hixb _ _ _ _ hp hat ?_
    refine hs _ (List.getElem_mem hi) s _ fun s' hs' => ?_
    refine ⟨trs i, hs' _ _ hq2, by rw [trs_len]; omega, hp.trans hs' |>.set (Nat.le_refl _), ?_⟩
    have hlt := (List.getElem?_eq_some_iff.mp (hs' _ _ hq2)).1
    rw [trs_succ]
    exact ⟨lstAt_of (List.getElem?_set_self hlt), List.getElem?_set_self hlt⟩
  · rintro s ⟨hp, hq, hq2⟩
    rw [f_all]
    exact ⟨_, hq, _, trs_all, by rw [all_rep]; exact h _ hp⟩
theorem same_tup {n : Nat} {ds : List D} (hs : ∀ d ∈ ds, Same n d) (hl : ds.length < 10000) : Same (n + 1) (.tup ds) := by
  intro st Q h
  have e1 : isiD st (.tup ds) [.tuple, .list] = some true := rfl
  have e2 : isiD st (.tup ds) [.tuple] = some true := rfl
  have e3 : isiD st (.tup ds) [.list] = some false := rfl
  rw [wp_call p__law_same rfl]
  unfold b__law_same
  simp only [e1, e2, e3]
  walk_at "ev"
  simp only [e1, e2, e3]
  walk_at "ev"
  rw [e_lc]
  walk_at "ev"
  refine ⟨by omega, ?_⟩
  rw [Int.toNat_natCast]
  have := same_items (a := .tup ds) (b := .tup ds) (cl := callF txt.prog n) (st := st) (Q := Q) rfl hs hl (fun s R i d _ e r => by rw [x_tup]; exact wp_ofO.mpr ⟨_, e, r⟩) (fun s R i d _ e r => by rw [x_tup]; exact wp_ofO.mpr ⟨_, e, r⟩) h
  rw [wp_bind] at this
  exact this
theorem ty_ref {st : Sto} {r : Nat} {ds : List D} (h : lstAt st r = some ds) : tyD st (.ref r) = some (some .list) := by
  show (lstAt st r).map (fun _ => some Ty.list) = _
  rw [h]; rfl
theorem same_lst {n : Nat} {ds : List D} {r q : Nat} {st : Sto} {Q : D → Sto → Prop} (hr : lstAt st r = some ds) (hq : lstAt st q = some ds) (hs : ∀ d ∈ ds, Same n d) (hl : ds.length < 10000) (h : ∀ st', Pre st st' → Q (.bl true) st') :
    wp (callF txt.prog (n + 1) i__law_same [.ref r, .ref q] st) Q := by
  have e1 : isiD st (.ref q) [.tuple, .list] = some true := by rw [isi_one (ty_ref hq)]; rfl
  have e2 : isiD st (.ref q) [.tuple] = some false := by rw [isi_one (ty_ref hq)]; rfl
  have e3 : isiD st (.ref q) [.list] = some true := by rw [isi_one (ty_ref hq)]; rfl
  have e4 : isiD st (.ref r) [.tuple] = some false := by rw [isi_one (ty_ref hr)]; rfl
  have e5 : isiD st (.ref r) [.list] = some true := by rw [isi_one (ty_ref hr)]; rfl
  rw [wp_call p__law_same rfl]
  unfold b__law_same
  walk_at "ev"
  try simp only [e1, e2, e3, e4, e5, hr, hq]
  walk_at "ev"
  try simp only [e1, e2, e3, e4, e5, hr, hq]
  walk_at "ev"
  rw [e_lc]
  walk_at "ev"
  try simp only [hr, hq]
  walk_at "ev"
  refine ⟨by omega, ?_⟩
  rw [Int.toNat_natCast]
  have := same_items (a := .ref r) (b := .ref q) (cl := callF txt.prog n) (st := st) (Q := Q) rfl hs hl (fun s R i d p e g => by rw [x_ref]; exact ⟨_, p.lst hr, _, e, g⟩) (fun s R i d p e g => by rw [x_ref]; exact ⟨_, p.lst hq, _, e, g⟩) h
  rw [wp_bind] at this
  exact this
theorem same_dI {n : Nat} {l : List Nat} (hl : l.length < 10000) : Same (n + 2) (.tup (dI l)) := same_tup (fun d hd => by
  obtain ⟨x, _, rfl⟩ := List.mem_map.mp (show d ∈ l.map (fun (x : Nat) => D.int (x : Int)) from hd)
  exact same_int) (by rw [dI_len]; exact hl)
/-- the base drawn -/
theorem law_base_s {n f b : Nat} {st : Sto} {Q : D → Sto → Prop} (F : Feed f b st) (hb : b < 2 ^ 39) (h : ∀ (k : Nat) (st' : Sto), 2 ≤ k → k ≤ 5 → Feed f (b + 1) st' → Q (.int k) st') :
    wp (callF txt.prog (n + 2) i__law_base [.ref f] st) Q := by
  rw [wp_call p__law_base rfl]
  unfold b__law_base
  walk_at "ev"
  refine ⟨by rw [sizeLine_eq]; omega, ?_⟩
  refine drawn_s (m := 7) (F.pre Pre.push) (by omega) (by omega) (by omega) fun v s hv F1 K => ?_
  have hl := K st.length _ (by have := F.lt; omega) get_last
  have hl := lstAt_of hl
  rw [x_ref]
  refine ⟨_, hl, ?_⟩
  rcases (show v = 0 ∨ v = 1 ∨ v = 2 ∨ v = 3 ∨ v = 4 ∨ v = 5 ∨ v = 6 by omega) with rfl | rfl | rfl | rfl | rfl | rfl | rfl
  · exact ⟨.int 2, rfl, h 2 _ (by omega) (by omega) F1⟩
  · exact ⟨.int 3, rfl, h 3 _ (by omega) (by omega) F1⟩
  · exact ⟨.int 2, rfl, h 2 _ (by omega) (by omega) F1⟩
  · exact ⟨.int 4, rfl, h 4 _ (by omega) (by omega) F1⟩
  · exact ⟨.int 5, rfl, h 5 _ (by omega) (by omega) F1⟩
  · exact ⟨.int 2, rfl, h 2 _ (by omega) (by omega) F1⟩
  · exact ⟨.int 3, rfl, h 3 _ (by omega) (by omega) F1⟩
/-- the great number drawn -/
theorem law_great_s {n f b : Nat} {st : Sto} {Q : D → Sto → Prop} (F : Feed f b st) (hb : b < 2 ^ 39) (h : ∀ (v : Nat) (st' : Sto), v < 2 ^ 100 → Feed f (b + 4) st' → Q (.int v) st') :
    wp (callF txt.prog (n + 2) i__law_great [.ref f] st) Q := by
  have h30 : (10 : Int) ^ Int.toNat 30 = ((10 ^ 30 : Nat) : Int) := by decide
  have hn : (10 : Nat) ^ 30 < 2 ^ 100 := by decide
  rw [wp_call p__law_great rfl]
  unfold b__law_great
  walk_at "ev"
  refine drawn_s (m := 20) F (by omega) (by omega) (by omega) fun v1 s1 hv1 F1 K1 => ?_
  refine drawn_s (m := 900) F1 (by omega) (by omega) (by omega) fun v2 s2 hv2 F2 K2 => ?_
  refine ⟨by decide, ?_⟩
  rw [h30]
  refine drawn_s (m := 10 ^ 30) F2 (by omega) (by decide) (by decide) fun v3 s3 hv3 F3 K3 => ?_
  refine ⟨by rw [sizeLine_eq]; omega, ?_⟩
  refine drawn_s (m := 3) (F3.pre Pre.push) (by omega) (by omega) (by omega) fun v s hv F4 K => ?_
  have hl := K s3.length _ (by have := F3.lt; omega) get_last
  rw [x_ref]
  refine ⟨_, lstAt_of hl, ?_⟩
  rcases (show v = 0 ∨ v = 1 ∨ v = 2 by omega) with rfl | rfl | rfl
  · exact ⟨.int v1, rfl, h v1 _ (by omega) F4⟩
  · exact ⟨.int v2, rfl, h v2 _ (by omega) F4⟩
  · exact ⟨.int v3, rfl, h v3 _ (by omega) F4⟩
theorem law_power_s {n k e : Nat} {st : Sto} {Q : D → Sto → Prop} (hk : k ≤ 5) (he : e < 1000) (h : Q (.int (k ^ e : Nat)) st) : wp (callF txt.prog (n + 1) i__law_power [.int k, .int e] st) Q := by
  rw [wp_call p__law_power rfl]
  unfold b__law_power
  walk_at "ev"
  rw [s_for]
  walk_at "ev"
  refine ⟨by omega, ?_⟩
  rw [Int.toNat_natCast]
  refine wp_for e (fun i env s => s = st ∧ ∃ t, env = [some (.int k), some (.int e), some (.int (k ^ i : Nat)), t]) (by rw [turns_eq]; omega) ⟨rfl, none, rfl⟩ (fun i e s hi _ => at_rng hi) ?_ ?_
  · rintro i env s d hi ⟨rfl, t, rfl⟩ hd
    walk_at "ev"
    refine ⟨Or.inr (Or.inl (by omega)), some d, ?_⟩
    rw [Nat.pow_succ, Int.natCast_mul]
  · rintro env s ⟨rfl, t, rfl⟩
    walk_at "ev"
    exact h
theorem law_number_s {n k : Nat} {xs : List Nat} {st : Sto} {Q : D → Sto → Prop} (hk : k ≤ 5) (hl : xs.length < 10000) (h : Q (.int (num k xs)) st) : wp (callF txt.prog (n + 1) i__law_number [.int k, .tup (dI xs)] st) Q := by
  have := number_from_s (n := n) (st := st) (Q := Q) hk hl h
  rw [wp_call p_number_from rfl] at this
  rw [wp_call p__law_number rfl]
  exact this
theorem law_digits_s {n k m : Nat} {st : Sto} {Q : D → Sto → Prop} (hk : 2 ≤ k) (h5 : k ≤ 5) (hm : m < 2 ^ 600) (h : ∀ st' r, Pre st st' → lstAt st' r = some (dI (dig k m)) → st.length ≤ r → Q (.ref r) st') : wp (callF txt.prog (n + 1) i__law_digits [.int k, .int m] st) Q := by
  rw [wp_call p__law_digits rfl]
  unfold b__law_digits
  walk_at "ev"
  refine ⟨Nat.zero_le _, ?_⟩
  rw [s_for]
  have hL := dig_len (k := k) hk _ _ hm
  have hsz := sizeLine_eq
  walk_at "ev"
  refine ⟨by decide, ?_⟩
  refine wp_for 700 (fun i env s => ∃ (j : Nat) (pre : List Nat) (t : Option D), env = [some (.int k), some (.int j), some (.ref st.length), t] ∧ s = st ++ [.lst (dI pre)] ∧ pre ++ dig k j = dig k m ∧ pre.length = i) (by rw [turns_eq]; omega) ⟨m, [], none, rfl, rfl, rfl, rfl⟩ (fun i e s hi _ => at_rng hi) ?_ ?_
  · rintro i env s d hi ⟨j, pre, t, rfl, rfl, hp, hpl⟩ hd
    have hl := congrArg List.length hp
    rw [List.length_append] at hl
    walk_at "ev"
    refine ⟨fun hz => ?_, fun hz => ?_⟩
    · have hz := eq_of_beq hz
      have hz : j = 0 := by omega
      subst hz
      rw [dig_zero, List.append_nil] at hp
      subst hp
      exact h _ _ Pre.push lstAt_last (Nat.le_refl _)
    · have hj : j ≠ 0 := fun z => by subst z; cases hz
      have hp2 := hp
      rw [dig_pos (n := j) hk (by omega)] at hp2
      refine ⟨by omega, by omega, ⟨by omega, log_small (by omega)⟩, j / k, pre ++ [j % k], some d, by rw [Int.natCast_ediv], ?_, ?_, ?_⟩
      · rw [← dI_app]
        rfl
      · rw [List.append_assoc]; exact hp2
      · rw [List.length_append, hpl]; rfl
  · rintro env s ⟨j, pre, t, rfl, rfl, hp, hpl⟩
    have hl := congrArg List.length hp
    rw [List.length_append] at hl
    omega

def dropB : Nat → CB → CB
  | 0, b => b
  | n + 1, .cons _ b => dropB n b
  | _ + 1, .nil => .nil
def takeB : Nat → CB → CB
  | 0, _ => .nil
  | n + 1, .cons s b => .cons s (takeB n b)
  | _ + 1, .nil => .nil
def appB : CB → CB → CB
  | .nil, c => c
  | .cons s b, c => .cons s (appB b c)
theorem Keep.lst {f : Nat} {a b : Sto} (h : Keep f a b) {r : Nat} {ds : List D} (hr : r ≠ f) (e : lstAt a r = some ds) : lstAt b r = some ds := by
  unfold lstAt at e ⊢
  cases q : a[r]? with
  | none => rw [q] at e; cases e
  | some o => rw [h r o hr q]; rw [q] at e; exact e
theorem same_nil {n : Nat} : ∀ d ∈ ([] : List D), Same n d := fun d hd => by cases hd
theorem same_cons {n : Nat} {d : D} {ds : List D} (h : Same n d) (g : ∀ d ∈ ds, Same n d) : ∀ x ∈ d :: ds, Same n x := fun x hx => by
  rcases List.mem_cons.mp hx with rfl | hx
  · exact h
  · exact g x hx
theorem zeros2 {l : List Nat} : dI l ++ [D.int 0, D.int 0] = dI (l ++ [0, 0]) := by rw [← dI_app]; rfl
theorem dig_small {k n : Nat} (hk : 2 ≤ k) (hn : n < 2 ^ 600) : (dig k n).length ≤ sizeLine := by
  have := dig_len hk _ _ hn
  rw [sizeLine_eq]; omega
theorem seg_a {n f b : Nat} {st : Sto} {Q : Fl → Sto → Prop} (F : Feed f b st) (hb : b < 2 ^ 38)
    (h : ∀ (k m r : Nat) (s : Sto), 2 ≤ k → k ≤ 5 → m < 2 ^ 100 → r ≠ f → Feed f (b + 5) s → lstAt s r = some (dI (dig k m)) →
      wp (evB (callF txt.prog (n + 6)) (dropB 5 b__law_right) [some (.ref f), some (.int k), some (.int m), some (.ref r), none, none, none, none, none, none, none, none, none, none] s) Q) :
    wp (evB (callF txt.prog (n + 6)) (dropB 0 b__law_right) [some (.ref f), none, none, none, none, none, none, none, none, none, none, none, none, none] st) Q := by
  rw [show dropB 0 b__law_right = appB (takeB 5 (dropB 0 b__law_right)) (dropB 5 b__law_right) from rfl]
  generalize dropB 5 b__law_right = R at h ⊢
  unfold b__law_right
  simp only [dropB, takeB, appB]
  walk_at "ev"
  refine law_base_s F (by omega) fun k s1 hk h5 F1 => ?_
  walk_at "ev"
  refine law_great_s F1 (by omega) fun m s2 hm F2 => ?_
  walk_at "ev"
  have hm6 : m < 2 ^ 600 := by
    have : (2 : Nat) ^ 100 < 2 ^ 600 := by decide
    exact Nat.lt_trans hm this
  have h06 : (0 : Nat) < 2 ^ 600 := by decide
  have hsz := sizeLine_eq
  refine law_digits_s hk h5 hm6 fun s3 r p3 hr hle => ?_
  have hrf : r ≠ f := by have := F2.lt; omega
  have hL := dig_len hk _ _ hm6
  walk_at "ev"
  refine digits_s hk h5 hm6 fun s4 p4 => ?_
  walk_at "ev"
  refine digits_s hk h5 hm6 fun s5 p5 => ?_
  walk_at "ev"
  refine ⟨_, (p4.trans p5).lst hr, by rw [dI_len]; exact dig_small hk hm6, ?_⟩
  refine number_of_s hk h5 (dig_lt hk m) (by omega) fun s6 p6 => ?_
  walk_at "ev"
  refine ⟨_, ((p4.trans p5).trans p6).lst hr, by rw [dI_len]; exact dig_small hk hm6, ?_⟩
  walk_at "ev"
  have hlz : (dig k m ++ [0, 0]).length ≤ 602 := by rw [List.length_append]; show (dig k m).length + 2 ≤ 602; omega
  rw [zeros2]
  refine ⟨by omega, by rw [dI_len]; omega, ?_⟩
  refine number_of_s (xs := dig k m ++ [0, 0]) hk h5 (fun d hd => ?_) (by omega) fun s7 p7 => ?_
  · rcases List.mem_append.mp hd with hd | hd
    · exact dig_lt hk m d hd
    · have : d = 0 := by simpa using hd
      omega
  rw [num_zeros, num_dig hk]
  have hr7 := (((p4.trans p5).trans p6).trans p7).lst hr
  have hds : (dI (dig k m)).length ≤ sizeLine := by rw [dI_len]; exact dig_small hk hm6
  refine ⟨by omega, _, Pre.push.lst hr7, hds, _, Pre.push.lst hr7, hds, by omega, ?_⟩
  refine same_lst (lstAt_of (get_old get_last)) lstAt_last (same_cons (same_dI (by omega)) (same_cons (same_dI (by omega)) (same_cons same_int (same_cons same_int same_nil)))) (by simp) fun s8 p8 => ?_
  walk_at "ev"
  refine digit_sum_s hk h5 hm6 fun s9 p9 => ?_
  walk_at "ev"
  refine digit_sum_s hk h5 hm6 fun s10 p10 => ?_
  walk_at "ev"
  refine digits_s (m := 0) hk h5 h06 fun s11 p11 => ?_
  walk_at "ev"
  refine digit_sum_s (m := 0) hk h5 h06 fun s12 p12 => ?_
  have p78 : Pre s7 s8 := (Pre.push.trans Pre.push).trans p8
  have p712 := (((p78.trans p9).trans p10).trans p11).trans p12
  have hr12 := p712.lst hr7
  refine ⟨by omega, _, Pre.push.lst hr12, _, allO_dI, _, Pre.push.lst hr12, _, allO_dI, by omega, by omega, ?_⟩
  rw [sum_ofNat, dig_zero]
  refine same_lst (ds := [.int (dig k m).sum, .int (dig k m).sum, .tup (dI []), .int 0]) (lstAt_of (get_old get_last)) lstAt_last (same_cons same_int (same_cons same_int (same_cons (same_dI (by simp)) (same_cons same_int same_nil)))) (by simp) fun s13 p13 => ?_
  walk_at "ev"
  refine digit_sum_s hk h5 hm6 fun s14 p14 => ?_
  walk_at "ev"
  have hz : ((m : Int) - ((dig k m).sum : Nat)) % ((k : Int) - 1) = 0 := by
    obtain ⟨q, e⟩ := dig_sum hk m
    have e2 : (m : Int) - ((dig k m).sum : Nat) = ((k : Int) - 1) * q := by
      have e3 : (m : Int) = (((dig k m).sum + (k - 1) * q : Nat) : Int) := by rw [← e]
      rw [Int.natCast_add, Int.natCast_mul] at e3
      have e4 : ((k - 1 : Nat) : Int) = (k : Int) - 1 := by omega
      rw [e4] at e3
      omega
    rw [e2, Int.mul_emod_right]
  rw [hz]
  have p1214 : Pre s12 s14 := ((Pre.push.trans Pre.push).trans p13).trans p14
  have p314 := ((((p4.trans p5).trans p6).trans p7).trans p712).trans p1214
  have fin := h k m r s14 hk h5 hm hrf ((F2.pre p3).pre p314) (p314.lst hr)
  refine ⟨by omega, ?_⟩
  walk_at "ev"
  first
    | exact fin
    | exact ⟨fin, fin⟩

theorem comp_drawn {n f b k v : Nat} {cl : Nat → List D → Sto → Res D} {x2 x3 x4 x5 x6 x7 x8 x9 x10 x11 x12 x13 : Option D} {st : Sto} {Q : D → Sto → Prop} (hcl : cl = callF txt.prog (n + 1)) (F : Feed f b st) (hb : b + v < 2 ^ 40) (hk : 0 < k) (hk2 : k < 2 ^ 200) (hv : v < 1000)
    (h : ∀ (l : List Nat) (s : Sto), l.length = v → (∀ d ∈ l, d < k) → lstAt s st.length = some (dI l) → Feed f (b + v) s → Keep f st s → Q (.ref st.length) s) :
    wp (compL (Wk.rng 0 v) (fun d s => .ok ((wipeE [some (.ref f), some (.int k), x2, x3, x4, x5, x6, x7, x8, x9, x10, x11, x12, x13] [5]).set 5 (some d)) s) (fun _ s => .ok true s) (fun env1 s => evE cl (.call i__law_drawn (.cons (.var 0) (.cons (.var 1) .nil))) env1 s) st.length TURNS 0 (st ++ [.lst []])) Q := by
  subst hcl
  have hsz := sizeLine_eq
  refine wp_comp v (fun i s => ∃ l : List Nat, l.length = i ∧ (∀ d ∈ l, d < k) ∧ s[st.length]? = some (.lst (dI l)) ∧ Feed f (b + i) s ∧ Keep f st s) (by rw [turns_eq]; omega) ⟨[], rfl, fun d hd => (by cases hd), get_last, F.pre Pre.push, Pre.push.keep⟩ (fun i s hi _ => at_rng hi) ?_ ?_
  · rintro i s d hi ⟨l, hl, hlk, hr, F1, K⟩ hd
    walk_at "ev"
    unfold wipeE wipeE
    walk_at "ev"
    refine drawn_s F1 (by omega) hk hk2 fun w s' hw F2 K2 => ?_
    have hne : st.length ≠ f := by have := F.lt; omega
    have hr' := K2 _ _ hne hr
    have hlt := (List.getElem?_eq_some_iff.mp hr').1
    refine ⟨dI l, hr', by rw [dI_len]; omega, l ++ [w], by rw [List.length_append, hl]; rfl, fun d hd => ?_, ?_, ?_, ?_⟩
    · rcases List.mem_append.mp hd with hd | hd
      · exact hlk d hd
      · have : d = w := by simpa using hd
        omega
    · rw [← dI_app]
      exact List.getElem?_set_self hlt
    · obtain ⟨c, a, r, cells, h1, h2, h3, h4, h5⟩ := F2
      have hcs : c ≠ st.length := by have := F.lt; omega
      exact ⟨c, a, r, cells, by rw [List.getElem?_set_ne hne]; exact h1, by rw [List.getElem?_set_ne (Ne.symm hcs)]; exact h2, h3, by omega, h5⟩
    · exact (K.trans K2).set2 (Nat.le_refl _)
  · rintro s ⟨l, hl, hlk, hr, F1, K⟩
    exact h l s hl hlk (lstAt_of hr) F1 K

theorem one_drawn {l : List Nat} {c : Nat} : dI l ++ [D.int (1 + (c : Int))] = dI (l ++ [1 + c]) := by
  rw [← dI_app]
  unfold dI
  rw [List.map_cons, List.map_nil, Int.natCast_add]; rfl
theorem pred_cast {k : Nat} (h : 1 ≤ k) : (k : Int) - 1 = ((k - 1 : Nat) : Int) := by omega
theorem seg_b {n f b k m r : Nat} {st : Sto} {Q : Fl → Sto → Prop} (F : Feed f b st) (hb : b < 2 ^ 38) (hk : 2 ≤ k) (h5 : k ≤ 5) (hm : m < 2 ^ 100) (hrf : r ≠ f) (hr : lstAt st r = some (dI (dig k m)))
    (h : ∀ (bl : List Nat) (hn : bl ≠ []) (x5 : Option D) (s : Sto), bl.getLast hn ≠ 0 → (∀ d ∈ bl, d < k) → bl.length ≤ 5 → Feed f (b + 8) s → lstAt s r = some (dI (dig k m)) →
      wp (evB (callF txt.prog (n + 6)) (dropB 7 b__law_right) [some (.ref f), some (.int k), some (.int m), some (.ref r), some (.tup (dI bl)), x5, none, none, none, none, none, none, none, none] s) Q) :
    wp (evB (callF txt.prog (n + 6)) (dropB 5 b__law_right) [some (.ref f), some (.int k), some (.int m), some (.ref r), none, none, none, none, none, none, none, none, none, none] st) Q := by
  rw [show dropB 5 b__law_right = appB (takeB 2 (dropB 5 b__law_right)) (dropB 7 b__law_right) from rfl]
  generalize dropB 7 b__law_right = R at h ⊢
  unfold b__law_right
  simp only [dropB, takeB, appB]
  have hk200 : k < 2 ^ 200 := by
    have : (5 : Nat) < 2 ^ 200 := by decide
    omega
  have hsz := sizeLine_eq
  walk_at "ev"
  rw [e_lc]
  walk_at "ev"
  refine drawn_s (m := 4) F (by omega) (by omega) (by omega) fun v s1 hv F1 K1 => ?_
  walk_at "ev"
  refine ⟨by omega, ?_⟩
  rw [Int.toNat_natCast]
  refine comp_drawn rfl F1 (by omega) (by omega) hk200 (by omega) fun l s2 hl hlk hq F2 K2 => ?_
  walk_at "ev"
  refine ⟨_, hq, by rw [dI_len]; omega, ?_⟩
  rw [pred_cast (by omega)]
  refine drawn_s F2 (by omega) (by omega) (by omega) fun c s3 hc F3 K3 => ?_
  have hr3 := K3.lst hrf (K2.lst hrf (K1.lst hrf hr))
  have hds : (dI (dig k m)).length ≤ sizeLine := by rw [dI_len]; exact dig_small hk (Nat.lt_trans hm (by decide))
  walk_at "ev"
  rw [one_drawn]
  walk_at "ev"
  have hl1 : (l ++ [1 + c]).length = v + 1 := by rw [List.length_append, hl]; rfl
  have hn1 : l ++ [1 + c] ≠ [] := by simp
  have hg1 : (l ++ [1 + c]).getLast hn1 ≠ 0 := by
    have : (l ++ [1 + c]).getLast hn1 = 1 + c := by simp
    omega
  have hk1 : ∀ d ∈ l ++ [1 + c], d < k := fun d hd => by
    rcases List.mem_append.mp hd with hd | hd
    · exact hlk d hd
    · have : d = 1 + c := by simpa using hd
      omega
  have out : ∀ x5 s, Feed f (b + 8) s → lstAt s r = some (dI (dig k m)) → _ := fun x5 s F hr => h (l ++ [1 + c]) hn1 x5 s hg1 hk1 (by omega) F hr
  refine ⟨by omega, by omega, ?_⟩
  simp only [hr3]
  walk_at "ev"
  refine ⟨fun h3 => ?_, fun h3 => ⟨fun z => (h3 z).elim, fun _ => out _ _ (F3.up (by omega)) hr3⟩⟩
  refine drawn_s (m := 2) F3 (by omega) (by omega) (by omega) fun y s4 hy F4 K4 => ?_
  have hr4 := K4.lst hrf hr3
  walk_at "ev"
  simp only [hr4]
  walk_at "ev"
  refine ⟨fun hy0 => ?_, fun _ => out _ _ (F4.up (by omega)) hr4⟩
  rw [show (((dig k m).length : Int) - 2) = (((dig k m).length - 2 : Nat) : Int) by omega]
  refine drawn_s F4 (by omega) (by omega) (by have := dig_len hk _ _ hm; have : (100 : Nat) < 2 ^ 200 := by decide
                                              omega) fun w s5 hw F5 K5 => ?_
  have hr5 := K5.lst hrf hr4
  walk_at "ev"
  simp only [hr5]
  walk_at "ev"
  have ha0 : w < (dig k m).length := by omega
  have ha1 : w + 1 < (dig k m).length := by omega
  have a0 : atI (dI (dig k m)) (w : Int) = some (.int ((dig k m)[w] : Nat)) := at_dI (List.getElem?_eq_getElem ha0)
  have a1 : atI (dI (dig k m)) ((w : Int) + 1) = some (.int ((dig k m)[w + 1] : Nat)) := at_dI (i := w + 1) (List.getElem?_eq_getElem ha1)
  simp only [a0, a1]
  walk_at "ev"
  try simp only [a0, a1, hr5]
  walk_at "ev"
  try simp only [a0, a1, hr5]
  walk_at "ev"
  have F5' : Feed f (b + 8) s5 := F5.up (by omega)
  refine ⟨fun hz => ⟨by omega, ?_⟩, fun _ => out _ _ F5' hr5⟩
  have hz' : (dig k m)[w + 1] ≠ 0 := fun z => by
    rw [z] at hz
    cases hz
  exact h [(dig k m)[w], (dig k m)[w + 1]] (by simp) _ s5 (by simpa using hz') (fun d hd => by
    have : d = (dig k m)[w] ∨ d = (dig k m)[w + 1] := by simpa using hd
    rcases this with rfl | rfl
    · exact dig_lt hk m _ (List.getElem_mem _)
    · exact dig_lt hk m _ (List.getElem_mem _)) (by simp) F5' hr5

theorem bc_yes {bl own : List Nat} {i : Nat} (e : (own.drop i).take bl.length = bl) : ((bc bl own (i + 1) : Nat) : Int) = (bc bl own i : Nat) + 1 := by
  have : bc bl own (i + 1) = bc bl own i + 1 := by
    show bc bl own i + (if _ then 1 else 0) = _
    rw [if_pos e]
  omega
theorem bc_no {bl own : List Nat} {i : Nat} (e : ¬ (own.drop i).take bl.length = bl) : ((bc bl own (i + 1) : Nat) : Int) = (bc bl own i : Nat) := by
  have : bc bl own (i + 1) = bc bl own i := by
    show bc bl own i + (if _ then 1 else 0) = _
    rw [if_neg e]; rfl
  omega
theorem bc_nil {bl : List Nat} : bc bl [] ([] : List Nat).length = 0 := rfl
theorem seg_c {n f b k m r : Nat} {bl : List Nat} {hn : bl ≠ []} {x5 : Option D} {st : Sto} {Q : Fl → Sto → Prop} (F : Feed f b st) (hk : 2 ≤ k) (h5 : k ≤ 5) (hm : m < 2 ^ 100) (hr : lstAt st r = some (dI (dig k m)))
    (hg : bl.getLast hn ≠ 0) (hbk : ∀ d ∈ bl, d < k) (hbl : bl.length ≤ 5)
    (h : ∀ (x5 x6 : Option D) (s : Sto), Feed f b s →
      wp (evB (callF txt.prog (n + 6)) (dropB 10 b__law_right) [some (.ref f), some (.int k), some (.int m), some (.ref r), some (.tup (dI bl)), x5, x6, none, none, none, none, none, none, none] s) Q) :
    wp (evB (callF txt.prog (n + 6)) (dropB 7 b__law_right) [some (.ref f), some (.int k), some (.int m), some (.ref r), some (.tup (dI bl)), x5, none, none, none, none, none, none, none, none] st) Q := by
  rw [show dropB 7 b__law_right = appB (takeB 3 (dropB 7 b__law_right)) (dropB 10 b__law_right) from rfl]
  generalize dropB 10 b__law_right = R at h ⊢
  unfold b__law_right
  simp only [dropB, takeB, appB]
  have hsz := sizeLine_eq
  have hm6 : m < 2 ^ 600 := Nat.lt_trans hm (by decide)
  have h06 : (0 : Nat) < 2 ^ 600 := by decide
  have hL := dig_len hk _ _ hm
  walk_at "ev"
  rw [s_for]
  walk_at "ev"
  simp only [hr]
  walk_at "ev"
  refine ⟨by omega, ?_⟩
  rw [Int.toNat_natCast]
  refine wp_for (dig k m).length (fun i env s => Pre st s ∧ ∃ x5, env = [some (.ref f), some (.int k), some (.int m), some (.ref r), some (.tup (dI bl)), x5, some (.int (bc bl (dig k m) i : Nat)), none, none, none, none, none, none, none]) (by rw [turns_eq]; omega) ⟨Pre.refl, x5, rfl⟩ (fun i e s hi _ => at_rng hi) ?_ ?_
  · rintro i env s d hi ⟨p, t, rfl⟩ hd
    have hd := at_rng_some hd
    subst hd
    walk_at "ev"
    simp only [p.lst hr]
    walk_at "ev"
    rw [Int.zero_add, cut_dI]
    walk_at "ev"
    have hcl : ((dig k m).drop i |>.take bl.length).length ≤ 100 := by rw [List.length_take, List.length_drop]; omega
    refine ⟨by omega, by omega, fun e => ⟨p.trans Pre.push, some (.int (i : Nat)), ?_⟩, fun e => ⟨p.trans Pre.push, some (.int (i : Nat)), ?_⟩⟩
    · rw [bc_yes e]
    · rw [bc_no e]
  · rintro env s ⟨p, t, rfl⟩
    walk_at "ev"
    refine block_count_s hk h5 hm6 hbk (by omega) hn hg fun s1 p1 => ?_
    walk_at "ev"
    refine block_count_s hk h5 hm6 hbk (by omega) hn hg fun s2 p2 => ?_
    walk_at "ev"
    refine block_count_s (m := 0) hk h5 h06 hbk (by omega) hn hg fun s3 p3 => ?_
    walk_at "ev"
    rw [dig_zero]
    refine ⟨by omega, by omega, ?_⟩
    refine same_lst (ds := [.int (bc bl (dig k m) (dig k m).length : Nat), .int (bc bl (dig k m) (dig k m).length : Nat), .int 0]) (lstAt_of (get_old get_last)) lstAt_last (same_cons same_int (same_cons same_int (same_cons same_int same_nil))) (by simp) fun s4 p4 => ?_
    walk_at "ev"
    exact h _ _ s4 (F.pre ((((p.trans p1).trans p2).trans p3).trans ((Pre.push.trans Pre.push).trans p4)))
theorem dI_one {d : Nat} : [D.int (d : Int)] = dI [d] := rfl
theorem seg_d {n f b k m : Nat} {x3 x4 x5 x6 : Option D} {st : Sto} {Q : Fl → Sto → Prop} (F : Feed f b st) (hk : 2 ≤ k) (h5 : k ≤ 5) (hm : m < 2 ^ 100)
    (h : ∀ (x7 : Option D) (s : Sto), Feed f b s →
      wp (evB (callF txt.prog (n + 6)) (dropB 12 b__law_right) [some (.ref f), some (.int k), some (.int m), x3, x4, x5, x6, x7, none, none, none, none, none, none] s) Q) :
    wp (evB (callF txt.prog (n + 6)) (dropB 10 b__law_right) [some (.ref f), some (.int k), some (.int m), x3, x4, x5, x6, none, none, none, none, none, none, none] st) Q := by
  rw [show dropB 10 b__law_right = appB (takeB 2 (dropB 10 b__law_right)) (dropB 12 b__law_right) from rfl]
  generalize dropB 12 b__law_right = R at h ⊢
  unfold b__law_right
  simp only [dropB, takeB, appB]
  have hsz := sizeLine_eq
  have hm6 : m < 2 ^ 600 := Nat.lt_trans hm (by decide)
  walk_at "ev"
  rw [e_lc]
  walk_at "ev"
  refine ⟨⟨by omega, by omega, by omega, by omega⟩, ?_⟩
  rw [show ((k : Int) - 1).toNat = k - 1 by omega]
  refine wp_comp (k - 1) (fun i s => ∃ l : List Nat, l.length = i ∧ l.sum = wsum (fun d => bc [d] (dig k m) (dig k m).length) i ∧ s[st.length]? = some (.lst (dI l)) ∧ Pre st s) (by rw [turns_eq]; omega) ⟨[], rfl, rfl, get_last, Pre.push⟩ (fun i s hi _ => at_rng hi) ?_ ?_
  · rintro i s d hi ⟨l, hl, hls, hq, p⟩ hd
    have hd := at_rng_some hd
    subst hd
    walk_at "ev"
    unfold wipeE wipeE
    walk_at "ev"
    refine ⟨by omega, ?_⟩
    rw [show (1 : Int) + (i : Int) = ((i + 1 : Nat) : Int) by omega]
    refine block_count_s (xs := [i + 1]) hk h5 hm6 (fun d hd => ?_) (by simp) (by simp) (by simp) fun s1 p1 => ?_
    · have : d = i + 1 := by simpa using hd
      omega
    walk_at "ev"
    have hq1 := p1 _ _ hq
    refine ⟨Or.inl (by omega), dI l, hq1, by rw [dI_len]; omega, l ++ [(i + 1) * bc [i + 1] (dig k m) (dig k m).length], by rw [List.length_append, hl]; rfl, ?_, ?_, (p.trans p1).set (Nat.le_refl _)⟩
    · rw [List.sum_append, hls]
      show _ + (_ + 0) = wsum _ i + _
      rfl
    · rw [List.getElem?_set_self (List.getElem?_eq_some_iff.mp hq1).1, ← dI_app, ← dI_one, Int.natCast_mul]
  · rintro s ⟨l, hl, hls, hq, p⟩
    walk_at "ev"
    refine ⟨_, lstAt_of hq, _, allO_dI, ?_⟩
    rw [sum_ofNat, hls, weights _ (dig_lt hk m)]
    walk_at "ev"
    refine digit_sum_s hk h5 hm6 fun s1 p1 => ?_
    walk_at "ev"
    exact h _ s1 (F.pre (p.trans p1))

theorem five_lt {k : Nat} (h : k ≤ 5) : k < 2 ^ 200 := Nat.lt_of_le_of_lt h (by decide)
theorem rep_flat : ∀ e : Nat, (List.replicate e [D.int 0]).flatten = dI (List.replicate e 0)
  | 0 => rfl
  | e + 1 => by
    rw [List.replicate_succ, List.flatten_cons, rep_flat e]; rfl
theorem pow_small {k e : Nat} (hk : k ≤ 5) (he : e < 9) : k ^ e < 2 ^ 64 :=
  Nat.lt_of_le_of_lt (Nat.le_trans (Nat.pow_le_pow_left hk e) (Nat.pow_le_pow_right (by omega) (show e ≤ 8 by omega))) (by decide)
theorem seg_e {n f b k m : Nat} {x3 x4 x5 x6 x7 : Option D} {st : Sto} {Q : Fl → Sto → Prop} (F : Feed f b st) (hb : b < 2 ^ 38) (hk : 2 ≤ k) (h5 : k ≤ 5) (hm : m < 2 ^ 100)
    (h : ∀ (e low : Nat) (s : Sto), e < 9 → low < 2 ^ 100 → Feed f (b + 1) s →
      wp (evB (callF txt.prog (n + 6)) (dropB 14 b__law_right) [some (.ref f), some (.int k), some (.int m), x3, x4, x5, x6, x7, none, some (.int e), some (.int low), none, none, none] s) Q) :
    wp (evB (callF txt.prog (n + 6)) (dropB 12 b__law_right) [some (.ref f), some (.int k), some (.int m), x3, x4, x5, x6, x7, none, none, none, none, none, none] st) Q := by
  rw [show dropB 12 b__law_right = appB (takeB 2 (dropB 12 b__law_right)) (dropB 14 b__law_right) from rfl]
  generalize dropB 14 b__law_right = R at h ⊢
  unfold b__law_right
  simp only [dropB, takeB, appB]
  walk_at "ev"
  refine drawn_s (m := 9) F (by omega) (by omega) (by omega) fun e s1 he F1 K1 => ?_
  walk_at "ev"
  refine ⟨by decide, fun _ => h e m s1 he hm F1, fun _ => ⟨by decide, by decide, ?_⟩⟩
  rw [show (10 : Int) ^ Int.toNat 7 = ((10 ^ 7 : Nat) : Int) by decide, ← Int.natCast_ediv]
  exact h e _ s1 he (Nat.lt_of_le_of_lt (Nat.div_le_self ..) hm) F1
theorem seg_g {n f b k m e low : Nat} {x3 x4 x5 x6 x7 : Option D} {st : Sto} {Q : Fl → Sto → Prop} (F : Feed f b st) (hb : b < 2 ^ 38) (hk : 2 ≤ k) (h5 : k ≤ 5) (he : e < 9) (hlow : low < 2 ^ 100)
    (h : ∀ (x11 x12 : Option D) (s : Sto), Feed f (b + 1) s →
      wp (evB (callF txt.prog (n + 6)) (dropB 17 b__law_right) [some (.ref f), some (.int k), some (.int m), x3, x4, x5, x6, x7, none, some (.int e), some (.int low), x11, x12, none] s) Q) :
    wp (evB (callF txt.prog (n + 6)) (dropB 14 b__law_right) [some (.ref f), some (.int k), some (.int m), x3, x4, x5, x6, x7, none, some (.int e), some (.int low), none, none, none] st) Q := by
  rw [show dropB 14 b__law_right = appB (takeB 3 (dropB 14 b__law_right)) (dropB 17 b__law_right) from rfl]
  generalize dropB 17 b__law_right = R at h ⊢
  unfold b__law_right
  simp only [dropB, takeB, appB]
  have hsz := sizeLine_eq
  walk_at "ev"
  rw [pred_cast (by omega)]
  refine ⟨Or.inr (Or.inl (by omega)), ?_⟩
  refine drawn_s F (by omega) (by omega) (five_lt (by omega)) fun c s1 hc F1 K1 => ?_
  walk_at "ev"
  refine law_power_s h5 (by omega) ?_
  walk_at "ev"
  have hpw := pow_small h5 he
  refine ⟨Or.inr (Or.inl (by omega)), ?_⟩
  have hu : (low : Int) * (k : Int) + 1 + (c : Int) = ((low * k + (c + 1) : Nat) : Int) := by
    rw [Int.natCast_add, Int.natCast_mul]; omega
  rw [hu, ← Int.natCast_mul, ← Int.natCast_emod]
  have hmod : (low * k + (c + 1)) % k = c + 1 := by
    rw [Nat.add_comm, Nat.add_mul_mod_self_right, Nat.mod_eq_of_lt (by omega)]
  have hne : (low * k + (c + 1)) % k ≠ 0 := by omega
  have hw6 : (low * k + (c + 1)) * k ^ e < 2 ^ 600 := by
    have h1 : low * k + (c + 1) < 2 ^ 103 := by
      have : low * k ≤ low * 5 := Nat.mul_le_mul_left _ h5
      omega
    have h2 : (low * k + (c + 1)) * k ^ e < 2 ^ 103 * 2 ^ 64 := Nat.mul_lt_mul_of_lt_of_lt h1 hpw
    exact Nat.lt_trans h2 (by decide)
  have hlow6 : low < 2 ^ 600 := Nat.lt_trans hlow (by decide)
  have hdw : dig k ((low * k + (c + 1)) * k ^ e) = List.replicate e 0 ++ ((c + 1) :: dig k low) := by
    rw [dig_wide hk (by omega), dig_unit hk (by omega) (by omega)]
  have hLl := dig_len hk _ _ hlow
  refine power_in_s hk h5 hne (by omega) ?_
  walk_at "ev"
  refine power_in_s hk h5 hne (by omega) ?_
  walk_at "ev"
  refine digits_s hk h5 hw6 fun s2 p2 => ?_
  walk_at "ev"
  rw [hdw, hmod]
  rw [Int.toNat_natCast, rep_flat]
  have hpre : dI (List.replicate e 0) ++ [D.int ((c + 1 : Nat) : Int)] = dI (List.replicate e 0 ++ [c + 1]) := by rw [← dI_app]; rfl
  have hlp : (List.replicate e 0 ++ [c + 1]).length = e + 1 := by simp
  have hl0 : (List.replicate e 0 : List Nat).length = e := List.length_replicate
  rw [hpre]
  simp only [dI_len]
  refine ⟨by omega, by omega, by omega, by omega, by omega, by omega, by omega, ?_⟩
  refine law_digits_s hk h5 hlow6 fun s3 r p3 hr hle => ?_
  walk_at "ev"
  simp only [hr]
  walk_at "ev"
  have happ : List.replicate e 0 ++ [c + 1] ++ dig k low = List.replicate e 0 ++ (c + 1) :: dig k low := by rw [List.append_assoc]; rfl
  have hla : (List.replicate e 0 ++ (c + 1) :: dig k low).length ≤ 200 := by rw [List.length_append, List.length_cons]; omega
  rw [happ]
  refine ⟨by omega, by omega, by omega, ?_⟩
  refine same_lst (ds := [.int e, .int e, .tup (dI (List.replicate e 0 ++ (c + 1) :: dig k low))]) (lstAt_of (get_old (p3 _ _ get_last))) lstAt_last (same_cons same_int (same_cons same_int (same_cons (same_dI (by omega)) same_nil))) (by simp) fun s8 p8 => ?_
  walk_at "ev"
  exact h _ _ s8 (F1.pre (((p2.trans Pre.push).trans p3).trans (Pre.push.trans p8)))
theorem seg_f {n f b k m : Nat} {x3 x4 x5 x6 x7 x9 x10 x11 x12 : Option D} {st : Sto} {Q : Fl → Sto → Prop} (F : Feed f b st) (hb : b < 2 ^ 38) (hk : 2 ≤ k) (h5 : k ≤ 5)
    (h : ∀ (s : Sto), Feed f (b + 13) s → Q (.rt (.bl true)) s) :
    wp (evB (callF txt.prog (n + 6)) (dropB 17 b__law_right) [some (.ref f), some (.int k), some (.int m), x3, x4, x5, x6, x7, none, x9, x10, x11, x12, none] st) Q := by
  unfold b__law_right
  simp only [dropB]
  have hsz := sizeLine_eq
  walk_at "ev"
  rw [e_lc]
  walk_at "ev"
  refine drawn_s (m := 12) F (by omega) (by omega) (by omega) fun v s1 hv F1 K1 => ?_
  walk_at "ev"
  refine ⟨by omega, ?_⟩
  rw [Int.toNat_natCast]
  refine comp_drawn rfl F1 (by omega) (by omega) (five_lt (by omega)) (by omega) fun l s2 hl hlk hq F2 K2 => ?_
  walk_at "ev"
  refine ⟨_, hq, by rw [dI_len]; omega, ?_⟩
  walk_at "ev"
  have hnum : num k l < 2 ^ 600 := by
    have h1 := num_lt hk l hlk
    have h2 : k ^ l.length ≤ 5 ^ 12 := Nat.le_trans (Nat.pow_le_pow_left h5 _) (Nat.pow_le_pow_right (by omega) (by omega))
    exact Nat.lt_of_lt_of_le h1 (Nat.le_trans h2 (by decide))
  refine number_of_s hk h5 hlk (by omega) fun s3 p3 => ?_
  walk_at "ev"
  refine ⟨by omega, ?_⟩
  refine number_of_s (xs := []) hk h5 (fun d hd => by cases hd) (by simp) fun s4 p4 => ?_
  walk_at "ev"
  refine number_of_s hk h5 hlk (by omega) fun s5 p5 => ?_
  walk_at "ev"
  refine digits_s hk h5 hnum fun s6 p6 => ?_
  walk_at "ev"
  refine ⟨by omega, ?_⟩
  refine law_number_s h5 (by omega) ?_
  walk_at "ev"
  refine law_number_s h5 (by omega) ?_
  walk_at "ev"
  refine law_digits_s hk h5 hnum fun s7 r p7 hr hle => ?_
  walk_at "ev"
  refine ⟨_, hr, by rw [dI_len]; have := dig_len hk _ _ hnum; omega, by omega, ?_⟩
  refine same_lst (ds := [.int (num k l : Nat), .int 0, .tup (dI (dig k (num k l)))]) (lstAt_of (get_old (p7 _ _ get_last))) lstAt_last (same_cons same_int (same_cons same_int (same_cons (same_dI (by have := dig_len hk _ _ hnum; omega)) same_nil))) (by simp) fun s8 p8 => ?_
  exact h s8 ((F2.up (by omega)).pre ((((((p3.trans p4).trans p5).trans p6).trans Pre.push).trans p7).trans (Pre.push.trans p8)))
theorem right_s {n f b : Nat} {st : Sto} {Q : D → Sto → Prop} (F : Feed f b st) (hb : b < 2 ^ 30) (h : ∀ s, Feed f (b + 28) s → Q (.bl true) s) : wp (callF txt.prog (n + 7) i__law_right [.ref f] st) Q := by
  rw [wp_call p__law_right rfl]
  refine seg_a F (by omega) fun k m r s1 hk h5 hm hrf F1 hr => ?_
  refine seg_b F1 (by omega) hk h5 hm hrf hr fun bl hn x5 s2 hg hbk hbl F2 hr2 => ?_
  refine seg_c F2 hk h5 hm hr2 hg hbk hbl fun x5 x6 s3 F3 => ?_
  refine seg_d F3 hk h5 hm fun x7 s4 F4 => ?_
  refine seg_e F4 (by omega) hk h5 hm fun e low s5 he hlow F5 => ?_
  refine seg_g F5 (by omega) hk h5 he hlow fun x11 x12 s6 F6 => ?_
  refine seg_f F6 (by omega) hk h5 fun s7 F7 => ?_
  exact h s7 (F7.up (by omega))
theorem law_math : ∀ ns : List Int, ns.length ≤ 63 → ∃ st, callF txt.prog 100 i_law [.ref 0] [.frz (ns.map D.int)] = .ok (.bl true) st := by
  intro ns hl
  suffices h : wp (callF txt.prog 100 i_law [.ref 0] [.frz (ns.map D.int)]) (fun d _ => d = .bl true) by
    obtain ⟨a, s, e, rfl⟩ := h
    exact ⟨s, e⟩
  rw [wp_call p_law rfl]
  unfold b_law
  walk_at "ev"
  rw [wp_call p__law_feed rfl]
  unfold b__law_feed
  walk_at "ev"
  have hsz := sizeLine_eq
  have hcut : cutD (ns.map D.int) none (some 63) = ns.map D.int := by
    unfold cutD
    have h1 : HT.sIx (ns.map D.int).length 0 none = 0 := rfl
    have h2 : HT.sIx (ns.map D.int).length (ns.map D.int).length (some (63 : Int)) = ns.length := by
      rw [show (63 : Int) = ((63 : Nat) : Int) from rfl, HT.sIx_nat, List.length_map]; omega
    rw [h1, h2, List.drop_zero, Nat.sub_zero, List.take_of_length_le (by rw [List.length_map]; exact Nat.le_refl _)]
  have hlm : (ns.map D.int).length ≤ sizeLine := by rw [List.length_map]; omega
  refine ⟨ns.map D.int, rfl, by rw [hcut]; exact hlm, ?_⟩
  rw [hcut]
  refine ⟨ns.map D.int, rfl, hlm, by omega, ?_⟩
  rw [s_for]
  walk_at "ev"
  refine ⟨by decide, ?_⟩
  refine wp_for 8 (fun i env s => Feed 3 (30 * i) s ∧ ∃ t, env = [some (.ref 0), some (.ref 3), t]) (by rw [turns_eq]; omega) ⟨⟨2, 0, 0, ns, rfl, rfl, rfl, by omega, by omega⟩, none, rfl⟩ (fun i e s hi _ => at_rng hi) ?_ ?_
  · rintro i env s d hi ⟨F, t, rfl⟩ hd
    walk_at "ev"
    refine right_s F (by omega) fun s1 F1 => ?_
    walk_at "ev"
    exact ⟨F1.up (by omega), some d, rfl⟩
  · rintro env s ⟨F, t, rfl⟩
    walk_at "ev"

end Mp
open PySem PySem.W PySem.Calls PyProof.Rows
theorem PySem.Challenge.cw_wholedigits_k01_whole_digits_of_numbers_holds : PySem.Challenge.rw_wholedigits_k01_whole_digits_of_numbers.Holds := by
  w_on; o_law
  refine HandSHeadRun.head_any (r := OpenLaw.row PySem.Challenge.rw_wholedigits_k01_whole_digits_of_numbers) (q := view (OpenLaw.row PySem.Challenge.rw_wholedigits_k01_whole_digits_of_numbers).prog [34]) (H := Hd.hk) (ob := Hd.ob) (M := 20000) (loose := Hd.looseN) (d := HandSHeadRun.topDef (OpenLaw.row PySem.Challenge.rw_wholedigits_k01_whole_digits_of_numbers).prog 34) (kwd := []) Hd.ob_eq
    (by kernel_rfl) (fun s => by kernel_rfl) Hd.run (by kernel_rfl) (by kernel_rfl) (by kernel_rfl) (by rfl) (by first | assumption | decide +kernel) (by decide +kernel) ⟨rfl, rfl, rfl, rfl, rfl, by decide +kernel⟩ ?hw ?hc
  case hw => w_witness2
  case hc =>
    refine L2.walk_ofE (l := PySem.Challenge.rw_wholedigits_k01_whole_digits_of_numbers) (n := 63) (k := 100) (x := "script") (CX := L2.CX0) rfl (by decide) (by kernel_rfl) ⟨rfl, by decide, by decide⟩ ?F (fun _ _ _ _ z => z)
    intro w mg fa h Y G hmg0
    obtain ⟨K, KX, c⟩ := Y
    obtain ⟨h1, h2, h3⟩ := Mp.facts (P := (PySem.Challenge.rw_wholedigits_k01_whole_digits_of_numbers).prog) (w := w) KX G c
    obtain ⟨l1, l2, fd, F⟩ := h1 Mp.i_law Mp.f_law rfl
    have hmg : mg ("law" : PySem.Str) = some (.ref fa) := by
      have e : (HandSHeadRun.topDef (OpenLaw.row PySem.Challenge.rw_wholedigits_k01_whole_digits_of_numbers).prog 34).name = ("law" : PySem.Str) := by kernel_rfl
      rw [← e]
      exact hmg0
    have e := hmg.symm.trans l1
    cases e
    refine ⟨K, fd, Mp.spI K (Mp.callF Mp.txt.prog 100) Mp.i_law 1, KX, Mp.law_bind K fd F, fun H a ns hl hO hS => Mp.law_sp Mp.law_math H a ns hl hO hS, fun base KB GB => ?_⟩
    obtain ⟨g1, g2, g3⟩ := Mp.facts (P := (PySem.Challenge.rw_wholedigits_k01_whole_digits_of_numbers).prog) (w := w) KB GB c
    exact Mp.all_okF (t := Mp.txt) g1 Mp.kw_all g2 g3 100 Mp.i_law Mp.f_law rfl fd F

