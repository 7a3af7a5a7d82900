import PyProof.Rows.All
import Wide.All
import OpenK.AllK
import Wide.FinOn
import HandS.ForMost
import PySem.Challenge.RW_livecopy_k32_whole_best_rows
import HandS.Wide
import HandS.Style
import HandS.IsInst
import HandS.TupAny
import PyProof.ReprRoads
import PyProof.ReprLen
import PyProof.FitsInt
import HandS.Defaults
import HandS.MakeKwOnly
set_option Elab.async false
set_option linter.all false
set_option maxRecDepth 100000
section
/-! DeepCore: a small language (expressions ME, statements MS) and its evaluator over a plain store. Core Lean only. -/
namespace Mini
abbrev Txt := List Nat
/-- values: scalars, tuples by value, a place of the store; lst stands in trees only -/
inductive MV where
  | non | bl (b : Bool) | int (i : Int) | str (s : Txt) | tup (l : List MV) | loc (n : Nat) | lst (l : List MV)
  deriving Inhabited
/-- a cell: a list that may change, one that is only read -/
inductive Cell where
  | lst (l : List MV) | ro (l : List MV)
abbrev Store := List Cell
abbrev Env := List (Option MV)
structure Exc where
  cls : Nat
  fs : List MV
inductive Out (α : Type) where
  | ok (a : α) (st : Store) | exc (x : Exc) (st : Store) | bad
def Out.bind {α β : Type} : Out α → (α → Store → Out β) → Out β
  | .ok a st, f => f a st
  | .exc x st, _ => .exc x st
  | .bad, _ => .bad
/-- so that simp does not take an equation as one that the kernel is to see by itself -/
theorem nr {p : Prop} (h : p) : p := h
@[simp] theorem Out.bind_ok {α β : Type} (a : α) (st : Store) (f : α → Store → Out β) : (Out.ok a st).bind f = f a st := nr rfl
@[simp] theorem Out.bind_exc {α β : Type} (x : Exc) (st : Store) (f : α → Store → Out β) : (Out.exc x st).bind f = .exc x st := nr rfl
@[simp] theorem Out.bind_bad {α β : Type} (f : α → Store → Out β) : (Out.bad).bind f = .bad := nr rfl

inductive Op2 where
  | add | sub | mul | fdiv | mod | pow | eq | ne | lt | le | gt | ge | ix | isN | notN
inductive Prim where
  | neg | notV | len | abs | int | max2 | min2 | list | isInt | isBool | isList | isTuple | isStr | repr | min1
inductive Mth where
  | append
/-- a target: a name's slot, or a tuple of them -/
inductive MG where
  | nm (i : Nat) | tp (l : List Nat)

inductive ME where
  | var (i : Nat)
  | con (v : MV)
  | op2 (o : Op2) (a b : ME)
  | and (a b : ME)
  | or (a b : ME)
  | nt (a : ME)
  | chain (o p : Op2) (a b c : ME)
  | ite (c a b : ME)
  | tup (l : List ME)
  | lst (l : List ME)
  | call (f : Nat) (l : List ME)
  | prim (p : Prim) (l : List ME)
  | meth (m : Mth) (o : ME) (l : List ME)
  | rev (a : ME)
  | sl (fl fh : Bool) (a lo hi : ME)
  | lcS (g : MG) (it : ME) (cs : List ME) (e : ME)
  | lcR1 (g : MG) (n : ME) (cs : List ME) (e : ME)
  | lcR2 (g : MG) (a b : ME) (cs : List ME) (e : ME)
inductive MI where
  | seq (e : ME) | rng1 (n : ME) | rng2 (a b : ME) | down (a b : ME) | enm (e : ME)
inductive MS where
  | asg (g : MG) (e : ME)
  | setIx (o i e : ME)
  | aug (o : Op2) (i : Nat) (e : ME)
  | expr (e : ME)
  | ret (e : ME)
  | retN
  | pass
  | brk
  | cont
  | ite (c : ME) (a b : List MS)
  | loop (g : MG) (it : MI) (body : List MS) (ks : List Nat)
  | whl (c : ME) (body : List MS) (ks : List Nat)
  | never
  | kill (ks : List Nat)
inductive Ctl where
  | next (env : Env) | ret (v : MV) | brk (env : Env) | cont (env : Env)

def sizeMax : Nat := 16000000
def getL (st : Store) (n : Nat) : Option (List MV) :=
  match st[n]? with
  | some (.lst l) => some l
  | some (.ro l) => some l
  | none => none
def newL (l : List MV) (st : Store) : Out MV :=
  if l.length ≤ sizeMax then .ok (.loc st.length) (st ++ [.lst l]) else .bad
def ixN (n : Nat) (i : Int) : Option Nat := if 0 ≤ i then (if i < n then some i.toNat else none) else if -(n : Int) ≤ i then some (i + n).toNat else none
def atI (l : List MV) (i : Int) : Option MV := (ixN l.length i).bind fun j => l[j]?
def mapO {α β : Type} (f : α → Option β) : List α → Option (List β)
  | [] => some []
  | x :: xs => (f x).bind fun y => (mapO f xs).map fun ys => y :: ys
/-- the tree of a value: what its places hold -/
def toD : Nat → Store → MV → Option MV
  | _, _, .non => some .non
  | _, _, .bl b => some (.bl b)
  | _, _, .int i => some (.int i)
  | n + 1, st, .tup l => (mapO (toD n st) l).map .tup
  | n + 1, st, .loc k => (getL st k).bind fun l => (mapO (toD n st) l).map .lst
  | _, _, _ => none
mutual
def eqvD : MV → MV → Bool
  | .non, .non => true
  | .bl a, .bl b => a == b
  | .bl a, .int j => (if a then 1 else 0) == j
  | .int i, .bl b => i == (if b then 1 else 0)
  | .int i, .int j => i == j
  | .lst a, .lst b => eqvL a b
  | .tup a, .tup b => eqvL a b
  | _, _ => false
def eqvL : List MV → List MV → Bool
  | [], [] => true
  | x :: xs, y :: ys => eqvD x y && eqvL xs ys
  | _, _ => false
end
def eqS : MV → MV → Option Bool
  | .non, .non => some true
  | .int i, .int j => some (decide (i = j))
  | .bl i, .bl j => some (decide (i = j))
  | .str i, .str j => some (decide (i = j))
  | .non, .int _ => some false
  | .non, .bl _ => some false
  | .non, .str _ => some false
  | .int _, .non => some false
  | .bl _, .non => some false
  | .str _, .non => some false
  | .int _, .str _ => some false
  | .bl _, .str _ => some false
  | .str _, .int _ => some false
  | .str _, .bl _ => some false
  | _, _ => none
def opEq (st : Store) (x y : MV) : Option Bool :=
  match eqS x y with
  | some b => some b
  | none => (toD 8 st x).bind fun d => (toD 8 st y).map fun e => eqvD d e
def cmpI (p : Int → Int → Bool) (st : Store) : MV → MV → Out MV
  | .int i, .int j => .ok (.bl (p i j)) st
  | _, _ => .bad
def opAdd (st : Store) : MV → MV → Out MV
  | .int i, .int j => .ok (.int (i + j)) st
  | .loc n, .loc m => match st[n]?, st[m]? with
    | some (.lst a), some (.lst b) => newL (a ++ b) st
    | _, _ => .bad
  | .tup a, .tup b => if a.length + b.length ≤ 1000 then .ok (.tup (a ++ b)) st else .bad
  | _, _ => .bad
def repV (l : List MV) : Nat → List MV
  | 0 => []
  | n + 1 => l ++ repV l n
def opMul (st : Store) : MV → MV → Out MV
  | .int i, .int j => if i.natAbs.log2 + j.natAbs.log2 < 1000000 then .ok (.int (i * j)) st else .bad
  | .loc n, .int j => match st[n]? with
    | some (.lst a) => if -100000 ≤ j ∧ j ≤ 100000 ∧ a.length ≤ 100 then newL (repV a j.toNat) st else .bad
    | _ => .bad
  | _, _ => .bad
def opIx (st : Store) : MV → MV → Out MV
  | .loc n, .int i => match getL st n with
    | some l => match atI l i with
      | some v => .ok v st
      | none => .bad
    | none => .bad
  | .tup l, .int i => match atI l i with
    | some v => .ok v st
    | none => .bad
  | _, _ => .bad
def op2 (o : Op2) (x y : MV) (st : Store) : Out MV :=
  match o with
  | .add => opAdd st x y
  | .sub => match x, y with
    | .int i, .int j => .ok (.int (i - j)) st
    | _, _ => .bad
  | .mul => opMul st x y
  | .fdiv => match x, y with
    | .int i, .int j => if 0 < j ∧ j.natAbs.log2 < 9000 then .ok (.int (i / j)) st else .bad
    | _, _ => .bad
  | .mod => match x, y with
    | .int i, .int j => if 0 < j then .ok (.int (i % j)) st else .bad
    | _, _ => .bad
  | .pow => match x, y with
    | .int i, .int j => if 0 ≤ j ∧ j ≤ 1000000 ∧ i.natAbs < 2 ^ 64 then .ok (.int (i ^ j.toNat)) st else .bad
    | _, _ => .bad
  | .eq => match opEq st x y with
    | some b => .ok (.bl b) st
    | none => .bad
  | .ne => match opEq st x y with
    | some b => .ok (.bl (!b)) st
    | none => .bad
  | .lt => cmpI (fun i j => decide (i < j)) st x y
  | .le => cmpI (fun i j => decide (i ≤ j)) st x y
  | .gt => cmpI (fun i j => decide (j < i)) st x y
  | .ge => cmpI (fun i j => decide (j ≤ i)) st x y
  | .ix => opIx st x y
  | .isN => match x, y with
    | .non, .non => .ok (.bl true) st
    | _, .non => .ok (.bl false) st
    | _, _ => .bad
  | .notN => match x, y with
    | .non, .non => .ok (.bl false) st
    | _, .non => .ok (.bl true) st
    | _, _ => .bad
def truth (st : Store) : MV → Out Bool
  | .non => .ok false st
  | .bl b => .ok b st
  | .int i => .ok (i != 0) st
  | .str s => if s.length ≤ 16000000 then .ok (!s.isEmpty) st else .bad
  | .tup l => .ok (!l.isEmpty) st
  | .loc n => match getL st n with
    | some l => .ok (!l.isEmpty) st
    | none => .bad
  | .lst _ => .bad
/-- what the evaluator is given: calls of the program's defs; the text of repr; turns of a while -/
structure Cx where
  call : Nat → List MV → Store → Out MV
  repr : MV → Txt
  wf : Nat
def okInt : MV → Bool
  | .int i => decide (i.natAbs < 10 ^ 60)
  | .bl _ => true
  | _ => false
def allInts : List MV → Option (List Int)
  | [] => some []
  | .int i :: r => (allInts r).map fun l => i :: l
  | _ => none
def minL : Int → List Int → Int
  | m, [] => m
  | m, j :: r => minL (if j < m then j else m) r
def prim (C : Cx) (p : Prim) (vs : List MV) (st : Store) : Out MV :=
  match p, vs with
  | .neg, [.int i] => .ok (.int (-i)) st
  | .notV, [.bl b] => .ok (.bl (!b)) st
  | .len, [.loc n] => match getL st n with
    | some l => .ok (.int l.length) st
    | none => .bad
  | .len, [.tup l] => .ok (.int l.length) st
  | .abs, [.int i] => .ok (.int (if i < 0 then -i else i)) st
  | .int, [.int i] => .ok (.int i) st
  | .int, [.bl b] => .ok (.int (if b then 1 else 0)) st
  | .max2, [.int i, .int j] => .ok (.int (if j > i then j else i)) st
  | .min2, [.int i, .int j] => .ok (.int (if j < i then j else i)) st
  | .list, [.loc n] => match getL st n with
    | some l => newL l st
    | none => .bad
  | .list, [.tup l] => newL l st
  | .isInt, [v] => match v with
    | .int _ => .ok (.bl true) st
    | .bl _ => .ok (.bl true) st
    | .lst _ => .bad
    | .loc n => match getL st n with
      | some _ => .ok (.bl false) st
      | none => .bad
    | _ => .ok (.bl false) st
  | .isBool, [v] => match v with
    | .bl _ => .ok (.bl true) st
    | .lst _ => .bad
    | .loc n => match getL st n with
      | some _ => .ok (.bl false) st
      | none => .bad
    | _ => .ok (.bl false) st
  | .isStr, [v] => match v with
    | .str _ => .ok (.bl true) st
    | .lst _ => .bad
    | .loc n => match getL st n with
      | some _ => .ok (.bl false) st
      | none => .bad
    | _ => .ok (.bl false) st
  | .isTuple, [v] => match v with
    | .tup _ => .ok (.bl true) st
    | .lst _ => .bad
    | .loc n => match getL st n with
      | some _ => .ok (.bl false) st
      | none => .bad
    | _ => .ok (.bl false) st
  | .isList, [v] => match v with
    | .lst _ => .bad
    | .loc n => match getL st n with
      | some _ => .ok (.bl true) st
      | none => .bad
    | _ => .ok (.bl false) st
  | .repr, [.loc n] => match getL st n with
    | some l => if l.all okInt = true ∧ l.length ≤ 1000 then .ok (.str (C.repr (.lst l))) st else .bad
    | none => .bad
  | .min1, [.loc n] => match (getL st n).bind allInts with
    | some (x :: l) => .ok (.int (minL x l)) st
    | _ => .bad
  | _, _ => .bad
def appendTo (n : Nat) (y : MV) (st : Store) : Out MV :=
  match st[n]? with
  | some (.lst l) => if l.length < sizeMax then .ok .non (st.set n (.lst (l ++ [y]))) else .bad
  | _ => .bad
def meth (m : Mth) (o : MV) (vs : List MV) (st : Store) : Out MV :=
  match m, o, vs with
  | .append, .loc n, [y] => appendTo n y st
  | _, _, _ => .bad
def setAt (o i v : MV) (st : Store) : Out Unit :=
  match o, i with
  | .loc n, .int k => match st[n]? with
    | some (.lst l) => match ixN l.length k with
      | some j => .ok () (st.set n (.lst (l.set j v)))
      | none => .bad
    | _ => .bad
  | _, _ => .bad
def sIx (n d : Nat) : MV → Option Nat
  | .non => some d
  | .int v => some (if v < 0 then (v + (n : Int)).toNat else min v.toNat n)
  | _ => none
def cut (l : List MV) (a b : Nat) : List MV := (l.drop a).take (b - a)
def bOk : Bool → MV → Bool
  | true, .int _ => true
  | false, .non => true
  | _, _ => false
def slice (fl fh : Bool) (x lo hi : MV) (st : Store) : Out MV :=
  if bOk fl lo && bOk fh hi then match x with
  | .loc n => match getL st n with
    | some l => match sIx l.length 0 lo, sIx l.length l.length hi with
      | some a, some b => .ok (.loc st.length) (st ++ [.lst (cut l a b)])
      | _, _ => .bad
    | none => .bad
  | .tup l => match sIx l.length 0 lo, sIx l.length l.length hi with
    | some a, some b => if a = 0 ∧ b = l.length then .bad else .ok (.tup (cut l a b)) st
    | _, _ => .bad
  | _ => .bad
  else .bad
def setG : MG → MV → Env → Option Env
  | .nm i, v, env => some (env.set i (some v))
  | .tp is, .tup l, env => if is.length = l.length then some ((is.zip l).foldl (fun e p => e.set p.1 (some p.2)) env) else none
  | _, _, _ => none
def killAll (ks : List Nat) (env : Env) : Env := ks.foldl (fun e k => e.set k none) env
inductive Iter where
  | lst (n : Nat) | itm (l : List MV) | rng (lo c : Int) (n : Nat) | enm (n : Nat)
def Iter.get : Iter → Store → Nat → Option MV
  | .lst n, st, i => (getL st n).bind (·[i]?)
  | .itm l, _, i => l[i]?
  | .rng lo c n, _, i => if i < n then some (.int (lo + (i : Int) * c)) else none
  | .enm n, st, i => ((getL st n).bind (·[i]?)).map fun x => .tup [.int i, x]
def Iter.stop : Iter → Store → Nat → Bool
  | .lst n, st, i => match getL st n with
    | some l => decide (l.length ≤ i)
    | none => false
  | .itm l, _, i => decide (l.length ≤ i)
  | .rng _ _ n, _, i => decide (n ≤ i)
  | .enm n, st, i => match getL st n with
    | some l => decide (l.length ≤ i)
    | none => false
def Iter.cnt : Iter → Store → Nat
  | .lst n, st => match getL st n with
    | some l => l.length
    | none => 0
  | .itm l, _ => l.length
  | .rng _ _ n, _ => n
  | .enm n, st => match getL st n with
    | some l => l.length
    | none => 0
/-- a list comprehension's turns; D: the new list's place -/
def lcLoop (J : Iter) (D : Nat) (turn : MV → Store → Out (Option MV)) : Nat → Nat → Store → Out MV
  | 0, i, st => if J.stop st i then .ok (.loc D) st else .bad
  | n + 1, i, st => match J.get st i with
    | none => .bad
    | some x => (turn x st).bind fun r s => match r with
      | none => lcLoop J D turn n (i + 1) s
      | some y => (appendTo D y s).bind fun _ s2 => lcLoop J D turn n (i + 1) s2
def lcRun (J : Iter) (turn : MV → Store → Out (Option MV)) (st : Store) : Out MV :=
  lcLoop J st.length turn (J.cnt st) 0 (st ++ [.lst []])
def forLoop (J : Iter) (turn : MV → Env → Store → Out Ctl) : Nat → Nat → Env → Store → Out Ctl
  | 0, i, env, st => if J.stop st i then .ok (.next env) st else .bad
  | n + 1, i, env, st => match J.get st i with
    | none => .bad
    | some x => (turn x env st).bind fun c s => match c with
      | .next e => forLoop J turn n (i + 1) e s
      | .cont e => forLoop J turn n (i + 1) e s
      | .brk e => .ok (.next e) s
      | .ret v => .ok (.ret v) s
def whlLoop (test : Env → Store → Out Bool) (turn : Env → Store → Out Ctl) : Nat → Env → Store → Out Ctl
  | 0, _, _ => .bad
  | n + 1, env, st => (test env st).bind fun b s => if b then (turn env s).bind fun c s2 => match c with
      | .next e => whlLoop test turn n e s2
      | .cont e => whlLoop test turn n e s2
      | .brk e => .ok (.next e) s2
      | .ret v => .ok (.ret v) s2
    else .ok (.next env) s
def mkSeq (x : MV) (st : Store) : Out Iter :=
  match x with
  | .loc n => match getL st n with
    | some _ => .ok (.lst n) st
    | none => .bad
  | .tup l => .ok (.itm l) st
  | _ => .bad
def rngOk (i : Int) : Bool := decide (-(2 ^ 62) ≤ i) && decide (i < 2 ^ 62)
def mkR1 (x : MV) (st : Store) : Out Iter :=
  match x with
  | .int j => if rngOk j then .ok (.rng 0 1 j.toNat) st else .bad
  | _ => .bad
def mkR2 (x y : MV) (st : Store) : Out Iter :=
  match x, y with
  | .int i, .int j => if rngOk i && rngOk j then .ok (.rng i 1 (j - i).toNat) st else .bad
  | _, _ => .bad
def mkDn (x y : MV) (st : Store) : Out Iter :=
  match x, y with
  | .int i, .int j => if rngOk i && rngOk j then .ok (.rng i (-1) (i - j).toNat) st else .bad
  | _, _ => .bad
def mkEn (x : MV) (st : Store) : Out Iter :=
  match x with
  | .loc n => match getL st n with
    | some _ => .ok (.enm n) st
    | none => .bad
  | _ => .bad
def asB (v : MV) (st : Store) : Out Bool :=
  match v with
  | .bl b => .ok b st
  | _ => .bad
mutual
def evE (C : Cx) : ME → Env → Store → Out MV
  | .var i, env, st => match env[i]? with
    | some (some v) => .ok v st
    | _ => .bad
  | .con v, _, st => .ok v st
  | .op2 o a b, env, st => (evE C a env st).bind fun x s1 => (evE C b env s1).bind fun y s2 => op2 o x y s2
  | .and a b, env, st => (evE C a env st).bind fun x s1 => (asB x s1).bind fun c s2 => if c then evE C b env s2 else .ok (.bl false) s2
  | .or a b, env, st => (evE C a env st).bind fun x s1 => (asB x s1).bind fun c s2 => if c then .ok (.bl true) s2 else evE C b env s2
  | .nt a, env, st => (evE C a env st).bind fun x s1 => (truth s1 x).bind fun b s2 => .ok (.bl (!b)) s2
  | .chain o p a b c, env, st => (evE C a env st).bind fun x s1 => (evE C b env s1).bind fun y s2 => (op2 o x y s2).bind fun z s3 => (asB z s3).bind fun k s4 =>
      if k then (evE C c env s4).bind fun w s5 => op2 p y w s5 else .ok (.bl false) s4
  | .ite c a b, env, st => (tst C c env st).bind fun k s1 => if k then evE C a env s1 else evE C b env s1
  | .tup l, env, st => (evEs C l env st).bind fun vs s1 => if vs.length ≤ 1000 then .ok (.tup vs) s1 else .bad
  | .lst l, env, st => (evEs C l env st).bind fun vs s1 => newL vs s1
  | .call f l, env, st => (evEs C l env st).bind fun vs s1 => C.call f vs s1
  | .prim p l, env, st => (evEs C l env st).bind fun vs s1 => prim C p vs s1
  | .meth m o l, env, st => (evE C o env st).bind fun x s1 => (evEs C l env s1).bind fun vs s2 => meth m x vs s2
  | .rev a, env, st => (evE C a env st).bind fun x s1 => match x with
      | .loc n => match getL s1 n with
        | some l => .ok (.loc s1.length) (s1 ++ [.lst l.reverse])
        | none => .bad
      | _ => .bad
  | .sl fl fh a lo hi, env, st => (evE C a env st).bind fun x s1 => (evE C lo env s1).bind fun y s2 => (evE C hi env s2).bind fun z s3 => slice fl fh x y z s3
  | .lcS g it cs e, env, st => (evE C it env st).bind fun x s1 => (mkSeq x s1).bind fun J s2 => lcRun J (fun v s => match setG g v env with
      | none => .bad
      | some env2 => (tsts C cs env2 s).bind fun b s3 => if b then (evE C e env2 s3).bind fun y s4 => .ok (some y) s4 else .ok none s3) s2
  | .lcR1 g n cs e, env, st => (evE C n env st).bind fun x s1 => (mkR1 x s1).bind fun J s2 => lcRun J (fun v s => match setG g v env with
      | none => .bad
      | some env2 => (tsts C cs env2 s).bind fun b s3 => if b then (evE C e env2 s3).bind fun y s4 => .ok (some y) s4 else .ok none s3) s2
  | .lcR2 g a b cs e, env, st => (evE C a env st).bind fun x s0 => (evE C b env s0).bind fun y s1 => (mkR2 x y s1).bind fun J s2 => lcRun J (fun v s => match setG g v env with
      | none => .bad
      | some env2 => (tsts C cs env2 s).bind fun b s3 => if b then (evE C e env2 s3).bind fun y s4 => .ok (some y) s4 else .ok none s3) s2
def evEs (C : Cx) : List ME → Env → Store → Out (List MV)
  | [], _, st => .ok [] st
  | a :: l, env, st => (evE C a env st).bind fun x s1 => (evEs C l env s1).bind fun xs s2 => .ok (x :: xs) s2
/-- as a test -/
def tst (C : Cx) : ME → Env → Store → Out Bool
  | .and a b, env, st => (tst C a env st).bind fun k s1 => if k then tst C b env s1 else .ok false s1
  | .or a b, env, st => (tst C a env st).bind fun k s1 => if k then .ok true s1 else tst C b env s1
  | .nt a, env, st => (tst C a env st).bind fun k s1 => .ok (!k) s1
  | .op2 o a b, env, st => (evE C a env st).bind fun x s1 => (evE C b env s1).bind fun y s2 => (op2 o x y s2).bind fun z s3 => truth s3 z
  | .chain o p a b c, env, st => (evE C a env st).bind fun x s1 => (evE C b env s1).bind fun y s2 => (op2 o x y s2).bind fun z s3 => (asB z s3).bind fun k s4 =>
      if k then (evE C c env s4).bind fun w s5 => (op2 p y w s5).bind fun u s6 => asB u s6 else .ok false s4
  | .var i, env, st => match env[i]? with
    | some (some v) => truth st v
    | _ => .bad
  | .call f l, env, st => (evEs C l env st).bind fun vs s1 => (C.call f vs s1).bind fun z s2 => truth s2 z
  | .prim p l, env, st => (evEs C l env st).bind fun vs s1 => (prim C p vs s1).bind fun z s2 => truth s2 z
  | _, _, _ => .bad
def tsts (C : Cx) : List ME → Env → Store → Out Bool
  | [], _, st => .ok true st
  | [c], env, st => tst C c env st
  | _, _, _ => .bad
end
def evI (C : Cx) : MI → Env → Store → Out Iter
  | .seq e, env, st => (evE C e env st).bind fun x s1 => mkSeq x s1
  | .rng1 n, env, st => (evE C n env st).bind fun x s1 => mkR1 x s1
  | .rng2 a b, env, st => (evE C a env st).bind fun x s1 => (evE C b env s1).bind fun y s2 => mkR2 x y s2
  | .down a b, env, st => (evE C a env st).bind fun x s1 => (evE C b env s1).bind fun y s2 => mkDn x y s2
  | .enm e, env, st => (evE C e env st).bind fun x s1 => mkEn x s1
/-- name op= e on ints -/
def augI (o : Op2) (x y : MV) (st : Store) : Out MV :=
  match o, x, y with
  | .add, .int i, .int j => .ok (.int (i + j)) st
  | .sub, .int i, .int j => .ok (.int (i - j)) st
  | _, _, _ => .bad
def Ctl.mapEnv (f : Env → Env) : Ctl → Ctl
  | .next e => .next (f e)
  | .cont e => .cont (f e)
  | .brk e => .brk (f e)
  | .ret v => .ret v
mutual
def evS (C : Cx) : MS → Env → Store → Out Ctl
  | .asg g e, env, st => (evE C e env st).bind fun x s1 => match setG g x env with
      | some env2 => .ok (.next env2) s1
      | none => .bad
  | .setIx o i e, env, st => (evE C e env st).bind fun v s1 => (evE C o env s1).bind fun x s2 => (evE C i env s2).bind fun k s3 => (setAt x k v s3).bind fun _ s4 => .ok (.next env) s4
  | .aug o i e, env, st => match env[i]? with
      | some (some x) => (evE C e env st).bind fun y s1 => (augI o x y s1).bind fun z s2 => .ok (.next (env.set i (some z))) s2
      | _ => .bad
  | .expr e, env, st => (evE C e env st).bind fun _ s1 => .ok (.next env) s1
  | .ret e, env, st => (evE C e env st).bind fun x s1 => .ok (.ret x) s1
  | .retN, _, st => .ok (.ret .non) st
  | .pass, env, st => .ok (.next env) st
  | .brk, env, st => .ok (.brk env) st
  | .cont, env, st => .ok (.cont env) st
  | .ite c a b, env, st => (tst C c env st).bind fun k s1 => if k then evSs C a env s1 else evSs C b env s1
  | .loop g it body ks, env, st => (evI C it env st).bind fun J s1 => forLoop J (fun x e s => match setG g x e with
      | none => .bad
      | some e2 => (evSs C body e2 s).bind fun c s2 => .ok (c.mapEnv (killAll ks)) s2) (J.cnt s1) 0 (killAll ks env) s1
  | .whl c body ks, env, st => whlLoop (tst C c) (fun e s => (evSs C body e s).bind fun c s2 => .ok (c.mapEnv (killAll ks)) s2) C.wf (killAll ks env) st
  | .never, _, _ => .bad
  | .kill ks, env, st => .ok (.next (killAll ks env)) st
def evSs (C : Cx) : List MS → Env → Store → Out Ctl
  | [], env, st => .ok (.next env) st
  | a :: l, env, st => (evS C a env st).bind fun c s1 => match c with
      | .next e => evSs C l e s1
      | .ret v => .ok (.ret v) s1
      | .brk e => .ok (.brk e) s1
      | .cont e => .ok (.cont e) s1
end
structure MDef where
  np : Nat
  ns : Nat
  body : List MS
/-- what a body hands back -/
def endC : Ctl → Store → Out MV
  | .ret v, s => .ok v s
  | .next _, s => .ok .non s
  | _, _ => .bad
def runBody (C : Cx) (d : MDef) (vs : List MV) (st : Store) : Out MV :=
  if vs.length = d.np then (evSs C d.body (vs.map some ++ List.replicate (d.ns - vs.length) none) st).bind endC else .bad
structure World where
  defs : List MDef
  repr : MV → Txt
  wf : Nat
def callK (W : World) : Nat → Nat → List MV → Store → Out MV
  | 0, _, _, _ => .bad
  | k + 1, f, vs, st => match W.defs[f]? with
    | some d => runBody ⟨callK W k, W.repr, W.wf⟩ d vs st
    | none => .bad
end Mini
end

section
set_option Elab.async false
set_option linter.all false
set_option maxRecDepth 100000
set_option maxHeartbeats 1000000
/-! DeepSound1: how a value, a store, an environment of Mini lie in the abstract heap; operators. -/
namespace DS
open PySem PySem.Spec PyProof.Rows L2
open Mini (MV Cell Store Out)
abbrev Rho := List Addr
section
variable (K : PySem.W.Frag)
mutual
inductive RV (H : Hp) (ρ : Rho) : MV → V → Prop
  | non : RV H ρ .non .non
  | bl (b : Bool) : RV H ρ (.bl b) (.bl b)
  | int (i : Int) : RV H ρ (.int i) (.int i)
  | str {l : List Nat} {z : Str} : z.cps.toList = l → RV H ρ (.str l) (.str z)
  | loc {n : Nat} {a : Addr} : ρ[n]? = some a → RV H ρ (.loc n) (.ref a)
  | tup {a : Addr} {xs : List V} {ds : List MV} : SqT K H a xs → RVs H ρ ds xs → RV H ρ (.tup ds) (.ref a)
inductive RVs (H : Hp) (ρ : Rho) : List MV → List V → Prop
  | nil : RVs H ρ [] []
  | cons {d : MV} {ds : List MV} {v : V} {vs : List V} : RV H ρ d v → RVs H ρ ds vs → RVs H ρ (d :: ds) (v :: vs)
end
/-- a list that is only read: the script, or one of the module's own -/
def RoL (H : Hp) (a : Addr) (xs : List V) : Prop := (∃ o, H a = some (.frz o (.lst xs))) ∨
  ∃ (o : Obj) (its : Array Value) (n : Nat), K.lookup a = some o ∧ o.cls = .type "list" ∧ o.dict = none ∧ o.data = .seq its n ∧ its.size ≤ sizeLine ∧ Vals xs its.toList
def RC (H : Hp) (ρ : Rho) (a : Addr) : Cell → Prop
  | .lst l => ∃ xs, H a = some (.lst xs) ∧ RVs K H ρ l xs
  | .ro l => ∃ xs, RoL K H a xs ∧ RVs K H ρ l xs
structure RS (H : Hp) (ρ : Rho) (st : Store) : Prop where
  len : ρ.length = st.length
  cell : ∀ (n : Nat) (c : Cell) (a : Addr), st[n]? = some c → ρ[n]? = some a → RC K H ρ a c
  inj : ∀ (n m : Nat) (a : Addr) (l l' : List MV), ρ[n]? = some a → ρ[m]? = some a → st[n]? = some (.lst l) → st[m]? = some (.lst l') → n = m
structure Ext (ρ : Rho) (H : Hp) (ρ' : Rho) (H' : Hp) : Prop where
  pre : ∃ t, ρ' = ρ ++ t
  tup : ∀ a xs, SqT K H a xs → SqT K H' a xs
def RE (H : Hp) (ρ : Rho) (env : Mini.Env) (σ : L2.St) : Prop := env.length = σ.length ∧ ∀ (i : Nat) (v : MV), env[i]? = some (some v) → ∃ w, σ[i]? = some (some w) ∧ RV K H ρ v w
end
section
variable {K : PySem.W.Frag} {ρ ρ' ρ'' : Rho} {H H' H'' : Hp}
theorem Ext.refl : Ext K ρ H ρ H := ⟨⟨[], (List.append_nil _).symm⟩, fun _ _ h => h⟩
theorem Ext.trans (a : Ext K ρ H ρ' H') (b : Ext K ρ' H' ρ'' H'') : Ext K ρ H ρ'' H'' := by
  obtain ⟨⟨t, rfl⟩, ta⟩ := a
  obtain ⟨⟨u, rfl⟩, tb⟩ := b
  exact ⟨⟨t ++ u, List.append_assoc _ _ _⟩, fun a xs h => tb a xs (ta a xs h)⟩
theorem Ext.get (e : Ext K ρ H ρ' H') {n : Nat} {a : Addr} (h : ρ[n]? = some a) : ρ'[n]? = some a := by
  obtain ⟨⟨t, rfl⟩, _⟩ := e
  have hn : n < ρ.length := (List.getElem?_eq_some_iff.mp h).1
  rw [List.getElem?_append_left hn]
  exact h
mutual
theorem RV.mono (e : Ext K ρ H ρ' H') : ∀ {d : MV} {v : V}, RV K H ρ d v → RV K H' ρ' d v
  | _, _, .non => .non
  | _, _, .bl b => .bl b
  | _, _, .int i => .int i
  | _, _, .str h => .str h
  | _, _, .loc h => .loc (e.get h)
  | _, _, .tup h r => .tup (e.tup _ _ h) (RVs.mono e r)
theorem RVs.mono (e : Ext K ρ H ρ' H') : ∀ {d : List MV} {v : List V}, RVs K H ρ d v → RVs K H' ρ' d v
  | _, _, .nil => .nil
  | _, _, .cons h r => .cons (RV.mono e h) (RVs.mono e r)
end
theorem RE.mono {env : Mini.Env} {σ : L2.St} (e : Ext K ρ H ρ' H') (h : RE K H ρ env σ) : RE K H' ρ' env σ := ⟨h.1, fun i v hv => by
  obtain ⟨w, h1, h2⟩ := h.2 i v hv
  exact ⟨w, h1, h2.mono e⟩⟩
theorem RVs.length : ∀ {d : List MV} {v : List V}, RVs K H ρ d v → d.length = v.length
  | _, _, .nil => rfl
  | _, _, .cons _ r => congrArg Nat.succ (RVs.length r)
theorem RVs.get : ∀ {d : List MV} {v : List V} {i : Nat} {x : MV}, RVs K H ρ d v → d[i]? = some x → ∃ y, v[i]? = some y ∧ RV K H ρ x y
  | _, _, _, _, .nil, h => by simp at h
  | _, _, 0, x, .cons r _, h => by
    simp at h
    subst h
    exact ⟨_, rfl, r⟩
  | _, _, i + 1, x, .cons _ r, h => by
    obtain ⟨y, h1, h2⟩ := RVs.get (i := i) r (by simpa using h)
    exact ⟨y, by simpa using h1, h2⟩
theorem RVs.append : ∀ {a b : List MV} {v w : List V}, RVs K H ρ a v → RVs K H ρ b w → RVs K H ρ (a ++ b) (v ++ w)
  | _, _, _, _, .nil, s => s
  | _, _, _, _, .cons r t, s => .cons r (RVs.append t s)
theorem RVs.set {x : MV} {y : V} (r : RV K H ρ x y) : ∀ {d : List MV} {v : List V} (i : Nat), RVs K H ρ d v → RVs K H ρ (d.set i x) (v.set i y)
  | _, _, _, .nil => .nil
  | _, _, 0, .cons _ t => .cons r t
  | _, _, i + 1, .cons q t => .cons q (RVs.set r i t)
theorem RVs.take : ∀ {d : List MV} {v : List V} (n : Nat), RVs K H ρ d v → RVs K H ρ (d.take n) (v.take n)
  | _, _, 0, _ => by
    rw [List.take_zero, List.take_zero]
    exact .nil
  | _, _, n + 1, .nil => .nil
  | _, _, n + 1, .cons q t => .cons q (RVs.take n t)
theorem RVs.drop : ∀ {d : List MV} {v : List V} (n : Nat), RVs K H ρ d v → RVs K H ρ (d.drop n) (v.drop n)
  | _, _, 0, h => h
  | _, _, n + 1, .nil => .nil
  | _, _, n + 1, .cons _ t => RVs.drop n t
theorem RVs.reverse : ∀ {d : List MV} {v : List V}, RVs K H ρ d v → RVs K H ρ d.reverse v.reverse
  | _, _, .nil => .nil
  | _, _, .cons r t => by
    rw [List.reverse_cons, List.reverse_cons]
    exact (RVs.reverse t).append (.cons r .nil)
/-! ### the heap grows, changes -/
theorem sqT_new {p a : Addr} {o : HO} {xs : List V} (h : H p = none) (t : SqT K H a xs) : SqT K (upd H p o) a xs := by
  rcases t with (t | ⟨ob, t⟩) | t
  · exact .inl (.inl (by rw [upd_ne (ne_of_none t h)]; exact t))
  · exact .inl (.inr ⟨ob, by rw [upd_ne (ne_of_none t h)]; exact t⟩)
  · exact .inr t
theorem sqT_set {p a : Addr} {o : HO} {xs ys : List V} (h : H p = some (.lst ys)) (t : SqT K H a xs) : SqT K (upd H p o) a xs := by
  rcases t with (t | ⟨ob, t⟩) | t
  · exact .inl (.inl (by rw [upd_ne (ne_of t h (by intro z; cases z))]; exact t))
  · exact .inl (.inr ⟨ob, by rw [upd_ne (ne_of t h (by intro z; cases z))]; exact t⟩)
  · exact .inr t
theorem roL_new {p a : Addr} {o : HO} {xs : List V} (h : H p = none) (t : RoL K H a xs) : RoL K (upd H p o) a xs := by
  rcases t with ⟨ob, t⟩ | t
  · exact .inl ⟨ob, by rw [upd_ne (ne_of_none t h)]; exact t⟩
  · exact .inr t
theorem roL_set {p a : Addr} {o : HO} {xs ys : List V} (h : H p = some (.lst ys)) (t : RoL K H a xs) : RoL K (upd H p o) a xs := by
  rcases t with ⟨ob, t⟩ | t
  · exact .inl ⟨ob, by rw [upd_ne (ne_of t h (by intro z; cases z))]; exact t⟩
  · exact .inr t
/-- a tuple is laid: nothing else changes -/
theorem ext_upd {p : Addr} {o : HO} (h : H p = none) : Ext K ρ H ρ (upd H p o) := ⟨⟨[], (List.append_nil _).symm⟩, fun _ _ t => sqT_new h t⟩
theorem ext_new {p : Addr} {o : HO} (h : H p = none) : Ext K ρ H (ρ ++ [p]) (upd H p o) := ⟨⟨[p], rfl⟩, fun _ _ t => sqT_new h t⟩
theorem ext_set {p : Addr} {o : HO} {ys : List V} (h : H p = some (.lst ys)) : Ext K ρ H ρ (upd H p o) := ⟨⟨[], (List.append_nil _).symm⟩, fun _ _ t => sqT_set h t⟩
theorem RC.upd_none {a p : Addr} {o : HO} {c : Cell} (h : H p = none) (e : Ext K ρ H ρ' (upd H p o)) (r : RC K H ρ a c) : RC K (upd H p o) ρ' a c := by
  cases c with
  | lst l =>
    obtain ⟨xs, h1, h2⟩ := r
    exact ⟨xs, by rw [upd_ne (ne_of_none h1 h)]; exact h1, h2.mono e⟩
  | ro l =>
    obtain ⟨xs, h1, h2⟩ := r
    exact ⟨xs, roL_new h h1, h2.mono e⟩
theorem RS.upd_tup {st : Store} {p : Addr} {o : HO} (h : H p = none) (r : RS K H ρ st) : RS K (upd H p o) ρ st :=
  ⟨r.len, fun n c a h1 h2 => (r.cell n c a h1 h2).upd_none h (ext_upd h), r.inj⟩
/-- a new list -/
theorem RS.new {st : Store} {p : Addr} {l : List MV} {xs : List V} (h : H p = none) (r : RS K H ρ st) (rl : RVs K H ρ l xs) : RS K (upd H p (.lst xs)) (ρ ++ [p]) (st ++ [.lst l]) := by
  have lt_of : ∀ {n : Nat} {c : Cell}, (st ++ [Cell.lst l])[n]? = some c → n < st.length ∧ st[n]? = some c ∨ n = st.length ∧ c = .lst l := fun {n c} e => by
    by_cases hn : n < st.length
    · rw [List.getElem?_append_left hn] at e
      exact .inl ⟨hn, e⟩
    · have h2 := (List.getElem?_eq_some_iff.mp e).1
      simp at h2
      have e3 : n = st.length := by omega
      subst e3
      simp at e
      exact .inr ⟨rfl, e.symm⟩
  have rho_of : ∀ {n : Nat} {a : Addr}, n < st.length → (ρ ++ [p])[n]? = some a → ρ[n]? = some a := fun {n a} hn e => by
    rw [List.getElem?_append_left (by rw [r.len]; exact hn)] at e
    exact e
  have rho_at : ∀ {a : Addr}, (ρ ++ [p])[st.length]? = some a → a = p := fun {a} e => by
    rw [← r.len] at e
    simp at e
    exact e.symm
  refine ⟨by simp [r.len], fun n c a h1 h2 => ?_, fun n m a l1 l2 h1 h2 h3 h4 => ?_⟩
  · rcases lt_of h1 with ⟨hn, h3⟩ | ⟨hn, h3⟩
    · exact (r.cell n c a h3 (rho_of hn h2)).upd_none h (ext_new h)
    · subst hn h3
      have := rho_at h2
      subst this
      exact ⟨xs, upd_same, rl.mono (ext_new h)⟩
  · rcases lt_of h3 with ⟨hn, h3⟩ | ⟨hn, h3⟩
    · rcases lt_of h4 with ⟨hm, h4⟩ | ⟨hm, h4⟩
      · exact r.inj n m a l1 l2 (rho_of hn h1) (rho_of hm h2) h3 h4
      · subst hm
        have e := rho_at h2
        subst e
        obtain ⟨xs', h5, _⟩ := r.cell n _ _ h3 (rho_of hn h1)
        rw [h] at h5
        cases h5
    · subst hn
      have e := rho_at h1
      subst e
      rcases lt_of h4 with ⟨hm, h4⟩ | ⟨hm, h4⟩
      · obtain ⟨xs', h5, _⟩ := r.cell m _ _ h4 (rho_of hm h2)
        rw [h] at h5
        cases h5
      · exact hm.symm
/-- a list changes -/
theorem RS.set {st : Store} {p : Addr} {l l' : List MV} {xs xs' : List V} {n : Nat} (r : RS K H ρ st) (hn : st[n]? = some (.lst l)) (hp : ρ[n]? = some p) (hH : H p = some (.lst xs)) (rl : RVs K H ρ l' xs') :
    RS K (upd H p (.lst xs')) ρ (st.set n (.lst l')) := by
  have hlt : n < st.length := (List.getElem?_eq_some_iff.mp hn).1
  have at_ : ∀ {m : Nat} {c : Cell}, (st.set n (.lst l'))[m]? = some c → (m = n ∧ c = .lst l') ∨ (m ≠ n ∧ st[m]? = some c) := fun {m c} e => by
    by_cases h : m = n
    · subst h
      rw [List.getElem?_set_self hlt] at e
      exact .inl ⟨rfl, (Option.some.inj e).symm⟩
    · rw [List.getElem?_set_ne (Ne.symm h)] at e
      exact .inr ⟨h, e⟩
  refine ⟨by rw [List.length_set]; exact r.len, fun m c a h1 h2 => ?_, fun m k a l1 l2 h1 h2 h3 h4 => ?_⟩
  · rcases at_ h1 with ⟨rfl, rfl⟩ | ⟨hm, h3⟩
    · rw [hp] at h2
      cases h2
      exact ⟨xs', upd_same, rl.mono (ext_set hH)⟩
    · have rc := r.cell m c a h3 h2
      cases c with
      | lst l2 =>
        obtain ⟨ys, h4, h5⟩ := rc
        have ne : a ≠ p := fun e => by
          subst e
          exact hm (r.inj m n a l2 l h2 hp h3 hn)
        exact ⟨ys, by rw [upd_ne ne]; exact h4, h5.mono (ext_set hH)⟩
      | ro l2 =>
        obtain ⟨ys, h4, h5⟩ := rc
        exact ⟨ys, roL_set hH h4, h5.mono (ext_set hH)⟩
  · have f : ∀ {m : Nat} {l1 : List MV}, (st.set n (.lst l'))[m]? = some (.lst l1) → ∃ l0, st[m]? = some (.lst l0) := fun {m l1} e => by
      rcases at_ e with ⟨rfl, _⟩ | ⟨_, h⟩
      · exact ⟨l, hn⟩
      · exact ⟨_, h⟩
    obtain ⟨a1, b1⟩ := f h3
    obtain ⟨a2, b2⟩ := f h4
    exact r.inj m k a a1 a2 h1 h2 b1 b2
/-! ### what a place holds -/
theorem RoL.sq {a : Addr} {xs : List V} (h : RoL K H a xs) : SqL K H a xs := by
  rcases h with ⟨o, h⟩ | h
  · exact .inl (.inr ⟨o, h⟩)
  · exact .inr h
theorem RS.getL {st : Store} {n : Nat} {l : List MV} {a : Addr} (r : RS K H ρ st) (h : Mini.getL st n = some l) (ha : ρ[n]? = some a) : ∃ xs, SqL K H a xs ∧ RVs K H ρ l xs := by
  unfold Mini.getL at h
  split at h
  · cases h
    rename_i h2
    obtain ⟨xs, h3, h4⟩ := r.cell n _ a h2 ha
    exact ⟨xs, .inl (.inl h3), h4⟩
  · cases h
    rename_i h2
    obtain ⟨xs, h3, h4⟩ := r.cell n _ a h2 ha
    exact ⟨xs, h3.sq, h4⟩
  · cases h
theorem RS.getM {st : Store} {n : Nat} {l : List MV} {a : Addr} (r : RS K H ρ st) (h : st[n]? = some (.lst l)) (ha : ρ[n]? = some a) : ∃ xs, H a = some (.lst xs) ∧ RVs K H ρ l xs := r.cell n _ a h ha
theorem len_ok {n : Nat} (h : n ≤ Mini.sizeMax) : n ≤ sizeLine := Nat.le_trans h (by decide)
theorem len_lt {n : Nat} (h : n < Mini.sizeMax) : n < sizeLine := Nat.lt_of_lt_of_le h (by decide)
/-! ### what an outcome asks -/
def OkE (K : PySem.W.Frag) (ρ : Rho) (H : Hp) (o : Out MV) (Q : VK) : Prop := match o with
  | .ok d st => ∀ ρ' v H', Ext K ρ H ρ' H' → RS K H' ρ' st → RV K H' ρ' d v → Q v H'
  | _ => False
theorem OkE.mono {o : Out MV} {Q : VK} (e : Ext K ρ H ρ' H') (h : OkE K ρ H o Q) : OkE K ρ' H' o Q := by
  cases o with
  | ok d st => exact fun ρ1 v H1 e1 r1 r2 => h ρ1 v H1 (e.trans e1) r1 r2
  | exc _ _ => exact h
  | bad => exact h
theorem OkE.newL {l : List MV} {xs : List V} {st : Store} {Q : VK} (h : OkE K ρ H (Mini.newL l st) Q) (r : RS K H ρ st) (rl : RVs K H ρ l xs) : xs.length ≤ sizeLine ∧ ∀ p, H p = none → Q (.ref p) (upd H p (.lst xs)) := by
  unfold Mini.newL at h
  split at h
  · rename_i hl
    refine ⟨by rw [← rl.length]; exact len_ok hl, fun p hp => ?_⟩
    refine h (ρ ++ [p]) (.ref p) _ (ext_new hp) (r.new hp rl) (.loc ?_)
    rw [← r.len]
    simp
  · exact h.elim
/-! ### operators by values -/
def R2o (K : PySem.W.Frag) (o : Store → MV → MV → Out MV) : R2 := fun v w H Q => ∃ ρ st x y, RS K H ρ st ∧ RV K H ρ x v ∧ RV K H ρ y w ∧ OkE K ρ H (o st x y) Q
theorem okE_int {i : Int} {st : Store} {Q : VK} (r : RS K H ρ st) (h : OkE K ρ H (.ok (.int i) st) Q) : Q (.int i) H := h ρ _ H .refl r (.int i)
theorem okE_bl {i : Bool} {st : Store} {Q : VK} (r : RS K H ρ st) (h : OkE K ρ H (.ok (.bl i) st) Q) : Q (.bl i) H := h ρ _ H .refl r (.bl i)
end
section
variable {X : L2.Cx}
theorem OpR.imp {f : Value → Value → Sem Value} {r r' : R2} (h : OpR X f r) (i : ∀ x y H Q, r' x y H Q → r x y H Q) : OpR X f r' := fun pins s σ H x y v u Q I rx ry q => h pins s σ H x y v u Q I rx ry (i _ _ _ _ q)
theorem d_add : OpR X (binaryOp .Add) (R2o X.K Mini.opAdd) := by
  intro pins s σ H v w a b Q I ra rb h
  obtain ⟨ρ, st, x, y, rs, rx, ry, h⟩ := h
  unfold Mini.opAdd at h
  split at h
  · cases rx; cases ry
    exact op_add pins s σ H _ _ a b Q I ra rb ⟨_, _, rfl, rfl, okE_int rs h⟩
  · cases rx with
    | loc h1 =>
      cases ry with
      | loc h2 =>
        split at h
        · rename_i e1 e2
          obtain ⟨xs, g1, g2⟩ := rs.getM e1 h1
          obtain ⟨ys, g3, g4⟩ := rs.getM e2 h2
          obtain ⟨z1, z2⟩ := OkE.newL h rs (g2.append g4)
          exact op_cat pins s σ H _ _ a b Q I ra rb ⟨_, _, xs, ys, rfl, rfl, g1, g3, by rw [← List.length_append]; exact z1, z2⟩
        · exact h.elim
  · cases rx with
    | tup h1 r1 =>
      cases ry with
      | tup h2 r2 =>
        split at h
        · rename_i hz
          rw [r1.length, r2.length] at hz
          refine op_catA pins s σ H _ _ a b Q I ra rb ⟨_, _, _, _, rfl, rfl, h1, h2, Nat.le_trans hz (by decide), fun e => ?_, fun e e2 => ?_, fun e e2 p hp => ?_⟩
          · subst e
            refine h ρ _ H .refl rs (.tup h2 ?_)
            cases r1
            exact r2
          · subst e2
            refine h ρ _ H .refl rs (.tup h1 ?_)
            cases r2
            rw [List.append_nil]
            exact r1
          · exact h ρ _ _ (ext_upd hp) (rs.upd_tup hp) (.tup (.inl (.inl upd_same)) ((r1.append r2).mono (ext_upd hp)))
        · exact h.elim
  · exact h.elim
/-- two ints in, a value out -/
theorem int2 {K : PySem.W.Frag} {ρ : Rho} {H : Hp} {x y : MV} {v w : V} {Q : VK} {f : MV → MV → Out MV} {g : Int → Int → Out MV} (hf : ∀ i j, f (.int i) (.int j) = g i j) (hn : ∀ x y, (∀ i j, ¬ (x = .int i ∧ y = .int j)) → f x y = .bad)
    (rx : RV K H ρ x v) (ry : RV K H ρ y w) (h : OkE K ρ H (f x y) Q) : ∃ i j, v = .int i ∧ w = .int j ∧ OkE K ρ H (g i j) Q := by
  by_cases e : ∃ i j, x = .int i ∧ y = .int j
  · obtain ⟨i, j, rfl, rfl⟩ := e
    cases rx; cases ry
    exact ⟨i, j, rfl, rfl, by rw [hf] at h; exact h⟩
  · rw [hn x y fun i j z => e ⟨i, j, z⟩] at h
    exact h.elim
theorem nint {x y : MV} {f : MV → MV → Out MV} {g : Int → Int → Out MV} (hf : f = fun x y => match x, y with | .int i, .int j => g i j | _, _ => .bad) (h : ∀ i j, ¬ (x = .int i ∧ y = .int j)) : f x y = .bad := by
  subst hf
  cases x <;> cases y <;> first | rfl | exact absurd ⟨rfl, rfl⟩ (h _ _)
theorem d_sub : OpR X (binaryOp .Sub) (R2o X.K fun st x y => Mini.op2 .sub x y st) := by
  intro pins s σ H v w a b Q I ra rb h
  obtain ⟨ρ, st, x, y, rs, rx, ry, h⟩ := h
  obtain ⟨i, j, rfl, rfl, h⟩ := int2 (f := fun x y => Mini.op2 .sub x y st) (g := fun i j => .ok (.int (i - j)) st) (fun _ _ => rfl) (fun x y z => nint rfl z) rx ry h
  exact op_sub pins s σ H _ _ a b Q I ra rb ⟨_, _, rfl, rfl, okE_int rs h⟩
theorem d_fdiv : OpR X (binaryOp .FloorDiv) (R2o X.K fun st x y => Mini.op2 .fdiv x y st) := by
  intro pins s σ H v w a b Q I ra rb h
  obtain ⟨ρ, st, x, y, rs, rx, ry, h⟩ := h
  obtain ⟨i, j, rfl, rfl, h⟩ := int2 (f := fun x y => Mini.op2 .fdiv x y st) (g := fun i j => if 0 < j ∧ j.natAbs.log2 < 9000 then .ok (.int (i / j)) st else .bad) (fun _ _ => rfl) (fun x y z => nint rfl z) rx ry h
  split at h
  · rename_i hc
    exact op_fdivW pins s σ H _ _ a b Q I ra rb ⟨_, _, rfl, rfl, hc, okE_int rs h⟩
  · exact h.elim
theorem d_mod : OpR X (binaryOp .Mod) (R2o X.K fun st x y => Mini.op2 .mod x y st) := by
  intro pins s σ H v w a b Q I ra rb h
  obtain ⟨ρ, st, x, y, rs, rx, ry, h⟩ := h
  obtain ⟨i, j, rfl, rfl, h⟩ := int2 (f := fun x y => Mini.op2 .mod x y st) (g := fun i j => if 0 < j then .ok (.int (i % j)) st else .bad) (fun _ _ => rfl) (fun x y z => nint rfl z) rx ry h
  split at h
  · rename_i hc
    exact op_mod pins s σ H _ _ a b Q I ra rb ⟨_, _, rfl, rfl, hc, okE_int rs h⟩
  · exact h.elim
theorem d_pow : OpR X (binaryOp .Pow) (R2o X.K fun st x y => Mini.op2 .pow x y st) := by
  intro pins s σ H v w a b Q I ra rb h
  obtain ⟨ρ, st, x, y, rs, rx, ry, h⟩ := h
  obtain ⟨i, j, rfl, rfl, h⟩ := int2 (f := fun x y => Mini.op2 .pow x y st) (g := fun i j => if 0 ≤ j ∧ j ≤ 1000000 ∧ i.natAbs < 2 ^ 64 then .ok (.int (i ^ j.toNat)) st else .bad) (fun _ _ => rfl) (fun x y z => nint rfl z) rx ry h
  split at h
  · rename_i hc
    exact op_pow pins s σ H _ _ a b Q I ra rb ⟨_, _, rfl, rfl, hc, okE_int rs h⟩
  · exact h.elim
theorem repV_length (l : List MV) : ∀ n, (Mini.repV l n).length = l.length * n
  | 0 => rfl
  | n + 1 => by
    show (l ++ Mini.repV l n).length = _
    rw [List.length_append, repV_length l n, Nat.mul_succ, Nat.add_comm]
theorem RVs.rep {K : PySem.W.Frag} {ρ : Rho} {H : Hp} {l : List MV} {xs : List V} (r : RVs K H ρ l xs) : ∀ n, RVs K H ρ (Mini.repV l n) (List.replicate n xs).flatten
  | 0 => .nil
  | n + 1 => by
    rw [List.replicate_succ, List.flatten_cons]
    exact r.append (RVs.rep r n)
theorem d_mul : OpR X (binaryOp .Mult) (R2o X.K Mini.opMul) := by
  intro pins s σ H v w a b Q I ra rb h
  obtain ⟨ρ, st, x, y, rs, rx, ry, h⟩ := h
  unfold Mini.opMul at h
  split at h
  · cases rx; cases ry
    split at h
    · rename_i hc
      exact op_mulW pins s σ H _ _ a b Q I ra rb ⟨_, _, rfl, rfl, hc, okE_int rs h⟩
    · exact h.elim
  · cases rx with
    | loc h1 =>
      cases ry
      split at h
      · rename_i e1
        obtain ⟨xs, g1, g2⟩ := rs.getM e1 h1
        split at h
        · rename_i j _ l _ hj
          obtain ⟨z1, z2⟩ := OkE.newL h rs (g2.rep j.toNat)
          refine op_rep pins s σ H _ _ a b Q I ra rb ⟨_, _, xs, rfl, rfl, g1, by omega, by omega, ?_, z2⟩
          have h3 : (List.replicate j.toNat xs).flatten.length = xs.length * j.toNat := by
            rw [← (g2.rep j.toNat).length, repV_length, g2.length]
          rw [← h3]
          exact z1
        · exact h.elim
      · exact h.elim
  · exact h.elim
/-- comparisons of ints -/
theorem d_cmp {op : CmpOp} {p : Int → Int → Bool} (ho : OpR X (compareOp op) (rI0 fun i j => .bl (p i j))) : OpR X (compareOp op) (R2o X.K (Mini.cmpI p)) := by
  intro pins s σ H v w a b Q I ra rb h
  obtain ⟨ρ, st, x, y, rs, rx, ry, h⟩ := h
  obtain ⟨i, j, rfl, rfl, h⟩ := int2 (f := Mini.cmpI p st) (g := fun i j => .ok (.bl (p i j)) st) (fun _ _ => rfl) (fun x y z => by cases x <;> cases y <;> first | rfl | exact absurd ⟨rfl, rfl⟩ (z _ _)) rx ry h
  exact ho pins s σ H _ _ a b Q I ra rb ⟨_, _, rfl, rfl, okE_bl rs h⟩
/-! ### == of data -/
mutual
def toPy : MV → PyData
  | .bl b => .bool b
  | .int i => .int i
  | .lst l => .list (toPys l)
  | .tup l => .tuple (toPys l)
  | _ => .none
def toPys : List MV → List PyData
  | [] => []
  | x :: r => toPy x :: toPys r
end
theorem mapO_cons {α β : Type} {f : α → Option β} {x : α} {r : List α} {ys : List β} (h : Mini.mapO f (x :: r) = some ys) : ∃ y zs, f x = some y ∧ Mini.mapO f r = some zs ∧ ys = y :: zs := by
  unfold Mini.mapO at h
  cases e : f x with
  | none => rw [e] at h; cases h
  | some y =>
    rw [e] at h
    cases e2 : Mini.mapO f r with
    | none => rw [e2] at h; cases h
    | some zs =>
      rw [e2] at h
      cases h
      exact ⟨y, zs, rfl, rfl, rfl⟩
section
variable {K : PySem.W.Frag} {ρ : Rho} {H : Hp} {st : Store}
theorem dpAll_of {f : MV → Option MV} (hf : ∀ x d v, f x = some d → RV K H ρ x v → Dp K H v (toPy d)) : ∀ (l : List MV) (ds : List MV) (vs : List V), Mini.mapO f l = some ds → RVs K H ρ l vs → DpAll K H vs (toPys ds)
  | [], ds, vs, h, r => by
    cases h
    cases r
    exact .nil
  | x :: l, ds, vs, h, r => by
    obtain ⟨y, zs, e1, e2, rfl⟩ := mapO_cons h
    cases r with
    | cons r1 r2 => exact .cons (hf x y _ e1 r1) (dpAll_of hf l zs _ e2 r2)
theorem dp_of (rs : RS K H ρ st) : ∀ (n : Nat) (x d : MV) (v : V), Mini.toD n st x = some d → RV K H ρ x v → Dp K H v (toPy d) := by
  intro n
  induction n with
  | zero =>
    intro x d v h r
    cases x with
    | non => cases h; cases r; exact .non
    | bl b => cases h; cases r; exact .bl _
    | int i => cases h; cases r; exact .int _
    | _ => simp [Mini.toD] at h
  | succ n ih =>
    intro x d v h r
    cases x with
    | non => cases h; cases r; exact .non
    | bl b => cases h; cases r; exact .bl _
    | int i => cases h; cases r; exact .int _
    | str z => cases h
    | lst l => cases h
    | tup l =>
      cases e : Mini.mapO (Mini.toD n st) l with
      | none => simp only [Mini.toD, e] at h; cases h
      | some ds =>
        simp only [Mini.toD, e] at h
        cases h
        cases r with
        | tup h1 h2 => exact .tup h1 (dpAll_of ih l ds _ e h2)
    | loc k =>
      cases e0 : Mini.getL st k with
      | none => simp only [Mini.toD, e0] at h; cases h
      | some l =>
        cases e : Mini.mapO (Mini.toD n st) l with
        | none => simp only [Mini.toD, e0, Option.bind_some, e] at h; cases h
        | some ds =>
          simp only [Mini.toD, e0, Option.bind_some, e] at h
          cases h
          cases r with
          | loc h1 =>
            obtain ⟨xs, h2, h3⟩ := rs.getL e0 h1
            exact .lst h2 (dpAll_of ih l ds _ e h3)
end
/-! no texts, not deep -/
mutual
def plainD : Nat → MV → Bool
  | _, .non => true
  | _, .bl _ => true
  | _, .int _ => true
  | n + 1, .lst l => plainL n l
  | n + 1, .tup l => plainL n l
  | _, _ => false
def plainL : Nat → List MV → Bool
  | _, [] => true
  | n, x :: r => plainD n x && plainL n r
end
theorem plainL_of {f : MV → Option MV} {n : Nat} (hf : ∀ x d, f x = some d → plainD n d = true) : ∀ (l ds : List MV), Mini.mapO f l = some ds → plainL n ds = true
  | [], _, h => by cases h; unfold plainL; rfl
  | x :: l, _, h => by
    obtain ⟨y, zs, e1, e2, rfl⟩ := mapO_cons h
    unfold plainL
    rw [hf x y e1, plainL_of hf l zs e2] <;> rfl
theorem plain_of {st : Store} : ∀ (n : Nat) (x d : MV), Mini.toD n st x = some d → plainD n d = true := by
  intro n
  induction n with
  | zero =>
    intro x d h
    cases x with
    | non => cases h; unfold plainD; rfl
    | bl b => cases h; unfold plainD; rfl
    | int i => cases h; unfold plainD; rfl
    | _ => simp [Mini.toD] at h
  | succ n ih =>
    intro x d h
    cases x with
    | non => cases h; unfold plainD; rfl
    | bl b => cases h; unfold plainD; rfl
    | int i => cases h; unfold plainD; rfl
    | str z => cases h
    | lst l => cases h
    | tup l =>
      cases e : Mini.mapO (Mini.toD n st) l with
      | none => simp only [Mini.toD, e] at h; cases h
      | some ds =>
        simp only [Mini.toD, e] at h
        cases h
        unfold plainD
        exact plainL_of ih l ds e
    | loc k =>
      cases e0 : Mini.getL st k with
      | none => simp only [Mini.toD, e0] at h; cases h
      | some l =>
        cases e : Mini.mapO (Mini.toD n st) l with
        | none => simp only [Mini.toD, e0, Option.bind_some, e] at h; cases h
        | some ds =>
          simp only [Mini.toD, e0, Option.bind_some, e] at h
          cases h
          unfold plainD
          exact plainL_of ih l ds e
mutual
theorem plain_lay : ∀ (n : Nat) (d : MV), plainD n d = true → (toPy d).canLay0 = true ∧ (toPy d).depth ≤ n + 1
  | n, .non, _ => ⟨rfl, by simp [toPy, PyData.depth]⟩
  | n, .bl _, _ => ⟨rfl, by simp [toPy, PyData.depth]⟩
  | n, .int _, _ => ⟨rfl, by simp [toPy, PyData.depth]⟩
  | 0, .lst l, h => by simp [plainD] at h
  | 0, .tup l, h => by simp [plainD] at h
  | n + 1, .lst l, h => by
    have h' : plainL n l = true := by simpa [plainD] using h
    obtain ⟨a, b⟩ := plainL_lay n l h'
    refine ⟨by simpa [toPy, PyData.canLay0] using a, ?_⟩
    simp only [toPy, PyData.depth]
    omega
  | n + 1, .tup l, h => by
    have h' : plainL n l = true := by simpa [plainD] using h
    obtain ⟨a, b⟩ := plainL_lay n l h'
    refine ⟨by simpa [toPy, PyData.canLay0] using a, ?_⟩
    simp only [toPy, PyData.depth]
    omega
  | _, .str _, h => by simp [plainD] at h
  | _, .loc _, h => by simp [plainD] at h
theorem plainL_lay : ∀ (n : Nat) (l : List MV), plainL n l = true → PyData.canLayAll0 (toPys l) = true ∧ PyData.depthAll (toPys l) ≤ n + 1
  | n, [], _ => ⟨rfl, by simp [toPys, PyData.depthAll]⟩
  | n, x :: r, h => by
    have h' : plainD n x = true ∧ plainL n r = true := by simpa [plainL] using h
    obtain ⟨a1, b1⟩ := plain_lay n x h'.1
    obtain ⟨a2, b2⟩ := plainL_lay n r h'.2
    refine ⟨by simp only [toPys, PyData.canLayAll0, a1, a2] <;> rfl, ?_⟩
    simp only [toPys, PyData.depthAll]
    omega
end
theorem plain_shaped {n : Nat} {d : MV} (h : plainD n d = true) (hn : n ≤ 60) : SeqAt.shaped (toPy d) = true := by
  obtain ⟨a, b⟩ := plain_lay n d h
  unfold SeqAt.shaped
  rw [a, decide_eq_true (by omega)] <;> rfl
mutual
theorem eqv_py : ∀ (n : Nat) (d e : MV), plainD n d = true → plainD n e = true → PyData.eqv (toPy d) (toPy e) = Mini.eqvD d e
  | n, d, e, hd, he => by
    cases d with
    | str _ => simp [plainD] at hd
    | loc _ => simp [plainD] at hd
    | non => cases e <;> first | rfl | simp [plainD] at he
    | bl _ => cases e <;> first | rfl | simp [plainD] at he
    | int _ => cases e <;> first | rfl | simp [plainD] at he
    | lst l =>
      cases n with
      | zero => simp [plainD] at hd
      | succ n =>
        cases e with
        | lst l2 =>
          have h1 : plainL n l = true := by simpa [plainD] using hd
          have h2 : plainL n l2 = true := by simpa [plainD] using he
          simp only [toPy, PyData.eqv, Mini.eqvD]
          exact eqvL_py n l l2 h1 h2
        | str _ => simp [plainD] at he
        | loc _ => simp [plainD] at he
        | _ => rfl
    | tup l =>
      cases n with
      | zero => simp [plainD] at hd
      | succ n =>
        cases e with
        | tup l2 =>
          have h1 : plainL n l = true := by simpa [plainD] using hd
          have h2 : plainL n l2 = true := by simpa [plainD] using he
          simp only [toPy, PyData.eqv, Mini.eqvD]
          exact eqvL_py n l l2 h1 h2
        | str _ => simp [plainD] at he
        | loc _ => simp [plainD] at he
        | _ => rfl
  termination_by n d => (n, sizeOf d)
theorem eqvL_py : ∀ (n : Nat) (d e : List MV), plainL n d = true → plainL n e = true → PyData.eqvAll (toPys d) (toPys e) = Mini.eqvL d e
  | n, [], [], _, _ => by simp [toPys, PyData.eqvAll, Mini.eqvL]
  | n, [], _ :: _, _, _ => by simp [toPys, PyData.eqvAll, Mini.eqvL]
  | n, _ :: _, [], _, _ => by simp [toPys, PyData.eqvAll, Mini.eqvL]
  | n, x :: r, y :: t, hd, he => by
    have h1 : plainD n x = true ∧ plainL n r = true := by simpa [plainL] using hd
    have h2 : plainD n y = true ∧ plainL n t = true := by simpa [plainL] using he
    simp only [toPys, PyData.eqvAll, Mini.eqvL]
    rw [eqv_py n x y h1.1 h2.1, eqvL_py n r t h1.2 h2.2]
  termination_by n d => (n, sizeOf d)
end
theorem str_ext {z w : Str} : (z.cps.toList = w.cps.toList) ↔ z = w := by
  constructor
  · intro h
    cases z; cases w
    simp only at h
    rw [show (_ : Array Nat) = _ from Array.toList_inj.mp h]
  · intro h
    rw [h]
theorem eqS_ok {K : PySem.W.Frag} {ρ : Rho} {H : Hp} {x y : MV} {v w : V} {b : Bool} (h : Mini.eqS x y = some b) (rx : RV K H ρ x v) (ry : RV K H ρ y w) : scal v w = true ∧ decide (v = w) = b := by
  unfold Mini.eqS at h
  split at h <;> cases h <;> cases rx <;> cases ry
  · exact ⟨rfl, by simp⟩
  · exact ⟨rfl, by simp⟩
  · exact ⟨rfl, by simp⟩
  · rename_i z h1 w h2
    refine ⟨rfl, ?_⟩
    subst h1 h2
    rw [Bool.eq_iff_iff, decide_eq_true_iff, decide_eq_true_iff]
    constructor
    · intro e
      cases e
      rfl
    · intro e
      rw [str_ext.mp e]
  all_goals exact ⟨rfl, by simp⟩
theorem d_eq (hu : X.A.units + 64 < cLine) : OpR X (compareOp .Eq) (R2o X.K fun st x y => Mini.op2 .eq x y st) := by
  intro pins s σ H v w a b Q I ra rb h
  obtain ⟨ρ, st, x, y, rs, rx, ry, h⟩ := h
  simp only [Mini.op2, Mini.opEq] at h
  cases e : Mini.eqS x y with
  | some k =>
    simp only [e] at h
    obtain ⟨h1, h2⟩ := eqS_ok e rx ry
    refine op_eq pins s σ H _ _ a b Q I ra rb ⟨h1, ?_⟩
    rw [h2]
    exact okE_bl rs h
  | none =>
    simp only [e] at h
    cases e1 : Mini.toD 8 st x with
    | none => simp only [e1] at h; exact h.elim
    | some d =>
      cases e2 : Mini.toD 8 st y with
      | none => simp only [e1, e2] at h; exact h.elim
      | some d' =>
        simp only [e1, e2] at h
        have p1 := plain_of 8 x d e1
        have p2 := plain_of 8 y d' e2
        refine op_eqD hu pins s σ H _ _ a b Q I ra rb ⟨_, _, dp_of rs 8 x d v e1 rx, dp_of rs 8 y d' w e2 ry, plain_shaped p1 (by decide), plain_shaped p2 (by decide), ?_⟩
        rw [eqv_py 8 d d' p1 p2]
        exact okE_bl rs h
theorem d_ne (hu : X.A.units + 64 < cLine) : OpR X (compareOp .NotEq) (R2o X.K fun st x y => Mini.op2 .ne x y st) := by
  intro pins s σ H v w a b Q I ra rb h
  obtain ⟨ρ, st, x, y, rs, rx, ry, h⟩ := h
  simp only [Mini.op2, Mini.opEq] at h
  cases e : Mini.eqS x y with
  | some k =>
    simp only [e] at h
    obtain ⟨h1, h2⟩ := eqS_ok e rx ry
    refine op_ne pins s σ H _ _ a b Q I ra rb ⟨h1, ?_⟩
    rw [h2]
    exact okE_bl rs h
  | none =>
    simp only [e] at h
    cases e1 : Mini.toD 8 st x with
    | none => simp only [e1] at h; exact h.elim
    | some d =>
      cases e2 : Mini.toD 8 st y with
      | none => simp only [e1, e2] at h; exact h.elim
      | some d' =>
        simp only [e1, e2] at h
        have p1 := plain_of 8 x d e1
        have p2 := plain_of 8 y d' e2
        refine op_neD hu pins s σ H _ _ a b Q I ra rb ⟨_, _, dp_of rs 8 x d v e1 rx, dp_of rs 8 y d' w e2 ry, plain_shaped p1 (by decide), plain_shaped p2 (by decide), ?_⟩
        rw [eqv_py 8 d d' p1 p2]
        exact okE_bl rs h
end
end DS
end

section
set_option Elab.async false
set_option linter.all false
set_option maxRecDepth 100000
set_option maxHeartbeats 1000000
/-! DeepSound2: expressions. -/
namespace DS
open PySem PySem.Spec PyProof.Rows L2
open Mini (MV Cell Store Out)
section
variable {K : PySem.W.Frag} {ρ ρ' : Rho} {H H' : Hp}
theorem okE_bind {α : Type} {o : Out α} {f : α → Store → Out MV} {Q : VK} (h : OkE K ρ H (o.bind f) Q) : ∃ x s, o = .ok x s ∧ OkE K ρ H (f x s) Q := by
  cases o with
  | ok x s => exact ⟨x, s, rfl, h⟩
  | exc _ _ => exact h.elim
  | bad => exact h.elim
def OkB (K : PySem.W.Frag) (ρ : Rho) (H : Hp) (o : Out Bool) (Q : Bool → Hp → Prop) : Prop := match o with
  | .ok b st => ∀ ρ' H', Ext K ρ H ρ' H' → RS K H' ρ' st → Q b H'
  | _ => False
theorem OkB.mono {o : Out Bool} {Q : Bool → Hp → Prop} (e : Ext K ρ H ρ' H') (h : OkB K ρ H o Q) : OkB K ρ' H' o Q := by
  cases o with
  | ok d st => exact fun ρ1 H1 e1 r1 => h ρ1 H1 (e.trans e1) r1
  | exc _ _ => exact h
  | bad => exact h
theorem okB_bind {α : Type} {o : Out α} {f : α → Store → Out Bool} {Q : Bool → Hp → Prop} (h : OkB K ρ H (o.bind f) Q) : ∃ x s, o = .ok x s ∧ OkB K ρ H (f x s) Q := by
  cases o with
  | ok x s => exact ⟨x, s, rfl, h⟩
  | exc _ _ => exact h.elim
  | bad => exact h.elim
def OkA (K : PySem.W.Frag) (ρ : Rho) (H : Hp) (o : Out (List MV)) (Q : List V → Hp → Prop) : Prop := match o with
  | .ok ds st => ∀ ρ' vs H', Ext K ρ H ρ' H' → RS K H' ρ' st → RVs K H' ρ' ds vs → Q vs H'
  | _ => False
theorem OkA.mono {o : Out (List MV)} {Q : List V → Hp → Prop} (e : Ext K ρ H ρ' H') (h : OkA K ρ H o Q) : OkA K ρ' H' o Q := by
  cases o with
  | ok d st => exact fun ρ1 v H1 e1 r1 r2 => h ρ1 v H1 (e.trans e1) r1 r2
  | exc _ _ => exact h
  | bad => exact h
theorem okA_bind {α : Type} {o : Out α} {f : α → Store → Out (List MV)} {Q : List V → Hp → Prop} (h : OkA K ρ H (o.bind f) Q) : ∃ x s, o = .ok x s ∧ OkA K ρ H (f x s) Q := by
  cases o with
  | ok x s => exact ⟨x, s, rfl, h⟩
  | exc _ _ => exact h.elim
  | bad => exact h.elim
abbrev EV := Mini.Env → Store → Out MV
def tE (K : PySem.W.Frag) (ev : EV) : TE := fun σ H Q => ∃ ρ env st, RS K H ρ st ∧ RE K H ρ env σ ∧ OkE K ρ H (ev env st) Q
def tA (K : PySem.W.Frag) (ev : Mini.Env → Store → Out (List MV)) : TA := fun σ H Q => ∃ ρ env st, RS K H ρ st ∧ RE K H ρ env σ ∧ OkA K ρ H (ev env st) Q
def tT (K : PySem.W.Frag) (ev : Mini.Env → Store → Out Bool) : TT := fun σ H Q => ∃ ρ env st, RS K H ρ st ∧ RE K H ρ env σ ∧ OkB K ρ H (ev env st) Q
/-- run a part, go on -/
theorem tE.step {σ : L2.St} {ev : EV} {env : Mini.Env} {st : Store} {x : MV} {s : Store} {Q : VK} (rs : RS K H ρ st) (re : RE K H ρ env σ) (e : ev env st = .ok x s)
    (k : ∀ ρ1 v H1, Ext K ρ H ρ1 H1 → RS K H1 ρ1 s → RE K H1 ρ1 env σ → RV K H1 ρ1 x v → Q v H1) : tE K ev σ H Q := by
  refine ⟨ρ, env, st, rs, re, ?_⟩
  rw [e]
  exact fun ρ1 v H1 x1 r1 rv => k ρ1 v H1 x1 r1 (re.mono x1) rv
theorem tA.step {σ : L2.St} {ev : Mini.Env → Store → Out (List MV)} {env : Mini.Env} {st : Store} {x : List MV} {s : Store} {Q : List V → Hp → Prop} (rs : RS K H ρ st) (re : RE K H ρ env σ) (e : ev env st = .ok x s)
    (k : ∀ ρ1 v H1, Ext K ρ H ρ1 H1 → RS K H1 ρ1 s → RE K H1 ρ1 env σ → RVs K H1 ρ1 x v → Q v H1) : tA K ev σ H Q := by
  refine ⟨ρ, env, st, rs, re, ?_⟩
  rw [e]
  exact fun ρ1 v H1 x1 r1 rv => k ρ1 v H1 x1 r1 (re.mono x1) rv
theorem tT.step {σ : L2.St} {ev : Mini.Env → Store → Out Bool} {env : Mini.Env} {st : Store} {x : Bool} {s : Store} {Q : Bool → Hp → Prop} (rs : RS K H ρ st) (re : RE K H ρ env σ) (e : ev env st = .ok x s)
    (k : ∀ ρ1 H1, Ext K ρ H ρ1 H1 → RS K H1 ρ1 s → RE K H1 ρ1 env σ → Q x H1) : tT K ev σ H Q := by
  refine ⟨ρ, env, st, rs, re, ?_⟩
  rw [e]
  exact fun ρ1 H1 x1 r1 => k ρ1 H1 x1 r1 (re.mono x1)
end
section
variable {X : L2.Cx} {e a b c : Expr} {es : List Expr} {pos : Pos} {C : Mini.Cx}
theorem _root_.L2.PE.imp {t t' : TE} (h : PE X e t) (i : ∀ σ H Q, t' σ H Q → t σ H Q) : PE X e t' := ⟨fun pins s σ H Q I w => h.run pins s σ H Q I (i σ H Q w)⟩
theorem _root_.L2.PT.imp {t t' : TT} (h : PT X e t) (i : ∀ σ H Q, t' σ H Q → t σ H Q) : PT X e t' := ⟨fun pins s σ H Q I w => h.run pins s σ H Q I (i σ H Q w)⟩
theorem _root_.L2.PW.imp {t t' : TT} (h : PW X e t) (i : ∀ σ H Q, t' σ H Q → t σ H Q) : PW X e t' := ⟨fun wh pins s σ H Q I w => h.run wh pins s σ H Q I (i σ H Q w)⟩
theorem _root_.L2.PA.imp {t t' : TA} (h : PA X es t) (i : ∀ σ H Q, t' σ H Q → t σ H Q) : PA X es t' := ⟨fun pos pins s σ H Q I w => h.run pos pins s σ H Q I (i σ H Q w)⟩
abbrev eE (C : Mini.Cx) (m : Mini.ME) : EV := Mini.evE C m
theorem m_var {i : Nat} {x : Str} (hN : X.N[i]? = some x) (hv : Vis X.env.scope x) (hd : (x == ("__debug__" : Str)) = false) (hcd : (x == ("__classdict__" : Str)) = false) : PE X (.Name x pos) (tE X.K (Mini.evE C (.var i))) := by
  refine (pe_var hN hv hd hcd).imp fun σ H Q h => ?_
  obtain ⟨ρ, env, st, rs, re, h⟩ := h
  simp only [Mini.evE] at h
  split at h
  · rename_i v hv
    obtain ⟨w, h1, h2⟩ := re.2 i v hv
    exact ⟨w, h1, h ρ w H .refl rs h2⟩
  · exact h.elim
theorem m_int {i : Int} {k : Nat} : PE X (.Constant (.int i) k pos) (tE X.K (Mini.evE C (.con (.int i)))) := pe_int.imp fun σ H Q h => by
  obtain ⟨ρ, env, st, rs, re, h⟩ := h
  simp only [Mini.evE] at h
  exact h ρ _ H .refl rs (.int i)
theorem m_bl {i : Bool} {k : Nat} : PE X (.Constant (.bool i) k pos) (tE X.K (Mini.evE C (.con (.bl i)))) := pe_bl.imp fun σ H Q h => by
  obtain ⟨ρ, env, st, rs, re, h⟩ := h
  simp only [Mini.evE] at h
  exact h ρ _ H .refl rs (.bl i)
theorem m_non {k : Nat} : PE X (.Constant .none k pos) (tE X.K (Mini.evE C (.con .non))) := pe_non.imp fun σ H Q h => by
  obtain ⟨ρ, env, st, rs, re, h⟩ := h
  simp only [Mini.evE] at h
  exact h ρ _ H .refl rs .non
theorem m_str {x : Str} {k : Nat} : PE X (.Constant (.str x) k pos) (tE X.K (Mini.evE C (.con (.str x.cps.toList)))) := pe_str.imp fun σ H Q h => by
  obtain ⟨ρ, env, st, rs, re, h⟩ := h
  simp only [Mini.evE] at h
  exact h ρ _ H .refl rs (.str rfl)
/-- two operands, then an operation by values -/
theorem tE.two {K : PySem.W.Frag} {ev1 ev2 : EV} {o : Store → MV → MV → Out MV} {σ : L2.St} {H : Hp} {Q : VK} (h : tE K (fun env st => (ev1 env st).bind fun x s1 => (ev2 env s1).bind fun y s2 => o s2 x y) σ H Q) : tOp (R2o K o) (tE K ev1) (tE K ev2) σ H Q := by
  obtain ⟨ρ, env, st, rs, re, h⟩ := h
  obtain ⟨x, s1, e1, h⟩ := okE_bind h
  refine tE.step rs re e1 fun ρ1 v H1 x1 rs1 re1 rv => ?_
  obtain ⟨y, s2, e2, h⟩ := okE_bind h
  refine tE.step rs1 re1 e2 fun ρ2 w H2 x2 rs2 re2 rw' => ?_
  exact ⟨ρ2, s2, x, y, rs2, rv.mono x2, rw', h.mono (x1.trans x2)⟩
theorem m_bin {op : Operator} {o : Mini.Op2} {ma mb : Mini.ME} (ho : OpR X (binaryOp op) (R2o X.K fun st x y => Mini.op2 o x y st)) (ha : PE X a (tE X.K (Mini.evE C ma))) (hb : PE X b (tE X.K (Mini.evE C mb))) : PE X (.BinOp a op b pos) (tE X.K (Mini.evE C (.op2 o ma mb))) :=
  (pe_op ho ha hb).imp fun σ H Q h => tE.two (by simpa only [tE, Mini.evE] using h)
theorem m_cmp {op : CmpOp} {o : Mini.Op2} {ma mb : Mini.ME} (ho : OpR X (compareOp op) (R2o X.K fun st x y => Mini.op2 o x y st)) (ha : PE X a (tE X.K (Mini.evE C ma))) (hb : PE X b (tE X.K (Mini.evE C mb))) (hm : behindInMarks op b = false) :
    PE X (.Compare a [op] [b] pos) (tE X.K (Mini.evE C (.op2 o ma mb))) :=
  (pe_cmpR ho ha hb hm).imp fun σ H Q h => tE.two (by simpa only [tE, Mini.evE] using h)
/-! ### truth -/
theorem truth_ok {K : PySem.W.Frag} {ρ : Rho} {H : Hp} {st : Store} {x : MV} {v : V} {Q : Bool → Hp → Prop} (rs : RS K H ρ st) (rv : RV K H ρ x v) (h : OkB K ρ H (Mini.truth st x) Q) : ∃ k, TruV K v H k ∧ Q k H := by
  have g : ∀ {k : Bool}, Mini.truth st x = .ok k st → Q k H := fun {k} e => by
    rw [e] at h
    exact h ρ H .refl rs
  cases rv with
  | non => exact ⟨false, rfl, g rfl⟩
  | bl b => exact ⟨b, rfl, g rfl⟩
  | int i => exact ⟨_, rfl, g rfl⟩
  | str e =>
    rename_i l z
    subst e
    simp only [Mini.truth] at h
    split at h
    · rename_i hl
      refine ⟨_, ⟨?_, rfl⟩, ?_⟩
      · have : z.length = z.cps.toList.length := by simp [Str.length]
        rw [this]
        exact Nat.le_trans hl (by decide)
      · have q := h ρ H .refl rs
        have e : (!z.cps.toList.isEmpty) = ((z.length : Int) != 0) := by
          have : z.length = z.cps.toList.length := by simp [Str.length]
          rw [this]
          cases z.cps.toList with
          | nil => rfl
          | cons y r =>
            symm
            simp only [List.length_cons, List.isEmpty_cons, Bool.not_false, bne_iff_ne, ne_eq]
            omega
        rw [e] at q
        exact q
    · exact h.elim
  | loc h1 =>
    rename_i n a
    simp only [Mini.truth] at h
    split at h
    · rename_i l e
      obtain ⟨xs, h2, h3⟩ := rs.getL e h1
      refine ⟨_, .inl ⟨xs, h2, rfl⟩, ?_⟩
      have q := h ρ H .refl rs
      have e2 : l.isEmpty = xs.isEmpty := by cases h3 <;> rfl
      rw [e2] at q
      exact q
    · exact h.elim
  | tup h1 h2 =>
    rename_i a xs ds
    refine ⟨_, .inr (.inl ⟨xs, h1, rfl⟩), ?_⟩
    have q := g (k := !ds.isEmpty) rfl
    have e2 : ds.isEmpty = xs.isEmpty := by cases h2 <;> rfl
    rw [e2] at q
    exact q
/-- a value's truth as a test -/
theorem m_tru {m : Mini.ME} (ha : PE X a (tE X.K (Mini.evE C m))) (he : ∀ whole, isTrue a X.env whole = (do let v ← whole; standAt a.pos; holding [v] (truthy v))) :
    PT X a (tT X.K fun env st => (Mini.evE C m env st).bind fun z s => Mini.truth s z) := by
  refine (pt_truth ha he).imp fun σ H Q h => ?_
  obtain ⟨ρ, env, st, rs, re, h⟩ := h
  obtain ⟨x, s1, e1, h⟩ := okB_bind h
  exact tE.step rs re e1 fun ρ1 v H1 x1 rs1 re1 rv => truth_ok rs1 rv (h.mono x1)
theorem m_tcmp {op : CmpOp} {o : Mini.Op2} {ma mb : Mini.ME} (ho : OpR X (compareOp op) (R2o X.K fun st x y => Mini.op2 o x y st)) (ha : PE X a (tE X.K (Mini.evE C ma))) (hb : PE X b (tE X.K (Mini.evE C mb))) (hm : behindInMarks op b = false)
    (hbl : ∀ x y st, (∃ k s, Mini.op2 o x y st = .ok (.bl k) s) ∨ Mini.op2 o x y st = .bad) :
    PT X (.Compare a [op] [b] pos) (tT X.K (Mini.tst C (.op2 o ma mb))) := by
  refine (pt_cmpR ho ha hb hm).imp fun σ H Q h => ?_
  obtain ⟨ρ, env, st, rs, re, h⟩ := h
  simp only [Mini.tst] at h
  obtain ⟨x, s1, e1, h⟩ := okB_bind h
  refine tE.step rs re e1 fun ρ1 v H1 x1 rs1 re1 rv => ?_
  obtain ⟨y, s2, e2, h⟩ := okB_bind h
  refine tE.step rs1 re1 e2 fun ρ2 w H2 x2 rs2 re2 rw' => ?_
  refine ⟨ρ2, s2, x, y, rs2, rv.mono x2, rw', ?_⟩
  rcases hbl x y s2 with ⟨k, s3, e⟩ | e
  · rw [e] at h
    show OkE X.K ρ2 H2 (Mini.op2 o x y s2) _
    rw [e]
    intro ρ3 u H3 x3 rs3 ru
    cases ru
    exact ⟨k, rfl, h ρ3 H3 ((x1.trans x2).trans x3) rs3⟩
  · rw [e] at h
    exact h.elim
theorem m_and {ma mb : Mini.ME} {rest : List Expr} (ha : PE X a (tE X.K (Mini.evE C ma))) (hb : PE X (.BoolOp .And (b :: rest) pos) (tE X.K (Mini.evE C mb))) : PE X (.BoolOp .And (a :: b :: rest) pos) (tE X.K (Mini.evE C (.and ma mb))) := by
  refine (pe_and ha hb).imp fun σ H Q h => ?_
  obtain ⟨ρ, env, st, rs, re, h⟩ := h
  simp only [Mini.evE] at h
  obtain ⟨x, s1, e1, h⟩ := okE_bind h
  refine tE.step rs re e1 fun ρ1 v H1 x1 rs1 re1 rv => ?_
  obtain ⟨k, s2, e2, h⟩ := okE_bind h
  unfold Mini.asB at e2
  split at e2
  · cases e2
    cases rv
    refine ⟨_, rfl, ?_⟩
    split at h
    · rename_i hk
      rw [if_pos hk]
      exact ⟨ρ1, env, s1, rs1, re1, h.mono x1⟩
    · rename_i hk
      rw [if_neg hk]
      exact h ρ1 _ H1 x1 rs1 (.bl false)
  · cases e2
theorem m_or {ma mb : Mini.ME} {rest : List Expr} (ha : PE X a (tE X.K (Mini.evE C ma))) (hb : PE X (.BoolOp .Or (b :: rest) pos) (tE X.K (Mini.evE C mb))) : PE X (.BoolOp .Or (a :: b :: rest) pos) (tE X.K (Mini.evE C (.or ma mb))) := by
  refine (pe_or ha hb).imp fun σ H Q h => ?_
  obtain ⟨ρ, env, st, rs, re, h⟩ := h
  simp only [Mini.evE] at h
  obtain ⟨x, s1, e1, h⟩ := okE_bind h
  refine tE.step rs re e1 fun ρ1 v H1 x1 rs1 re1 rv => ?_
  obtain ⟨k, s2, e2, h⟩ := okE_bind h
  unfold Mini.asB at e2
  split at e2
  · cases e2
    cases rv
    refine ⟨_, rfl, ?_⟩
    split at h
    · rename_i hk
      rw [if_pos hk]
      exact h ρ1 _ H1 x1 rs1 (.bl true)
    · rename_i hk
      rw [if_neg hk]
      exact ⟨ρ1, env, s1, rs1, re1, h.mono x1⟩
  · cases e2
theorem m_not {m : Mini.ME} (ha : PE X a (tE X.K (Mini.evE C m))) : PE X (.UnaryOp .Not a pos) (tE X.K (Mini.evE C (.nt m))) := by
  refine ⟨fun pins s σ H Q I h => ?_⟩
  obtain ⟨ρ, env, st, rs, re, h⟩ := h
  simp only [Mini.evE] at h
  obtain ⟨x, s1, e1, h⟩ := okE_bind h
  have hh : tE X.K (Mini.evE C m) σ H (fun v H1 => ∃ k, TruV X.K v H1 k ∧ Q (.bl (!k)) H1) := tE.step rs re e1 fun ρ1 v H1 x1 rs1 re1 rv => by
    obtain ⟨k, s2, e2, h⟩ := okE_bind h
    have g : OkB X.K ρ1 H1 (Mini.truth s1 x) (fun k H' => Q (.bl (!k)) H') := by
      rw [e2]
      exact fun ρ2 H2 x2 rs2 => h ρ2 _ H2 (x1.trans x2) rs2 (.bl _)
    exact truth_ok rs1 rv g
  refine UnaryOp_ (thn (ha.run pins s σ H _ I hh) fun v s1 ⟨y, H1, I1, r1, q1⟩ => ?_)
  exact not_of (thn (tru_ok pins s1 σ H1 y v (fun k H' => Q (.bl (!k)) H') I1 r1 q1) fun k s2 ⟨H2, I2, q2⟩ => ⟨.bl (!k), H2, I2, rfl, q2⟩)
theorem m_ite {mc ma mb : Mini.ME} (hc : PT X c (tT X.K (Mini.tst C mc))) (ha : PE X a (tE X.K (Mini.evE C ma))) (hb : PE X b (tE X.K (Mini.evE C mb))) : PE X (.IfExp c a b pos) (tE X.K (Mini.evE C (.ite mc ma mb))) := by
  refine (pe_ifExp hc ha hb).imp fun σ H Q h => ?_
  obtain ⟨ρ, env, st, rs, re, h⟩ := h
  simp only [Mini.evE] at h
  obtain ⟨k, s1, e1, h⟩ := okE_bind h
  refine tT.step rs re e1 fun ρ1 H1 x1 rs1 re1 => ?_
  split at h
  · rename_i hk
    rw [if_pos hk]
    exact ⟨ρ1, env, s1, rs1, re1, h.mono x1⟩
  · rename_i hk
    rw [if_neg hk]
    exact ⟨ρ1, env, s1, rs1, re1, h.mono x1⟩
/-! tests -/
theorem m_tand {ma mb : Mini.ME} {rest : List Expr} (ha : PT X a (tT X.K (Mini.tst C ma))) (hb : PW X (.BoolOp .And (b :: rest) pos) (tT X.K (Mini.tst C mb))) : PW X (.BoolOp .And (a :: b :: rest) pos) (tT X.K (Mini.tst C (.and ma mb))) := by
  refine (pw_and ha hb).imp fun σ H Q h => ?_
  obtain ⟨ρ, env, st, rs, re, h⟩ := h
  simp only [Mini.tst] at h
  obtain ⟨k, s1, e1, h⟩ := okB_bind h
  refine tT.step rs re e1 fun ρ1 H1 x1 rs1 re1 => ?_
  split at h
  · rename_i hk
    rw [if_pos hk]
    exact ⟨ρ1, env, s1, rs1, re1, h.mono x1⟩
  · rename_i hk
    rw [if_neg hk]
    exact h ρ1 H1 x1 rs1
theorem m_tor {ma mb : Mini.ME} {rest : List Expr} (ha : PT X a (tT X.K (Mini.tst C ma))) (hb : PW X (.BoolOp .Or (b :: rest) pos) (tT X.K (Mini.tst C mb))) : PW X (.BoolOp .Or (a :: b :: rest) pos) (tT X.K (Mini.tst C (.or ma mb))) := by
  refine (pw_or ha hb).imp fun σ H Q h => ?_
  obtain ⟨ρ, env, st, rs, re, h⟩ := h
  simp only [Mini.tst] at h
  obtain ⟨k, s1, e1, h⟩ := okB_bind h
  refine tT.step rs re e1 fun ρ1 H1 x1 rs1 re1 => ?_
  split at h
  · rename_i hk
    rw [if_pos hk]
    exact h ρ1 H1 x1 rs1
  · rename_i hk
    rw [if_neg hk]
    exact ⟨ρ1, env, s1, rs1, re1, h.mono x1⟩
theorem m_tnot {m : Mini.ME} (ha : PT X a (tT X.K (Mini.tst C m))) : PT X (.UnaryOp .Not a pos) (tT X.K (Mini.tst C (.nt m))) := by
  refine (pt_not ha).imp fun σ H Q h => ?_
  obtain ⟨ρ, env, st, rs, re, h⟩ := h
  simp only [Mini.tst] at h
  obtain ⟨k, s1, e1, h⟩ := okB_bind h
  exact tT.step rs re e1 fun ρ1 H1 x1 rs1 re1 => h ρ1 H1 x1 rs1
/-! arguments, displays -/
theorem m_nil : PA X [] (tA X.K (Mini.evEs C [])) := pa_nil.imp fun σ H Q h => by
  obtain ⟨ρ, env, st, rs, re, h⟩ := h
  simp only [Mini.evEs] at h
  exact h ρ [] H .refl rs .nil
theorem m_cons {m : Mini.ME} {ms : List Mini.ME} (ha : PE X a (tE X.K (Mini.evE C m))) (hr : PA X es (tA X.K (Mini.evEs C ms))) (hs : starEach (a :: es) X.env = (false, eval a X.env) :: starEach es X.env) : PA X (a :: es) (tA X.K (Mini.evEs C (m :: ms))) := by
  refine (pa_cons ha hr hs).imp fun σ H Q h => ?_
  obtain ⟨ρ, env, st, rs, re, h⟩ := h
  simp only [Mini.evEs] at h
  obtain ⟨x, s1, e1, h⟩ := okA_bind h
  refine tE.step rs re e1 fun ρ1 v H1 x1 rs1 re1 rv => ?_
  obtain ⟨xs, s2, e2, h⟩ := okA_bind h
  exact tA.step rs1 re1 e2 fun ρ2 vs H2 x2 rs2 re2 rvs => h ρ2 (v :: vs) H2 (x1.trans x2) rs2 (.cons (rv.mono x2) rvs)
theorem m_tup {ms : List Mini.ME} {k : Nat} (h : PA X es (tA X.K (Mini.evEs C ms))) : PE X (.Tuple es k pos) (tE X.K (Mini.evE C (.tup ms))) := by
  refine (pe_tup h).imp fun σ H Q h => ?_
  obtain ⟨ρ, env, st, rs, re, h⟩ := h
  simp only [Mini.evE] at h
  obtain ⟨vs, s1, e1, h⟩ := okE_bind h
  refine tA.step rs re e1 fun ρ1 us H1 x1 rs1 re1 rvs => ?_
  split at h
  · rename_i hl
    refine ⟨by rw [← rvs.length]; exact Nat.le_trans hl (by decide), fun p hp => ?_⟩
    exact h ρ1 _ _ (x1.trans (ext_upd hp)) (rs1.upd_tup hp) (.tup (.inl (.inl upd_same)) (rvs.mono (ext_upd hp)))
  · exact h.elim
theorem m_lst {ms : List Mini.ME} (h : PA X es (tA X.K (Mini.evEs C ms))) : PE X (.List es pos) (tE X.K (Mini.evE C (.lst ms))) := by
  refine (pe_lst h).imp fun σ H Q h => ?_
  obtain ⟨ρ, env, st, rs, re, h⟩ := h
  simp only [Mini.evE] at h
  obtain ⟨vs, s1, e1, h⟩ := okE_bind h
  exact tA.step rs re e1 fun ρ1 us H1 x1 rs1 re1 rvs => OkE.newL (h.mono x1) rs1 rvs
/-! chains -/
theorem m_chain {op op' : CmpOp} {o p : Mini.Op2} {ma mb mc : Mini.ME} (ho : OpR X (compareOp op) (R2o X.K fun st x y => Mini.op2 o x y st)) (ho' : OpR X (compareOp op') (R2o X.K fun st x y => Mini.op2 p x y st))
    (ha : PE X a (tE X.K (Mini.evE C ma))) (hb : PE X b (tE X.K (Mini.evE C mb))) (hc : PE X c (tE X.K (Mini.evE C mc))) (hm : lastMarks [op, op'] [b, c] = false) :
    PE X (.Compare a [op, op'] [b, c] pos) (tE X.K (Mini.evE C (.chain o p ma mb mc))) := by
  refine (pe_chain ho ho' ha hb hc hm).imp fun σ H Q h => ?_
  obtain ⟨ρ, env, st, rs, re, h⟩ := h
  simp only [Mini.evE] at h
  obtain ⟨x, s1, e1, h⟩ := okE_bind h
  refine tE.step rs re e1 fun ρ1 v H1 x1 rs1 re1 rv => ?_
  obtain ⟨y, s2, e2, h⟩ := okE_bind h
  refine tE.step rs1 re1 e2 fun ρ2 w H2 x2 rs2 re2 rw' => ?_
  refine ⟨ρ2, s2, x, y, rs2, rv.mono x2, rw', ?_⟩
  obtain ⟨z, s3, e3, h⟩ := okE_bind h
  obtain ⟨k, s4, e4, h⟩ := okE_bind h
  show OkE X.K ρ2 H2 (Mini.op2 o x y s2) _
  rw [e3]
  intro ρ3 u H3 x3 rs3 ru
  unfold Mini.asB at e4
  split at e4
  · cases e4
    cases ru
    refine ⟨_, rfl, ?_⟩
    split at h
    · rename_i hk
      rw [if_pos hk]
      obtain ⟨q, s5, e5, h⟩ := okE_bind h
      refine tE.step rs3 (re2.mono x3) e5 fun ρ4 u2 H4 x4 rs4 re4 ru2 => ?_
      exact ⟨ρ4, s5, y, q, rs4, rw'.mono (x3.trans x4), ru2, h.mono ((x1.trans x2).trans (x3.trans x4))⟩
    · rename_i hk
      rw [if_neg hk]
      exact h ρ3 _ H3 ((x1.trans x2).trans x3) rs3 (.bl false)
  · cases e4
theorem m_tchain {op op' : CmpOp} {o p : Mini.Op2} {ma mb mc : Mini.ME} (ho : OpR X (compareOp op) (R2o X.K fun st x y => Mini.op2 o x y st)) (ho' : OpR X (compareOp op') (R2o X.K fun st x y => Mini.op2 p x y st))
    (ha : PE X a (tE X.K (Mini.evE C ma))) (hb : PE X b (tE X.K (Mini.evE C mb))) (hc : PE X c (tE X.K (Mini.evE C mc))) (hm : lastMarks [op, op'] [b, c] = false) :
    PT X (.Compare a [op, op'] [b, c] pos) (tT X.K (Mini.tst C (.chain o p ma mb mc))) := by
  refine (pt_chain ho ho' ha hb hc hm).imp fun σ H Q h => ?_
  obtain ⟨ρ, env, st, rs, re, h⟩ := h
  simp only [Mini.tst] at h
  obtain ⟨x, s1, e1, h⟩ := okB_bind h
  refine tE.step rs re e1 fun ρ1 v H1 x1 rs1 re1 rv => ?_
  obtain ⟨y, s2, e2, h⟩ := okB_bind h
  refine tE.step rs1 re1 e2 fun ρ2 w H2 x2 rs2 re2 rw' => ?_
  refine ⟨ρ2, s2, x, y, rs2, rv.mono x2, rw', ?_⟩
  obtain ⟨z, s3, e3, h⟩ := okB_bind h
  obtain ⟨k, s4, e4, h⟩ := okB_bind h
  show OkE X.K ρ2 H2 (Mini.op2 o x y s2) _
  rw [e3]
  intro ρ3 u H3 x3 rs3 ru
  unfold Mini.asB at e4
  split at e4
  · cases e4
    cases ru
    refine ⟨_, rfl, ?_⟩
    split at h
    · rename_i hk
      rw [if_pos hk]
      obtain ⟨q, s5, e5, h⟩ := okB_bind h
      refine tE.step rs3 (re2.mono x3) e5 fun ρ4 u2 H4 x4 rs4 re4 ru2 => ?_
      refine ⟨ρ4, s5, y, q, rs4, rw'.mono (x3.trans x4), ru2, ?_⟩
      obtain ⟨r, s6, e6, h⟩ := okB_bind h
      show OkE X.K ρ4 H4 (Mini.op2 p y q s5) _
      rw [e6]
      intro ρ5 u3 H5 x5 rs5 ru3
      cases r with
      | bl k2 =>
        cases ru3
        exact ⟨k2, rfl, h ρ5 H5 ((x1.trans x2).trans ((x3.trans x4).trans x5)) rs5⟩
      | _ => exact h.elim
    · rename_i hk
      rw [if_neg hk]
      exact ⟨false, rfl, h ρ3 H3 ((x1.trans x2).trans x3) rs3⟩
  · cases e4
end
end DS
end

section
set_option Elab.async false
set_option linter.all false
set_option maxRecDepth 100000
set_option maxHeartbeats 1000000
/-! DeepSound3: subscripts, slices, built-ins, methods. -/
namespace DS
open PySem PySem.Spec PyProof.Rows L2
open Mini (MV Cell Store Out)
section
variable {K : PySem.W.Frag} {ρ ρ' : Rho} {H H' : Hp}
theorem RVs.atI {ds : List MV} {xs : List V} {i : Int} {d : MV} (r : RVs K H ρ ds xs) (h : Mini.atI ds i = some d) : ∃ v, L2.atI xs i = some v ∧ RV K H ρ d v := by
  unfold Mini.atI at h
  cases e : Mini.ixN ds.length i with
  | none => rw [e] at h; cases h
  | some j =>
    rw [e] at h
    obtain ⟨v, h1, h2⟩ := r.get (i := j) h
    refine ⟨v, ?_, h2⟩
    have e2 : L2.ixN xs.length i = some j := by rw [← r.length]; exact e
    unfold L2.atI
    rw [e2]
    exact h1
end
section
variable {X : L2.Cx} {e a b c : Expr} {es : List Expr} {pos : Pos} {C : Mini.Cx}
theorem d_ix : IxR X (R2o X.K fun st x y => Mini.op2 .ix x y st) := by
  intro value slice pins s σ H v w a b Q I ra rb h hs
  obtain ⟨ρ, st, x, y, rs, rx, ry, h⟩ := h
  simp only [Mini.op2] at h
  unfold Mini.opIx at h
  refine ix_seq value slice pins s σ H v w a b Q I ra rb ?_ hs
  split at h
  · cases rx with
    | loc h1 =>
      cases ry
      split at h
      · rename_i e1
        obtain ⟨xs, h2, h3⟩ := rs.getL e1 h1
        split at h
        · rename_i e2
          obtain ⟨u, h4, h5⟩ := h3.atI e2
          exact .inl ⟨_, xs, _, u, rfl, rfl, h2, h4, h ρ u H .refl rs h5⟩
        · exact h.elim
      · exact h.elim
  · cases rx with
    | tup h2 h3 =>
      cases ry
      split at h
      · rename_i e2
        obtain ⟨u, h4, h5⟩ := h3.atI e2
        exact .inr (.inl ⟨_, _, _, u, rfl, rfl, h2, h4, h ρ u H .refl rs h5⟩)
      · exact h.elim
  · exact h.elim
theorem m_ix {ma mb : Mini.ME} (ha : PE X a (tE X.K (Mini.evE C ma))) (hb : PE X b (tE X.K (Mini.evE C mb))) (hs : PlainIx b) : PE X (.Subscript a b pos) (tE X.K (Mini.evE C (.op2 .ix ma mb))) :=
  (pe_ix d_ix ha hb hs).imp fun σ H Q h => tE.two (by simpa only [tE, Mini.evE] using h)
theorem m_neg {m : Mini.ME} (ha : PE X a (tE X.K (Mini.evE C m))) : PE X (.UnaryOp .USub a pos) (tE X.K (Mini.evE C (.prim .neg [m]))) := by
  refine (pe_un un_neg ha).imp fun σ H Q h => ?_
  obtain ⟨ρ, env, st, rs, re, h⟩ := h
  simp only [Mini.evE, Mini.evEs] at h
  obtain ⟨vs, s1, e1, h⟩ := okE_bind h
  cases e0 : Mini.evE C m env st with
  | exc _ _ => rw [e0] at e1; cases e1
  | bad => rw [e0] at e1; cases e1
  | ok x s =>
    rw [e0] at e1
    cases e1
    refine tE.step rs re e0 fun ρ1 v H1 x1 rs1 re1 rv => ?_
    cases x with
    | int i =>
      cases rv
      exact ⟨i, rfl, h ρ1 _ H1 x1 rs1 (.int _)⟩
    | _ => exact h.elim
/-! ### reverse, slices -/
theorem m_rev {m : Mini.ME} {k : Nat} {p1 p2 p3 : Pos} (ha : PE X a (tE X.K (Mini.evE C m))) : PE X (.Subscript a (.Slice none none (some (.UnaryOp .USub (.Constant (.int 1) k p1) p2)) p3) pos) (tE X.K (Mini.evE C (.rev m))) := by
  refine (pe_revL ha).imp fun σ H Q h => ?_
  obtain ⟨ρ, env, st, rs, re, h⟩ := h
  simp only [Mini.evE] at h
  obtain ⟨x, s1, e1, h⟩ := okE_bind h
  refine tE.step rs re e1 fun ρ1 v H1 x1 rs1 re1 rv => ?_
  split at h
  · split at h
    · rename_i e2
      cases rv with
      | loc h1 =>
        obtain ⟨xs, h2, h3⟩ := rs1.getL e2 h1
        refine ⟨_, xs, rfl, h2, fun p hp => ?_⟩
        refine h (ρ1 ++ [p]) _ _ (x1.trans (ext_new hp)) (rs1.new hp h3.reverse) (.loc ?_)
        rw [← rs1.len]
        simp
    · exact h.elim
  · exact h.elim
theorem sIx_eq {n d k : Nat} {x : MV} {v : V} {K : PySem.W.Frag} {ρ : Rho} {H : Hp} (rx : RV K H ρ x v) (h : Mini.sIx n d x = some k) : (v = .non ∧ HT.sIx n d none = k) ∨ ∃ i, v = .int i ∧ HT.sIx n d (some i) = k := by
  unfold Mini.sIx at h
  split at h
  · cases h; cases rx; exact .inl ⟨rfl, rfl⟩
  · cases h; cases rx; exact .inr ⟨_, rfl, rfl⟩
  · cases h
/-- both kinds of slices, by values -/
def rSlU (K : PySem.W.Frag) : V → Option Int → Option Int → Hp → VK → Prop := fun x lo hi H Q => rSlL K x lo hi H Q ∨ rSlT K x lo hi H Q
theorem sl_u : SlR X (rSlU X.K) := by
  intro pins s σ H x v vl vu lo hi sl Q I rx hs pl pu h
  rcases h with h | h
  · exact sl_list pins s σ H x v vl vu lo hi sl Q I rx hs pl pu h
  · exact sl_tup pins s σ H x v vl vu lo hi sl Q I rx hs pl pu h
def oV : Option Int → V
  | none => .non
  | some i => .int i
/-- a bound's reading: an int, or none where it is left out -/
structure PB (X : L2.Cx) (e : Option Expr) (fl : Bool) (ev : EV) : Prop where
  ok : ∃ t : TO, PO X e t ∧ ∀ (σ : L2.St) (H : Hp) (Q : Option Int → Hp → Prop) (ρ : Rho) (env : Mini.Env) (st : Store) (x : MV) (s : Store), RS X.K H ρ st → RE X.K H ρ env σ → ev env st = .ok x s → Mini.bOk fl x = true →
    (∀ ρ1 H1 o, Ext X.K ρ H ρ1 H1 → RS X.K H1 ρ1 s → RV X.K H1 ρ1 x (oV o) → Q o H1) → t σ H Q
theorem m_b0 : PB X none false (Mini.evE C (.con .non)) := ⟨tNoPart, po_none, fun σ H Q ρ env st x s rs re e _ k => by
  simp only [Mini.evE] at e
  cases e
  exact k ρ H none .refl rs .non⟩
theorem m_b1 {m : Mini.ME} (ha : PE X a (tE X.K (Mini.evE C m))) : PB X (some a) true (Mini.evE C m) := ⟨tPart (tE X.K (Mini.evE C m)), po_some ha, fun σ H Q ρ env st x s rs re e hx k => by
  refine tE.step rs re e fun ρ1 v H1 x1 rs1 re1 rv => ?_
  cases x with
  | int i =>
    cases rv
    exact ⟨i, rfl, k ρ1 H1 (some i) x1 rs1 (.int i)⟩
  | _ => cases hx⟩
theorem cut_rel {K : PySem.W.Frag} {ρ : Rho} {H : Hp} {l : List MV} {xs : List V} (r : RVs K H ρ l xs) (i j : Nat) : RVs K H ρ (Mini.cut l i j) ((xs.drop i).take (j - i)) := (r.drop i).take (j - i)
theorem oV_sIx {n d k : Nat} {x : MV} {o : Option Int} {K : PySem.W.Frag} {ρ : Rho} {H : Hp} (rx : RV K H ρ x (oV o)) (h : Mini.sIx n d x = some k) : HT.sIx n d o = k := by
  rcases sIx_eq rx h with ⟨e1, e2⟩ | ⟨i, e1, e2⟩
  · cases o with
    | none => exact e2
    | some i => cases e1
  · cases o with
    | none => cases e1
    | some i => cases e1; exact e2
theorem m_sl {m ml mh : Mini.ME} {lo hi : Option Expr} {fl fh : Bool} {p2 : Pos} (ha : PE X a (tE X.K (Mini.evE C m))) (hl : PB X lo fl (Mini.evE C ml)) (hh : PB X hi fh (Mini.evE C mh)) : PE X (.Subscript a (.Slice lo hi none p2) pos) (tE X.K (Mini.evE C (.sl fl fh m ml mh))) := by
  obtain ⟨tl, pl, kl⟩ := hl.ok
  obtain ⟨th, ph, kh⟩ := hh.ok
  refine (pe_slice sl_u ha pl ph).imp fun σ H Q h => ?_
  obtain ⟨ρ, env, st, rs, re, h⟩ := h
  simp only [Mini.evE] at h
  obtain ⟨x, s1, e1, h⟩ := okE_bind h
  obtain ⟨y, s2, e2, h⟩ := okE_bind h
  obtain ⟨z, s3, e3, h⟩ := okE_bind h
  refine tE.step rs re e1 fun ρ1 v H1 x1 rs1 re1 rv => ?_
  -- the bounds are ints or left out
  unfold Mini.slice at h
  split at h
  rotate_left
  · exact h.elim
  rename_i hb
  rw [Bool.and_eq_true] at hb
  refine kl σ H1 _ ρ1 env s1 y s2 rs1 re1 e2 hb.1 fun ρ2 H2 o2 x2 rs2 ry => ?_
  refine kh σ H2 _ ρ2 env s2 z s3 rs2 (re1.mono x2) e3 hb.2 fun ρ3 H3 o3 x3 rs3 rz => ?_
  have rv3 := rv.mono (x2.trans x3)
  have ry3 := ry.mono x3
  have x13 := x1.trans (x2.trans x3)
  split at h
  · split at h
    · rename_i e4
      cases rv3 with
      | loc h1 =>
        obtain ⟨xs, h2, h3⟩ := rs3.getL e4 h1
        split at h
        · rename_i q1 q2
          refine .inl ⟨_, xs, rfl, h2, fun p hp => ?_⟩
          refine h (ρ3 ++ [p]) _ _ (x13.trans (ext_new hp)) (rs3.new hp ?_) (.loc (by rw [← rs3.len]; simp))
          unfold cutV
          have l1 := oV_sIx ry3 q1
          have l2 := oV_sIx rz q2
          rw [h3.length] at l1 l2
          rw [l1, l2]
          exact cut_rel h3 _ _
        · exact h.elim
    · exact h.elim
  · cases rv3 with
    | tup h2 h3 =>
      split at h
      · rename_i q1 q2
        split at h
        · exact h.elim
        · rename_i hne
          have l1 := oV_sIx ry3 q1
          have l2 := oV_sIx rz q2
          have hlen := h3.length
          rw [hlen] at l1 l2
          refine .inr ⟨_, _, rfl, h2, ?_, fun p hp => ?_⟩
          · rw [l1, l2]
            intro z
            exact hne ⟨z.1, by rw [hlen]; exact z.2⟩
          · refine h ρ3 _ _ (x13.trans (ext_upd hp)) (rs3.upd_tup hp) (.tup (.inl (.inl upd_same)) ?_)
            unfold cutV
            rw [l1, l2]
            exact (cut_rel h3 _ _).mono (ext_upd hp)
      · exact h.elim
  · exact h.elim
/-! ### built-ins -/
def RPo (K : PySem.W.Frag) (C : Mini.Cx) (p : Mini.Prim) : List V → Hp → VK → Prop := fun vs H Q => ∃ ρ st ds, RS K H ρ st ∧ RVs K H ρ ds vs ∧ OkE K ρ H (Mini.prim C p ds st) Q
theorem m_prim {p : Mini.Prim} {x : Str} {px : Pos} {ms : List Mini.ME} {r : List V → Hp → VK → Prop} (hc : PE X (.Call (.Name x px) es [] pos) (tCB r (tA X.K (Mini.evEs C ms)))) (hr : ∀ vs H Q, RPo X.K C p vs H Q → r vs H Q) :
    PE X (.Call (.Name x px) es [] pos) (tE X.K (Mini.evE C (.prim p ms))) := hc.imp fun σ H Q h => by
  obtain ⟨ρ, env, st, rs, re, h⟩ := h
  simp only [Mini.evE] at h
  obtain ⟨vs, s1, e1, h⟩ := okE_bind h
  exact tA.step rs re e1 fun ρ1 us H1 x1 rs1 re1 rvs => hr us H1 Q ⟨ρ1, s1, vs, rs1, rvs, h.mono x1⟩
theorem p_len {vs : List V} {H : Hp} {Q : VK} (h : RPo X.K C .len vs H Q) : ∃ p ys, vs = [.ref p] ∧ (SqL X.K H p ys ∨ SqT X.K H p ys) ∧ Q (.int ys.length) H := by
  obtain ⟨ρ, st, ds, rs, rv, h⟩ := h
  unfold Mini.prim at h
  split at h <;> first | contradiction | skip
  · cases rv with
    | cons r1 r2 =>
      cases r2
      cases r1 with
      | loc h1 =>
        split at h
        · rename_i l e
          obtain ⟨xs, h2, h3⟩ := rs.getL e h1
          refine ⟨_, xs, rfl, .inl h2, ?_⟩
          rw [h3.length] at h
          exact okE_int rs h
        · exact h.elim
  · cases rv with
    | cons r1 r2 =>
      cases r2
      cases r1 with
      | tup h2 h3 =>
        refine ⟨_, _, rfl, .inr h2, ?_⟩
        rw [h3.length] at h
        exact okE_int rs h
theorem p_list {vs : List V} {H : Hp} {Q : VK} (h : RPo X.K C .list vs H Q) : ∃ p ys, vs = [.ref p] ∧ (SqL X.K H p ys ∨ SqT X.K H p ys) ∧ ∀ l, H l = none → Q (.ref l) (upd H l (.lst ys)) := by
  obtain ⟨ρ, st, ds, rs, rv, h⟩ := h
  unfold Mini.prim at h
  split at h <;> first | contradiction | skip
  · cases rv with
    | cons r1 r2 =>
      cases r2
      cases r1 with
      | loc h1 =>
        split at h
        · rename_i l e
          obtain ⟨xs, h2, h3⟩ := rs.getL e h1
          exact ⟨_, xs, rfl, .inl h2, (OkE.newL h rs h3).2⟩
        · exact h.elim
  · cases rv with
    | cons r1 r2 =>
      cases r2
      cases r1 with
      | tup h2 h3 => exact ⟨_, _, rfl, .inr h2, (OkE.newL h rs h3).2⟩
theorem p_abs {vs : List V} {H : Hp} {Q : VK} (h : RPo X.K C .abs vs H Q) : ∃ i, vs = [.int i] ∧ Q (.int (if i < 0 then -i else i)) H := by
  obtain ⟨ρ, st, ds, rs, rv, h⟩ := h
  unfold Mini.prim at h
  split at h <;> first | contradiction | skip
  · cases rv with
    | cons r1 r2 =>
      cases r2
      cases r1
      exact ⟨_, rfl, okE_int rs h⟩
theorem p_int {vs : List V} {H : Hp} {Q : VK} (h : RPo X.K C .int vs H Q) : (∃ i, vs = [.int i] ∧ Q (.int i) H) ∨ ∃ k, vs = [.bl k] ∧ Q (.int (if k then 1 else 0)) H := by
  obtain ⟨ρ, st, ds, rs, rv, h⟩ := h
  unfold Mini.prim at h
  split at h <;> first | contradiction | skip
  · cases rv with
    | cons r1 r2 =>
      cases r2
      cases r1
      exact .inl ⟨_, rfl, okE_int rs h⟩
  · cases rv with
    | cons r1 r2 =>
      cases r2
      cases r1
      exact .inr ⟨_, rfl, okE_int rs h⟩
theorem p_max2 {vs : List V} {H : Hp} {Q : VK} (h : RPo X.K C .max2 vs H Q) : ∃ i j, vs = [.int i, .int j] ∧ Q (.int (if j > i then j else i)) H := by
  obtain ⟨ρ, st, ds, rs, rv, h⟩ := h
  unfold Mini.prim at h
  split at h <;> first | contradiction | skip
  · cases rv with
    | cons r1 r2 =>
      cases r2 with
      | cons r3 r4 =>
        cases r4; cases r3; cases r1
        exact ⟨_, _, rfl, okE_int rs h⟩
theorem p_min2 {vs : List V} {H : Hp} {Q : VK} (h : RPo X.K C .min2 vs H Q) : ∃ i j, vs = [.int i, .int j] ∧ Q (.int (if j < i then j else i)) H := by
  obtain ⟨ρ, st, ds, rs, rv, h⟩ := h
  unfold Mini.prim at h
  split at h <;> first | contradiction | skip
  · cases rv with
    | cons r1 r2 =>
      cases r2 with
      | cons r3 r4 =>
        cases r4; cases r3; cases r1
        exact ⟨_, _, rfl, okE_int rs h⟩
theorem allInts_rel {K : PySem.W.Frag} {ρ : Rho} {H : Hp} : ∀ {l : List MV} {ns : List Int} {xs : List V}, Mini.allInts l = some ns → RVs K H ρ l xs → xs = ns.map V.int
  | [], _, _, h, r => by cases h; cases r; rfl
  | .int i :: l, ns, xs, h, r => by
    cases e : Mini.allInts l with
    | none => simp [Mini.allInts, e] at h
    | some ms =>
      simp [Mini.allInts, e] at h
      subst h
      cases r with
      | cons r1 r2 =>
        cases r1
        rw [allInts_rel e r2] <;> rfl
  | .non :: _, _, _, h, _ => by simp [Mini.allInts] at h
  | .bl _ :: _, _, _, h, _ => by simp [Mini.allInts] at h
  | .str _ :: _, _, _, h, _ => by simp [Mini.allInts] at h
  | .tup _ :: _, _, _, h, _ => by simp [Mini.allInts] at h
  | .loc _ :: _, _, _, h, _ => by simp [Mini.allInts] at h
  | .lst _ :: _, _, _, h, _ => by simp [Mini.allInts] at h
theorem minL_le : ∀ (l : List Int) (m : Int), Mini.minL m l ≤ m ∧ (∀ y ∈ l, Mini.minL m l ≤ y) ∧ (Mini.minL m l = m ∨ Mini.minL m l ∈ l)
  | [], m => by simp [Mini.minL]
  | j :: r, m => by
    by_cases hj : j < m
    · obtain ⟨h1, h2, h3⟩ := minL_le r j
      simp only [Mini.minL, if_pos hj]
      refine ⟨by omega, fun y hy => ?_, ?_⟩
      · rcases List.mem_cons.mp hy with e | hy
        · rw [e]; exact h1
        · exact h2 y hy
      · rcases h3 with h3 | h3
        · rw [h3]; exact Or.inr List.mem_cons_self
        · exact Or.inr (List.mem_cons_of_mem _ h3)
    · obtain ⟨h1, h2, h3⟩ := minL_le r m
      simp only [Mini.minL, if_neg hj]
      refine ⟨h1, fun y hy => ?_, ?_⟩
      · rcases List.mem_cons.mp hy with e | hy
        · rw [e]; omega
        · exact h2 y hy
      · rcases h3 with h3 | h3
        · exact Or.inl h3
        · exact Or.inr (List.mem_cons_of_mem _ h3)
theorem p_min1 {vs : List V} {H : Hp} {Q : VK} (h : RPo X.K C .min1 vs H Q) : rMin X.K vs H Q := by
  obtain ⟨ρ, st, ds, rs, rv, h⟩ := h
  unfold Mini.prim at h
  split at h <;> first | contradiction | skip
  · cases rv with
    | cons r1 r2 =>
      cases r2
      cases r1 with
      | loc h1 =>
        split at h
        · rename_i x l e
          obtain ⟨l0, e1, e2⟩ := Option.bind_eq_some_iff.mp e
          obtain ⟨xs, h2, h3⟩ := rs.getL e1 h1
          have hx := allInts_rel e2 h3
          subst hx
          refine ⟨_, _, rfl, h2, by simp, fun m hm hle => ?_⟩
          obtain ⟨g1, g2, g3⟩ := minL_le l x
          have : m = Mini.minL x l := by
            have a1 : Mini.minL x l ≤ m := by
              rcases List.mem_cons.mp hm with rfl | hm
              · exact g1
              · exact g2 m hm
            have a2 : m ≤ Mini.minL x l := by
              rcases g3 with g3 | g3
              · rw [g3]; exact hle x List.mem_cons_self
              · exact hle _ (List.mem_cons_of_mem _ g3)
            omega
          rw [this]
          exact okE_int rs h
        · exact h.elim
/-! ### isinstance -/
theorem sqL_ty {K : PySem.W.Frag} {H : Hp} {a : Addr} {xs : List V} (h : SqL K H a xs) : TyX K H (.ref a) (.type "list") := by
  rcases h with (h | ⟨o, h⟩) | ⟨o, its, n, h1, h2, _⟩
  · exact .base (.lst h)
  · exact .base (.frz h)
  · exact .kList h1 h2
theorem sqT_ty {K : PySem.W.Frag} {H : Hp} {a : Addr} {xs : List V} (h : SqT K H a xs) : TyX K H (.ref a) (.type "tuple") := by
  rcases h with (h | ⟨o, h⟩) | ⟨o, its, n, h1, h2, _⟩
  · exact .base (.tup h)
  · exact .fTuple h
  · exact .kTuple h1 h2
/-- the type of a value -/
inductive Kd where
  | non | bl | int | str | tup | lst
def Kd.nm : Kd → String
  | .non => "NoneType" | .bl => "bool" | .int => "int" | .str => "str" | .tup => "tuple" | .lst => "list"
def kdOf (st : Store) : MV → Option Kd
  | .non => some .non
  | .bl _ => some .bl
  | .int _ => some .int
  | .str _ => some .str
  | .tup _ => some .tup
  | .loc n => (Mini.getL st n).map fun _ => .lst
  | .lst _ => none
theorem kd_ty {K : PySem.W.Frag} {ρ : Rho} {H : Hp} {st : Store} {x : MV} {v : V} {k : Kd} (rs : RS K H ρ st) (rv : RV K H ρ x v) (h : kdOf st x = some k) : TyX K H v (.type k.nm) := by
  cases rv with
  | non => cases h; exact .base .non
  | bl b => cases h; exact .base (.bl b)
  | int i => cases h; exact .base (.int i)
  | str e => cases h; exact .base (.str _)
  | loc h1 =>
    rename_i n a
    cases e : Mini.getL st n with
    | none => simp [kdOf, e] at h
    | some l =>
      simp [kdOf, e] at h
      subst h
      obtain ⟨xs, h2, _⟩ := rs.getL e h1
      exact sqL_ty h2
  | tup h1 h2 => cases h; exact sqT_ty h1
/-- isinstance(x, T) by the type's name -/
theorem p_isi {p : Mini.Prim} {T : String} {g : Kd → Bool} (hk : ∀ k : Kd, kitB k.nm T = some (g k)) (hp : ∀ x st, Mini.prim C p [x] st = match kdOf st x with | some k => .ok (.bl (g k)) st | none => .bad)
    {a : V} {H : Hp} {Q : VK} (h : ∃ ρ st x, RS X.K H ρ st ∧ RV X.K H ρ x a ∧ OkE X.K ρ H (Mini.prim C p [x] st) Q) : rIsi X.K [a, .ty T] H Q := by
  obtain ⟨ρ, st, x, rs, rx, h⟩ := h
  rw [hp] at h
  split at h
  · rename_i k e
    exact ⟨a, .ty T, .type k.nm, .type T, g k, rfl, .ty T, kd_ty rs rx e, kit_ty (hk k), okE_bl rs h⟩
  · exact h.elim
theorem hk_int : ∀ k : Kd, kitB k.nm "int" = some (match k with | .int => true | .bl => true | _ => false) := fun k => by cases k <;> decide +kernel
theorem hk_bool : ∀ k : Kd, kitB k.nm "bool" = some (match k with | .bl => true | _ => false) := fun k => by cases k <;> decide +kernel
theorem hk_str : ∀ k : Kd, kitB k.nm "str" = some (match k with | .str => true | _ => false) := fun k => by cases k <;> decide +kernel
theorem hk_tuple : ∀ k : Kd, kitB k.nm "tuple" = some (match k with | .tup => true | _ => false) := fun k => by cases k <;> decide +kernel
theorem hk_list : ∀ k : Kd, kitB k.nm "list" = some (match k with | .lst => true | _ => false) := fun k => by cases k <;> decide +kernel
theorem hp_loc {C : Mini.Cx} {p : Mini.Prim} {n : Nat} {st : Store} {b : Bool} (h : Mini.prim C p [.loc n] st = match Mini.getL st n with | some _ => .ok (.bl b) st | none => .bad) {g : Kd → Bool} (hg : g .lst = b) :
    Mini.prim C p [.loc n] st = match kdOf st (.loc n) with | some k => .ok (.bl (g k)) st | none => .bad := by
  rw [h]
  cases e : Mini.getL st n with
  | none => simp [kdOf, e]
  | some l => simp [kdOf, e, hg]
theorem m_isi {p : Mini.Prim} {T : String} {g : Kd → Bool} {m : Mini.ME} {px pt : Pos} {xT : Str} (hk : ∀ k : Kd, kitB k.nm T = some (g k)) (hp : ∀ x st, Mini.prim C p [x] st = match kdOf st x with | some k => .ok (.bl (g k)) st | none => .bad)
    (hgl : Gl X "isinstance") (hm : X.mg "isinstance" = none) (hT : Gl X xT) (hmT : X.mg xT = none) (hv : bootBuiltins xT = some (.type T)) (hnT : xT ≠ "__name__") (hdT : (xT == ("__debug__" : Str)) = false) (ha : PE X a (tE X.K (Mini.evE C m)))
    (hs : starEach [a, .Name xT pt] X.env = (false, eval a X.env) :: starEach [.Name xT pt] X.env) :
    PE X (.Call (.Name "isinstance" px) [a, .Name xT pt] [] pos) (tE X.K (Mini.evE C (.prim p [m]))) := by
  refine (pe_callB call_isi hgl hm (by decide +kernel) (pa_cons ha (pa_cons (pe_bltn (v := .ty T) hT hmT hv rfl hnT hdT) pa_nil) hs) (he := hs)).imp fun σ H Q h => ?_
  obtain ⟨ρ, env, st, rs, re, h⟩ := h
  simp only [Mini.evE, Mini.evEs] at h
  obtain ⟨vs, s1, e1, h⟩ := okE_bind h
  cases e0 : Mini.evE C m env st with
  | exc _ _ => rw [e0] at e1; cases e1
  | bad => rw [e0] at e1; cases e1
  | ok x s =>
    rw [e0] at e1
    cases e1
    exact tE.step rs re e0 fun ρ1 v H1 x1 rs1 re1 rv => p_isi hk hp ⟨ρ1, _, x, rs1, rv, h.mono x1⟩
theorem hp_int (x : MV) (st : Store) : Mini.prim C .isInt [x] st = match kdOf st x with | some k => .ok (.bl (match k with | .int => true | .bl => true | _ => false)) st | none => .bad := by
  cases x <;> first | rfl | exact hp_loc rfl rfl
theorem hp_bool (x : MV) (st : Store) : Mini.prim C .isBool [x] st = match kdOf st x with | some k => .ok (.bl (match k with | .bl => true | _ => false)) st | none => .bad := by
  cases x <;> first | rfl | exact hp_loc rfl rfl
theorem hp_str (x : MV) (st : Store) : Mini.prim C .isStr [x] st = match kdOf st x with | some k => .ok (.bl (match k with | .str => true | _ => false)) st | none => .bad := by
  cases x <;> first | rfl | exact hp_loc rfl rfl
theorem hp_tuple (x : MV) (st : Store) : Mini.prim C .isTuple [x] st = match kdOf st x with | some k => .ok (.bl (match k with | .tup => true | _ => false)) st | none => .bad := by
  cases x <;> first | rfl | exact hp_loc rfl rfl
theorem hp_list (x : MV) (st : Store) : Mini.prim C .isList [x] st = match kdOf st x with | some k => .ok (.bl (match k with | .lst => true | _ => false)) st | none => .bad := by
  cases x <;> first | rfl | exact hp_loc rfl rfl
/-! ### repr -/
def reprPy (d : MV) : List Nat := (PyData.shown (toPy d)).cps.toList
theorem okInt_len {x : MV} (h : Mini.okInt x = true) : (PyData.showable (toPy x) = true) ∧ (PyData.shown (toPy x)).length ≤ 70 ∧ (toPy x).hasDict = false ∧ (toPy x).depth ≤ 1 := by
  cases x with
  | int i =>
    have h' : i.natAbs < 10 ^ 60 := by simpa [Mini.okInt] using h
    refine ⟨?_, ?_, by simp [toPy, PyData.hasDict], by simp [toPy, PyData.depth]⟩
    · simp only [toPy, PyData.showable, decide_eq_true_eq]
      exact PySem.Flt.log2_lt_of (by decide) (Nat.lt_trans h' (by decide))
    · have e := int_text_length_le10 (a := i) (k := 60) (by decide) h'
      have : (PyData.shown (toPy (.int i))).length = (toString i).length := by
        simp only [toPy, PyData.shown]
        exact PySem.ofString_length _
      omega
  | bl b =>
    refine ⟨by simp [toPy, PyData.showable], ?_, by simp [toPy, PyData.hasDict], by simp [toPy, PyData.depth]⟩
    cases b
    · show (("False" : String) : Str).length ≤ 70
      decide
    · show (("True" : String) : Str).length ≤ 70
      decide
  | _ => simp [Mini.okInt] at h
theorem okInts_len : ∀ {l : List MV}, l.all Mini.okInt = true → PyData.showableAll (toPys l) = true ∧ ((PyData.shownAll (toPys l)).map (·.length)).sum ≤ 70 * l.length ∧ (PyData.shownAll (toPys l)).length = l.length ∧ PyData.hasDictAll (toPys l) = false ∧ PyData.depthAll (toPys l) ≤ 1
  | [], _ => ⟨rfl, by simp [toPys, PyData.shownAll], by simp [toPys, PyData.shownAll], by simp [toPys, PyData.hasDictAll], by simp [toPys, PyData.depthAll]⟩
  | x :: r, h => by
    have h' : Mini.okInt x = true ∧ r.all Mini.okInt = true := by simpa using h
    obtain ⟨a1, a2, a3, a4⟩ := okInt_len h'.1
    obtain ⟨b1, b2, b3, b4, b5⟩ := okInts_len h'.2
    refine ⟨by simp only [toPys, PyData.showableAll, a1, b1] <;> rfl, ?_, ?_, by simp only [toPys, PyData.hasDictAll, a3, b4] <;> rfl, ?_⟩
    · simp only [toPys, PyData.shownAll, List.map_cons, List.sum_cons, List.length_cons]
      omega
    · simp only [toPys, PyData.shownAll, List.length_cons, b3]
    · simp only [toPys, PyData.depthAll]
      omega
theorem okInt_dp {K : PySem.W.Frag} {ρ : Rho} {H : Hp} : ∀ {l : List MV} {xs : List V}, l.all Mini.okInt = true → RVs K H ρ l xs → DpAll K H xs (toPys l)
  | _, _, _, .nil => .nil
  | x :: r, _, h, .cons r1 r2 => by
    have h' : Mini.okInt x = true ∧ r.all Mini.okInt = true := by simpa using h
    refine .cons ?_ (okInt_dp h'.2 r2)
    cases r1 with
    | int i => exact .int i
    | bl b => exact .bl b
    | non => simp [Mini.okInt] at h'
    | str _ => simp [Mini.okInt] at h'
    | loc _ => simp [Mini.okInt] at h'
    | tup _ _ => simp [Mini.okInt] at h'
theorem d_repr (hg : X.A.guards = some []) (hu : X.A.units + 64 < cLine) (hC : C.repr = reprPy) : CallR X (.builtin "repr") (RPo X.K C .repr) := by
  intro pins s σ H vs us Q I r h
  obtain ⟨ρ, st, ds, rs, rv, h⟩ := h
  unfold Mini.prim at h
  split at h <;> first | contradiction | skip
  · cases rv with
    | cons r1 r2 =>
      cases r2
      cases r1 with
      | loc h1 =>
        rename_i nn ad
        split at h
        · rename_i l e
          obtain ⟨xs, h2, h3⟩ := rs.getL e h1
          split at h
          · rename_i hl
            obtain ⟨u, rfl, ru⟩ := vals1 r
            cases ru
            have dp : Dp X.K H (.ref ad) (toPy (.lst l)) := by
              simp only [toPy]
              exact .lst h2 (okInt_dp hl.1 h3)
            obtain ⟨as, rd⟩ := Dp.reads I _ _ _ dp rfl
            obtain ⟨b1, b2, b3, b4, b5⟩ := okInts_len hl.1
            refine repr_of_reads' (h₀ := s.heap) rd (by simpa [toPy, PyData.showable] using b1) (fun z => by simp [toPy, PyData.hasDict, b4] at z) hg (by simp only [toPy, PyData.depth]; omega) (fun _ _ z => z) (fun h' u tk hk => ?_) ?_
            · refine ⟨.str (PyData.shown (toPy (.lst l))), H, I.kept hk, ⟨_, rfl⟩, ?_⟩
              refine h ρ _ H .refl rs (.str ?_)
              rw [hC]
              rfl
            · have e1 := listText_len_le (PyData.shownAll (toPys l))
              simp only [toPy, PyData.shown]
              rw [b3] at e1
              have hs : sizeLine = 16777216 := sizeLine_eq
              have := hl.2
              omega
          · exact h.elim
        · exact h.elim
/-! ### append, stores -/
theorem RS.isL {K : PySem.W.Frag} {ρ : Rho} {H : Hp} {st : Store} {n : Nat} {a : Addr} (r : RS K H ρ st) (h : ρ[n]? = some a) : ∃ xs, SqL K H a xs := by
  have hn : n < st.length := by rw [← r.len]; exact (List.getElem?_eq_some_iff.mp h).1
  have e : st[n]? = some st[n] := List.getElem?_eq_getElem hn
  have c := r.cell n _ a e h
  cases e2 : st[n] with
  | lst l =>
    rw [e2] at c
    obtain ⟨xs, h1, _⟩ := c
    exact ⟨xs, .inl (.inl h1)⟩
  | ro l =>
    rw [e2] at c
    obtain ⟨xs, h1, _⟩ := c
    exact ⟨xs, h1.sq⟩
theorem m_append {mo me : Mini.ME} {apos : Pos} (ho : PE X a (tE X.K (Mini.evE C mo))) (he : PE X b (tE X.K (Mini.evE C me))) (hst : starEach [b] X.env = (false, eval b X.env) :: starEach [] X.env)
    (hbase : attributeBase a "append" X.env (eval a X.env) = eval a X.env) (hfew : ((backTo pos (starEach [b] X.env)).all (fun x => !x.1) && (backToKw pos (keywordEach [] X.env)).all (fun x => x.1.isSome)
      && decide (([b] : List Expr).length + ([] : List Keyword).length + (if ([] : List Keyword).isEmpty then 0 else 1) < 30)) = true) (hline : (apos.endLine == pos.line) = true) :
    PE X (.Call (.Attribute a "append" apos) [b] [] pos) (tE X.K (Mini.evE C (.meth .append mo [me]))) := by
  refine (pe_bm PySem.F.plainAttrs_list PySem.F.slot_list_append PySem.F.type_list_append mt_append ho (pa_cons he pa_nil hst) hbase hfew hline hst).imp fun σ H Q h => ?_
  obtain ⟨ρ, env, st, rs, re, h⟩ := h
  simp only [Mini.evE, Mini.evEs] at h
  obtain ⟨x, s1, e1, h⟩ := okE_bind h
  refine tE.step rs re e1 fun ρ1 v H1 x1 rs1 re1 rv => ?_
  obtain ⟨vs, s2, e2, h⟩ := okE_bind h
  cases e3 : Mini.evE C me env s1 with
  | exc _ _ => rw [e3] at e2; cases e2
  | bad => rw [e3] at e2; cases e2
  | ok y s =>
    rw [e3] at e2
    cases e2
    cases x with
    | loc n =>
      cases rv with
      | loc h1 =>
        obtain ⟨xs0, hL⟩ := rs1.isL h1
        refine ⟨.inl ⟨rfl, xs0, hL⟩, ?_⟩
        refine tE.step rs1 re1 e3 fun ρ2 w H2 x2 rs2 re2 rw' => ?_
        simp only [Mini.meth] at h
        unfold Mini.appendTo at h
        split at h
        · rename_i l e4
          split at h
          · rename_i hl
            have h2 := x2.get h1
            obtain ⟨xs, h3, h4⟩ := rs2.getM e4 h2
            refine ⟨_, xs, w, rfl, rfl, h3, by rw [← h4.length]; exact len_lt hl, ?_⟩
            exact h ρ2 .non _ ((x1.trans x2).trans (ext_set h3)) (rs2.set e4 h2 h3 (h4.append (.cons rw' .nil))) .non
          · exact h.elim
        · exact h.elim
    | _ => exact h.elim
/-- o[i] = v, by values -/
def okU (K : PySem.W.Frag) (ρ : Rho) (H : Hp) (o : Out Unit) (Q : Hp → Prop) : Prop := match o with
  | .ok _ st => ∀ ρ' H', Ext K ρ H ρ' H' → RS K H' ρ' st → Q H'
  | _ => False
theorem setAt_ok {K : PySem.W.Frag} {ρ : Rho} {H : Hp} {st : Store} {x k v : MV} {o i w : V} {Q : Hp → Prop} (rs : RS K H ρ st) (ro : RV K H ρ x o) (ri : RV K H ρ k i) (rv : RV K H ρ v w) (h : okU K ρ H (Mini.setAt x k v st) Q) : rSetL o i w H Q := by
  unfold Mini.setAt at h
  split at h
  · cases ro with
    | loc h1 =>
      cases ri
      split at h
      · rename_i l e
        split at h
        · rename_i j e2
          obtain ⟨xs, h2, h3⟩ := rs.getM e h1
          refine ⟨_, xs, _, j, rfl, rfl, h2, by rw [← h3.length]; exact e2, ?_⟩
          exact h ρ _ (ext_set h2) (rs.set e h1 h2 (h3.set rv j))
        · exact h.elim
      · exact h.elim
  · exact h.elim
end
end DS
end

section
set_option Elab.async false
set_option linter.all false
set_option maxRecDepth 100000
set_option maxHeartbeats 1000000
/-! DeepSound4: what is walked, list comprehensions, loops, statements. -/
namespace DS
open PySem PySem.Spec PyProof.Rows L2
open Mini (MV Cell Store Out)
/-! ### environments -/
section
variable {K : PySem.W.Frag} {ρ ρ' : Rho} {H H' : Hp} {env : Mini.Env} {σ : L2.St}
theorem RE.set {x : MV} {v : V} (i : Nat) (re : RE K H ρ env σ) (rv : RV K H ρ x v) : RE K H ρ (env.set i (some x)) (σ.set i (some v)) := by
  refine ⟨by rw [List.length_set, List.length_set]; exact re.1, fun j y hj => ?_⟩
  by_cases e : j = i
  · subst e
    by_cases hl : j < env.length
    · rw [List.getElem?_set_self hl] at hj
      cases hj
      exact ⟨v, by rw [List.getElem?_set_self (by rw [← re.1]; exact hl)], rv⟩
    · rw [List.getElem?_eq_none (by rw [List.length_set]; omega)] at hj
      cases hj
  · rw [List.getElem?_set_ne (Ne.symm e)] at hj
    obtain ⟨w, h1, h2⟩ := re.2 j y hj
    exact ⟨w, by rw [List.getElem?_set_ne (Ne.symm e)]; exact h1, h2⟩
/-- the slot of a block's own name, forgotten first -/
theorem RE.setW {x : MV} {v : V} (i : Nat) (re : RE K H ρ env σ) (rv : RV K H ρ x v) : RE K H ρ (env.set i (some x)) ((σ.set i none).set i (some v)) := by
  rw [List.set_set]
  exact re.set i rv
theorem RE.kill1 (i : Nat) (re : RE K H ρ env σ) : RE K H ρ (env.set i none) σ := by
  refine ⟨by rw [List.length_set]; exact re.1, fun j y hj => ?_⟩
  by_cases e : j = i
  · subst e
    by_cases hl : j < env.length
    · rw [List.getElem?_set_self hl] at hj
      cases hj
    · rw [List.getElem?_eq_none (by rw [List.length_set]; omega)] at hj
      cases hj
  · rw [List.getElem?_set_ne (Ne.symm e)] at hj
    exact re.2 j y hj
theorem RE.kill : ∀ (ks : List Nat) {env : Mini.Env}, RE K H ρ env σ → RE K H ρ (Mini.killAll ks env) σ
  | [], _, re => re
  | k :: r, env, re => RE.kill r (env := env.set k none) (re.kill1 k)
/-! ### what is walked -/
inductive IRel (K : PySem.W.Frag) (ρ : Rho) (H : Hp) : Mini.Iter → It → Prop
  | lst {n : Nat} {a : Addr} : ρ[n]? = some a → IRel K ρ H (.lst n) (Itl K a)
  | itm {l : List MV} {xs : List V} {a : Addr} : SqT K H a xs → RVs K H ρ l xs → IRel K ρ H (.itm l) (Itt K a)
  | rng {lo : Int} {n : Nat} : IRel K ρ H (.rng lo 1 n) (Itr lo n)
  | dn {lo : Int} {n : Nat} : IRel K ρ H (.rng lo (-1) n) (Itc lo (-1) n)
  | enm {n : Nat} {a : Addr} : ρ[n]? = some a → IRel K ρ H (.enm n) (Ite K a)
theorem IRel.mono {J : Mini.Iter} {T : It} (e : Ext K ρ H ρ' H') (h : IRel K ρ H J T) : IRel K ρ' H' J T := by
  cases h with
  | lst h => exact .lst (e.get h)
  | itm h r => exact .itm (e.tup _ _ h) (r.mono e)
  | rng => exact .rng
  | dn => exact .dn
  | enm h => exact .enm (e.get h)
theorem sqL_tupU {T a : Addr} {xs : List V} {o : HO} (h : H T = none) (s : SqL K H a xs) : SqL K (upd H T o) a xs := by
  rcases s with (s | ⟨ob, s⟩) | s
  · exact .inl (.inl (by rw [upd_ne (ne_of_none s h)]; exact s))
  · exact .inl (.inr ⟨ob, by rw [upd_ne (ne_of_none s h)]; exact s⟩)
  · exact .inr s
theorem IRel.stop {J : Mini.Iter} {T : It} {st : Store} {i : Nat} (h : IRel K ρ H J T) (rs : RS K H ρ st) (hs : J.stop st i = true) : T.stop i H := by
  cases h with
  | lst h =>
    simp only [Mini.Iter.stop] at hs
    split at hs
    · rename_i l e
      obtain ⟨xs, h1, h2⟩ := rs.getL e h
      exact ⟨xs, h1, by rw [← h2.length]; simpa using hs⟩
    · cases hs
  | itm h r => exact ⟨_, h, by rw [← r.length]; simpa [Mini.Iter.stop] using hs⟩
  | rng => exact (by simpa [Mini.Iter.stop] using hs : _ ≤ i)
  | dn => exact (by simpa [Mini.Iter.stop] using hs : _ ≤ i)
  | enm h =>
    simp only [Mini.Iter.stop] at hs
    split at hs
    · rename_i l e
      obtain ⟨xs, h1, h2⟩ := rs.getL e h
      exact ⟨xs, h1, by rw [← h2.length]; simpa using hs⟩
    · cases hs
theorem IRel.step {J : Mini.Iter} {T : It} {st : Store} {i : Nat} {x : MV} (h : IRel K ρ H J T) (rs : RS K H ρ st) (hs : J.get st i = some x) :
    T.go i H ∧ ∀ v H', T.yld i H v H' → Ext K ρ H ρ H' ∧ RS K H' ρ st ∧ RV K H' ρ x v := by
  cases h with
  | lst h =>
    obtain ⟨l, e1, e2⟩ := Option.bind_eq_some_iff.mp hs
    obtain ⟨xs, h1, h2⟩ := rs.getL e1 h
    obtain ⟨y, h3, h4⟩ := h2.get e2
    refine ⟨⟨xs, y, h1, h3⟩, fun v H' hy => ?_⟩
    obtain ⟨rfl, f⟩ := hy
    have e := f xs h1
    rw [h3] at e
    cases e
    exact ⟨.refl, rs, h4⟩
  | itm h r =>
    obtain ⟨y, h3, h4⟩ := r.get (show _ = some x from hs)
    refine ⟨⟨_, y, h, h3⟩, fun v H' hy => ?_⟩
    obtain ⟨rfl, f⟩ := hy
    have e := f _ h
    rw [h3] at e
    cases e
    exact ⟨.refl, rs, h4⟩
  | rng =>
    simp only [Mini.Iter.get] at hs
    split at hs
    · rename_i hi
      cases hs
      refine ⟨hi, fun v H' hy => ?_⟩
      obtain ⟨rfl, rfl⟩ := hy
      rw [Int.mul_one]
      exact ⟨.refl, rs, .int _⟩
    · cases hs
  | dn =>
    simp only [Mini.Iter.get] at hs
    split at hs
    · rename_i hi
      cases hs
      refine ⟨hi, fun v H' hy => ?_⟩
      obtain ⟨rfl, rfl⟩ := hy
      exact ⟨.refl, rs, .int _⟩
    · cases hs
  | enm h =>
    obtain ⟨y0, e0, e1⟩ := Option.map_eq_some_iff.mp hs
    obtain ⟨l, e2, e3⟩ := Option.bind_eq_some_iff.mp e0
    subst e1
    obtain ⟨xs, h1, h2⟩ := rs.getL e2 h
    obtain ⟨y, h3, h4⟩ := h2.get e3
    refine ⟨⟨xs, y, h1, h3⟩, fun v H' hy => ?_⟩
    obtain ⟨T, z, rfl, hT, rfl, f⟩ := hy
    have e := f xs h1
    rw [h3] at e
    cases e
    exact ⟨ext_upd hT, rs.upd_tup hT, .tup (.inl (.inl upd_same)) (.cons (.int _) (.cons (h4.mono (ext_upd hT)) .nil))⟩
end
section
variable {X : L2.Cx} {tg e a b c : Expr} {es : List Expr} {pos : Pos} {C : Mini.Cx}
/-- what a for walks, and what Mini makes of it -/
structure PID (X : L2.Cx) (tg iter : Expr) (ev : Mini.Env → Store → Out Mini.Iter) : Prop where
  ok : ∃ wi, PI X tg iter wi ∧ ∀ (σ : L2.St) (H : Hp) (R : It → Hp → Prop) (ρ : Rho) (env : Mini.Env) (st : Store) (J : Mini.Iter) (s : Store), RS X.K H ρ st → RE X.K H ρ env σ → ev env st = .ok J s →
    (∀ ρ1 H1 T, Ext X.K ρ H ρ1 H1 → RS X.K H1 ρ1 s → IRel X.K ρ1 H1 J T → R T H1) → wi σ H R
theorem out_bind {α β : Type} {o : Out α} {f : α → Store → Out β} {y : β} {s : Store} (h : o.bind f = .ok y s) : ∃ x s1, o = .ok x s1 ∧ f x s1 = .ok y s := by
  cases o with
  | ok x s1 => exact ⟨x, s1, rfl, h⟩
  | exc _ _ => cases h
  | bad => cases h
/-- a list or a tuple, by the value -/
def iU (K : PySem.W.Frag) (tl : TE) : TI := fun σ H R => tl σ H fun x H1 => ∃ a, x = .ref a ∧ (((∃ xs, SqL K H1 a xs) ∧ R (Itl K a) H1) ∨ ((∃ xs, SqT K H1 a xs) ∧ R (Itt K a) H1))
theorem pi_u {tl : TE} (hl : PE X e tl) : PI X tg e (iU X.K tl) := by
  refine ⟨fun pins s σ H R I h => ?_⟩
  refine thn (hl.run pins s σ H _ I h) fun v s1 ⟨x, H1, I1, r1, q1⟩ => ?_
  obtain ⟨a, ex, q1⟩ := q1
  subst ex
  cases r1
  have fpn : ∀ b, b ∈ [s1.heap.objs.size] → FpOk X pins H1 b := fun b hb => by
    have eb : b = s1.heap.objs.size := by simpa using hb
    rw [eb]
    exact I1.fpOk (Nat.le_refl _) (I1.hok.fresh (Nat.le_refl _))
  rcases q1 with ⟨⟨xs, hq⟩, q⟩ | ⟨⟨xs, hq⟩, q⟩
  · obtain ⟨its, rv, p, hz⟩ := I1.list hq
    exact wpAny_pyIter_list p.isList ⟨s1.heap.objs.size, [s1.heap.objs.size], _, _, H1, rfl, I1.kept (t' := s1.toks) fun b o z => Heap.get?_push_of_some _ z, turn_list a _, ⟨_, Heap.get?_push_size _ rfl, rfl, rfl⟩, fpn, q⟩
  · obtain ⟨its, rv, p, hz⟩ := I1.tuple hq
    exact wpAny_pyIter_tuple (show s1.heap.IsTuple a its.toArray from p) ⟨s1.heap.objs.size, [s1.heap.objs.size], _, _, H1, rfl, I1.kept (t' := s1.toks) fun b o z => Heap.get?_push_of_some _ z, turn_tuple a _, ⟨_, Heap.get?_push_size _ rfl, rfl, rfl⟩, fpn, q⟩
theorem i_seq {m : Mini.ME} (h : PE X e (tE X.K (Mini.evE C m))) : PID X tg e (fun env st => (Mini.evE C m env st).bind fun x s1 => Mini.mkSeq x s1) := by
  refine ⟨_, pi_u h, fun σ H R ρ env st J s rs re ev k => ?_⟩
  obtain ⟨x, s1, e1, e2⟩ := out_bind ev
  refine tE.step rs re e1 fun ρ1 v H1 x1 rs1 re1 rv => ?_
  unfold Mini.mkSeq at e2
  split at e2
  · cases rv with
    | loc h1 =>
      split at e2
      · rename_i l e3
        cases e2
        obtain ⟨xs, h2, h3⟩ := rs1.getL e3 h1
        exact ⟨_, rfl, .inl ⟨⟨xs, h2⟩, k ρ1 H1 _ x1 rs1 (.lst h1)⟩⟩
      · cases e2
  · cases e2
    cases rv with
    | tup h2 h3 => exact ⟨_, rfl, .inr ⟨⟨_, h2⟩, k ρ1 H1 _ x1 rs1 (.itm h2 h3)⟩⟩
  · cases e2
theorem rngOk_of {i : Int} (h : Mini.rngOk i = true) : -(2 ^ 62) ≤ i ∧ i < 2 ^ 62 := by simpa [Mini.rngOk] using h
theorem i_rng1 {m : Mini.ME} {p : Pos} (hg : Gl X "range") (hm : X.mg "range" = none) (h : PE X a (tE X.K (Mini.evE C m))) (hs : starEach [a] X.env = (false, eval a X.env) :: starEach [] X.env) :
    PID X tg (.Call (.Name "range" p) [a] [] pos) (fun env st => (Mini.evE C m env st).bind fun x s1 => Mini.mkR1 x s1) := by
  refine ⟨_, pi_range1 hg hm (pa_cons h pa_nil hs) hs, fun σ H R ρ env st J s rs re ev k => ?_⟩
  obtain ⟨x, s1, e1, e2⟩ := out_bind ev
  refine tE.step rs re e1 fun ρ1 v H1 x1 rs1 re1 rv => ?_
  unfold Mini.mkR1 at e2
  split at e2
  · cases rv
    split at e2
    · rename_i hr
      cases e2
      obtain ⟨a1, a2⟩ := rngOk_of hr
      exact ⟨_, rfl, a1, a2, k ρ1 H1 _ x1 rs1 .rng⟩
    · cases e2
  · cases e2
theorem i_rng2 {ma mb : Mini.ME} {p : Pos} (hg : Gl X "range") (hm : X.mg "range" = none) (ha : PE X a (tE X.K (Mini.evE C ma))) (hb : PE X b (tE X.K (Mini.evE C mb))) (hs1 : starEach [a, b] X.env = (false, eval a X.env) :: starEach [b] X.env)
    (hs2 : starEach [b] X.env = (false, eval b X.env) :: starEach [] X.env) :
    PID X tg (.Call (.Name "range" p) [a, b] [] pos) (fun env st => (Mini.evE C ma env st).bind fun x s0 => (Mini.evE C mb env s0).bind fun y s1 => Mini.mkR2 x y s1) := by
  refine ⟨_, pi_range2 hg hm (pa_cons ha (pa_cons hb pa_nil hs2) hs1) (by rw [hs1, hs2]; rfl) hs2, fun σ H R ρ env st J s rs re ev k => ?_⟩
  obtain ⟨x, s1, e1, ev⟩ := out_bind ev
  obtain ⟨y, s2, e2, e3⟩ := out_bind ev
  refine tE.step rs re e1 fun ρ1 v H1 x1 rs1 re1 rv => ?_
  refine tE.step rs1 re1 e2 fun ρ2 w H2 x2 rs2 re2 rw' => ?_
  unfold Mini.mkR2 at e3
  split at e3
  · cases rv; cases rw'
    split at e3
    · rename_i hr
      cases e3
      have hr' := hr
      rw [Bool.and_eq_true] at hr'
      obtain ⟨a1, a2⟩ := rngOk_of hr'.1
      obtain ⟨a3, a4⟩ := rngOk_of hr'.2
      exact ⟨_, _, rfl, ⟨a1, a2, a3, a4⟩, k ρ2 H2 _ (x1.trans x2) rs2 .rng⟩
    · cases e3
  · cases e3
theorem i_down {ma mb : Mini.ME} {p p1 p2 : Pos} {kk : Nat} (hg : Gl X "range") (hm : X.mg "range" = none) (ha : PE X a (tE X.K (Mini.evE C ma))) (hb : PE X b (tE X.K (Mini.evE C mb)))
    (hs1 : ∀ es, starEach (a :: es) X.env = (false, eval a X.env) :: starEach es X.env) (hs2 : ∀ es, starEach (b :: es) X.env = (false, eval b X.env) :: starEach es X.env) :
    PID X tg (.Call (.Name "range" p) [a, b, .UnaryOp .USub (.Constant (.int 1) kk p1) p2] [] pos) (fun env st => (Mini.evE C ma env st).bind fun x s0 => (Mini.evE C mb env s0).bind fun y s1 => Mini.mkDn x y s1) := by
  refine ⟨_, pi_range3 hg hm (pa_cons ha (pa_cons hb (pa_cons (pe_un un_neg pe_int) pa_nil) (hs2 _)) (hs1 _)) (hs1 _) (by rw [hs2]; rfl), fun σ H R ρ env st J s rs re ev k => ?_⟩
  obtain ⟨x, s1, e1, ev⟩ := out_bind ev
  obtain ⟨y, s2, e2, e3⟩ := out_bind ev
  refine tE.step rs re e1 fun ρ1 v H1 x1 rs1 re1 rv => ?_
  refine tE.step rs1 re1 e2 fun ρ2 w H2 x2 rs2 re2 rw' => ?_
  unfold Mini.mkDn at e3
  split at e3
  · cases rv; cases rw'
    split at e3
    · rename_i hr
      cases e3
      have hr' := hr
      rw [Bool.and_eq_true] at hr'
      obtain ⟨a1, a2⟩ := rngOk_of hr'.1
      obtain ⟨a3, a4⟩ := rngOk_of hr'.2
      exact ⟨1, rfl, _, _, -1, _, rfl, RgC.neg a1 a2 a3 a4, k ρ2 H2 _ (x1.trans x2) rs2 .dn⟩
    · cases e3
  · cases e3
theorem i_enm {m : Mini.ME} {p tpos : Pos} {elts : List Expr} {kk : Nat} (hg : Gl X "enumerate") (hm : X.mg "enumerate" = none) (h : PE X a (tE X.K (Mini.evE C m))) (hs : starEach [a] X.env = (false, eval a X.env) :: starEach [] X.env) :
    PID X (.Tuple elts kk tpos) (.Call (.Name "enumerate" p) [a] [] pos) (fun env st => (Mini.evE C m env st).bind fun x s1 => Mini.mkEn x s1) := by
  refine ⟨_, pi_enum hg hm (pa_cons h pa_nil hs) hs, fun σ H R ρ env st J s rs re ev k => ?_⟩
  obtain ⟨x, s1, e1, e2⟩ := out_bind ev
  refine tE.step rs re e1 fun ρ1 v H1 x1 rs1 re1 rv => ?_
  unfold Mini.mkEn at e2
  split at e2
  · cases rv with
    | loc h1 =>
      split at e2
      · rename_i l e3
        cases e2
        obtain ⟨xs, h2, h3⟩ := rs1.getL e3 h1
        exact ⟨_, xs, rfl, h2, k ρ1 H1 _ x1 rs1 (.enm h1)⟩
      · cases e2
  · cases e2
/-! ### targets -/
structure PGD (X : L2.Cx) (tg : Expr) (g : Mini.MG) : Prop where
  ok : ∃ t, PG X tg t ∧ ∀ (v : V) (σ : L2.St) (H : Hp) (Q : L2.St → Hp → Prop) (ρ : Rho) (env env2 : Mini.Env) (x : MV), RE X.K H ρ env σ → RV X.K H ρ x v → Mini.setG g x env = some env2 → (∀ σ2, RE X.K H ρ env2 σ2 → Q σ2 H) → t v σ H Q
theorem g_name {i : Nat} {x : Str} (hN : X.N.Nodup) (hi : X.N[i]? = some x) (hx : Loc X.env.scope x) (hf : X.fn x = true ∨ X.env.scope.names.lookup x = some .local) : PGD X (.Name x pos) (.nm i) :=
  ⟨gName i, pg_name hN hi hx hf, fun v σ H Q ρ env env2 y re rv e k => by
    cases e
    exact k _ (re.set i rv)⟩
/-- several names, from the left -/
theorem g_names (hN : X.N.Nodup) : ∀ (is : List Nat) (ts : List Expr), (∀ (j : Nat) (i : Nat), is[j]? = some i → ∃ x p, ts[j]? = some (.Name x p) ∧ X.N[i]? = some x ∧ Loc X.env.scope x ∧ (X.fn x = true ∨ X.env.scope.names.lookup x = some .local)) → is.length = ts.length →
    ∃ t, PGs X ts t ∧ (assignEach ts X.env).length = is.length ∧ (assignEach ts X.env).findIdx? (·.1) = none ∧ ∀ (vs : List V) (σ : L2.St) (H : Hp) (Q : L2.St → Hp → Prop) (ρ : Rho) (env : Mini.Env) (l : List MV), RE X.K H ρ env σ → RVs X.K H ρ l vs → is.length = l.length →
      (∀ σ2, RE X.K H ρ ((is.zip l).foldl (fun e p => e.set p.1 (some p.2)) env) σ2 → Q σ2 H) → t vs σ H Q
  | [], [], _, _ => ⟨gNil, pgs_nil, rfl, rfl, fun vs σ H Q ρ env l re rv hl k => by
      cases l with
      | nil =>
        cases rv
        exact ⟨rfl, k σ re⟩
      | cons _ _ => cases hl⟩
  | [], _ :: _, _, h => by cases h
  | _ :: _, [], _, h => by cases h
  | i :: is, tt :: ts, h, hl => by
    obtain ⟨x, p, e1, e2, e3, e4⟩ := h 0 i rfl
    cases (show some tt = some (.Name x p) from e1)
    obtain ⟨t, h1, h2, h3, h4⟩ := g_names hN is ts (fun j k hj => h (j + 1) k hj) (by simpa using hl)
    refine ⟨gCons (gName i) t, pgs_cons (pg_name hN e2 e3 e4) h1 rfl, by show (assignEach ts X.env).length + 1 = _; rw [h2]; rfl, ?_, fun vs σ H Q ρ env l re rv hl k => ?_⟩
    · show ((false, assign (.Name x p) X.env) :: assignEach ts X.env).findIdx? (·.1) = none
      rw [List.findIdx?_cons, h3]
      rfl
    · cases rv with
      | nil => cases hl
      | cons r1 r2 => exact ⟨_, _, rfl, h4 _ _ H Q ρ _ _ (re.set i r1) r2 (by simpa using hl) k⟩
theorem g_tup {is : List Nat} {ts : List Expr} {kk : Nat} (hc : X.calm = true) (hN : X.N.Nodup) (h : ∀ (j : Nat) (i : Nat), is[j]? = some i → ∃ x p, ts[j]? = some (.Name x p) ∧ X.N[i]? = some x ∧ Loc X.env.scope x ∧ (X.fn x = true ∨ X.env.scope.names.lookup x = some .local)) (hl : is.length = ts.length) :
    PGD X (.Tuple ts kk pos) (.tp is) := by
  obtain ⟨t, h1, h2, h3, h4⟩ := g_names hN is ts h hl
  refine ⟨_, pg_tup hc h1 h2 h3, fun v σ H Q ρ env env2 x re rv e k => ?_⟩
  cases x with
  | tup l =>
    simp only [Mini.setG] at e
    split at e
    · rename_i hl2
      cases e
      cases rv with
      | tup s r => exact ⟨_, _, rfl, s, by rw [← r.length, ← hl2], h4 _ σ H Q ρ env l re r hl2 k⟩
    · cases e
  | _ => cases e
/-! ### list comprehensions -/
structure PTD (X : L2.Cx) (ifs : List Expr) (C : Mini.Cx) (cs : List Mini.ME) : Prop where
  ok : PTs X ifs (tT X.K (Mini.tsts C cs))
theorem t_nil : PTD X [] C [] := ⟨by
  refine ⟨fun pins s σ H Q I h => pts_nil.run pins s σ H Q I ?_⟩
  obtain ⟨ρ, env, st, rs, re, h⟩ := h
  simp only [Mini.tsts] at h
  exact h ρ H .refl rs⟩
theorem t_one {m : Mini.ME} (hc : PT X c (tT X.K (Mini.tst C m))) : PTD X [c] C [m] := ⟨by
  refine ⟨fun pins s σ H Q I h => (pts_one hc).run pins s σ H Q I ?_⟩
  obtain ⟨ρ, env, st, rs, re, h⟩ := h
  simp only [Mini.tsts] at h
  exact ⟨ρ, env, st, rs, re, h⟩⟩
/-- the turns of a comprehension whose target is the name in slot i -/
theorem lc_deep {K : PySem.W.Frag} {i : Nat} {cs : List Mini.ME} {m : Mini.ME} {wi : TI} {ev : Mini.Env → Store → Out Mini.Iter} (hw : ∀ (σ : L2.St) (H : Hp) (R : It → Hp → Prop) (ρ : Rho) (env : Mini.Env) (st : Store) (J : Mini.Iter) (s : Store), RS K H ρ st → RE K H ρ env σ → ev env st = .ok J s →
      (∀ ρ1 H1 T, Ext K ρ H ρ1 H1 → RS K H1 ρ1 s → IRel K ρ1 H1 J T → R T H1) → wi σ H R) {σ : L2.St} {H : Hp} {Q : VK}
    (h : tE K (fun env st => (ev env st).bind fun J s2 => Mini.lcRun J (fun v s => match Mini.setG (.nm i) v env with
      | none => .bad
      | some env2 => (Mini.tsts C cs env2 s).bind fun b s3 => if b then (Mini.evE C m env2 s3).bind fun y s4 => .ok (some y) s4 else .ok none s3) s2) σ H Q) :
    tLc wi (gName i) (tT K (Mini.tsts C cs)) (tE K (Mini.evE C m)) [i] σ H Q := by
  obtain ⟨ρ, env, st, rs, re, h⟩ := h
  obtain ⟨J, s2, e1, h⟩ := okE_bind h
  refine hw σ H _ ρ env st J s2 rs re e1 fun ρ1 H1 T x1 rs1 ir D hD => ?_
  unfold Mini.lcRun at h
  have hDn : (ρ1 ++ [D])[s2.length]? = some D := by rw [← rs1.len]; simp
  refine ⟨fun i' n H' => ∃ ρ' st', Ext K ρ H ρ' H' ∧ RS K H' ρ' st' ∧ ρ'[s2.length]? = some D ∧ IRel K ρ' H' J T ∧ OkE K ρ' H' (Mini.lcLoop J s2.length _ n i' st') Q,
    ⟨_, ρ1 ++ [D], _, x1.trans (ext_new hD), rs1.new hD .nil, hDn, ir.mono (ext_new hD), h.mono (x1.trans (ext_new hD))⟩, ?_⟩
  rintro i' n H' ⟨ρ', st', x2, rs2, hd, ir2, h⟩
  cases n with
  | zero =>
    simp only [Mini.lcLoop] at h
    split at h
    · rename_i hs
      exact .inl ⟨ir2.stop rs2 hs, h ρ' _ H' .refl rs2 (.loc hd)⟩
    · exact h.elim
  | succ n =>
    simp only [Mini.lcLoop] at h
    cases eg : J.get st' i' with
    | none => rw [eg] at h; exact h.elim
    | some x =>
      rw [eg] at h
      obtain ⟨hgo, hy⟩ := ir2.step rs2 eg
      refine .inr ⟨hgo, fun H3 => ∃ ρ' st', Ext K ρ H ρ' H3 ∧ RS K H3 ρ' st' ∧ ρ'[s2.length]? = some D ∧ IRel K ρ' H3 J T ∧ OkE K ρ' H3 (Mini.lcLoop J s2.length _ n (i' + 1) st') Q, fun H3 hN => ⟨n, Nat.lt_succ_self n, hN⟩, fun v H3 hyv => ?_⟩
      obtain ⟨x3, rs3, rv⟩ := hy v H3 hyv
      have re3 : RE K H3 ρ' (env.set i (some x)) ((wipe σ [i]).set i (some v)) := (re.mono (x2.trans x3)).setW i rv
      refine ⟨?_, ?_⟩
      · show ((σ.set i none).set i (some v)).set i none = σ.set i none
        rw [List.set_set, List.set_set]
      · obtain ⟨r, s4, e4, h⟩ := okE_bind h
        simp only [Mini.setG] at e4
        obtain ⟨bb, s5, e5, e6⟩ := out_bind e4
        refine tT.step rs3 re3 e5 fun ρ5 H5 x5 rs5 re5 => ?_
        cases bb with
        | false =>
          rw [if_neg (by decide)]
          simp only [Bool.false_eq_true, if_false] at e6
          cases e6
          refine ⟨ρ5, _, (x2.trans x3).trans x5, rs5, x5.get hd, ir2.mono (x3.trans x5), ?_⟩
          exact OkE.mono (x3.trans x5) h
        | true =>
          rw [if_pos rfl]
          simp only [if_true] at e6
          obtain ⟨y, s6, e7, e8⟩ := out_bind e6
          cases e8
          refine tE.step rs5 re5 e7 fun ρ6 w H6 x6 rs6 re6 rw' => ?_
          obtain ⟨uu, s7, e9, h⟩ := okE_bind h
          unfold Mini.appendTo at e9
          split at e9
          · rename_i l el
            split at e9
            · rename_i hl
              cases e9
              have hd6 := x6.get (x5.get hd)
              obtain ⟨acc, a1, a2⟩ := rs6.getM el hd6
              refine ⟨acc, a1, by rw [← a2.length]; exact len_lt hl, ρ6, _, ((x2.trans x3).trans (x5.trans x6)).trans (ext_set a1), rs6.set el hd6 a1 (a2.append (.cons rw' .nil)), hd6, ir2.mono ((x3.trans (x5.trans x6)).trans (ext_set a1)), ?_⟩
              exact OkE.mono ((x3.trans (x5.trans x6)).trans (ext_set a1)) h
            · cases e9
          · cases e9
end
end DS
end

section
set_option Elab.async false
set_option linter.all false
set_option maxRecDepth 100000
set_option maxHeartbeats 1000000
/-! DeepSound5: a def's promise where the guards around are known (FnG), calls, statements. -/
namespace DS
open PySem PySem.Spec PyProof.Rows L2
open Mini (MV Cell Store Out)
/-! ### defs, called where no guard runs -/
structure FnG (P : Program) (w : PySem.World) (K : PySem.W.Frag) (mg : Str → Option Value) (base : Heap) (k : Nat) (f : Addr) (fd : FuncData) (ps : List Str) (sp : Sp) : Prop where
  len : ∀ vs H Q E, sp vs H Q E → vs.length = ps.length
  run : ∀ (A : Around) (outer : List Env) (s : Shared) (H : Hp) (args : Args) (us : List Value) (vs : List V) (Q : VK) (E : XK), Room k A → A.guards = some [] → Env0 P w K mg base A outer s H →
    BindsTo s fd args (ps.zip us) → Vals vs us → sp vs H Q E → codeAny (model P w) A (.call (.ref f) args) (CR CX0 outer P w H s Q E) s
section
variable {P : Program} {w : PySem.World} {K : PySem.W.Frag} {mg : Str → Option Value} {base : Heap}
/-- a def as it stands in K, whatever its defaults -/
structure FunX (K : PySem.W.Frag) (x qual : Str) (st : Stmt) (f : Addr) (fd : FuncData) : Prop where
  ex : ∃ (oc : Value) (od : Option Addr) (dV kV doc pm : Value) (an : Option Addr) (cdv ct : Value) (osl : Array (Option Value)),
    fd = PySem.W.fnOf x qual (defArgs st) (defBody st) (defScope st) dV kV doc pm an cdv ct ∧ K.lookup f = some ⟨oc, od, .func fd, osl⟩ ∧ PySem.W.codeIn K cdv qual = true
  kp : PySem.W.keepIn K (.ref f) = true
theorem FunX.of {x qual : Str} {st : Stmt} {f : Addr} {fd : FuncData} (F : Fun K x qual st f fd) : FunX K x qual st f fd := by
  obtain ⟨oc, od, kV, doc, pm, an, cdv, ct, osl, h1, h2, h3⟩ := F.ex
  exact ⟨⟨oc, od, .none, kV, doc, pm, an, cdv, ct, osl, h1, h2, h3⟩, F.kp⟩
theorem FunX.ofD {x qual : Str} {st : Stmt} {dvs : List V} {kws : List (Str × V)} {f : Addr} {fd : FuncData} (F : FunD K x qual (defArgs st) (defBody st) (defScope st) dvs kws f fd) : FunX K x qual st f fd := by
  obtain ⟨oc, od, dV, kV, doc, pm, an, cdv, ct, osl, h1, h2, h3, _, _⟩ := F.ex
  exact ⟨⟨oc, od, dV, kV, doc, pm, an, cdv, ct, osl, h1, h2, h3⟩, F.kp⟩
/-- by the body, which is told that no guard runs -/
theorem fnG_of {x qual : Str} {st : Stmt} {f : Addr} {fd : FuncData} {N ps : List Str} {k : Nat} {sp : Sp} (F : FunX K x qual st f fd) (S : FnScope N ps (defScope st)) (len : ∀ vs H Q E, sp vs H Q E → vs.length = ps.length)
    (hbody : ∀ (cdv : Value) (A : Around) (outer : List Env) (s : Shared) (H : Hp) (vs : List V) (Q : VK) (E : XK), Room k (A.deeper (envOfC qual (defScope st) s.heap.objs.size f cdv)) → A.guards = some [] → sp vs H Q E →
      ∃ t, PSs (cxOf CX0 P w K mg base N qual (defScope st) f cdv A outer s H E).nox (defBody st) t ∧ t { nx := fun _ H' => Q .non H', rt := Q } (start N vs) H) : FnG P w K mg base (k + 1) f fd ps sp := by
  obtain ⟨oc, od, dV, kV, doc, pm, an, cdv, ct, osl, rfl, lk, hcd⟩ := F.ex
  refine ⟨len, fun A outer s H args us vs Q E hr hgd e0 hb r hsp => ?_⟩
  generalize hsc : defScope st = scope at *
  have hl := len _ _ _ _ hsp
  have KX : K.In s.heap := e0.mod.kin.keeps fun b o e => (e0.bs b o e).1
  have lim : s.heap.NoLimit := e0.mod.nolimit.keeps fun b o e => (e0.bs b o e).1
  have hkind : ∀ y ∈ ps.zip us, scope.names.lookup y.1 = some .local ∨ (scope.names.lookup y.1 = some .cell ∧ ((cellsFrom (s.heap.objs.size + 1) scope.names []).lookup y.1).isSome = true) := fun ⟨n, v⟩ hy => by
    rcases S.par n (List.of_mem_zip hy).1 with q | q
    · exact .inl q
    · exact .inr ⟨q, PySem.W.cellsFrom_some _ _ _ (.inl q)⟩
  have room := hr.deeper (envOfC qual scope s.heap.objs.size f cdv)
  refine codeAny_call_function hr.depth (KX _ _ lk) rfl S.co S.gen rfl (PySem.W.codeRec_of KX hcd) (hb _ _ _ _ (wpAny_newFunctionEnv_cells S.kind hkind fun env he s1 x => ?_))
  subst he
  refine ⟨lim.keeps x.toInCall.keep, codeAny_func ?_⟩
  obtain ⟨t, ht, hq⟩ := hbody cdv A outer s H vs Q E room hgd hsp
  have I : L2.Inv (cxOf CX0 P w K mg base N qual scope f cdv A outer s H E) [] (start N vs) H s1 := inv_start S hr.hd e0 hl r x
  refine wpAny_mono (ht.nox.run [] s1 (start N vs) H _ I hq) (fun fl s' hs => ?_) fun e s' hs => hs
  cases fl with
  | ret u =>
    obtain ⟨v, σ', H', J, rv, q⟩ := hs
    exact ⟨v, H', J.os, J.bare, J.base, J.hok, rv, q⟩
  | next =>
    obtain ⟨σ', H', J, q⟩ := hs
    exact ⟨.non, H', J.os, J.bare, J.base, J.hok, rfl, q⟩
  | brk =>
    obtain ⟨_, _, _, q⟩ := hs
    exact False.elim q
  | cont =>
    obtain ⟨_, _, _, q⟩ := hs
    exact False.elim q
theorem FnG.mono {j k : Nat} {f : Addr} {fd : FuncData} {ps : List Str} {sp : Sp} (F : FnG P w K mg base j f fd ps sp) (h : j ≤ k) : FnG P w K mg base k f fd ps sp :=
  ⟨F.len, fun A outer s H args us vs Q E hr => F.run A outer s H args us vs Q E (hr.mono h)⟩
end
section
variable {X : L2.Cx} {k : Nat} {f : Addr} {fd : FuncData} {ps : List Str} {sp : Sp} {dvs : List V} {ds : List Value} {E : XK} {x : Str} {p pos : Pos} {e : Expr} {es : List Expr} {t : TA}
theorem runG {pins : List (Addr × Obj)} {σ : L2.St} {H : Hp} {s : Shared} {Q : VK} {us : List Value} {vs : List V} (F : FnG X.prog X.w X.K X.mg X.base k f fd ps sp) (hr : Room k X.A) (hgd : X.A.guards = some []) (hb : Binds X.K fd ps ds) (hd : Vals dvs ds)
    (I : L2.Inv X pins σ H s) (r : Vals vs us) (h : sp (vs ++ dvs) H Q E) : wpAny (model X.prog X.w) X.A (call (.ref f) us) (EP X pins σ Q) X.xe s := by
  have r2 : Vals (vs ++ dvs) (us ++ ds) := r.append hd
  have hl : (us ++ ds).length = ps.length := r2.length.symm.trans (F.len _ _ _ _ h)
  have run := F.run X.A X.stack s H ⟨us, []⟩ (us ++ ds) (vs ++ dvs) Q E hr hgd I.env0 (hb s us I.kIn hl) r2 h
  refine wpAny_call (codeAny_mono run fun r s' hq => ?_)
  match r, hq with
  | .error e, hq => exact hq.elim
  | .ok (.ret u), hq => exact I.after hq
theorem pe_callG (F : FnG X.prog X.w X.K X.mg X.base k f fd ps sp) (hr : Room k X.A) (hgd : X.A.guards = some []) (hg : Gl X x) (hm : X.mg x = some (.ref f)) (hk : PySem.W.keepIn X.K (.ref f) = true) (hb : Binds X.K fd ps ds) (hd : Vals dvs ds)
    (ha : PA X (e :: es) t) (hdb : (x == ("__debug__" : Str)) = false) (he : starEach (e :: es) X.env = (false, eval e X.env) :: starEach es X.env) (hpl : (backTo pos (starEach es X.env)).any (·.1) = false) :
    PE X (.Call (.Name x p) (e :: es) [] pos) (tCall sp dvs E t) := by
  refine ⟨fun pins s σ H Q I h => ?_⟩
  have go := fun us s1 (z : AP X pins σ (fun vs H1 => sp (vs ++ dvs) H1 Q E) us s1) => z
  refine wpAny_Call_Name_kw (ld_glob I hg hm (PySem.W.callWith_K (h₀ := X.base) I.ok.mod.kin hk (thn (ha.run pos pins s σ H _ I h) fun us s1 z => ?_) he hpl) hdb)
  obtain ⟨vs, H1, I1, r, q⟩ := go us s1 z
  exact ⟨I1.kIn, runG F hr hgd hb hd I1 r q⟩
theorem pe_callG0 (F : FnG X.prog X.w X.K X.mg X.base k f fd ps sp) (hr : Room k X.A) (hgd : X.A.guards = some []) (hg : Gl X x) (hm : X.mg x = some (.ref f)) (hk : PySem.W.keepIn X.K (.ref f) = true) (hb : Binds X.K fd ps ds) (hd : Vals dvs ds)
    (hdb : (x == ("__debug__" : Str)) = false) : PE X (.Call (.Name x p) [] [] pos) (tCall sp dvs E tNil) :=
  ⟨fun pins s σ H Q I h => wpAny_Call_Name_kw (ld_glob I hg hm (PySem.W.callWith_K0 I.kIn hk (runG (us := []) F hr hgd hb hd I .nil h)) hdb)⟩
end
/-! ### what a def of Mini promises -/
def spD (K : PySem.W.Frag) (W : Mini.World) (k f : Nat) : Sp := fun vs H Q _ => ∃ ρ st ds, RS K H ρ st ∧ RVs K H ρ ds vs ∧ OkE K ρ H (Mini.callK W k f ds st) Q
/-! ### statements -/
def OkS (K : PySem.W.Frag) (ρ : Rho) (H : Hp) (o : Out Mini.Ctl) (D : Ends) : Prop := match o with
  | .ok (.next e) st => ∀ ρ' σ' H', Ext K ρ H ρ' H' → RS K H' ρ' st → RE K H' ρ' e σ' → D.nx σ' H'
  | .ok (.brk e) st => ∀ ρ' σ' H', Ext K ρ H ρ' H' → RS K H' ρ' st → RE K H' ρ' e σ' → D.bk σ' H'
  | .ok (.cont e) st => ∀ ρ' σ' H', Ext K ρ H ρ' H' → RS K H' ρ' st → RE K H' ρ' e σ' → D.ct σ' H'
  | .ok (.ret v) st => ∀ ρ' w H', Ext K ρ H ρ' H' → RS K H' ρ' st → RV K H' ρ' v w → D.rt w H'
  | _ => False
section
variable {K : PySem.W.Frag} {ρ ρ' : Rho} {H H' : Hp}
theorem OkS.mono {o : Out Mini.Ctl} {D : Ends} (e : Ext K ρ H ρ' H') (h : OkS K ρ H o D) : OkS K ρ' H' o D := by
  cases o with
  | ok c st =>
    cases c with
    | next _ => exact fun ρ1 σ1 H1 x r1 r2 => h ρ1 σ1 H1 (e.trans x) r1 r2
    | brk _ => exact fun ρ1 σ1 H1 x r1 r2 => h ρ1 σ1 H1 (e.trans x) r1 r2
    | cont _ => exact fun ρ1 σ1 H1 x r1 r2 => h ρ1 σ1 H1 (e.trans x) r1 r2
    | ret _ => exact fun ρ1 σ1 H1 x r1 r2 => h ρ1 σ1 H1 (e.trans x) r1 r2
  | exc _ _ => exact h
  | bad => exact h
theorem okS_bind {α : Type} {o : Out α} {f : α → Store → Out Mini.Ctl} {D : Ends} (h : OkS K ρ H (o.bind f) D) : ∃ x s, o = .ok x s ∧ OkS K ρ H (f x s) D := by
  cases o with
  | ok x s => exact ⟨x, s, rfl, h⟩
  | exc _ _ => exact h.elim
  | bad => exact h.elim
def tS (K : PySem.W.Frag) (ev : Mini.Env → Store → Out Mini.Ctl) : TS := fun D σ H => ∃ ρ env st, RS K H ρ st ∧ RE K H ρ env σ ∧ OkS K ρ H (ev env st) D
end
section
variable {X : L2.Cx} {st : Stmt} {ss : List Stmt} {tg e a b c : Expr} {es : List Expr} {pos : Pos} {C : Mini.Cx}
theorem _root_.L2.PS.imp {t t' : TS} (h : PS X st t) (i : ∀ D σ H, t' D σ H → t D σ H) : PS X st t' := ⟨fun pins s σ H D I w => h.run pins s σ H D I (i D σ H w)⟩
theorem _root_.L2.PSs.imp {t t' : TS} (h : PSs X ss t) (i : ∀ D σ H, t' D σ H → t D σ H) : PSs X ss t' := ⟨fun pins s σ H D I w => h.run pins s σ H D I (i D σ H w)⟩
theorem s_asg {g : Mini.MG} {m : Mini.ME} (he : PE X e (tE X.K (Mini.evE C m))) (hg : PGD X tg g) (hs : swapsWithSole [tg] e pos.line X.env = pure false) (hw : swappedStores [tg] e X.env = pure none) (h1 : (assignEach [tg] X.env).map (·.2) = [assign tg X.env]) :
    PS X (.Assign [tg] e pos) (tS X.K (Mini.evS C (.asg g m))) := by
  obtain ⟨t, pg, kg⟩ := hg.ok
  refine (ps_asg he pg hs hw h1).imp fun D σ H h => ?_
  obtain ⟨ρ, env, st, rs, re, h⟩ := h
  simp only [Mini.evS] at h
  obtain ⟨x, s1, e1, h⟩ := okS_bind h
  refine tE.step rs re e1 fun ρ1 v H1 x1 rs1 re1 rv => ?_
  split at h
  · rename_i env2 e2
    exact kg v σ H1 D.nx ρ1 env env2 x re1 rv e2 fun σ2 re2 => h ρ1 σ2 H1 x1 rs1 re2
  · exact h.elim
/-- name = [..]: ev is the comprehension's outcome -/
theorem s_asgLc {i : Nat} {m : Mini.ME} {t : TE} (hp : PS X st (tAsg t (gName i))) (ht : ∀ σ H Q, tE X.K (Mini.evE C m) σ H Q → t σ H Q) : PS X st (tS X.K (Mini.evS C (.asg (.nm i) m))) := hp.imp fun D σ H h => by
  obtain ⟨ρ, env, st, rs, re, h⟩ := h
  simp only [Mini.evS] at h
  obtain ⟨x, s1, e1, h⟩ := okS_bind h
  refine ht σ H _ (tE.step rs re e1 fun ρ1 v H1 x1 rs1 re1 rv => ?_)
  simp only [Mini.setG] at h
  exact h ρ1 _ H1 x1 rs1 (re1.set i rv)
theorem s_setIx {mo mi me : Mini.ME} (ho : PE X a (tE X.K (Mini.evE C mo))) (hi : PE X b (tE X.K (Mini.evE C mi))) (he : PE X e (tE X.K (Mini.evE C me))) {p2 : Pos}
    (hs : swapsWithSole [.Subscript a b p2] e pos.line X.env = pure false) (hw : swappedStores [.Subscript a b p2] e X.env = pure none)
    (ha : ∀ v, assign (.Subscript a b p2) X.env v = (do
      let ov ← holding [v] (eval a X.env)
      let iv ← holding [v, ov] (eval b X.env)
      standAt p2
      holding [v, ov, iv] (setItem ov iv v)
      release [v, ov, iv] [])) :
    PS X (.Assign [.Subscript a b p2] e pos) (tS X.K (Mini.evS C (.setIx mo mi me))) := by
  refine (ps_asg he (pg_sub ho hi set_list ha) hs hw rfl).imp fun D σ H h => ?_
  obtain ⟨ρ, env, st, rs, re, h⟩ := h
  simp only [Mini.evS] at h
  obtain ⟨v, s1, e1, h⟩ := okS_bind h
  refine tE.step rs re e1 fun ρ1 wv H1 x1 rs1 re1 rv => ?_
  obtain ⟨x, s2, e2, h⟩ := okS_bind h
  refine tE.step rs1 re1 e2 fun ρ2 wx H2 x2 rs2 re2 rx => ?_
  obtain ⟨k, s3, e3, h⟩ := okS_bind h
  refine tE.step rs2 re2 e3 fun ρ3 wk H3 x3 rs3 re3 rk => ?_
  obtain ⟨uu, s4, e4, h⟩ := okS_bind h
  refine setAt_ok rs3 (rx.mono x3) rk (rv.mono (x2.trans x3)) ?_
  rw [e4]
  exact fun ρ4 H4 x4 rs4 => h ρ4 σ H4 ((x1.trans x2).trans (x3.trans x4)) rs4 (re3.mono x4)
theorem s_aug {op : Operator} {o : Mini.Op2} {i : Nat} {x : Str} {m : Mini.ME} {p2 : Pos} {g : Int → Int → Int} (hN : X.N.Nodup) (hi : X.N[i]? = some x) (hx : Loc X.env.scope x) (hf : X.fn x = true ∨ X.env.scope.names.lookup x = some .local)
    (ho : PIp X op (ipI g)) (ha : ∀ (x y : MV) (st : Store), (∃ i j, x = .int i ∧ y = .int j ∧ Mini.augI o x y st = .ok (.int (g i j)) st) ∨ Mini.augI o x y st = .bad) (he : PE X e (tE X.K (Mini.evE C m))) : PS X (.AugAssign (.Name x p2) op e pos) (tS X.K (Mini.evS C (.aug o i m))) := by
  refine (ps_aug hN hi hx he ho hf).imp fun D σ H h => ?_
  obtain ⟨ρ, env, st, rs, re, h⟩ := h
  simp only [Mini.evS] at h
  split at h
  · rename_i y ey
    obtain ⟨w, h1, h2⟩ := re.2 i y ey
    obtain ⟨z, s1, e1, h⟩ := okS_bind h
    refine ⟨w, h1, tE.step rs re e1 fun ρ1 v H1 x1 rs1 re1 rv => ?_⟩
    obtain ⟨q, s2, e2, h⟩ := okS_bind h
    rcases ha y z s1 with ⟨i1, j1, rfl, rfl, e3⟩ | e3
    · rw [e3] at e2
      cases e2
      cases h2
      cases rv
      exact ⟨_, _, rfl, rfl, h ρ1 _ H1 x1 rs1 (re1.set i (.int _))⟩
    · rw [e3] at e2
      cases e2
  · exact h.elim
theorem aug_add (x y : MV) (st : Store) : (∃ i j, x = .int i ∧ y = .int j ∧ Mini.augI .add x y st = .ok (.int (i + j)) st) ∨ Mini.augI .add x y st = .bad := by
  cases x <;> first | exact .inr rfl | skip
  cases y <;> first | exact .inr rfl | exact .inl ⟨_, _, rfl, rfl, rfl⟩
theorem aug_sub (x y : MV) (st : Store) : (∃ i j, x = .int i ∧ y = .int j ∧ Mini.augI .sub x y st = .ok (.int (i - j)) st) ∨ Mini.augI .sub x y st = .bad := by
  cases x <;> first | exact .inr rfl | skip
  cases y <;> first | exact .inr rfl | exact .inl ⟨_, _, rfl, rfl, rfl⟩
theorem s_expr {m : Mini.ME} (he : PE X e (tE X.K (Mini.evE C m))) (hs : swapsWith e none pos.line X.env = pure false) : PS X (.Expr e pos) (tS X.K (Mini.evS C (.expr m))) := (ps_expr he hs).imp fun D σ H h => by
  obtain ⟨ρ, env, st, rs, re, h⟩ := h
  simp only [Mini.evS] at h
  obtain ⟨x, s1, e1, h⟩ := okS_bind h
  exact tE.step rs re e1 fun ρ1 v H1 x1 rs1 re1 rv => h ρ1 σ H1 x1 rs1 re1
theorem s_ret {m : Mini.ME} (he : PE X e (tE X.K (Mini.evE C m))) : PS X (.Return (some e) pos) (tS X.K (Mini.evS C (.ret m))) := (ps_ret he).imp fun D σ H h => by
  obtain ⟨ρ, env, st, rs, re, h⟩ := h
  simp only [Mini.evS] at h
  obtain ⟨x, s1, e1, h⟩ := okS_bind h
  exact tE.step rs re e1 fun ρ1 v H1 x1 rs1 re1 rv => h ρ1 v H1 x1 rs1 rv
theorem s_retN : PS X (.Return none pos) (tS X.K (Mini.evS C .retN)) := ps_retN.imp fun D σ H h => by
  obtain ⟨ρ, env, st, rs, re, h⟩ := h
  simp only [Mini.evS] at h
  exact h ρ _ H .refl rs .non
theorem s_pass : PS X (.Pass pos) (tS X.K (Mini.evS C .pass)) := ps_pass.imp fun D σ H h => by
  obtain ⟨ρ, env, st, rs, re, h⟩ := h
  simp only [Mini.evS] at h
  exact h ρ σ H .refl rs re
theorem s_brk : PS X (.Break pos) (tS X.K (Mini.evS C .brk)) := ps_break.imp fun D σ H h => by
  obtain ⟨ρ, env, st, rs, re, h⟩ := h
  simp only [Mini.evS] at h
  exact h ρ σ H .refl rs re
theorem s_cont : PS X (.Continue pos) (tS X.K (Mini.evS C .cont)) := ps_continue.imp fun D σ H h => by
  obtain ⟨ρ, env, st, rs, re, h⟩ := h
  simp only [Mini.evS] at h
  exact h ρ σ H .refl rs re
theorem s_ite {mc : Mini.ME} {ma mb : List Mini.MS} {sa sb : List Stmt} (hc : PT X c (tT X.K (Mini.tst C mc))) (ha : PSs X sa (tS X.K (Mini.evSs C ma))) (hb : PSs X sb (tS X.K (Mini.evSs C mb))) : PS X (.If c sa sb pos) (tS X.K (Mini.evS C (.ite mc ma mb))) := by
  refine (ps_if hc ha hb).imp fun D σ H h => ?_
  obtain ⟨ρ, env, st, rs, re, h⟩ := h
  simp only [Mini.evS] at h
  obtain ⟨k, s1, e1, h⟩ := okS_bind h
  refine tT.step rs re e1 fun ρ1 H1 x1 rs1 re1 => ?_
  split at h
  · rename_i hk
    rw [if_pos hk]
    exact ⟨ρ1, env, s1, rs1, re1, h.mono x1⟩
  · rename_i hk
    rw [if_neg hk]
    exact ⟨ρ1, env, s1, rs1, re1, h.mono x1⟩
theorem s_never : PS X st (tS X.K (Mini.evS C .never)) := ps_never.imp fun D σ H h => by
  obtain ⟨ρ, env, st, rs, re, h⟩ := h
  simp only [Mini.evS] at h
  exact h
theorem ss_nil : PSs X [] (tS X.K (Mini.evSs C [])) := pss_nil.imp fun D σ H h => by
  obtain ⟨ρ, env, st, rs, re, h⟩ := h
  simp only [Mini.evSs] at h
  exact h ρ σ H .refl rs re
theorem ss_cons {m : Mini.MS} {ms : List Mini.MS} (h1 : PS X st (tS X.K (Mini.evS C m))) (h2 : PSs X ss (tS X.K (Mini.evSs C ms))) : PSs X (st :: ss) (tS X.K (Mini.evSs C (m :: ms))) := by
  refine (pss_cons h1 h2).imp fun D σ H h => ?_
  obtain ⟨ρ, env, st, rs, re, h⟩ := h
  simp only [Mini.evSs] at h
  obtain ⟨c, s1, e1, h⟩ := okS_bind h
  refine ⟨ρ, env, st, rs, re, ?_⟩
  rw [e1]
  cases c with
  | next e2 => exact fun ρ1 σ1 H1 x1 rs1 re1 => ⟨ρ1, e2, s1, rs1, re1, OkS.mono x1 h⟩
  | brk _ => exact h
  | cont _ => exact h
  | ret _ => exact h
theorem ss_kill {ks : List Nat} {ms : List Mini.MS} (h : PSs X ss (tS X.K (Mini.evSs C ms))) : PSs X ss (tS X.K (Mini.evSs C (.kill ks :: ms))) := h.imp fun D σ H h => by
  obtain ⟨ρ, env, st, rs, re, h⟩ := h
  simp only [Mini.evSs, Mini.evS] at h
  exact ⟨ρ, _, st, rs, re.kill ks, h⟩
/-! loops -/
theorem s_loop {it : Mini.MI} {g : Mini.MG} {iter : Expr} {body : List Stmt} {ms : List Mini.MS} {ks : List Nat} (hp : PassesOwn (model X.prog X.w) X.A X.env X.xe) (hc : X.calm = true) (hi : PID X tg iter (Mini.evI C it)) (hg : PGD X tg g) (hb : PSs X body (tS X.K (Mini.evSs C ms)))
    (hs : ∀ x, foldedSetIterable iter X.env x = pure x) : PS X (.For tg iter body [] pos) (tS X.K (Mini.evS C (.loop g it ms ks))) := by
  obtain ⟨wi, pi, kw⟩ := hi.ok
  obtain ⟨t, pg, kg⟩ := hg.ok
  refine (ps_for hp hc pi pg hb hs).imp fun D σ H h => ?_
  obtain ⟨ρ, env, st, rs, re, h⟩ := h
  simp only [Mini.evS] at h
  obtain ⟨J, s1, e1, h⟩ := okS_bind h
  refine kw σ H _ ρ env st J s1 rs re e1 fun ρ1 H1 T x1 rs1 ir => ?_
  refine ⟨fun i n σ' H' => ∃ ρ' env' st', Ext X.K ρ H ρ' H' ∧ RS X.K H' ρ' st' ∧ RE X.K H' ρ' env' σ' ∧ IRel X.K ρ' H' J T ∧ OkS X.K ρ' H' (Mini.forLoop J _ n i env' st') D, ⟨_, ρ1, _, s1, x1, rs1, (re.mono x1).kill ks, ir, h.mono x1⟩, ?_⟩
  rintro i n σ' H' ⟨ρ', env', st', x2, rs2, re2, ir2, h⟩
  cases n with
  | zero =>
    simp only [Mini.forLoop] at h
    split at h
    · rename_i hstop
      exact .inl ⟨ir2.stop rs2 hstop, h ρ' σ' H' .refl rs2 re2⟩
    · exact h.elim
  | succ n =>
    simp only [Mini.forLoop] at h
    cases eg : J.get st' i with
    | none => rw [eg] at h; exact h.elim
    | some x =>
      rw [eg] at h
      obtain ⟨hgo, hy⟩ := ir2.step rs2 eg
      refine .inr ⟨hgo, fun σ3 H3 => ∃ ρ' env' st', Ext X.K ρ H ρ' H3 ∧ RS X.K H3 ρ' st' ∧ RE X.K H3 ρ' env' σ3 ∧ IRel X.K ρ' H3 J T ∧ OkS X.K ρ' H3 (Mini.forLoop J _ n (i + 1) env' st') D, fun σ3 H3 hN => ⟨n, Nat.lt_succ_self n, hN⟩, fun v H3 hyv => ?_⟩
      obtain ⟨x3, rs3, rv⟩ := hy v H3 hyv
      obtain ⟨c, s4, e4, h⟩ := okS_bind h
      split at e4
      · cases e4
      · rename_i env3 e5
        refine kg v σ' H3 _ ρ' env' env3 x (re2.mono x3) rv e5 fun σ4 re4 => ?_
        obtain ⟨c2, s5, e6, e7⟩ := out_bind e4
        cases e7
        refine ⟨ρ', env3, st', rs3, re4, ?_⟩
        rw [e6]
        cases c2 with
        | next e8 => exact fun ρ6 σ6 H6 x6 rs6 re6 => ⟨ρ6, _, _, (x2.trans x3).trans x6, rs6, re6.kill ks, ir2.mono (x3.trans x6), OkS.mono (x3.trans x6) h⟩
        | cont e8 => exact fun ρ6 σ6 H6 x6 rs6 re6 => ⟨ρ6, _, _, (x2.trans x3).trans x6, rs6, re6.kill ks, ir2.mono (x3.trans x6), OkS.mono (x3.trans x6) h⟩
        | brk e8 => exact fun ρ6 σ6 H6 x6 rs6 re6 => h ρ6 σ6 H6 (x3.trans x6) rs6 (re6.kill ks)
        | ret u => exact fun ρ6 w6 H6 x6 rs6 re6 => h ρ6 w6 H6 (x3.trans x6) rs6 re6
theorem s_whl {mc : Mini.ME} {body : List Stmt} {ms : List Mini.MS} {ks : List Nat} (hp : PassesOwn (model X.prog X.w) X.A X.env X.xe) (hc : PT X c (tT X.K (Mini.tst C mc))) (hb : PSs X body (tS X.K (Mini.evSs C ms))) : PS X (.While c body [] pos) (tS X.K (Mini.evS C (.whl mc ms ks))) := by
  refine (ps_while hp hc hb).imp fun D σ H h => ?_
  obtain ⟨ρ, env, st, rs, re, h⟩ := h
  simp only [Mini.evS] at h
  refine ⟨fun n σ' H' => ∃ ρ' env' st', Ext X.K ρ H ρ' H' ∧ RS X.K H' ρ' st' ∧ RE X.K H' ρ' env' σ' ∧ OkS X.K ρ' H' (Mini.whlLoop _ _ n env' st') D, ⟨_, ρ, _, st, .refl, rs, re.kill ks, h⟩, ?_⟩
  rintro n σ' H' ⟨ρ', env', st', x2, rs2, re2, h⟩
  cases n with
  | zero => exact h.elim
  | succ n =>
    simp only [Mini.whlLoop] at h
    obtain ⟨k, s1, e1, h⟩ := okS_bind h
    refine tT.step rs2 re2 e1 fun ρ1 H1 x1 rs1 re1 => ?_
    cases k with
    | false =>
      rw [if_neg (by decide)]
      simp only [Bool.false_eq_true, if_false] at h
      exact h ρ1 σ' H1 x1 rs1 re1
    | true =>
      rw [if_pos rfl]
      simp only [if_true] at h
      obtain ⟨c, s4, e4, h⟩ := okS_bind h
      obtain ⟨c2, s5, e6, e7⟩ := out_bind e4
      cases e7
      refine ⟨fun σ3 H3 => ∃ ρ' env' st', Ext X.K ρ H ρ' H3 ∧ RS X.K H3 ρ' st' ∧ RE X.K H3 ρ' env' σ3 ∧ OkS X.K ρ' H3 (Mini.whlLoop _ _ n env' st') D, fun σ3 H3 hN => ⟨n, Nat.lt_succ_self n, hN⟩, ρ1, env', s1, rs1, re1, ?_⟩
      rw [e6]
      cases c2 with
      | next e8 => exact fun ρ6 σ6 H6 x6 rs6 re6 => ⟨ρ6, _, _, (x2.trans x1).trans x6, rs6, re6.kill ks, OkS.mono (x1.trans x6) h⟩
      | cont e8 => exact fun ρ6 σ6 H6 x6 rs6 re6 => ⟨ρ6, _, _, (x2.trans x1).trans x6, rs6, re6.kill ks, OkS.mono (x1.trans x6) h⟩
      | brk e8 => exact fun ρ6 σ6 H6 x6 rs6 re6 => h ρ6 σ6 H6 (x1.trans x6) rs6 (re6.kill ks)
      | ret u => exact fun ρ6 w6 H6 x6 rs6 re6 => h ρ6 w6 H6 (x1.trans x6) rs6 re6
end
end DS
end

section
set_option Elab.async false
set_option linter.all false
set_option maxRecDepth 100000
set_option maxHeartbeats 4000000
/-! DeepSound6: the look (does this Mini text say what that Python text says?), and that what it lets by is sound. -/
namespace DS
open PySem PySem.Spec PyProof.Rows L2
open Mini (MV Cell Store Out ME MS MI MG)
/-! ### more calls -/
section
variable {X : L2.Cx} {k : Nat} {f : Addr} {fd : FuncData} {ps ks : List Str} {sp : Sp} {E : XK} {x : Str} {p pos : Pos} {e : Expr} {es : List Expr} {kws : List Keyword} {t tk : TA} {g : List Value → List Value → List Value} {gV : List V → List V → List V}
theorem pe_callKG {n : Nat} (F : FnG X.prog X.w X.K X.mg X.base k f fd ps sp) (hr : Room k X.A) (hgd : X.A.guards = some []) (hg : Gl X x) (hm : X.mg x = some (.ref f)) (hk : PySem.W.keepIn X.K (.ref f) = true) (hb : KBn X.K fd ps n ks g gV)
    (ha : PA X (e :: es) t) (hkw : PK X kws tk) (hall : (backToKw pos (keywordEach kws X.env)).all (·.1.isSome) = true) (hks : (backToKw pos (keywordEach kws X.env)).filterMap (·.1) = ks)
    (hdb : (x == ("__debug__" : Str)) = false) (he : starEach (e :: es) X.env = (false, eval e X.env) :: starEach es X.env)
    (hpl : ((backTo pos (starEach (e :: es) X.env)).any (·.1) || (backToKw pos (keywordEach kws X.env)).any (·.1.isNone)) = false) :
    PE X (.Call (.Name x p) (e :: es) kws pos) (tCallN n ks.length sp gV E t tk) := by
  refine ⟨fun pins s σ H Q I h => ?_⟩
  have one : ∀ us s1, AP X pins σ (fun vs H1 => tk σ H1 fun zs H2 => vs.length = n ∧ zs.length = ks.length ∧ sp (gV vs zs) H2 Q E) us s1 → wpAny (model X.prog X.w) X.A (evalAll ((backToKw pos (keywordEach kws X.env)).map (·.2))) (fun ws s2 => X.K.In s2.heap ∧ wpAny (model X.prog X.w) X.A (call (.ref f) us (((backToKw pos (keywordEach kws X.env)).filterMap (·.1)).zip ws)) (EP X pins σ Q) X.xe s2) X.xe s1 :=
    fun us s1 ⟨vs, H1, I1, r, q⟩ => thn (hkw.run pos pins s1 σ H1 _ I1 q) fun ws s2 ⟨zs, H2, I2, rz, l1, l2, q2⟩ => ⟨I2.kIn, by
      rw [hks]
      refine wpAny_call (codeAny_mono (F.run X.A X.stack s2 H2 ⟨us, ks.zip ws⟩ (g us ws) (gV vs zs) Q E hr hgd I2.env0 (hb.to s2 us ws I2.kIn (r.length.symm.trans l1) (rz.length.symm.trans l2)) (hb.rel r rz) q2) fun r s' hq => ?_)
      match r, hq with
      | .error e, hq => exact hq.elim
      | .ok (.ret u), hq => exact I2.after hq⟩
  exact wpAny_Call_Name_kw (ld_glob I hg hm (PySem.W.callWith_KW (h₀ := X.base) I.ok.mod.kin hk hall (thn (ha.run pos pins s σ H _ I h) one) hpl he) hdb)
end
/-! ### what is known around -/
structure Tab where
  fns : List Str
  blts : List Str
  /-- a def, and the constants that stand for the arguments left out at the end -/
  modes : List (Nat × List MV)
  /-- a def, the keywords written, and what fills the places behind the positional ones: a constant or the next keyword -/
  kmodes : List (Nat × Nat × List Str × List (Option MV))
structure Sc where
  N : List Str
  sc : Scope
  own : List Str
/-- a constant of Mini as a value -/
def CV : MV → V → Prop
  | .non, v => v = .non
  | .bl b, v => v = .bl b
  | .int i, v => v = .int i
  | _, _ => False
theorem CV.rv {K : PySem.W.Frag} {H : Hp} {ρ : Rho} {d : MV} {v : V} (h : CV d v) : RV K H ρ d v := by
  cases d with
  | non => cases h; exact .non
  | bl b => cases h; exact .bl b
  | int i => cases h; exact .int i
  | _ => exact h.elim
def CVs : List MV → List V → Prop := Paired CV
theorem CVs.rv {K : PySem.W.Frag} {H : Hp} {ρ : Rho} : ∀ {d : List MV} {v : List V}, CVs d v → RVs K H ρ d v
  | _, _, .nil => .nil
  | _, _, .cons h r => .cons h.rv (CVs.rv r)
def fillIn {α : Type} : List (Option α) → List α → List α
  | [], _ => []
  | some c :: r, zs => c :: fillIn r zs
  | none :: r, z :: zs => z :: fillIn r zs
  | none :: _, [] => []
structure Good (T : Tab) (W : Mini.World) (k : Nat) (S : Sc) (X : L2.Cx) : Prop where
  hN : X.N = S.N
  nd : X.N.Nodup
  sc : X.env.scope = S.sc
  fn : ∀ x, x ∈ S.own → X.fn x = true
  calm : X.calm = true
  room : Room k X.A
  gd : X.A.guards = some []
  hp : PassesOwn (model X.prog X.w) X.A X.env X.xe
  bl : ∀ x, x ∈ T.blts → X.mg x = none
  fns : ∀ (f : Nat) (x : Str) (dl : List MV), T.fns[f]? = some x → (f, dl) ∈ T.modes → ∃ a fd ps ds dvs, X.mg x = some (.ref a) ∧ PySem.W.keepIn X.K (.ref a) = true ∧ Binds X.K fd ps ds ∧ Vals dvs ds ∧ CVs dl dvs ∧
    FnG X.prog X.w X.K X.mg X.base k a fd ps (spD X.K W k f)
  kfns : ∀ (f n : Nat) (x : Str) (ks : List Str) (fl : List (Option MV)), T.fns[f]? = some x → (f, n, ks, fl) ∈ T.kmodes → ∃ a fd ps g fv, X.mg x = some (.ref a) ∧ PySem.W.keepIn X.K (.ref a) = true ∧ KBn X.K fd ps n ks g (fun vs zs => vs ++ fillIn fv zs) ∧
    Paired (fun (d : Option MV) (v : Option V) => match d, v with | some d, some v => CV d v | none, none => True | _, _ => False) fl fv ∧ FnG X.prog X.w X.K X.mg X.base k a fd ps (spD X.K W k f)
/-! ### the look -/
def isVis (sc : Scope) (x : Str) : Bool := match sc.names.lookup x with
  | some .local => true
  | some .cell => true
  | some .free => true
  | _ => false
def isGl (sc : Scope) (x : Str) : Bool := match sc.names.lookup x with
  | some .globalImplicit => true
  | _ => false
def okName (x : Str) : Bool := !(x == ("__debug__" : Str)) && !(x == ("__classdict__" : Str)) && !decide (x = ("__name__" : Str))
def slotOk (S : Sc) (x : Str) (i : Nat) : Bool := decide (S.N[i]? = some x) && isVis S.sc x && okName x
def isLocal (S : Sc) (x : Str) : Bool := match S.sc.names.lookup x with
  | some .local => true
  | some .cell => decide (x ∈ S.own)
  | _ => false
def tgtOk (S : Sc) (x : Str) (i : Nat) : Bool := decide (S.N[i]? = some x) && isLocal S x
def plainE : Expr → Bool
  | .Starred _ _ => false
  | _ => true
def notSlice : Expr → Bool
  | .Slice _ _ _ _ => false
  | _ => true
def notSet : Expr → Bool
  | .Set _ _ _ => false
  | _ => true
def notComp : Expr → Bool
  | .ListComp _ _ _ _ => false
  | .SetComp _ _ _ _ => false
  | .DictComp _ _ _ _ _ => false
  | _ => true
def notCall : Expr → Bool
  | .Call _ _ _ _ => false
  | _ => true
def binOk : Operator → Mini.Op2 → Bool
  | .Add, .add => true
  | .Sub, .sub => true
  | .Mult, .mul => true
  | .FloorDiv, .fdiv => true
  | .Mod, .mod => true
  | .Pow, .pow => true
  | _, _ => false
def cmpOk : CmpOp → Mini.Op2 → Bool
  | .Eq, .eq => true
  | .NotEq, .ne => true
  | .Lt, .lt => true
  | .LtE, .le => true
  | .Gt, .gt => true
  | .GtE, .ge => true
  | .Is, .isN => true
  | .IsNot, .notN => true
  | _, _ => false
def primName : Mini.Prim → Str
  | .len => "len" | .abs => "abs" | .int => "int" | .max2 => "max" | .min2 => "min" | .list => "list" | .repr => "repr" | .min1 => "min"
  | _ => ""
def primArity : Mini.Prim → Nat
  | .max2 => 2 | .min2 => 2
  | _ => 1
def isiName : Mini.Prim → Option Str
  | .isInt => some "int" | .isBool => some "bool" | .isList => some "list" | .isTuple => some "tuple" | .isStr => some "str"
  | _ => none
def blkSc (S : Sc) (scope : Scope) (x : Str) : Sc := ⟨S.N, relS scope S.sc, (match scope.names.lookup x with
  | some .cell => [x]
  | _ => [])⟩
def isCon : ME → MV → Bool
  | .con .non, .non => true
  | .con (.bl a), .bl b => a == b
  | .con (.int a), .int b => decide (a = b)
  | _, _ => false
def consOk : List ME → List MV → Bool
  | [], [] => true
  | m :: r, c :: t => isCon m c && consOk r t
  | _, _ => false
def findMode (T : Tab) (f : Nat) (l : List ME) : Bool := T.modes.any fun q => q.1 == f && consOk l q.2
/-- the keywords' names -/
def kwOk : List Keyword → List Str → Bool
  | [], [] => true
  | ⟨some x, e, _⟩ :: r, y :: t => decide (x = y) && plainE e && kwOk r t
  | _, _ => false
/-- a constant where one fills in, any expression where a keyword is written -/
def flOk : List (Option MV) → List ME → Bool
  | [], [] => true
  | some c :: r, m :: t => isCon m c && flOk r t
  | none :: r, _ :: t => flOk r t
  | _, _ => false
def pick : List (Option MV) → List ME → List ME
  | some _ :: r, _ :: t => pick r t
  | none :: r, m :: t => m :: pick r t
  | _, _ => []
mutual
def chkE (T : Tab) : Nat → Sc → Expr → ME → Bool
  | 0, _, _, _ => false
  | n + 1, S, e, m => match e, m with
    | .Name x _, .var i => slotOk S x i
    | .Constant (.int i) _ _, .con (.int j) => decide (i = j)
    | .Constant (.bool i) _ _, .con (.bl j) => i == j
    | .Constant .none _ _, .con .non => true
    | .Constant (.str x) _ _, .con (.str l) => decide (x.cps.toList = l)
    | .BinOp a op b _, .op2 o c d => binOk op o && chkE T n S a c && chkE T n S b d
    | .UnaryOp .USub a _, .prim .neg [c] => chkE T n S a c
    | .UnaryOp .Not a _, .nt c => chkE T n S a c
    | .BoolOp .And (a :: b :: r) p, .and c d => chkE T n S a c && (match r with
      | [] => chkE T n S b d
      | _ => chkE T n S (.BoolOp .And (b :: r) p) d)
    | .BoolOp .Or (a :: b :: r) p, .or c d => chkE T n S a c && (match r with
      | [] => chkE T n S b d
      | _ => chkE T n S (.BoolOp .Or (b :: r) p) d)
    | .Compare a [op] [b] _, .op2 o c d => cmpOk op o && chkE T n S a c && chkE T n S b d && notSet b
    | .Compare a [op, op'] [b, b'] _, .chain o p c d d' => cmpOk op o && cmpOk op' p && chkE T n S a c && chkE T n S b d && chkE T n S b' d' && notSet b'
    | .IfExp c a b _, .ite mc ma mb => chkT T n S c mc && chkE T n S a ma && chkE T n S b mb
    | .Tuple es _ _, .tup l => chkEs T n S es l
    | .List es _, .lst l => chkEs T n S es l
    | .Call (.Name x _) es [] _, .call f l => isGl S.sc x && okName x && decide (T.fns[f]? = some x) && chkEs T n S es (l.take es.length) && findMode T f (l.drop es.length)
    | .Call (.Name x _) (a :: es) (kw :: kws) _, .call f l => isGl S.sc x && okName x && decide (T.fns[f]? = some x) && chkEs T n S (a :: es) (l.take (es.length + 1)) &&
        T.kmodes.any fun q => q.1 == f && q.2.1 == es.length + 1 && kwOk (kw :: kws) q.2.2.1 && flOk q.2.2.2 (l.drop (es.length + 1)) && chkEs T n S ((kw :: kws).map Keyword.value) (pick q.2.2.2 (l.drop (es.length + 1)))
    | .Call (.Name x _) [a, .Name y _] [] _, .prim p [c] => match isiName p with
      | some z => decide (x = ("isinstance" : Str)) && decide (y = z) && isGl S.sc x && isGl S.sc y && decide (x ∈ T.blts) && decide (y ∈ T.blts) && chkE T n S a c && plainE a
      | none => false
    | .Call (.Name x _) es [] _, .prim p l => (match isiName p with
      | some _ => false
      | none => true) && decide (x = primName p) && !decide (x = ("" : Str)) && isGl S.sc x && decide (x ∈ T.blts) && decide (es.length = primArity p) && chkEs T n S es l
    | .Call (.Attribute o nm apos) [a] [] pos, .meth .append mo [c] => decide (nm = ("append" : Str)) && (apos.endLine == pos.line) && notCall o && chkE T n S o mo && chkE T n S a c && plainE a
    | .Subscript a i _, m => match i, m with
      | .Slice none none (some (.UnaryOp .USub (.Constant (.int j) _ _) _)) _, .rev c => decide (j = 1) && chkE T n S a c
      | .Slice lo hi none _, .sl fl fh c l h => chkE T n S a c && chkB T n S lo fl l && chkB T n S hi fh h
      | i, .op2 .ix c d => notSlice i && chkE T n S a c && chkE T n S i d
      | _, _ => false
    | .ListComp e [⟨.Name x _, it, ifs, k0⟩] scope _, .lcS (.nm i) mi cs me => (k0 == 0) && decide (S.N[i]? = some x) && isLocal (blkSc S scope x) x && blkC S.N S.sc scope [(x, i)] && chkE T n S it mi && notSet it && chkTs T n (blkSc S scope x) ifs cs && chkE T n (blkSc S scope x) e me
    | .ListComp e [⟨.Name x _, .Call (.Name y _) [a] [] _, ifs, k0⟩] scope _, .lcR1 (.nm i) mi cs me => (k0 == 0) && decide (S.N[i]? = some x) && isLocal (blkSc S scope x) x && blkC S.N S.sc scope [(x, i)] && decide (y = ("range" : Str)) && isGl S.sc y && decide (y ∈ T.blts) && plainE a &&
        chkE T n S a mi && chkTs T n (blkSc S scope x) ifs cs && chkE T n (blkSc S scope x) e me
    | _, _ => false
def chkEs (T : Tab) : Nat → Sc → List Expr → List ME → Bool
  | 0, _, _, _ => false
  | _ + 1, _, [], [] => true
  | n + 1, S, e :: es, m :: ms => plainE e && chkE T n S e m && chkEs T n S es ms
  | _ + 1, _, _, _ => false
def chkB (T : Tab) : Nat → Sc → Option Expr → Bool → ME → Bool
  | 0, _, _, _, _ => false
  | n + 1, S, some e, true, m => chkE T n S e m
  | _ + 1, _, none, false, .con .non => true
  | _ + 1, _, _, _, _ => false
def chkT (T : Tab) : Nat → Sc → Expr → ME → Bool
  | 0, _, _, _ => false
  | n + 1, S, e, m => match e, m with
    | .BoolOp .And (a :: b :: r) p, .and c d => chkT T n S a c && (match r with
      | [] => chkT T n S b d
      | _ => chkT T n S (.BoolOp .And (b :: r) p) d)
    | .BoolOp .Or (a :: b :: r) p, .or c d => chkT T n S a c && (match r with
      | [] => chkT T n S b d
      | _ => chkT T n S (.BoolOp .Or (b :: r) p) d)
    | .UnaryOp .Not a _, .nt c => chkT T n S a c
    | .Compare a [op] [b] _, .op2 o c d => cmpOk op o && chkE T n S a c && chkE T n S b d && notSet b
    | .Compare a [op, op'] [b, b'] _, .chain o p c d d' => cmpOk op o && cmpOk op' p && chkE T n S a c && chkE T n S b d && chkE T n S b' d' && notSet b'
    | .Name x q, .var i => chkE T n S (.Name x q) (.var i)
    | .Call f es ks q, .call g l => chkE T n S (.Call f es ks q) (.call g l)
    | .Call f es ks q, .prim g l => chkE T n S (.Call f es ks q) (.prim g l)
    | .Subscript a i q, .op2 o c d => notSlice i && chkE T n S (.Subscript a i q) (.op2 o c d)
    | _, _ => false
def chkTs (T : Tab) : Nat → Sc → List Expr → List ME → Bool
  | 0, _, _, _ => false
  | _ + 1, _, [], [] => true
  | n + 1, S, [e], [m] => chkT T n S e m
  | _ + 1, _, _, _ => false
end
def chkI (T : Tab) (n : Nat) (S : Sc) (tg : Expr) : Expr → MI → Bool
  | e, .seq m => chkE T n S e m
  | .Call (.Name x _) [a] [] _, .rng1 m => decide (x = ("range" : Str)) && isGl S.sc x && decide (x ∈ T.blts) && plainE a && chkE T n S a m
  | .Call (.Name x _) [a, b] [] _, .rng2 m c => decide (x = ("range" : Str)) && isGl S.sc x && decide (x ∈ T.blts) && plainE a && plainE b && chkE T n S a m && chkE T n S b c
  | .Call (.Name x _) [a, b, .UnaryOp .USub (.Constant (.int j) _ _) _] [] _, .down m c => decide (j = 1) && decide (x = ("range" : Str)) && isGl S.sc x && decide (x ∈ T.blts) && plainE a && plainE b && chkE T n S a m && chkE T n S b c
  | .Call (.Name x _) [a] [] _, .enm m => (match tg with
    | .Tuple _ _ _ => true
    | _ => false) && decide (x = ("enumerate" : Str)) && isGl S.sc x && decide (x ∈ T.blts) && plainE a && chkE T n S a m
  | _, _ => false
def tgtsOk (S : Sc) : List Expr → List Nat → Bool
  | [], [] => true
  | .Name x _ :: r, i :: t => tgtOk S x i && tgtsOk S r t
  | _, _ => false
def chkG (S : Sc) : Expr → MG → Bool
  | .Name x _, .nm i => tgtOk S x i
  | .Tuple ts _ _, .tp is => tgtsOk S ts is
  | _, _ => false
/-- a, b = c, d is a case of its own -/
def notPair : Expr → Bool
  | .Tuple _ _ _ => false
  | _ => true
mutual
def chkS (T : Tab) : Nat → Sc → Stmt → MS → Bool
  | 0, _, _, _ => false
  | n + 1, S, s, m => match s, m with
    | .Assign [.Name y py] (.ListComp e gs scope pos) sp, .asg (.nm i) me => tgtOk S y i && chkE T n S (.ListComp e gs scope pos) me
    | .Assign [.Subscript o i _] e _, .setIx mo mi me => notSlice i && notComp e && chkE T n S o mo && chkE T n S i mi && chkE T n S e me
    | .Assign [tg] e _, .asg g me => chkG S tg g && chkE T n S e me && notComp e && (match tg with
      | .Name _ _ => true
      | _ => notPair e)
    | .AugAssign (.Name x _) .Add e _, .aug .add i me => tgtOk S x i && chkE T n S e me
    | .AugAssign (.Name x _) .Sub e _, .aug .sub i me => tgtOk S x i && chkE T n S e me
    | .Expr e _, .expr me => chkE T n S e me && notComp e
    | .Return (some e) _, .ret me => chkE T n S e me
    | .Return none _, .retN => true
    | .Pass _, .pass => true
    | .Break _, .brk => true
    | .Continue _, .cont => true
    | .If c a b _, .ite mc ma mb => chkT T n S c mc && chkSs T n S a ma && chkSs T n S b mb
    | .For tg it body [] _, .loop g mi ms _ => chkG S tg g && chkI T n S tg it mi && notSet it && chkSs T n S body ms
    | .While c body [] _, .whl mc ms _ => chkT T n S c mc && chkSs T n S body ms
    | _, .never => true
    | _, _ => false
def chkSs (T : Tab) : Nat → Sc → List Stmt → List MS → Bool
  | 0, _, _, _ => false
  | n + 1, S, ss, ms => match ms with
    | .kill _ :: ms2 => chkSs T n S ss ms2
    | [] => (match ss with
      | [] => true
      | _ => false)
    | m :: ms2 => (match ss with
      | s :: ss2 => chkS T n S s m && chkSs T n S ss2 ms2
      | [] => false)
end
end DS
end

section
set_option Elab.async false
set_option linter.all false
set_option maxRecDepth 100000
set_option maxHeartbeats 8000000
/-! DeepSound7: what the look lets by is sound. -/
namespace DS
open PySem PySem.Spec PyProof.Rows L2
open Mini (MV Cell Store Out ME MS MI MG)
section
variable {X : L2.Cx} {T : Tab} {W : Mini.World} {k : Nat} {S : Sc} {pos : Pos}
abbrev cx (W : Mini.World) (k : Nat) : Mini.Cx := ⟨Mini.callK W k, W.repr, W.wf⟩
theorem okName_of {x : Str} (h : okName x = true) : (x == ("__debug__" : Str)) = false ∧ (x == ("__classdict__" : Str)) = false ∧ x ≠ "__name__" := by
  unfold okName at h
  rw [Bool.and_eq_true, Bool.and_eq_true] at h
  exact ⟨by simpa using h.1.1, by simpa using h.1.2, by simpa using h.2⟩
theorem vis_of {sc : Scope} {x : Str} (h : isVis sc x = true) : Vis sc x := by
  unfold isVis at h
  split at h <;> rename_i e
  · exact .inl e
  · exact .inr (.inl e)
  · exact .inr (.inr e)
  · cases h
theorem gl_of (G : Good T W k S X) {x : Str} (h : isGl S.sc x = true) : Gl X x := by
  unfold isGl at h
  split at h
  · rename_i e
    show X.env.scope.names.lookup x = _
    rw [G.sc]
    exact e
  · cases h
theorem star_of {a : Expr} (h : plainE a = true) (es : List Expr) (env : Env) : starEach (a :: es) env = (false, eval a env) :: starEach es env := by
  cases a <;> first | rfl | cases h
theorem any_star : ∀ {es : List Expr}, (es.all plainE = true) → ∀ (env : Env) (pos : Pos), (backTo pos (starEach es env)).any (·.1) = false
  | [], _, _, _ => rfl
  | a :: r, h, env, pos => by
    rw [List.all_cons, Bool.and_eq_true] at h
    rw [star_of h.1]
    show (false || (backTo pos (starEach r env)).any (·.1)) = false
    rw [any_star h.2] <;> rfl
theorem notSet_beh {b : Expr} (h : notSet b = true) (op : CmpOp) : behindInMarks op b = false := by
  cases b <;> first | rfl | cases h
theorem notSet_fold {b : Expr} (h : notSet b = true) (env : Env) (x : Value) : foldedSetIterable b env x = pure x := by
  cases b <;> first | rfl | cases h
theorem plainIx_of {b : Expr} (h : notSlice b = true) : PlainIx b := by
  cases b <;> first | (intro _ _; rfl) | cases h
theorem notCall_base {o : Expr} (h : notCall o = true) (nm : Str) (env : Env) : attributeBase o nm env (eval o env) = eval o env := by
  cases o <;> first | rfl | cases h
theorem notComp_swap {e : Expr} (h : notComp e = true) (t : Option Expr) (l : Nat) (env : Env) : swapsWith e t l env = pure false := by
  cases e <;> first | rfl | cases h
theorem bin_of (hu : X.A.units + 64 < cLine) {op : Operator} {o : Mini.Op2} (h : binOk op o = true) : OpR X (binaryOp op) (R2o X.K fun st x y => Mini.op2 o x y st) := by
  unfold binOk at h
  split at h
  · exact d_add
  · exact d_sub
  · exact d_mul
  · exact d_fdiv
  · exact d_mod
  · exact d_pow
  · cases h
theorem d_isN : OpR X (compareOp .Is) (R2o X.K fun st x y => Mini.op2 .isN x y st) := by
  intro pins s σ H v w a b Q I ra rb h
  obtain ⟨ρ, st, x, y, rs, rx, ry, h⟩ := h
  cases y with
  | non =>
    cases ry
    refine op_isN pins s σ H _ _ a b Q I ra rb ⟨rfl, ?_⟩
    cases rx with
    | non => exact okE_bl rs h
    | bl _ => exact okE_bl rs h
    | int _ => exact okE_bl rs h
    | str _ => exact okE_bl rs h
    | loc _ => exact okE_bl rs h
    | tup _ _ => exact okE_bl rs h
  | _ => cases x <;> exact h.elim
theorem d_notN : OpR X (compareOp .IsNot) (R2o X.K fun st x y => Mini.op2 .notN x y st) := by
  intro pins s σ H v w a b Q I ra rb h
  obtain ⟨ρ, st, x, y, rs, rx, ry, h⟩ := h
  cases y with
  | non =>
    cases ry
    refine op_notN pins s σ H _ _ a b Q I ra rb ⟨rfl, ?_⟩
    cases rx with
    | non => exact okE_bl rs h
    | bl _ => exact okE_bl rs h
    | int _ => exact okE_bl rs h
    | str _ => exact okE_bl rs h
    | loc _ => exact okE_bl rs h
    | tup _ _ => exact okE_bl rs h
  | _ => cases x <;> exact h.elim
theorem cmp_of (hu : X.A.units + 64 < cLine) {op : CmpOp} {o : Mini.Op2} (h : cmpOk op o = true) : OpR X (compareOp op) (R2o X.K fun st x y => Mini.op2 o x y st) := by
  unfold cmpOk at h
  split at h
  · exact d_eq hu
  · exact d_ne hu
  · exact d_cmp op_lt
  · exact d_cmp op_le
  · exact d_cmp op_gt
  · exact d_cmp op_ge
  · exact d_isN
  · exact d_notN
  · cases h
theorem cmp_bl {op : CmpOp} {o : Mini.Op2} (h : cmpOk op o = true) (x y : MV) (st : Store) : (∃ b s, Mini.op2 o x y st = .ok (.bl b) s) ∨ Mini.op2 o x y st = .bad := by
  unfold cmpOk at h
  split at h
  · simp only [Mini.op2]
    split
    · exact .inl ⟨_, _, rfl⟩
    · exact .inr rfl
  · simp only [Mini.op2]
    split
    · exact .inl ⟨_, _, rfl⟩
    · exact .inr rfl
  · simp only [Mini.op2, Mini.cmpI]
    split
    · exact .inl ⟨_, _, rfl⟩
    · exact .inr rfl
  · simp only [Mini.op2, Mini.cmpI]
    split
    · exact .inl ⟨_, _, rfl⟩
    · exact .inr rfl
  · simp only [Mini.op2, Mini.cmpI]
    split
    · exact .inl ⟨_, _, rfl⟩
    · exact .inr rfl
  · simp only [Mini.op2, Mini.cmpI]
    split
    · exact .inl ⟨_, _, rfl⟩
    · exact .inr rfl
  · cases x <;> cases y <;> first | exact .inl ⟨_, _, rfl⟩ | exact .inr rfl
  · cases x <;> cases y <;> first | exact .inl ⟨_, _, rfl⟩ | exact .inr rfl
  · cases h
/-! ### the constants behind the written arguments -/
theorem isCon_ev {m : ME} {c : MV} (h : isCon m c = true) (C : Mini.Cx) (env : Mini.Env) (st : Store) : Mini.evE C m env st = .ok c st := by
  unfold isCon at h
  split at h
  · simp only [Mini.evE]
  · have e := eq_of_beq h
    subst e
    simp only [Mini.evE]
  · have e := of_decide_eq_true h
    subst e
    simp only [Mini.evE]
  · cases h
theorem consOk_ev (C : Mini.Cx) (env : Mini.Env) : ∀ {l : List ME} {cs : List MV}, consOk l cs = true → ∀ st, Mini.evEs C l env st = .ok cs st
  | [], [], _, st => by simp only [Mini.evEs]
  | [], _ :: _, h, _ => by cases h
  | _ :: _, [], h, _ => by cases h
  | m :: r, c :: t, h, st => by
    have h' : isCon m c = true ∧ consOk r t = true := by simpa [consOk] using h
    simp only [Mini.evEs, isCon_ev h'.1, consOk_ev C env h'.2, Out.bind_ok]
theorem evEs_app (C : Mini.Cx) (env : Mini.Env) : ∀ (l m : List ME) (st : Store), Mini.evEs C (l ++ m) env st = (Mini.evEs C l env st).bind fun xs s1 => (Mini.evEs C m env s1).bind fun ys s2 => .ok (xs ++ ys) s2
  | [], m, st => by
    show Mini.evEs C m env st = _
    simp only [Mini.evEs, Out.bind_ok, List.nil_append]
    cases Mini.evEs C m env st <;> rfl
  | a :: l, m, st => by
    show Mini.evEs C (a :: (l ++ m)) env st = _
    simp only [Mini.evEs]
    cases e : Mini.evE C a env st with
    | exc _ _ => rfl
    | bad => rfl
    | ok x s =>
      simp only [Out.bind_ok, evEs_app C env l m s]
      cases e2 : Mini.evEs C l env s with
      | exc _ _ => rfl
      | bad => rfl
      | ok xs s2 =>
        simp only [Out.bind_ok]
        cases e3 : Mini.evEs C m env s2 <;> rfl
/-- a call of a def, its arguments written, then constants -/
theorem m_call {f : Nat} {x : Str} {p : Pos} {es : List Expr} {l : List ME} {dl : List MV} (G : Good T W k S X) (hg : isGl S.sc x = true) (hx : okName x = true) (hf : T.fns[f]? = some x) (hmode : (f, dl) ∈ T.modes) (hdl : consOk (l.drop es.length) dl = true)
    (ha : PA X es (tA X.K (Mini.evEs (cx W k) (l.take es.length)))) (hpl : es.all plainE = true) : PE X (.Call (.Name x p) es [] pos) (tE X.K (Mini.evE (cx W k) (.call f l))) := by
  obtain ⟨a, fd, ps, ds, dvs, hm, hk, hb, hd, hcv, F⟩ := G.fns f x dl hf hmode
  obtain ⟨h1, h2, h3⟩ := okName_of hx
  have go : ∀ σ H Q, tE X.K (Mini.evE (cx W k) (.call f l)) σ H Q → tCall (spD X.K W k f) dvs E0 (tA X.K (Mini.evEs (cx W k) (l.take es.length))) σ H Q := fun σ H Q h => by
    obtain ⟨ρ, env, st, rs, re, h⟩ := h
    simp only [Mini.evE] at h
    obtain ⟨vs, s1, e1, h⟩ := okE_bind h
    rw [← List.take_append_drop es.length l, evEs_app] at e1
    obtain ⟨xs, s2, e2, e3⟩ := out_bind e1
    rw [consOk_ev _ _ hdl] at e3
    cases e3
    exact tA.step rs re e2 fun ρ1 us H1 x1 rs1 re1 rvs => ⟨ρ1, _, _, rs1, rvs.append hcv.rv, h.mono x1⟩
  cases es with
  | nil =>
    refine (pe_callG0 (E := E0) F G.room G.gd (gl_of G hg) hm hk hb hd h1).imp fun σ H Q h => ?_
    · have z := go σ H Q h
      obtain ⟨ρ, env, st, rs, re, z⟩ := z
      simp only [List.length_nil, List.take_zero, Mini.evEs] at z
      exact z ρ [] H .refl rs .nil
  | cons e r =>
    rw [List.all_cons, Bool.and_eq_true] at hpl
    exact (pe_callG F G.room G.gd (gl_of G hg) hm hk hb hd ha h1 (star_of hpl.1 _ _) (any_star hpl.2 _ _)).imp go
theorem chkEs_plain : ∀ (n : Nat) {es : List Expr} {ms : List ME}, chkEs T n S es ms = true → es.all plainE = true ∧ es.length = ms.length
  | 0, _, _, h => by simp [chkEs] at h
  | n + 1, [], [], _ => ⟨rfl, rfl⟩
  | n + 1, [], _ :: _, h => by simp [chkEs] at h
  | n + 1, _ :: _, [], h => by simp [chkEs] at h
  | n + 1, e :: es, m :: ms, h => by
    simp only [chkEs, Bool.and_eq_true] at h
    obtain ⟨a, b⟩ := chkEs_plain n h.2
    exact ⟨by rw [List.all_cons, h.1.1, a] <;> rfl, by simp [b]⟩
/-! keywords -/
theorem kwOk_len : ∀ {kws : List Keyword} {ks : List Str}, kwOk kws ks = true → kws.length = ks.length
  | [], [], _ => rfl
  | [], _ :: _, h => by simp [kwOk] at h
  | ⟨none, _, _⟩ :: _, _, h => by simp [kwOk] at h
  | ⟨some _, _, _⟩ :: _, [], h => by simp [kwOk] at h
  | ⟨some x, _, _⟩ :: r, y :: t, h => by
    simp only [kwOk, Bool.and_eq_true] at h
    simp only [List.length_cons, kwOk_len h.2]
theorem kwOk_all {env : PySem.Env} {pos : Pos} : ∀ {kws : List Keyword} {ks : List Str}, kwOk kws ks = true → (backToKw pos (keywordEach kws env)).all (·.1.isSome) = true ∧ (backToKw pos (keywordEach kws env)).filterMap (·.1) = ks ∧ (backToKw pos (keywordEach kws env)).any (·.1.isNone) = false
  | [], [], _ => ⟨rfl, rfl, rfl⟩
  | [], _ :: _, h => by simp [kwOk] at h
  | ⟨none, _, _⟩ :: _, _, h => by simp [kwOk] at h
  | ⟨some _, _, _⟩ :: _, [], h => by simp [kwOk] at h
  | ⟨some x, e, kp⟩ :: r, y :: t, h => by
    simp only [kwOk, Bool.and_eq_true, decide_eq_true_eq] at h
    obtain ⟨a, b, c⟩ := kwOk_all (env := env) (pos := pos) h.2
    refine ⟨?_, ?_, ?_⟩
    · show ((some x, _) :: backToKw pos (keywordEach r env)).all (·.1.isSome) = true
      rw [List.all_cons, a]
      rfl
    · show ((some x, _) :: backToKw pos (keywordEach r env)).filterMap (·.1) = y :: t
      rw [List.filterMap_cons, b, h.1.1]
    · show ((some x, _) :: backToKw pos (keywordEach r env)).any (·.1.isNone) = false
      rw [List.any_cons, c]
      rfl
theorem _root_.L2.PK.imp {X : L2.Cx} {kws : List Keyword} {t t2 : TA} (h : PK X kws t) (hi : ∀ σ H Q, t2 σ H Q → t σ H Q) : PK X kws t2 := ⟨fun pos pins s σ H Q I q => h.run pos pins s σ H Q I (hi _ _ _ q)⟩
theorem mk_nil {X : L2.Cx} {C : Mini.Cx} : PK X [] (tA X.K (Mini.evEs C [])) := pk_nil.imp fun σ H Q h => by
  obtain ⟨ρ, env, st, rs, re, h⟩ := h
  simp only [Mini.evEs] at h
  exact h ρ [] H .refl rs .nil
theorem mk_cons {X : L2.Cx} {C : Mini.Cx} {nm : Option Str} {a : Expr} {kp : Pos} {kws : List Keyword} {m : ME} {ms : List ME} (ha : PE X a (tE X.K (Mini.evE C m))) (hr : PK X kws (tA X.K (Mini.evEs C ms))) : PK X (⟨nm, a, kp⟩ :: kws) (tA X.K (Mini.evEs C (m :: ms))) := by
  refine (pk_cons ha hr).imp fun σ H Q h => ?_
  obtain ⟨ρ, env, st, rs, re, h⟩ := h
  simp only [Mini.evEs] at h
  obtain ⟨x, s1, e1, h⟩ := okA_bind h
  obtain ⟨xs, s2, e2, h⟩ := okA_bind h
  refine tE.step rs re e1 fun ρ1 v H1 x1 rs1 re1 rv => tA.step rs1 re1 e2 fun ρ2 vs H2 x2 rs2 re2 rvs => ?_
  exact h ρ2 _ H2 (x1.trans x2) rs2 (.cons (rv.mono x2) rvs)
theorem fl_ev (C : Mini.Cx) (env : Mini.Env) : ∀ {fl : List (Option MV)} {l : List ME}, flOk fl l = true → ∀ st, Mini.evEs C l env st = (Mini.evEs C (pick fl l) env st).bind fun zs s => .ok (fillIn fl zs) s
  | [], [], _, st => by simp only [pick, Mini.evEs, Out.bind_ok, fillIn]
  | [], _ :: _, h, _ => by simp [flOk] at h
  | some _ :: _, [], h, _ => by simp [flOk] at h
  | none :: _, [], h, _ => by simp [flOk] at h
  | some c :: r, m :: t, h, st => by
    simp only [flOk, Bool.and_eq_true] at h
    simp only [pick, Mini.evEs, isCon_ev h.1, Out.bind_ok]
    rw [fl_ev C env h.2]
    cases Mini.evEs C (pick r t) env st <;> rfl
  | none :: r, m :: t, h, st => by
    simp only [flOk] at h
    simp only [pick, Mini.evEs]
    cases Mini.evE C m env st with
    | exc _ _ => rfl
    | bad => rfl
    | ok x s =>
      simp only [Out.bind_ok]
      rw [fl_ev C env h]
      cases Mini.evEs C (pick r t) env s <;> rfl
theorem evEs_len (C : Mini.Cx) (env : Mini.Env) : ∀ {l : List ME} {st s : Store} {vs : List MV}, Mini.evEs C l env st = .ok vs s → vs.length = l.length
  | [], st, s, vs, h => by
    simp only [Mini.evEs] at h
    cases h
    rfl
  | m :: l, st, s, vs, h => by
    simp only [Mini.evEs] at h
    obtain ⟨x, s1, e1, h⟩ := out_bind h
    obtain ⟨xs, s2, e2, h⟩ := out_bind h
    cases h
    simp only [List.length_cons, evEs_len C env e2]
def FlV (d : Option MV) (v : Option V) : Prop := match d, v with | some d, some v => CV d v | none, none => True | _, _ => False
theorem fill_rv {K : PySem.W.Frag} {H : Hp} {ρ : Rho} : ∀ {fl : List (Option MV)} {fv : List (Option V)} {zm : List MV} {zs : List V}, Paired FlV fl fv → RVs K H ρ zm zs → RVs K H ρ (fillIn fl zm) (fillIn fv zs)
  | _, _, _, _, .nil, _ => by simp only [fillIn]; exact .nil
  | some c :: r, some v :: t, zm, zs, .cons h p, rz => by
    simp only [fillIn]
    exact .cons (CV.rv h) (fill_rv p rz)
  | none :: r, none :: t, _ :: _, _ :: _, .cons h p, .cons a b => by
    simp only [fillIn]
    exact .cons a (fill_rv p b)
  | none :: r, none :: t, [], [], .cons h p, .nil => by
    simp only [fillIn]
    exact .nil
  | some c :: r, none :: t, _, _, .cons h p, _ => h.elim
  | none :: r, some c :: t, _, _, .cons h p, _ => h.elim
theorem m_callK {f : Nat} {x : Str} {p : Pos} {a : Expr} {es : List Expr} {kws : List Keyword} {l : List ME} {ks : List Str} {fl : List (Option MV)} (G : Good T W k S X) (hg : isGl S.sc x = true) (hx : okName x = true) (hf : T.fns[f]? = some x) (hmode : (f, es.length + 1, ks, fl) ∈ T.kmodes) (hkw : kwOk kws ks = true) (hfl : flOk fl (l.drop (es.length + 1)) = true)
    (ha : PA X (a :: es) (tA X.K (Mini.evEs (cx W k) (l.take (es.length + 1))))) (hlen : (l.take (es.length + 1)).length = es.length + 1) (hpl : (a :: es).all plainE = true) (hk : PK X kws (tA X.K (Mini.evEs (cx W k) (pick fl (l.drop (es.length + 1)))))) (hkl : (pick fl (l.drop (es.length + 1))).length = ks.length) :
    PE X (.Call (.Name x p) (a :: es) kws pos) (tE X.K (Mini.evE (cx W k) (.call f l))) := by
  obtain ⟨b, fd, ps, g, fv, hm, hkp, hb, hpr, F⟩ := G.kfns f _ x ks fl hf hmode
  obtain ⟨h1, h2, h3⟩ := okName_of hx
  obtain ⟨k1, k2, k3⟩ := kwOk_all (env := X.env) (pos := pos) hkw
  rw [List.all_cons, Bool.and_eq_true] at hpl
  have hst := star_of hpl.1 es X.env
  refine (pe_callKG (E := E0) F G.room G.gd (gl_of G hg) hm hkp hb ha hk k1 k2 h1 hst (by rw [k3, hst]; have z := any_star hpl.2 X.env pos; simp only [backTo, List.map_cons, List.any_cons, Bool.false_or, Bool.or_false] at z ⊢; exact z)).imp fun σ H Q h => ?_
  obtain ⟨ρ, env, st, rs, re, h⟩ := h
  simp only [Mini.evE] at h
  obtain ⟨vs, s1, e1, h⟩ := okE_bind h
  rw [← List.take_append_drop (es.length + 1) l, evEs_app] at e1
  obtain ⟨xs, s2, e2, e3⟩ := out_bind e1
  obtain ⟨ys, s3, e4, e5⟩ := out_bind e3
  cases e5
  rw [fl_ev _ _ hfl] at e4
  obtain ⟨zs, s4, e6, e7⟩ := out_bind e4
  cases e7
  refine tA.step rs re e2 fun ρ1 us H1 x1 rs1 re1 rvs => tA.step rs1 re1 e6 fun ρ2 ws H2 x2 rs2 re2 rvz => ⟨?_, ?_, ?_⟩
  · rw [← rvs.length, evEs_len _ _ e2, hlen]
  · rw [← rvz.length, evEs_len _ _ e6, hkl]
  · exact ⟨ρ2, _, _, rs2, (rvs.mono x2).append (fill_rv hpr rvz), h.mono (x1.trans x2)⟩
/-- a built-in by its name -/
theorem m_bi {p : Mini.Prim} {x : Str} {px : Pos} {es : List Expr} {l : List ME} (hW : W.repr = reprPy) (G : Good T W k S X) (hi : isiName p = none) (hx : x = primName p) (hne : x ≠ "") (hg : isGl S.sc x = true) (hb : x ∈ T.blts) (hlen : es.length = primArity p) (hpl : es.all plainE = true)
    (ha : PA X es (tA X.K (Mini.evEs (cx W k) l))) : PE X (.Call (.Name x px) es [] pos) (tE X.K (Mini.evE (cx W k) (.prim p l))) := by
  have hm := G.bl x hb
  have hG := gl_of G hg
  have hu : X.A.units + 64 < cLine := by have := G.room.un; omega
  match es, hlen, hpl, ha with
  | [], hlen, _, _ => cases p <;> simp [primArity] at hlen
  | e :: r, hlen, hpl, ha =>
    rw [List.all_cons, Bool.and_eq_true] at hpl
    have he := star_of hpl.1 r X.env
    have hr := any_star hpl.2 X.env pos
    cases p with
    | neg => exact absurd hx hne
    | notV => exact absurd hx hne
    | isInt => cases hi
    | isBool => cases hi
    | isList => cases hi
    | isTuple => cases hi
    | isStr => cases hi
    | len => subst hx; exact m_prim (pe_callB call_len_seq hG hm (by decide +kernel) ha (by decide) (by decide) he hr) fun vs H Q h => p_len h
    | abs => subst hx; exact m_prim (pe_callB call_abs hG hm (by decide +kernel) ha (by decide) (by decide) he hr) fun vs H Q h => p_abs h
    | int => subst hx; exact m_prim (pe_callTy call_int1 hG hm (by decide +kernel) ha (by decide) (by decide) he hr) fun vs H Q h => p_int h
    | max2 => subst hx; exact m_prim (pe_callB (call_max2 G.calm) hG hm (by decide +kernel) ha (by decide) (by decide) he hr) fun vs H Q h => p_max2 h
    | min2 => subst hx; exact m_prim (pe_callB (call_min2 G.calm) hG hm (by decide +kernel) ha (by decide) (by decide) he hr) fun vs H Q h => p_min2 h
    | list => subst hx; exact m_prim (pe_callTy call_list_of hG hm (by decide +kernel) ha (by decide) (by decide) he hr) fun vs H Q h => p_list h
    | repr => subst hx; exact m_prim (pe_callB (d_repr (C := cx W k) G.gd hu hW) hG hm (by decide +kernel) ha (by decide) (by decide) he hr) fun vs H Q h => h
    | min1 => subst hx; exact m_prim (pe_callB (cr_min G.calm) hG hm (by decide +kernel) ha (by decide) (by decide) he hr) fun vs H Q h => p_min1 h
theorem isi_none {p : Mini.Prim} (h : (match isiName p with | some _ => false | none => true) = true) : isiName p = none := by
  split at h
  · cases h
  · assumption
theorem pw_of {op : BoolOp} {vs : List Expr} {t : TT} (h : PT X (.BoolOp op vs pos) t) : PW X (.BoolOp op vs pos) t := ⟨fun _ pins s σ H Q I w => h.run pins s σ H Q I w⟩
theorem m_isiAll {p : Mini.Prim} {px pt : Pos} {z : Str} {a : Expr} {c : ME} (G : Good T W k S X) (hz : isiName p = some z) (hg : isGl S.sc "isinstance" = true) (hg2 : isGl S.sc z = true) (hb : ("isinstance" : Str) ∈ T.blts) (hb2 : z ∈ T.blts) (hp : plainE a = true) (ha : PE X a (tE X.K (Mini.evE (cx W k) c))) :
    PE X (.Call (.Name "isinstance" px) [a, .Name z pt] [] pos) (tE X.K (Mini.evE (cx W k) (.prim p [c]))) := by
  have e1 := gl_of G hg
  have e2 := gl_of G hg2
  have e3 := G.bl _ hb
  have e4 := G.bl _ hb2
  cases p with
  | isInt => cases hz; exact m_isi hk_int hp_int e1 e3 e2 e4 (by decide +kernel) (by decide) (by decide) ha (star_of hp _ _)
  | isBool => cases hz; exact m_isi hk_bool hp_bool e1 e3 e2 e4 (by decide +kernel) (by decide) (by decide) ha (star_of hp _ _)
  | isList => cases hz; exact m_isi hk_list hp_list e1 e3 e2 e4 (by decide +kernel) (by decide) (by decide) ha (star_of hp _ _)
  | isTuple => cases hz; exact m_isi hk_tuple hp_tuple e1 e3 e2 e4 (by decide +kernel) (by decide) (by decide) ha (star_of hp _ _)
  | isStr => cases hz; exact m_isi hk_str hp_str e1 e3 e2 e4 (by decide +kernel) (by decide) (by decide) ha (star_of hp _ _)
  | _ => cases hz
theorem Good.blk (G : Good T W k S X) {scope : Scope} {x : Str} (s : Shared) (H : Hp) (C : Addr) (cl : List (Str × Addr)) (fp : List Addr) : Good T W k (blkSc S scope x) (X.blk s H scope (compEnvC scope cl C X.env) fp) := by
  refine ⟨G.hN, G.nd, ?_, fun y hy => ?_, G.calm, G.room, G.gd, PassesOwn.never, G.bl, G.fns, G.kfns⟩
  · show relS scope X.env.scope = relS scope S.sc
    rw [G.sc]
  · unfold blkSc at hy
    simp only at hy
    split at hy
    · rename_i e
      have hyx : y = x := by simpa using hy
      subst hyx
      show (scope.names.lookup y == some NameKind.cell) = true
      rw [e] <;> rfl
    · cases hy
theorem loc_of (G : Good T W k S X) {x : Str} (h : isLocal S x = true) : Loc X.env.scope x ∧ (X.fn x = true ∨ X.env.scope.names.lookup x = some .local) := by
  unfold isLocal at h
  rw [G.sc]
  split at h
  · rename_i e
    exact ⟨.inl e, .inr e⟩
  · rename_i e
    exact ⟨.inr e, .inl (G.fn x (of_decide_eq_true h))⟩
  · cases h
theorem tst_eq {C : Mini.Cx} {m : ME} (h : match m with | .var _ => True | .call _ _ => True | .prim _ _ => True | .op2 _ _ _ => True | _ => False) (env : Mini.Env) (st : Store) : (Mini.evE C m env st).bind (fun z s => Mini.truth s z) = Mini.tst C m env st := by
  cases m with
  | var i =>
    simp only [Mini.evE, Mini.tst]
    split <;> rfl
  | call f l =>
    simp only [Mini.evE, Mini.tst]
    cases Mini.evEs C l env st <;> rfl
  | prim f l =>
    simp only [Mini.evE, Mini.tst]
    cases Mini.evEs C l env st <;> rfl
  | op2 o a b =>
    simp only [Mini.evE, Mini.tst]
    cases Mini.evE C a env st with
    | ok x s =>
      simp only [Out.bind_ok]
      cases Mini.evE C b env s <;> rfl
    | exc _ _ => rfl
    | bad => rfl
  | _ => exact h.elim
theorem _root_.L2.PT.congr {e : Expr} {f g : Mini.Env → Store → Out Bool} {K : PySem.W.Frag} (h : PT X e (tT K f)) (e2 : ∀ env st, f env st = g env st) : PT X e (tT K g) := by
  have : f = g := funext fun env => funext fun st => e2 env st
  rw [← this]
  exact h
/-- a comprehension: as a value, and stored at once -/
structure LcOk (X : L2.Cx) (e : Expr) (C : Mini.Cx) (m : ME) : Prop where
  ok : ∃ t : TE, PE X e t ∧ (∀ (i2 : Nat) (y : Str) (py sp : Pos), X.N[i2]? = some y → X.env.scope.names.lookup y = some .local → swapsWith e (some (.Name y py)) sp.line X.env = pure true → PS X (.Assign [.Name y py] e sp) (tAsg t (gName i2))) ∧
    ∀ σ H Q, tE X.K (Mini.evE C m) σ H Q → t σ H Q
theorem LcOk.pe {e : Expr} {C : Mini.Cx} {m : ME} (h : LcOk X e C m) : PE X e (tE X.K (Mini.evE C m)) := by
  obtain ⟨t, h1, _, h3⟩ := h.ok
  exact h1.imp h3
theorem lc_any {i : Nat} {x : Str} {px : Pos} {e it : Expr} {ifs : List Expr} {scope : Scope} {cs : List ME} {me m : ME} {ev : Mini.Env → Store → Out Mini.Iter} (G : Good T W k S X) (h2 : S.N[i]? = some x) (h3 : isLocal (blkSc S scope x) x = true) (h4 : blkC S.N S.sc scope [(x, i)] = true)
    (hi : PID X (.Name x px) it ev) (hs : ∀ v, foldedSetIterable it X.env v = pure v) (hc : ∀ X' : L2.Cx, Good T W k (blkSc S scope x) X' → PTD X' ifs (cx W k) cs) (he : ∀ X' : L2.Cx, Good T W k (blkSc S scope x) X' → PE X' e (tE X'.K (Mini.evE (cx W k) me)))
    (hm : ∀ env st, Mini.evE (cx W k) m env st = (ev env st).bind fun J s2 => Mini.lcRun J (fun v s => match Mini.setG (.nm i) v env with
      | none => .bad
      | some env2 => (Mini.tsts (cx W k) cs env2 s).bind fun b s3 => if b then (Mini.evE (cx W k) me env2 s3).bind fun y s4 => .ok (some y) s4 else .ok none s3) s2) : LcOk X (.ListComp e [⟨.Name x px, it, ifs, 0⟩] scope pos) (cx W k) m := by
  obtain ⟨wi, pi, kw⟩ := hi.ok
  have hN := G.hN
  have hS := G.sc
  have hi' : X.N[i]? = some x := by rw [hN]; exact h2
  have bk : BlkOk X.N X.env.scope scope [(x, i)] := by rw [hN, hS]; exact blkOk_by h4
  have g1 : ∀ (s : Shared) (H : Hp) (C : Addr) (cl : List (Str × Addr)) (fp : List Addr), PG (X.blk s H scope (compEnvC scope cl C X.env) fp) (.Name x px) (gName i) := fun s H C cl fp => by
    obtain ⟨l1, l2⟩ := loc_of (G.blk s H C cl fp) h3
    exact pg_name G.nd hi' l1 l2
  have g2 : ∀ (s : Shared) (H : Hp) (C : Addr) (cl : List (Str × Addr)) (fp : List Addr), PTs (X.blk s H scope (compEnvC scope cl C X.env) fp) ifs (tT X.K (Mini.tsts (cx W k) cs)) := fun s H C cl fp => (hc _ (G.blk s H C cl fp)).ok
  have g3 : ∀ (s : Shared) (H : Hp) (C : Addr) (cl : List (Str × Addr)) (fp : List Addr), PE (X.blk s H scope (compEnvC scope cl C X.env) fp) e (tE X.K (Mini.evE (cx W k) me)) := fun s H C cl fp => he _ (G.blk s H C cl fp)
  refine ⟨tLc wi (gName i) (tT X.K (Mini.tsts (cx W k) cs)) (tE X.K (Mini.evE (cx W k) me)) [i], pe_lc (own := [(x, i)]) G.calm G.nd pi bk g1 g2 g3 hs, fun i2 y py sp hy hyl hsw => ps_setLc (own := [(x, i)]) G.calm G.nd hy hyl hsw pi bk g1 g2 g3 hs, fun σ H Q h => lc_deep kw ?_⟩
  obtain ⟨ρ, env, st, rs, re, h⟩ := h
  rw [hm] at h
  exact ⟨ρ, env, st, rs, re, h⟩
theorem lc_seq {i : Nat} {x : Str} {px : Pos} {e it : Expr} {ifs : List Expr} {scope : Scope} {cs : List ME} {mi me : ME} (G : Good T W k S X) (h2 : S.N[i]? = some x) (h3 : isLocal (blkSc S scope x) x = true) (h4 : blkC S.N S.sc scope [(x, i)] = true)
    (hi : PE X it (tE X.K (Mini.evE (cx W k) mi))) (hs : notSet it = true) (hc : ∀ X' : L2.Cx, Good T W k (blkSc S scope x) X' → PTD X' ifs (cx W k) cs) (he : ∀ X' : L2.Cx, Good T W k (blkSc S scope x) X' → PE X' e (tE X'.K (Mini.evE (cx W k) me))) :
    LcOk X (.ListComp e [⟨.Name x px, it, ifs, 0⟩] scope pos) (cx W k) (.lcS (.nm i) mi cs me) := by
  refine lc_any G h2 h3 h4 (i_seq hi) (notSet_fold hs _) hc he fun env st => ?_
  simp only [Mini.evE]
  cases Mini.evE (cx W k) mi env st <;> rfl
theorem lc_r1 {i : Nat} {x : Str} {px py q : Pos} {e a : Expr} {ifs : List Expr} {scope : Scope} {cs : List ME} {mi me : ME} (G : Good T W k S X) (h2 : S.N[i]? = some x) (h3 : isLocal (blkSc S scope x) x = true) (h4 : blkC S.N S.sc scope [(x, i)] = true)
    (hg : Gl X "range") (hm : X.mg "range" = none) (hi : PE X a (tE X.K (Mini.evE (cx W k) mi))) (hp : plainE a = true) (hc : ∀ X' : L2.Cx, Good T W k (blkSc S scope x) X' → PTD X' ifs (cx W k) cs)
    (he : ∀ X' : L2.Cx, Good T W k (blkSc S scope x) X' → PE X' e (tE X'.K (Mini.evE (cx W k) me))) :
    LcOk X (.ListComp e [⟨.Name x px, .Call (.Name "range" py) [a] [] q, ifs, 0⟩] scope pos) (cx W k) (.lcR1 (.nm i) mi cs me) := by
  refine lc_any G h2 h3 h4 (i_rng1 hg hm hi (star_of hp _ _)) (fun _ => rfl) hc he fun env st => ?_
  simp only [Mini.evE]
  cases Mini.evE (cx W k) mi env st <;> rfl
theorem chk_sound (hW : W.repr = reprPy) : ∀ n : Nat, (∀ (S : Sc) (X : L2.Cx) (e : Expr) (m : ME), Good T W k S X → chkE T n S e m = true → PE X e (tE X.K (Mini.evE (cx W k) m)))
    ∧ (∀ (S : Sc) (X : L2.Cx) (es : List Expr) (ms : List ME), Good T W k S X → chkEs T n S es ms = true → PA X es (tA X.K (Mini.evEs (cx W k) ms)))
    ∧ (∀ (S : Sc) (X : L2.Cx) (o : Option Expr) (fl : Bool) (m : ME), Good T W k S X → chkB T n S o fl m = true → PB X o fl (Mini.evE (cx W k) m))
    ∧ (∀ (S : Sc) (X : L2.Cx) (e : Expr) (m : ME), Good T W k S X → chkT T n S e m = true → PT X e (tT X.K (Mini.tst (cx W k) m)))
    ∧ (∀ (S : Sc) (X : L2.Cx) (es : List Expr) (ms : List ME), Good T W k S X → chkTs T n S es ms = true → PTD X es (cx W k) ms)
    ∧ (∀ (S : Sc) (X : L2.Cx) (kws : List Keyword) (ms : List ME), Good T W k S X → chkEs T n S (kws.map Keyword.value) ms = true → PK X kws (tA X.K (Mini.evEs (cx W k) ms))) := by
  intro n
  induction n with
  | zero => exact ⟨fun _ _ _ _ _ h => by simp [chkE] at h, fun _ _ _ _ _ h => by simp [chkEs] at h, fun _ _ _ _ _ _ h => by simp [chkB] at h, fun _ _ _ _ _ h => by simp [chkT] at h, fun _ _ _ _ _ h => by simp [chkTs] at h, fun _ _ _ _ _ h => by simp [chkEs] at h⟩
  | succ n ih =>
    obtain ⟨hE, hEs, hB, hT, hTs, hK⟩ := ih
    refine ⟨fun S X e m G h => ?_, fun S X es ms G h => ?_, fun S X o fl m G h => ?_, fun S X e m G h => ?_, fun S X es ms G h => ?_, fun S X kws ms G h => ?_⟩
    · have hu : X.A.units + 64 < cLine := by have := G.room.un; omega
      unfold chkE at h
      split at h
      · -- a name
        simp only [slotOk, Bool.and_eq_true, decide_eq_true_eq] at h
        obtain ⟨h1, h2, _⟩ := okName_of h.2
        exact m_var (by rw [G.hN]; exact h.1.1) (by rw [G.sc]; exact vis_of h.1.2) h1 h2
      · have e := of_decide_eq_true h; subst e; exact m_int
      · have e := eq_of_beq h; subst e; exact m_bl
      · exact m_non
      · have e := of_decide_eq_true h; subst e; exact m_str
      · simp only [Bool.and_eq_true] at h
        exact m_bin (bin_of hu h.1.1) (hE _ X _ _ G h.1.2) (hE _ X _ _ G h.2)
      · exact m_neg (hE _ X _ _ G h)
      · exact m_not (hE _ X _ _ G h)
      · simp only [Bool.and_eq_true] at h
        refine m_and (hE _ X _ _ G h.1) ?_
        have h2 := h.2
        split at h2
        · exact pe_one (hE _ X _ _ G h2)
        · exact hE _ X _ _ G h2
      · simp only [Bool.and_eq_true] at h
        refine m_or (hE _ X _ _ G h.1) ?_
        have h2 := h.2
        split at h2
        · exact pe_one (hE _ X _ _ G h2)
        · exact hE _ X _ _ G h2
      · simp only [Bool.and_eq_true] at h
        exact m_cmp (cmp_of hu h.1.1.1) (hE _ X _ _ G h.1.1.2) (hE _ X _ _ G h.1.2) (notSet_beh h.2 _)
      · simp only [Bool.and_eq_true] at h
        exact m_chain (cmp_of hu h.1.1.1.1.1) (cmp_of hu h.1.1.1.1.2) (hE _ X _ _ G h.1.1.1.2) (hE _ X _ _ G h.1.1.2) (hE _ X _ _ G h.1.2) (notSet_beh h.2 _)
      · simp only [Bool.and_eq_true] at h
        exact m_ite (hT _ X _ _ G h.1.1) (hE _ X _ _ G h.1.2) (hE _ X _ _ G h.2)
      · exact m_tup (hEs _ X _ _ G h)
      · exact m_lst (hEs _ X _ _ G h)
      · -- a call of a def
        simp only [Bool.and_eq_true, decide_eq_true_eq] at h
        obtain ⟨⟨⟨⟨h1, h2⟩, h3⟩, h4⟩, h5⟩ := h
        unfold findMode at h5
        obtain ⟨⟨f2, dl⟩, h6, h7⟩ := List.any_eq_true.mp h5
        simp only [Bool.and_eq_true, beq_iff_eq] at h7
        obtain ⟨rfl, h8⟩ := h7
        exact m_call G h1 h2 h3 h6 h8 (hEs _ X _ _ G h4) (chkEs_plain n h4).1
      · -- a call with keywords
        simp only [Bool.and_eq_true, decide_eq_true_eq] at h
        obtain ⟨⟨⟨⟨h1, h2⟩, h3⟩, h4⟩, h5⟩ := h
        obtain ⟨⟨f2, n2, ks, fl⟩, h6, h7⟩ := List.any_eq_true.mp h5
        simp only [Bool.and_eq_true, beq_iff_eq] at h7
        obtain ⟨⟨⟨⟨rfl, rfl⟩, h8⟩, h9⟩, h10⟩ := h7
        have hp := chkEs_plain n h4
        have hq := chkEs_plain n h10
        exact m_callK G h1 h2 h3 h6 h8 h9 (hEs _ X _ _ G h4) (by rw [← hp.2]; rfl) hp.1 (hK _ X _ _ G h10) (by rw [← hq.2, List.length_map]; exact kwOk_len h8)
      · split at h
        · rename_i z hz
          simp only [Bool.and_eq_true, decide_eq_true_eq] at h
          obtain ⟨⟨⟨⟨⟨⟨⟨h1, h2⟩, h3⟩, h4⟩, h5⟩, h6⟩, h7⟩, h8⟩ := h
          subst h1 h2
          exact m_isiAll G hz h3 h4 h5 h6 h8 (hE _ X _ _ G h7)
        · cases h
      · simp only [Bool.and_eq_true, decide_eq_true_eq] at h
        obtain ⟨⟨⟨⟨⟨⟨h0, h1⟩, h2⟩, h3⟩, h4⟩, h5⟩, h6⟩ := h
        exact m_bi hW G (isi_none h0) h1 (by simpa using h2) h3 h4 h5 (chkEs_plain n h6).1 (hEs _ X _ _ G h6)
      · simp only [Bool.and_eq_true, decide_eq_true_eq] at h
        obtain ⟨⟨⟨⟨⟨h1, h2⟩, h3⟩, h4⟩, h5⟩, h6⟩ := h
        subst h1
        refine m_append (hE _ X _ _ G h4) (hE _ X _ _ G h5) (star_of h6 _ _) (notCall_base h3 _ _) ?_ h2
        rw [star_of h6]
        rfl
      · split at h
        · simp only [Bool.and_eq_true, decide_eq_true_eq] at h
          obtain ⟨rfl, h2⟩ := h
          exact m_rev (hE _ X _ _ G h2)
        · simp only [Bool.and_eq_true] at h
          exact m_sl (hE _ X _ _ G h.1.1) (hB _ X _ _ _ G h.1.2) (hB _ X _ _ _ G h.2)
        · simp only [Bool.and_eq_true] at h
          exact m_ix (hE _ X _ _ G h.1.2) (hE _ X _ _ G h.2) (plainIx_of h.1.1)
        · cases h
      · simp only [Bool.and_eq_true, decide_eq_true_eq, beq_iff_eq] at h
        obtain ⟨⟨⟨⟨⟨⟨⟨h1, h2⟩, h3⟩, h4⟩, h5⟩, h6⟩, h7⟩, h8⟩ := h
        subst h1
        exact (lc_seq G h2 h3 h4 (hE _ X _ _ G h5) h6 (fun X' G' => hTs _ X' _ _ G' h7) (fun X' G' => hE _ X' _ _ G' h8)).pe
      · simp only [Bool.and_eq_true, decide_eq_true_eq, beq_iff_eq] at h
        obtain ⟨⟨⟨⟨⟨⟨⟨⟨⟨⟨h1, h2⟩, h3⟩, h4⟩, h5⟩, h6⟩, h7⟩, h8⟩, h9⟩, h10⟩, h11⟩ := h
        subst h1 h5
        exact (lc_r1 G h2 h3 h4 (gl_of G h6) (G.bl _ h7) (hE _ X _ _ G h9) h8 (fun X' G' => hTs _ X' _ _ G' h10) (fun X' G' => hE _ X' _ _ G' h11)).pe
      · cases h
    · cases es with
      | nil =>
        cases ms with
        | nil => exact m_nil
        | cons _ _ => simp [chkEs] at h
      | cons a r =>
        cases ms with
        | nil => simp [chkEs] at h
        | cons m ms =>
          simp only [chkEs, Bool.and_eq_true] at h
          exact m_cons (hE _ X _ _ G h.1.2) (hEs _ X _ _ G h.2) (star_of h.1.1 _ _)
    · unfold chkB at h
      split at h
      · contradiction
      · rename_i hn
        cases hn
        exact m_b1 (hE _ X _ _ G h)
      · exact m_b0
      · cases h
    · have hu : X.A.units + 64 < cLine := by have := G.room.un; omega
      unfold chkT at h
      split at h
      · simp only [Bool.and_eq_true] at h
        have h2 := h.2
        split at h2
        · exact (m_tand (hT _ X _ _ G h.1) (pw_and1 (hT _ X _ _ G h2))).pt
        · exact (m_tand (hT _ X _ _ G h.1) (pw_of (hT _ X _ _ G h2))).pt
      · simp only [Bool.and_eq_true] at h
        have h2 := h.2
        split at h2
        · exact (m_tor (hT _ X _ _ G h.1) (pw_or1 (hT _ X _ _ G h2))).pt
        · exact (m_tor (hT _ X _ _ G h.1) (pw_of (hT _ X _ _ G h2))).pt
      · exact m_tnot (hT _ X _ _ G h)
      · simp only [Bool.and_eq_true] at h
        exact m_tcmp (cmp_of hu h.1.1.1) (hE _ X _ _ G h.1.1.2) (hE _ X _ _ G h.1.2) (notSet_beh h.2 _) (cmp_bl h.1.1.1)
      · simp only [Bool.and_eq_true] at h
        exact m_tchain (cmp_of hu h.1.1.1.1.1) (cmp_of hu h.1.1.1.1.2) (hE _ X _ _ G h.1.1.1.2) (hE _ X _ _ G h.1.1.2) (hE _ X _ _ G h.1.2) (notSet_beh h.2 _)
      · exact (m_tru (hE _ X _ _ G h) fun _ => rfl).congr (tst_eq trivial)
      · exact (m_tru (hE _ X _ _ G h) fun _ => rfl).congr (tst_eq trivial)
      · exact (m_tru (hE _ X _ _ G h) fun _ => rfl).congr (tst_eq trivial)
      · simp only [Bool.and_eq_true] at h
        exact (m_tru (hE _ X _ _ G h.2) fun _ => rfl).congr (tst_eq trivial)
      · cases h
    · unfold chkTs at h
      split at h
      · contradiction
      · exact t_nil
      · rename_i hn
        cases hn
        exact t_one (hT _ X _ _ G h)
      · cases h
    · cases kws with
      | nil =>
        cases ms with
        | nil => exact mk_nil
        | cons _ _ => simp [chkEs] at h
      | cons a r =>
        cases ms with
        | nil => simp [chkEs] at h
        | cons m ms =>
          obtain ⟨nm, va, kp⟩ := a
          simp only [List.map_cons, chkEs, Bool.and_eq_true] at h
          exact mk_cons (hE _ X _ _ G h.1.2) (hK _ X _ _ G h.2)
end
end DS
end

section
set_option Elab.async false
set_option linter.all false
set_option maxRecDepth 100000
set_option maxHeartbeats 8000000
/-! DeepSound8: statements by the look; defs; the law's end. -/
namespace DS
open PySem PySem.Spec PyProof.Rows L2
open Mini (MV Cell Store Out ME MS MI MG)
section
variable {X : L2.Cx} {T : Tab} {W : Mini.World} {k : Nat} {S : Sc} {pos : Pos}
theorem lc_of (hW : W.repr = reprPy) : ∀ (n : Nat) {e : Expr} {gs : List Comprehension} {scope : Scope} {m : ME}, Good T W k S X → chkE T n S (.ListComp e gs scope pos) m = true → LcOk X (.ListComp e gs scope pos) (cx W k) m
  | 0, _, _, _, _, _, h => by simp [chkE] at h
  | n + 1, e, gs, scope, m, G, h => by
    obtain ⟨hE, hEs, hB, hT, hTs, _⟩ := chk_sound (T := T) (W := W) (k := k) hW n
    unfold chkE at h
    split at h <;> rename_i heq <;> try (cases heq; done)
    · cases heq
      simp only [Bool.and_eq_true, decide_eq_true_eq, beq_iff_eq] at h
      obtain ⟨⟨⟨⟨⟨⟨⟨h1, h2⟩, h3⟩, h4⟩, h5⟩, h6⟩, h7⟩, h8⟩ := h
      subst h1
      exact lc_seq G h2 h3 h4 (hE _ X _ _ G h5) h6 (fun X' G' => hTs _ X' _ _ G' h7) (fun X' G' => hE _ X' _ _ G' h8)
    · cases heq
      simp only [Bool.and_eq_true, decide_eq_true_eq, beq_iff_eq] at h
      obtain ⟨⟨⟨⟨⟨⟨⟨⟨⟨⟨h1, h2⟩, h3⟩, h4⟩, h5⟩, h6⟩, h7⟩, h8⟩, h9⟩, h10⟩, h11⟩ := h
      subst h1 h5
      exact lc_r1 G h2 h3 h4 (gl_of G h6) (G.bl _ h7) (hE _ X _ _ G h9) h8 (fun X' G' => hTs _ X' _ _ G' h10) (fun X' G' => hE _ X' _ _ G' h11)
    · cases h
theorem swaps_dec {e : Expr} {gs : List Comprehension} {scope : Scope} {y : Str} {py : Pos} {l : Nat} {env : Env} : ∃ b, swapsWith (.ListComp e gs scope pos) (some (.Name y py)) l env = pure b ∧ (b = true → env.scope.names.lookup y = some .local) := by
  refine ⟨_, rfl, fun h => ?_⟩
  rw [Bool.and_eq_true, Bool.and_eq_true, Bool.and_eq_true] at h
  have h2 := h.1.1.2
  show env.kindOf y = some .local
  cases e2 : env.kindOf y with
  | none => rw [e2] at h2; cases h2
  | some kk =>
    rw [e2] at h2
    cases kk <;> first | rfl | cases h2
theorem tgts_of (G : Good T W k S X) : ∀ {ts : List Expr} {is : List Nat}, tgtsOk S ts is = true → is.length = ts.length ∧ ∀ (j : Nat) (i : Nat), is[j]? = some i → ∃ x p, ts[j]? = some (.Name x p) ∧ X.N[i]? = some x ∧ Loc X.env.scope x ∧ (X.fn x = true ∨ X.env.scope.names.lookup x = some .local)
  | [], [], _ => ⟨rfl, fun j i h => by simp at h⟩
  | [], _ :: _, h => by simp [tgtsOk] at h
  | .Name x p :: r, i :: t, h => by
    simp only [tgtsOk, tgtOk, Bool.and_eq_true, decide_eq_true_eq] at h
    obtain ⟨h1, h2⟩ := tgts_of G h.2
    refine ⟨by simp [h1], fun j i2 hj => ?_⟩
    cases j with
    | zero =>
      simp at hj
      subst hj
      exact ⟨x, p, rfl, by rw [G.hN]; exact h.1.1, loc_of G h.1.2⟩
    | succ j => exact h2 j i2 (by simpa using hj)
  | a :: r, [], h => by cases a <;> simp [tgtsOk] at h
  | .BoolOp .. :: r, i :: t, h => by simp [tgtsOk] at h
  | .NamedExpr .. :: r, i :: t, h => by simp [tgtsOk] at h
  | .BinOp .. :: r, i :: t, h => by simp [tgtsOk] at h
  | .UnaryOp .. :: r, i :: t, h => by simp [tgtsOk] at h
  | .Lambda .. :: r, i :: t, h => by simp [tgtsOk] at h
  | .IfExp .. :: r, i :: t, h => by simp [tgtsOk] at h
  | .Dict .. :: r, i :: t, h => by simp [tgtsOk] at h
  | .Set .. :: r, i :: t, h => by simp [tgtsOk] at h
  | .ListComp .. :: r, i :: t, h => by simp [tgtsOk] at h
  | .SetComp .. :: r, i :: t, h => by simp [tgtsOk] at h
  | .DictComp .. :: r, i :: t, h => by simp [tgtsOk] at h
  | .GeneratorExp .. :: r, i :: t, h => by simp [tgtsOk] at h
  | .Await .. :: r, i :: t, h => by simp [tgtsOk] at h
  | .Yield .. :: r, i :: t, h => by simp [tgtsOk] at h
  | .YieldFrom .. :: r, i :: t, h => by simp [tgtsOk] at h
  | .Compare .. :: r, i :: t, h => by simp [tgtsOk] at h
  | .Call .. :: r, i :: t, h => by simp [tgtsOk] at h
  | .FormattedValue .. :: r, i :: t, h => by simp [tgtsOk] at h
  | .JoinedStr .. :: r, i :: t, h => by simp [tgtsOk] at h
  | .Constant .. :: r, i :: t, h => by simp [tgtsOk] at h
  | .Attribute .. :: r, i :: t, h => by simp [tgtsOk] at h
  | .Subscript .. :: r, i :: t, h => by simp [tgtsOk] at h
  | .Starred .. :: r, i :: t, h => by simp [tgtsOk] at h
  | .List .. :: r, i :: t, h => by simp [tgtsOk] at h
  | .Tuple .. :: r, i :: t, h => by simp [tgtsOk] at h
  | .Slice .. :: r, i :: t, h => by simp [tgtsOk] at h
theorem g_of (G : Good T W k S X) {tg : Expr} {g : MG} (h : chkG S tg g = true) : PGD X tg g := by
  unfold chkG at h
  split at h
  · simp only [tgtOk, Bool.and_eq_true, decide_eq_true_eq] at h
    obtain ⟨l1, l2⟩ := loc_of G h.2
    exact g_name G.nd (by rw [G.hN]; exact h.1) l1 l2
  · obtain ⟨h1, h2⟩ := tgts_of G h
    exact g_tup G.calm G.nd h2 h1
  · cases h
theorem i_of (hW : W.repr = reprPy) (n : Nat) (G : Good T W k S X) {tg it : Expr} {mi : MI} (h : chkI T n S tg it mi = true) : PID X tg it (Mini.evI (cx W k) mi) := by
  obtain ⟨hE, hEs, hB, hT, hTs, _⟩ := chk_sound (T := T) (W := W) (k := k) hW n
  unfold chkI at h
  split at h
  · exact i_seq (hE _ X _ _ G h)
  · simp only [Bool.and_eq_true, decide_eq_true_eq] at h
    obtain ⟨⟨⟨⟨rfl, h2⟩, h3⟩, h4⟩, h5⟩ := h
    exact i_rng1 (gl_of G h2) (G.bl _ h3) (hE _ X _ _ G h5) (star_of h4 _ _)
  · simp only [Bool.and_eq_true, decide_eq_true_eq] at h
    obtain ⟨⟨⟨⟨⟨⟨rfl, h2⟩, h3⟩, h4⟩, h5⟩, h6⟩, h7⟩ := h
    exact i_rng2 (gl_of G h2) (G.bl _ h3) (hE _ X _ _ G h6) (hE _ X _ _ G h7) (star_of h4 _ _) (star_of h5 _ _)
  · simp only [Bool.and_eq_true, decide_eq_true_eq] at h
    obtain ⟨⟨⟨⟨⟨⟨⟨rfl, rfl⟩, h2⟩, h3⟩, h4⟩, h5⟩, h6⟩, h7⟩ := h
    exact i_down (gl_of G h2) (G.bl _ h3) (hE _ X _ _ G h6) (hE _ X _ _ G h7) (fun es => star_of h4 _ _) (fun es => star_of h5 _ _)
  · simp only [Bool.and_eq_true, decide_eq_true_eq] at h
    obtain ⟨⟨⟨⟨⟨h1, rfl⟩, h2⟩, h3⟩, h4⟩, h5⟩ := h
    split at h1
    · exact i_enm (gl_of G h2) (G.bl _ h3) (hE _ X _ _ G h5) (star_of h4 _ _)
    · cases h1
  · cases h
theorem sub_assign {a b : Expr} {p2 : Pos} (h : notSlice b = true) (env : Env) (v : Value) : assign (.Subscript a b p2) env v = (do
      let ov ← holding [v] (eval a env)
      let iv ← holding [v, ov] (eval b env)
      standAt p2
      holding [v, ov, iv] (setItem ov iv v)
      release [v, ov, iv] []) := by
  cases b <;> first | rfl | cases h
theorem sole_swap {e : Expr} (h : notComp e = true) (t : Expr) (l : Nat) (env : Env) : swapsWithSole [t] e l env = pure false := by
  show swapsWith e (some t) l env = pure false
  exact notComp_swap h _ _ _
theorem swapped_none {tg e : Expr} {env : Env} (h : (match tg with
      | .Name _ _ => true
      | _ => notPair e) = true) : swappedStores [tg] e env = pure none := by
  cases tg <;> first | rfl | (cases e <;> first | rfl | cases h)
theorem stmt_sound (hW : W.repr = reprPy) : ∀ n : Nat, (∀ (S : Sc) (X : L2.Cx) (s : Stmt) (m : MS), Good T W k S X → chkS T n S s m = true → PS X s (tS X.K (Mini.evS (cx W k) m)))
    ∧ (∀ (S : Sc) (X : L2.Cx) (ss : List Stmt) (ms : List MS), Good T W k S X → chkSs T n S ss ms = true → PSs X ss (tS X.K (Mini.evSs (cx W k) ms))) := by
  intro n
  induction n with
  | zero => exact ⟨fun _ _ _ _ _ h => by simp [chkS] at h, fun _ _ _ _ _ h => by simp [chkSs] at h⟩
  | succ n ih =>
    obtain ⟨hS, hSs⟩ := ih
    obtain ⟨hE, hEs, hB, hT, hTs, _⟩ := chk_sound (T := T) (W := W) (k := k) hW n
    refine ⟨fun S X s m G h => ?_, fun S X ss ms G h => ?_⟩
    · unfold chkS at h
      split at h
      · simp only [tgtOk, Bool.and_eq_true, decide_eq_true_eq] at h
        obtain ⟨⟨h1, h2⟩, h3⟩ := h
        have lc := lc_of hW n G h3
        obtain ⟨l1, l2⟩ := loc_of G h2
        rename_i y py e gs scope pos sp i me
        have hi : X.N[i]? = some y := by rw [G.hN]; exact h1
        obtain ⟨b, hb, hl⟩ := swaps_dec (pos := pos) (e := e) (gs := gs) (scope := scope) (y := y) (py := py) (l := sp.line) (env := X.env)
        cases b with
        | true =>
          obtain ⟨t, _, t2, t3⟩ := lc.ok
          exact s_asgLc (t2 i y py sp hi (hl rfl) hb) t3
        | false => exact s_asgLc (ps_set G.nd hi l1 lc.pe hb l2) fun _ _ _ z => z
      · simp only [Bool.and_eq_true] at h
        obtain ⟨⟨⟨⟨h1, h2⟩, h3⟩, h4⟩, h5⟩ := h
        exact s_setIx (hE _ X _ _ G h3) (hE _ X _ _ G h4) (hE _ X _ _ G h5) (sole_swap h2 _ _ _) rfl (sub_assign h1 _)
      · simp only [Bool.and_eq_true] at h
        obtain ⟨⟨⟨h1, h2⟩, h3⟩, h4⟩ := h
        refine s_asg (hE _ X _ _ G h2) (g_of G h1) (sole_swap h3 _ _ _) (swapped_none h4) ?_
        unfold chkG at h1
        split at h1
        · rfl
        · rfl
        · cases h1
      · simp only [tgtOk, Bool.and_eq_true, decide_eq_true_eq] at h
        obtain ⟨l1, l2⟩ := loc_of G h.1.2
        exact s_aug G.nd (by rw [G.hN]; exact h.1.1) l1 l2 ip_add aug_add (hE _ X _ _ G h.2)
      · simp only [tgtOk, Bool.and_eq_true, decide_eq_true_eq] at h
        obtain ⟨l1, l2⟩ := loc_of G h.1.2
        exact s_aug G.nd (by rw [G.hN]; exact h.1.1) l1 l2 ip_sub aug_sub (hE _ X _ _ G h.2)
      · simp only [Bool.and_eq_true] at h
        exact s_expr (hE _ X _ _ G h.1) (notComp_swap h.2 _ _ _)
      · exact s_ret (hE _ X _ _ G h)
      · exact s_retN
      · exact s_pass
      · exact s_brk
      · exact s_cont
      · simp only [Bool.and_eq_true] at h
        exact s_ite (hT _ X _ _ G h.1.1) (hSs _ X _ _ G h.1.2) (hSs _ X _ _ G h.2)
      · simp only [Bool.and_eq_true] at h
        exact s_loop G.hp G.calm (i_of hW n G h.1.1.2) (g_of G h.1.1.1) (hSs _ X _ _ G h.2) (notSet_fold h.1.2 _)
      · simp only [Bool.and_eq_true] at h
        exact s_whl G.hp (hT _ X _ _ G h.1) (hSs _ X _ _ G h.2)
      · exact s_never
      · cases h
    · unfold chkSs at h
      split at h
      · exact ss_kill (hSs _ X _ _ G h)
      · split at h
        · exact ss_nil
        · cases h
      · split at h
        · simp only [Bool.and_eq_true] at h
          exact ss_cons (hS _ X _ _ G h.1) (hSs _ X _ _ G h.2)
        · cases h
end
/-! ### defs -/
structure Glob (T : Tab) (W : Mini.World) (k : Nat) (P : Program) (w : PySem.World) (K : PySem.W.Frag) (mg : Str → Option Value) (base : Heap) : Prop where
  bl : ∀ x, x ∈ T.blts → mg x = none
  fns : ∀ (f : Nat) (x : Str) (dl : List MV), T.fns[f]? = some x → (f, dl) ∈ T.modes → ∃ a fd ps ds dvs, mg x = some (.ref a) ∧ PySem.W.keepIn K (.ref a) = true ∧ Binds K fd ps ds ∧ Vals dvs ds ∧ CVs dl dvs ∧ FnG P w K mg base k a fd ps (spD K W k f)
  kfns : ∀ (f n : Nat) (x : Str) (ks : List Str) (fl : List (Option MV)), T.fns[f]? = some x → (f, n, ks, fl) ∈ T.kmodes → ∃ a fd ps g fv, mg x = some (.ref a) ∧ PySem.W.keepIn K (.ref a) = true ∧ KBn K fd ps n ks g (fun vs zs => vs ++ fillIn fv zs) ∧
    Paired (fun (d : Option MV) (v : Option V) => match d, v with | some d, some v => CV d v | none, none => True | _, _ => False) fl fv ∧ FnG P w K mg base k a fd ps (spD K W k f)
section
variable {P : Program} {w : PySem.World} {K : PySem.W.Frag} {mg : Str → Option Value} {base : Heap} {T : Tab} {W : Mini.World} {k : Nat}
theorem callK_len {f : Nat} {ds : List MV} {st : Store} {d : Mini.MDef} (hd : W.defs[f]? = some d) {ρ : Rho} {H : Hp} {Q : VK} (h : OkE K ρ H (Mini.callK W (k + 1) f ds st) Q) : ds.length = d.np := by
  simp only [Mini.callK, hd] at h
  unfold Mini.runBody at h
  split at h
  · assumption
  · exact h.elim
theorem RVs.some_of {ρ : Rho} {H : Hp} : ∀ {ds : List MV} {vs : List V} {n : Nat}, RVs K H ρ ds vs → RE K H ρ (ds.map some ++ List.replicate n none) (vs.map some ++ List.replicate n none) := fun {ds vs n} r => by
  have hl := r.length
  refine ⟨by simp [hl], fun i v h => ?_⟩
  by_cases hi : i < ds.length
  · rw [List.getElem?_append_left (by simpa using hi)] at h
    rw [List.getElem?_map] at h
    cases e : ds[i]? with
    | none => rw [e] at h; cases h
    | some y =>
      rw [e] at h
      cases h
      obtain ⟨u, h1, h2⟩ := r.get e
      exact ⟨u, by rw [List.getElem?_append_left (by simp [← hl]; exact hi), List.getElem?_map, h1] <;> rfl, h2⟩
  · rw [List.getElem?_append_right (by simpa using hi)] at h
    rw [List.getElem?_replicate] at h
    split at h <;> cases h
/-- a def by the look -/
theorem fn_sound {fi n : Nat} {d : Mini.MDef} {st : Stmt} {x qual : Str} {N ps : List Str} {f : Addr} {fd : FuncData} (hW : W.repr = reprPy) (F : FunX K x qual st f fd) (S : FnScope N ps (defScope st)) (hd : W.defs[fi]? = some d) (hnp : d.np = ps.length) (hns : d.ns = N.length)
    (hchk : chkSs T n ⟨N, defScope st, N⟩ (defBody st) d.body = true) (G : Glob T W k P w K mg base) : FnG P w K mg base (k + 1) f fd ps (spD K W (k + 1) fi) := by
  refine fnG_of F S (fun vs H Q E h => ?_) fun cdv A outer s H vs Q E hr hgd h => ?_
  · obtain ⟨ρ, st0, ds, rs, rv, h⟩ := h
    rw [← rv.length, callK_len hd h, hnp]
  · obtain ⟨ρ, st0, ds, rs, rv, h⟩ := h
    have G2 : Good T W k ⟨N, defScope st, N⟩ (cxOf CX0 P w K mg base N qual (defScope st) f cdv A outer s H E).nox := ⟨rfl, S.nd, rfl, fun _ _ => rfl, rfl, hr, hgd, PassesOwn.never, G.bl, G.fns, G.kfns⟩
    refine ⟨_, (stmt_sound hW n).2 _ _ _ _ G2 hchk, ?_⟩
    have hl := callK_len hd h
    simp only [Mini.callK, hd] at h
    unfold Mini.runBody at h
    rw [if_pos hl] at h
    obtain ⟨c, s1, e1, h⟩ := okE_bind h
    refine ⟨ρ, ds.map some ++ List.replicate (d.ns - ds.length) none, st0, rs, ?_, ?_⟩
    · unfold L2.start
      rw [hns, rv.length]
      exact RVs.some_of rv
    · rw [e1]
      cases c with
      | next e => exact fun ρ1 σ1 H1 x1 rs1 _ => h ρ1 _ H1 x1 rs1 .non
      | ret v => exact fun ρ1 v1 H1 x1 rs1 rv1 => h ρ1 v1 H1 x1 rs1 rv1
      | brk _ => exact h.elim
      | cont _ => exact h.elim
theorem fn_zero {f : Nat} {a : Addr} {fd : FuncData} {ps : List Str} : FnG P w K mg base 0 a fd ps (spD K W 0 f) :=
  ⟨fun vs H Q E ⟨_, _, _, _, _, h⟩ => h.elim, fun A outer s H args us vs Q E hr hg e0 hb r ⟨_, _, _, _, _, h⟩ => h.elim⟩
end
end DS
end

section
set_option Elab.async false
set_option linter.all false
set_option maxRecDepth 100000
set_option maxHeartbeats 8000000
/-! DeepSound9: the law's end, where no guard runs around the law's call. -/
namespace DS
open PySem PySem.Spec PyProof.Rows L2
open Mini (MV Cell Store Out)
section
variable {W : Mini.World} {K : PySem.W.Frag}
theorem ints_rv {ρ : Rho} {H : Hp} : ∀ ns : List Int, RVs K H ρ (ns.map MV.int) (ns.map V.int)
  | [] => .nil
  | n :: r => .cons (.int n) (ints_rv r)
/-- the script as a cell that is only read -/
theorem sp_start {k fi : Nat} {H : Hp} {a : Addr} {ns : List Int} {Q : VK} {E : XK} (hO : Only H) (hS : SqL K H a (ns.map V.int)) (h : ∃ st, Mini.callK W k fi [.loc 0] [.ro (ns.map MV.int)] = .ok (.bl true) st) (q : ∀ H', Q (.bl true) H') : spD K W k fi [.ref a] H Q E := by
  obtain ⟨st, h⟩ := h
  refine ⟨[a], [.ro (ns.map MV.int)], [.loc 0], ⟨rfl, fun n c b h1 h2 => ?_, fun n m b l l' _ _ h3 _ => ?_⟩, .cons (.loc rfl) .nil, ?_⟩
  · have hn : n = 0 := by
      have := (List.getElem?_eq_some_iff.mp h1).1
      simpa using this
    subst hn
    cases h1
    cases h2
    refine ⟨ns.map V.int, ?_, ints_rv ns⟩
    rcases hS with (hS | hS) | hS
    · rcases hO a with z | ⟨o, xs, z⟩
      · rw [z] at hS; cases hS
      · rw [z] at hS; cases hS
    · exact .inl hS
    · exact .inr hS
  · have hn : n = 0 := by
      have := (List.getElem?_eq_some_iff.mp h3).1
      simpa using this
    subst hn
    cases h3
  · rw [h]
    intro ρ' v H' _ _ rv
    cases rv
    exact q H'
end
theorem callG {P : Program} {w : PySem.World} {K : PySem.W.Frag} {mg mb : Str → Option Value} {k : Nat} {fa a : Addr} {fd : FuncData} {x : Str} {sp : Sp} {s1 : Shared} {vs : List Value} {ns : List Int}
    (KX : K.In s1.heap) (hns : s1.heap.Ns mainGlobals mg) (hb : s1.heap.Ns builtinsNs mb) (hbb : ∀ x : Str, x ≠ "__name__" → mb x = bootBuiltins x) (hlim : s1.heap.NoLimit) (hg : s1.gens = #[])
    (ha : s1.heap.get? a = some { cls := .type "list", data := .seq vs.toArray }) (hi : IntsAre vs ns) (hl : ns.length ≤ sizeLine) (hr : Room k callerA)
    (F : ∀ base : Heap, K.In base → base.Ns mainGlobals mg → FnG P w K mg base k fa fd [x] sp) (hbind : ∀ (s : Shared) (u : Value), BindsTo s fd ⟨[u], []⟩ [(x, u)])
    (hsp : ∀ H : Hp, Only H → SqL K H a (ns.map V.int) → sp [.ref a] H (fun v _ => v = .bl true) fun _ _ _ => False) :
    codeAny (model P w) callerA (.call (.ref fa) ⟨[.ref a], []⟩) (fun r s' => r = .ok (.ret (.bool true)) ∧ OldK s1.heap s'.heap ∧ s'.os = s1.os ∧ AllBare s'.gens) s1 := by
  have rv := vals_ints hi
  have lenV := hi.length
  have core : ∀ H : Hp, Only H → SqL K H a (ns.map V.int) → HOk P w H s1.heap → (∀ b, H b ≠ none → b = a) → (H a ≠ none → K.lookup a = none) →
      codeAny (model P w) callerA (.call (.ref fa) ⟨[.ref a], []⟩) (fun r s' => r = .ok (.ret (.bool true)) ∧ OldK s1.heap s'.heap ∧ s'.os = s1.os ∧ AllBare s'.gens) s1 := by
    intro H hO hS hok hA hK
    have base_of : ∀ {b : Addr} {o : Obj}, s1.heap.get? b = some o → H b = none → (hidT s1.heap H).get? b = some o := fun e n => hidT_get e n
    have isA : ∀ {b : Addr} {u : HO}, H b = some u → b = a := fun {b u} q => hA b (by rw [q]; simp)
    have free : ∀ {b : Addr} {o : Obj}, s1.heap.get? b = some o → (b = a → False) → H b = none := fun {b o} e z => by
      cases q : H b with
      | none => rfl
      | some u => exact (z (isA q)).elim
    have noA : ∀ {b : Addr} {o : Obj} {es : Array DictEntry} {ep : Nat}, s1.heap.get? b = some o → o.data = .dict es ep → H b = none := fun {b o es ep} e d => free e fun z => by
      subst z
      rw [ha] at e
      cases e
      cases (show Data.seq vs.toArray _ = Data.dict es ep from d)
    have nsK : ∀ {b : Addr} {m : Str → Option Value}, s1.heap.Ns b m → (hidT s1.heap H).Ns b m := fun {b m} ⟨o, es, ep, e, d, r⟩ => ⟨o, es, ep, base_of e (noA e d), d, r⟩
    have hKb : K.In (hidT s1.heap H) := fun b o e => base_of (KX b o e) (by
      cases q : H b with
      | none => rfl
      | some u =>
        have z := isA q
        subst z
        rw [hK (by rw [q]; simp)] at e
        cases e)
    have hM : Mod K mg (hidT s1.heap H) := ⟨hKb, nsK hns, ⟨mb, nsK hb, hbb⟩, let ⟨mc, h1, h2⟩ := hlim; ⟨mc, nsK h1, h2⟩⟩
    have e0 : Env0 P w K mg (hidT s1.heap H) callerA [] s1 H := ⟨rfl, hM, fun b o e => of_hidT e, Nat.le_of_eq (hidT_size _ _), trivial, fun b hb => absurd (show b ∈ ([] : List Addr) from hb) (by simp), hok, .of_eq hg⟩
    have run := (F _ hKb (nsK hns)).run callerA [] s1 H ⟨[.ref a], []⟩ [.ref a] [.ref a] _ _ hr rfl e0 (hbind s1 (.ref a)) (.cons rfl .nil) (hsp H hO hS)
    refine codeAny_mono run fun r s' h => ?_
    match r, h with
    | .error e, h => exact h.elim
    | .ok (.ret u), h =>
      obtain ⟨v, H', os, bare, un, hok', r', q⟩ := h
      have q' : v = .bl true := q
      subst q'
      obtain rfl : u = Value.bool true := r'
      refine ⟨rfl, OldK.of_keep fun b o e => ?_, os, bare⟩
      cases q : H b with
      | none => exact un.keep b o e q (by intro z; exact absurd (show b ∈ ([] : List Addr) from z) (by simp)) (by simp)
      | some u =>
        rcases hO b with z | ⟨ob, xs, z⟩
        · rw [q] at z; cases z
        · obtain ⟨e1, _⟩ := hok b _ z
          obtain ⟨e2, _⟩ := hok' b _ (un.frzs b ob _ z)
          rw [e] at e1
          cases e1
          exact e2
  cases hk : K.lookup a with
  | some o =>
    have e := KX a o hk
    rw [ha] at e
    cases e
    exact core (fun _ => none) (fun _ => .inl rfl) (.inr ⟨_, vs.toArray, _, hk, rfl, rfl, rfl, by rw [List.size_toArray, lenV]; exact hl, by simpa using rv⟩) (fun b u z => by cases (show (none : Option HO) = some u from z)) (fun b z => absurd rfl z) fun z => absurd rfl z
  | none =>
    have hpos : ∀ b, (if b = a then some (HO.frz { cls := .type "list", data := .seq vs.toArray } (.lst (ns.map V.int))) else none) ≠ none → b = a := fun b z => by
      by_cases hb : b = a
      · exact hb
      · exact absurd (if_neg hb) z
    refine core (fun b => if b = a then some (.frz { cls := .type "list", data := .seq vs.toArray } (.lst (ns.map V.int))) else none) (fun b => ?_) (.inl (.inr ⟨{ cls := .type "list", data := .seq vs.toArray }, if_pos rfl⟩)) (fun b u z => ?_) hpos fun _ => hk
    · by_cases hb : b = a
      · exact .inr ⟨_, _, if_pos hb⟩
      · exact .inl (if_neg hb)
    · have hb := hpos b (fun y => by have := z.symm.trans y; cases this)
      have z' := (if_pos hb).symm.trans z
      cases z'
      subst hb
      exact ⟨ha, by rw [List.length_map]; exact hl, vs, _, rv, ha⟩
/-- the end: from the law's def as Mini runs it -/
theorem walkG {l : PySem.W.OpenLaw} {n k fi : Nat} {q : Program} {loose : List Str} {XP : (Str → Option Value) → Heap → Prop} {YP : PySem.World → Heap → Prop} {d : DefRec} {K : Params → PySem.W.Frag} {W : Mini.World} {x : Str}
    (hn : l.most = some n) (hn2 : n ≤ sizeLine) (hdf : d.params.defaults = []) (hr : Room k callerA) (hY : ∀ (w : PySem.World) (h : Heap), YP w h → (K w.params).In h)
    (F : ∀ (w : PySem.World) (mg : Str → Option Value) (fa : Addr) (h : Heap), (K w.params).In h → h.Ns mainGlobals mg → mg d.name = some (.ref fa) →
      ∃ fd : FuncData, (∀ (s : Shared) (u : Value), BindsTo s fd ⟨[u], []⟩ [(x, u)]) ∧ ∀ base : Heap, (K w.params).In base → base.Ns mainGlobals mg → FnG l.prog w (K w.params) mg base k fa fd [x] (spD (K w.params) W k fi))
    (hrun : ∀ ns : List Int, ns.length ≤ n → ∃ st, Mini.callK W k fi [.loc 0] [.ro (ns.map MV.int)] = .ok (.bl true) st) :
    PySem.W.WalkO q loose XP YP l.row.toRowW d [] (fun f vs => PySem.call f vs) := by
  refine Att.attach_call hn hdf fun w s0 s1 mg mb fa o pm cd doc a vs ns G Y ho hd hcd hmg hobj hints hlen hg => ?_
  have KX := hY w _ Y
  obtain ⟨fd, hb, hF⟩ := F w mg fa _ KX G.T.g hmg
  exact callG KX G.T.g G.T.b G.T.builtins G.T.nolimit hg hobj hints (Nat.le_trans hlen hn2) hr hF hb fun H hO hS => sp_start hO hS (hrun ns hlen) fun _ => rfl
end DS
end

section
set_option Elab.async false
set_option linter.all false
set_option maxRecDepth 100000
set_option maxHeartbeats 8000000
/-! DeepGlue: from what stands in the program's globals to the defs' promises, at every level of calls. -/
namespace DS
open PySem PySem.Spec PyProof.Rows L2
open Mini (MV Cell Store Out)
/-- what is known of one def -/
structure Ent (T : Tab) (W : Mini.World) (K : PySem.W.Frag) (mg : Str → Option Value) (f : Nat) (x : Str) (dl : List MV) : Prop where
  ex : ∃ (a : Addr) (fd : FuncData) (ps N : List Str) (ds : List Value) (dvs : List V) (st : Stmt) (n : Nat) (d : Mini.MDef), mg x = some (.ref a) ∧ FunX K x x st a fd ∧ Binds K fd ps ds ∧ Vals dvs ds ∧ CVs dl dvs ∧ FnScope N ps (defScope st) ∧ W.defs[f]? = some d ∧ d.np = ps.length ∧ d.ns = N.length ∧
    chkSs T n ⟨N, defScope st, N⟩ (defBody st) d.body = true
theorem ent_fn {T : Tab} {W : Mini.World} {K : PySem.W.Frag} {mg : Str → Option Value} {f : Nat} {x : Str} {dl : List MV} {P : Program} {w : PySem.World} {base : Heap} (hW : W.repr = reprPy) (E : Ent T W K mg f x dl) {k : Nat} (G : ∀ j, j < k → Glob T W j P w K mg base) :
    ∃ a fd ps ds dvs, mg x = some (.ref a) ∧ PySem.W.keepIn K (.ref a) = true ∧ Binds K fd ps ds ∧ Vals dvs ds ∧ CVs dl dvs ∧ FnG P w K mg base k a fd ps (spD K W k f) := by
  obtain ⟨a, fd, ps, N, ds, dvs, st, n, d, h1, F, hb, hv, hc, S, hd, hnp, hns, hchk⟩ := E.ex
  refine ⟨a, fd, ps, ds, dvs, h1, F.kp, hb, hv, hc, ?_⟩
  cases k with
  | zero => exact fn_zero
  | succ k => exact fn_sound hW F S hd hnp hns hchk (G k (Nat.lt_succ_self k))
def mkFv {α : Type} : List Bool → List α → List (Option α)
  | [], _ => []
  | true :: r, mv => none :: mkFv r mv
  | false :: r, v :: mv => some v :: mkFv r mv
  | false :: _, [] => []
theorem fill_vals : ∀ {pat : List Bool} {mz zs : List V} {mv ws : List Value}, Vals mz mv → Vals zs ws → Vals (fillIn (mkFv pat mz) zs) (fillIn (mkFv pat mv) ws)
  | [], _, _, _, _, _, _ => by simp only [mkFv, fillIn]; exact .nil
  | true :: r, mz, _, mv, _, a, .nil => by simp only [mkFv, fillIn]; exact .nil
  | true :: r, mz, _, mv, _, a, .cons h b => by simp only [mkFv, fillIn]; exact .cons h (fill_vals a b)
  | false :: r, _, zs, _, ws, .nil, b => by simp only [mkFv, fillIn]; exact .nil
  | false :: r, _, zs, _, ws, .cons h a, b => by simp only [mkFv, fillIn]; exact .cons h (fill_vals a b)
/-- keyword-only parameters: some written, the others filled in -/
theorem kb_of {K : PySem.W.Frag} {x qual : Str} {params : Arguments} {body : List Stmt} {scope : Scope} {kws : List (Str × V)} {f : Addr} {fd : FuncData} {ps : List Str} (F : FunD K x qual params body scope [] kws f fd) (n : Nat) (ks : List Str) (ms : List (Str × V)) (pat : List Bool) (hk : kws ≠ []) (hms : ∀ q ∈ ms, q ∈ kws)
    (h : ∀ (D : Addr) (doc pm : Value) (an : Option Addr) (cdv ct : Value) (us mv ws : List Value), us.length = n → mv.length = ms.length → ws.length = ks.length →
      KwChain D ((ms.map (·.1)).zip mv) (bindArgs (PySem.W.fnOf x qual params body scope .none (.ref D) doc pm an cdv ct) ⟨us, ks.zip ws⟩) (ps.zip (us ++ fillIn (mkFv pat mv) ws))) :
    ∃ g, KBn K fd ps n ks g (fun vs zs => vs ++ fillIn (mkFv pat (ms.map (·.2))) zs) := by
  obtain ⟨mv, hb⟩ := FunD.kbinds0 F n ks ms (fun us mv ws => us ++ fillIn (mkFv pat mv) ws) hk hms (fun a b c => a.append (fill_vals b c)) h
  exact ⟨_, hb⟩
/-- what is known of a def that keywords call -/
structure KEnt (T : Tab) (W : Mini.World) (K : PySem.W.Frag) (mg : Str → Option Value) (f n : Nat) (x : Str) (ks : List Str) (fl : List (Option MV)) : Prop where
  ex : ∃ (a : Addr) (fd : FuncData) (ps N : List Str) (g : List Value → List Value → List Value) (fv : List (Option V)) (st : Stmt) (m : Nat) (d : Mini.MDef), mg x = some (.ref a) ∧ FunX K x x st a fd ∧ KBn K fd ps n ks g (fun vs zs => vs ++ fillIn fv zs) ∧ Paired FlV fl fv ∧ FnScope N ps (defScope st) ∧ W.defs[f]? = some d ∧ d.np = ps.length ∧ d.ns = N.length ∧
    chkSs T m ⟨N, defScope st, N⟩ (defBody st) d.body = true
theorem glob_of {T : Tab} {W : Mini.World} {K : PySem.W.Frag} {mg : Str → Option Value} {P : Program} {w : PySem.World} {base : Heap} (hW : W.repr = reprPy) (hz : ∀ x, x ∈ T.blts → mg x = none)
    (hE : ∀ (f : Nat) (x : Str) (dl : List MV), T.fns[f]? = some x → (f, dl) ∈ T.modes → Ent T W K mg f x dl) (hK : ∀ (f n : Nat) (x : Str) (ks : List Str) (fl : List (Option MV)), T.fns[f]? = some x → (f, n, ks, fl) ∈ T.kmodes → KEnt T W K mg f n x ks fl) : ∀ k j, j < k → Glob T W j P w K mg base
  | 0, j, hj => absurd hj (Nat.not_lt_zero j)
  | k + 1, j, hj => by
    have ih := glob_of (P := P) (w := w) (base := base) hW hz hE hK k
    refine ⟨hz, fun f x dl h1 h2 => ent_fn hW (hE f x dl h1 h2) fun i hi => ih i (by omega), fun f n x ks fl h1 h2 => ?_⟩
    obtain ⟨a, fd, ps, N, g, fv, st, m, d, e1, F, hb, hp, S, hd, hnp, hns, hchk⟩ := (hK f n x ks fl h1 h2).ex
    refine ⟨a, fd, ps, g, fv, e1, F.kp, hb, hp, ?_⟩
    cases j with
    | zero => exact fn_zero
    | succ j => exact fn_sound hW F S hd hnp hns hchk (ih j (by omega))
end DS
end

section
set_option linter.all false
set_option maxRecDepth 100000
/-! MiniLib: lemmas about the evaluator. Core Lean only. -/
namespace Mini
theorem callK_eq {W : World} {k f : Nat} {vs : List MV} {st : Store} {d : MDef} (h : W.defs[f]? = some d) (hl : vs.length = d.np) :
    callK W (k + 1) f vs st = (evSs ⟨callK W k, W.repr, W.wf⟩ d.body (vs.map some ++ List.replicate (d.ns - vs.length) none) st).bind endC := by
  simp only [callK, h]
  unfold runBody
  rw [if_pos hl]
/-! ### stores -/
/-- all but the places in w stay -/
structure Keep (w : List Nat) (st st' : Store) : Prop where
  len : st.length ≤ st'.length
  get : ∀ (n : Nat) (c : Cell), n ∉ w → st[n]? = some c → st'[n]? = some c
theorem Keep.refl {w : List Nat} {st : Store} : Keep w st st := ⟨Nat.le_refl _, fun _ _ _ h => h⟩
theorem Keep.trans {w : List Nat} {a b c : Store} (h : Keep w a b) (g : Keep w b c) : Keep w a c := ⟨Nat.le_trans h.len g.len, fun n x hn e => g.get n x hn (h.get n x hn e)⟩
theorem Keep.weak {w : List Nat} {a b : Store} (h : Keep [] a b) : Keep w a b := ⟨h.len, fun n c _ e => h.get n c (by simp) e⟩
theorem Keep.sub {w v : List Nat} {a b : Store} (h : Keep w a b) (s : ∀ x, x ∈ w → x ∈ v) : Keep v a b := ⟨h.len, fun n c hn e => h.get n c (fun z => hn (s n z)) e⟩
theorem Keep.new {st t : Store} : Keep [] st (st ++ t) := ⟨by simp, fun n c _ e => by
  have hn : n < st.length := (List.getElem?_eq_some_iff.mp e).1
  rw [List.getElem?_append_left hn]
  exact e⟩
theorem Keep.set {st : Store} {n : Nat} {c : Cell} : Keep [n] st (st.set n c) := ⟨by simp, fun m x hm e => by
  have : n ≠ m := fun z => hm (by simp [z])
  rw [List.getElem?_set_ne this]
  exact e⟩
/-- a place that was not there before may be forgotten -/
theorem Keep.forget {w : List Nat} {n : Nat} {a b : Store} (h : Keep (n :: w) a b) (hn : a.length ≤ n) : Keep w a b := ⟨h.len, fun m c hm e => by
  have h2 : m < a.length := (List.getElem?_eq_some_iff.mp e).1
  exact h.get m c (by simp only [List.mem_cons, not_or]; exact ⟨by omega, hm⟩) e⟩
theorem lt_of_get {st : Store} {n : Nat} {c : Cell} (h : st[n]? = some c) : n < st.length := (List.getElem?_eq_some_iff.mp h).1
theorem get_new {st : Store} {c : Cell} : (st ++ [c])[st.length]? = some c := by simp
theorem get_set {st : Store} {n : Nat} {c d : Cell} (h : st[n]? = some d) : (st.set n c)[n]? = some c := by
  rw [List.getElem?_set_self (lt_of_get h)]
theorem getL_lst {st : Store} {n : Nat} {l : List MV} (h : st[n]? = some (.lst l)) : getL st n = some l := by simp [getL, h]
theorem getL_ro {st : Store} {n : Nat} {l : List MV} (h : st[n]? = some (.ro l)) : getL st n = some l := by simp [getL, h]
/-! ### loops -/
theorem forLoop_go {J : Iter} {turn : MV → Env → Store → Out Ctl} {l : List MV} (P : Nat → Env → Store → Prop) (hg : ∀ i env st, P i env st → i < l.length → J.get st i = l[i]?) (hs : ∀ env st, P l.length env st → J.stop st l.length = true)
    (ht : ∀ i x env st, l[i]? = some x → P i env st → ∃ env' st', turn x env st = .ok (.next env') st' ∧ P (i + 1) env' st') :
    ∀ (n i : Nat) (env : Env) (st : Store), i + n = l.length → P i env st → ∃ env' st', forLoop J turn n i env st = .ok (.next env') st' ∧ P l.length env' st'
  | 0, i, env, st, hn, h => by
    have e : i = l.length := by omega
    subst e
    exact ⟨env, st, by simp [forLoop, hs env st h], h⟩
  | n + 1, i, env, st, hn, h => by
    have hi : i < l.length := by omega
    have hx : l[i]? = some l[i] := List.getElem?_eq_getElem hi
    obtain ⟨env1, st1, h1, h2⟩ := ht i l[i] env st hx h
    obtain ⟨env2, st2, h3, h4⟩ := forLoop_go P hg hs ht n (i + 1) env1 st1 (by omega) h2
    refine ⟨env2, st2, ?_, h4⟩
    simp only [forLoop, hg i env st h hi, hx, h1, Out.bind_ok, h3]
/-- over range(lo, lo + n) -/
def rngL (lo c : Int) (n : Nat) : List MV := (List.range n).map fun (i : Nat) => MV.int (lo + (i : Int) * c)
theorem forLoop_rng {lo c : Int} {n : Nat} {turn : MV → Env → Store → Out Ctl} (P : Nat → Env → Store → Prop) (ht : ∀ i env st, i < n → P i env st → ∃ env' st', turn (.int (lo + (i : Int) * c)) env st = .ok (.next env') st' ∧ P (i + 1) env' st')
    {env : Env} {st : Store} (h : P 0 env st) : ∃ env' st', forLoop (.rng lo c n) turn n 0 env st = .ok (.next env') st' ∧ P n env' st' := by
  have hl : (rngL lo c n).length = n := by simp [rngL]
  have := forLoop_go (J := .rng lo c n) (turn := turn) (l := rngL lo c n) P (fun i env st _ hi => by
      rw [hl] at hi
      simp [Iter.get, rngL, hi]) (fun env st _ => by simp [Iter.stop, hl]) (fun i x env st hx hp => by
      have hi : i < n := by rw [← hl]; exact (List.getElem?_eq_some_iff.mp hx).1
      have e : x = .int (lo + (i : Int) * c) := by
        simp [rngL, hi] at hx
        exact hx.symm
      rw [e]
      exact ht i env st hi hp) n 0 env st (by omega) h
  rw [hl] at this
  exact this
theorem forLoop_lst {m : Nat} {l : List MV} {turn : MV → Env → Store → Out Ctl} (P : Nat → Env → Store → Prop) (hl : ∀ i env st, P i env st → getL st m = some l) (ht : ∀ i x env st, l[i]? = some x → P i env st → ∃ env' st', turn x env st = .ok (.next env') st' ∧ P (i + 1) env' st')
    {env : Env} {st : Store} (h : P 0 env st) : ∃ env' st', forLoop (.lst m) turn l.length 0 env st = .ok (.next env') st' ∧ P l.length env' st' :=
  forLoop_go (J := .lst m) P (fun i env st hp _ => by simp [Iter.get, hl i env st hp]) (fun env st hp => by simp [Iter.stop, hl _ env st hp]) ht l.length 0 env st (by omega) h
theorem forLoop_itm {l : List MV} {turn : MV → Env → Store → Out Ctl} (P : Nat → Env → Store → Prop) (ht : ∀ i x env st, l[i]? = some x → P i env st → ∃ env' st', turn x env st = .ok (.next env') st' ∧ P (i + 1) env' st')
    {env : Env} {st : Store} (h : P 0 env st) : ∃ env' st', forLoop (.itm l) turn l.length 0 env st = .ok (.next env') st' ∧ P l.length env' st' :=
  forLoop_go (J := .itm l) P (fun i env st hp _ => rfl) (fun env st hp => by simp [Iter.stop]) ht l.length 0 env st (by omega) h
/-! ### comprehensions -/
theorem lcLoop_go {J : Iter} {D : Nat} {turn : MV → Store → Out (Option MV)} {l : List MV} (P : Nat → List MV → Store → Prop) (hg : ∀ i acc st, P i acc st → i < l.length → J.get st i = l[i]?) (hs : ∀ acc st, P l.length acc st → J.stop st l.length = true)
    (ht : ∀ i x acc st, l[i]? = some x → st[D]? = some (.lst acc) → P i acc st → ∃ r st', turn x st = .ok r st' ∧ st'[D]? = some (.lst acc) ∧ acc.length < sizeMax ∧ (match r with
      | none => P (i + 1) acc st'
      | some y => P (i + 1) (acc ++ [y]) (st'.set D (.lst (acc ++ [y]))))) :
    ∀ (n i : Nat) (acc : List MV) (st : Store), i + n = l.length → st[D]? = some (.lst acc) → P i acc st → ∃ acc' st', lcLoop J D turn n i st = .ok (.loc D) st' ∧ st'[D]? = some (.lst acc') ∧ P l.length acc' st'
  | 0, i, acc, st, hn, hD, h => by
    have e : i = l.length := by omega
    subst e
    exact ⟨acc, st, by simp [lcLoop, hs acc st h], hD, h⟩
  | n + 1, i, acc, st, hn, hD, h => by
    have hi : i < l.length := by omega
    have hx : l[i]? = some l[i] := List.getElem?_eq_getElem hi
    obtain ⟨r, st1, h1, h2, h3, h4⟩ := ht i l[i] acc st hx hD h
    cases r with
    | none =>
      obtain ⟨acc2, st2, g1, g2, g3⟩ := lcLoop_go P hg hs ht n (i + 1) acc st1 (by omega) h2 h4
      exact ⟨acc2, st2, by simp only [lcLoop, hg i acc st h hi, hx, h1, Out.bind_ok, g1], g2, g3⟩
    | some y =>
      obtain ⟨acc2, st2, g1, g2, g3⟩ := lcLoop_go P hg hs ht n (i + 1) (acc ++ [y]) (st1.set D (.lst (acc ++ [y]))) (by omega) (get_set h2) h4
      exact ⟨acc2, st2, by simp only [lcLoop, hg i acc st h hi, hx, h1, Out.bind_ok, appendTo, h2, if_pos h3, g1], g2, g3⟩
theorem lcRun_go {J : Iter} {turn : MV → Store → Out (Option MV)} {l : List MV} {st : Store} (hc : J.cnt st = l.length) (P : Nat → List MV → Store → Prop) (hg : ∀ i acc s, P i acc s → i < l.length → J.get s i = l[i]?) (hs : ∀ acc s, P l.length acc s → J.stop s l.length = true)
    (ht : ∀ i x acc s, l[i]? = some x → s[st.length]? = some (.lst acc) → P i acc s → ∃ r s', turn x s = .ok r s' ∧ s'[st.length]? = some (.lst acc) ∧ acc.length < sizeMax ∧ (match r with
      | none => P (i + 1) acc s'
      | some y => P (i + 1) (acc ++ [y]) (s'.set st.length (.lst (acc ++ [y]))))) (h : P 0 [] (st ++ [.lst []])) :
    ∃ acc' st', lcRun J turn st = .ok (.loc st.length) st' ∧ st'[st.length]? = some (.lst acc') ∧ P l.length acc' st' := by
  unfold lcRun
  rw [hc]
  exact lcLoop_go P hg hs ht l.length 0 [] _ (by omega) get_new h
/-! ### numbers -/
theorem log2_lt {n k : Nat} (h : n < 2 ^ k) (hk : 0 < k) : n.log2 < k := by
  by_cases h0 : n = 0
  · subst h0
    simpa using hk
  · exact (Nat.log2_lt h0).mpr h
theorem mulOk {i j : Int} {a b : Nat} (hi : i.natAbs < 2 ^ a) (hj : j.natAbs < 2 ^ b) (ha : 0 < a) (hb : 0 < b) (h : a + b ≤ 1000000) : i.natAbs.log2 + j.natAbs.log2 < 1000000 := by
  have h1 := log2_lt hi ha
  have h2 := log2_lt hj hb
  omega
end Mini
end

section
set_option linter.all false
set_option maxRecDepth 100000
/-! MiniRun: one step of the evaluator as an equation; what is still to come stands as a named constant, so simp never goes under it. -/
namespace Mini
/-- what stands at a place (a name, so that simp's list lemmas leave it alone) -/
def cel (st : Store) (n : Nat) : Option Cell := st[n]?
theorem cel_set (st : Store) (n : Nat) (c : Cell) (h : n < st.length) : cel (st.set n c) n = some c := List.getElem?_set_self h
theorem cel_set_ne (st : Store) (n m : Nat) (c : Cell) (h : n ≠ m) : cel (st.set n c) m = cel st m := List.getElem?_set_ne h
theorem cel_old (st t : Store) (n : Nat) (h : n < st.length) : cel (st ++ t) n = cel st n := List.getElem?_append_left h
@[simp] theorem cel_new (st t : Store) : cel (st ++ t) st.length = t[0]? := by
  unfold cel
  rw [List.getElem?_append_right (Nat.le_refl _), Nat.sub_self]
@[simp] theorem cel_new1 (st t : Store) (i : Nat) : cel (st ++ t) (st.length + i) = t[i]? := by
  unfold cel
  rw [List.getElem?_append_right (by omega)]
  congr 1
  omega
theorem cel_lt {st : Store} {n : Nat} {c : Cell} (h : cel st n = some c) : n < st.length := (List.getElem?_eq_some_iff.mp h).1
theorem cel_keep {w : List Nat} {st st' : Store} (k : Keep w st st') {n : Nat} {c : Cell} (h : cel st n = some c) (hn : n ∉ w) : cel st' n = some c := k.get n c hn h
def vr : Option (Option MV) → Store → Out MV
  | some (some v), st => .ok v st
  | _, _ => .bad
@[simp] theorem vr_some (v : MV) (st : Store) : vr (some (some v)) st = .ok v st := nr rfl
@[simp] theorem r_var (C : Cx) (i : Nat) (env : Env) (st : Store) : evE C (.var i) env st = vr env[i]? st := by
  simp only [evE]
  rcases env[i]? with _ | _ | v <;> rfl
@[simp] theorem r_con (C : Cx) (v : MV) (env : Env) (st : Store) : evE C (.con v) env st = .ok v st := by simp only [evE]
def kO1 (C : Cx) (o : Op2) (b : ME) (env : Env) (x : MV) (s1 : Store) : Out MV := (evE C b env s1).bind fun y s2 => op2 o x y s2
def kO2 (o : Op2) (x y : MV) (s : Store) : Out MV := op2 o x y s
@[simp] theorem r_op2 (C : Cx) (o : Op2) (a b : ME) (env : Env) (st : Store) : evE C (.op2 o a b) env st = (evE C a env st).bind (kO1 C o b env) := by simp only [evE]; rfl
@[simp] theorem q_o1 (C : Cx) (o : Op2) (b : ME) (env : Env) (x : MV) (s : Store) : kO1 C o b env x s = (evE C b env s).bind (kO2 o x) := nr rfl
@[simp] theorem q_o2 (o : Op2) (x y : MV) (s : Store) : kO2 o x y s = op2 o x y s := nr rfl
def kAnd (C : Cx) (b : ME) (env : Env) (x : MV) (s1 : Store) : Out MV := (asB x s1).bind fun c s2 => if c then evE C b env s2 else .ok (.bl false) s2
def kOr (C : Cx) (b : ME) (env : Env) (x : MV) (s1 : Store) : Out MV := (asB x s1).bind fun c s2 => if c then .ok (.bl true) s2 else evE C b env s2
@[simp] theorem r_and (C : Cx) (a b : ME) (env : Env) (st : Store) : evE C (.and a b) env st = (evE C a env st).bind (kAnd C b env) := by simp only [evE]; rfl
@[simp] theorem r_or (C : Cx) (a b : ME) (env : Env) (st : Store) : evE C (.or a b) env st = (evE C a env st).bind (kOr C b env) := by simp only [evE]; rfl
@[simp] theorem q_and (C : Cx) (b : ME) (env : Env) (c : Bool) (s : Store) : kAnd C b env (.bl c) s = if c = true then evE C b env s else .ok (.bl false) s := nr rfl
@[simp] theorem q_or (C : Cx) (b : ME) (env : Env) (c : Bool) (s : Store) : kOr C b env (.bl c) s = if c = true then .ok (.bl true) s else evE C b env s := nr rfl
def kNot (x : MV) (s1 : Store) : Out MV := (truth s1 x).bind fun b s2 => .ok (.bl (!b)) s2
def kNot2 (b : Bool) (s2 : Store) : Out MV := .ok (.bl (!b)) s2
@[simp] theorem r_nt (C : Cx) (a : ME) (env : Env) (st : Store) : evE C (.nt a) env st = (evE C a env st).bind kNot := by simp only [evE]; rfl
@[simp] theorem q_not (x : MV) (s : Store) : kNot x s = (truth s x).bind kNot2 := nr rfl
@[simp] theorem q_not2 (b : Bool) (s : Store) : kNot2 b s = .ok (.bl (!b)) s := nr rfl
def kC1 (C : Cx) (o p : Op2) (b c : ME) (env : Env) (x : MV) (s1 : Store) : Out MV := (evE C b env s1).bind fun y s2 => (op2 o x y s2).bind fun z s3 => (asB z s3).bind fun k s4 =>
      if k then (evE C c env s4).bind fun w s5 => op2 p y w s5 else .ok (.bl false) s4
def kC2 (C : Cx) (o p : Op2) (c : ME) (env : Env) (x y : MV) (s2 : Store) : Out MV := (op2 o x y s2).bind fun z s3 => (asB z s3).bind fun k s4 =>
      if k then (evE C c env s4).bind fun w s5 => op2 p y w s5 else .ok (.bl false) s4
def kC3 (C : Cx) (p : Op2) (c : ME) (env : Env) (y z : MV) (s3 : Store) : Out MV := (asB z s3).bind fun k s4 =>
      if k then (evE C c env s4).bind fun w s5 => op2 p y w s5 else .ok (.bl false) s4
@[simp] theorem r_chain (C : Cx) (o p : Op2) (a b c : ME) (env : Env) (st : Store) : evE C (.chain o p a b c) env st = (evE C a env st).bind (kC1 C o p b c env) := by simp only [evE]; rfl
@[simp] theorem q_c1 (C : Cx) (o p : Op2) (b c : ME) (env : Env) (x : MV) (s : Store) : kC1 C o p b c env x s = (evE C b env s).bind (kC2 C o p c env x) := nr rfl
@[simp] theorem q_c2 (C : Cx) (o p : Op2) (c : ME) (env : Env) (x y : MV) (s : Store) : kC2 C o p c env x y s = (op2 o x y s).bind (kC3 C p c env y) := nr rfl
@[simp] theorem q_c3 (C : Cx) (p : Op2) (c : ME) (env : Env) (y : MV) (b : Bool) (s : Store) : kC3 C p c env y (.bl b) s = if b = true then (evE C c env s).bind (kO2 p y) else .ok (.bl false) s := nr rfl
def kIte (C : Cx) (a b : ME) (env : Env) (k : Bool) (s1 : Store) : Out MV := if k then evE C a env s1 else evE C b env s1
@[simp] theorem r_ite (C : Cx) (c a b : ME) (env : Env) (st : Store) : evE C (.ite c a b) env st = (tst C c env st).bind (kIte C a b env) := by simp only [evE]; rfl
@[simp] theorem q_ite (C : Cx) (a b : ME) (env : Env) (k : Bool) (s : Store) : kIte C a b env k s = if k = true then evE C a env s else evE C b env s := nr rfl
def kTup (vs : List MV) (s1 : Store) : Out MV := if vs.length ≤ 1000 then .ok (.tup vs) s1 else .bad
@[simp] theorem r_tup (C : Cx) (l : List ME) (env : Env) (st : Store) : evE C (.tup l) env st = (evEs C l env st).bind kTup := by simp only [evE]; rfl
@[simp] theorem q_tup (vs : List MV) (s : Store) : kTup vs s = if vs.length ≤ 1000 then .ok (.tup vs) s else .bad := nr rfl
def kLst (vs : List MV) (s1 : Store) : Out MV := newL vs s1
@[simp] theorem r_lst (C : Cx) (l : List ME) (env : Env) (st : Store) : evE C (.lst l) env st = (evEs C l env st).bind kLst := by simp only [evE]; rfl
@[simp] theorem q_lst (vs : List MV) (s : Store) : kLst vs s = newL vs s := nr rfl
theorem newL_ok {l : List MV} {st : Store} (h : l.length ≤ 16000000) : newL l st = .ok (.loc st.length) (st ++ [.lst l]) := if_pos h
def kCall (C : Cx) (f : Nat) (vs : List MV) (s1 : Store) : Out MV := C.call f vs s1
@[simp] theorem r_call (C : Cx) (f : Nat) (l : List ME) (env : Env) (st : Store) : evE C (.call f l) env st = (evEs C l env st).bind (kCall C f) := by simp only [evE]; rfl
@[simp] theorem q_call (C : Cx) (f : Nat) (vs : List MV) (s : Store) : kCall C f vs s = C.call f vs s := nr rfl
def kPrim (C : Cx) (p : Prim) (vs : List MV) (s1 : Store) : Out MV := prim C p vs s1
@[simp] theorem r_prim (C : Cx) (p : Prim) (l : List ME) (env : Env) (st : Store) : evE C (.prim p l) env st = (evEs C l env st).bind (kPrim C p) := by simp only [evE]; rfl
@[simp] theorem q_prim (C : Cx) (p : Prim) (vs : List MV) (s : Store) : kPrim C p vs s = prim C p vs s := nr rfl
def kM1 (C : Cx) (m : Mth) (l : List ME) (env : Env) (x : MV) (s1 : Store) : Out MV := (evEs C l env s1).bind fun vs s2 => meth m x vs s2
def kM2 (m : Mth) (x : MV) (vs : List MV) (s2 : Store) : Out MV := meth m x vs s2
@[simp] theorem r_meth (C : Cx) (m : Mth) (o : ME) (l : List ME) (env : Env) (st : Store) : evE C (.meth m o l) env st = (evE C o env st).bind (kM1 C m l env) := by simp only [evE]; rfl
@[simp] theorem q_m1 (C : Cx) (m : Mth) (l : List ME) (env : Env) (x : MV) (s : Store) : kM1 C m l env x s = (evEs C l env s).bind (kM2 m x) := nr rfl
@[simp] theorem q_m2 (m : Mth) (x : MV) (vs : List MV) (s : Store) : kM2 m x vs s = meth m x vs s := nr rfl
@[simp] theorem m_append (n : Nat) (y : MV) (s : Store) : meth .append (.loc n) [y] s = appendTo n y s := nr rfl
def appV : Option Cell → Nat → MV → Store → Out MV
  | some (.lst l), n, y, st => if l.length < sizeMax then .ok .non (st.set n (.lst (l ++ [y]))) else .bad
  | _, _, _, _ => .bad
@[simp] theorem appendTo_eq (n : Nat) (y : MV) (s : Store) : appendTo n y s = appV (cel s n) n y s := by
  unfold appendTo cel
  rcases s[n]? with _ | _ | _ <;> rfl
theorem appV_ok {l : List MV} {n : Nat} {y : MV} {st : Store} (h : l.length < 16000000) : appV (some (.lst l)) n y st = .ok .non (st.set n (.lst (l ++ [y]))) := if_pos h
def kRev (x : MV) (s1 : Store) : Out MV := match x with
      | .loc n => match getL s1 n with
        | some l => .ok (.loc s1.length) (s1 ++ [.lst l.reverse])
        | none => .bad
      | _ => .bad
@[simp] theorem r_rev (C : Cx) (a : ME) (env : Env) (st : Store) : evE C (.rev a) env st = (evE C a env st).bind kRev := by simp only [evE]; rfl
theorem q_rev {n : Nat} {s : Store} {l : List MV} (h : getL s n = some l) : kRev (.loc n) s = .ok (.loc s.length) (s ++ [.lst l.reverse]) := by simp [kRev, h]
def kSl1 (C : Cx) (fl fh : Bool) (lo hi : ME) (env : Env) (x : MV) (s1 : Store) : Out MV := (evE C lo env s1).bind fun y s2 => (evE C hi env s2).bind fun z s3 => slice fl fh x y z s3
def kSl2 (C : Cx) (fl fh : Bool) (hi : ME) (env : Env) (x y : MV) (s2 : Store) : Out MV := (evE C hi env s2).bind fun z s3 => slice fl fh x y z s3
def kSl3 (fl fh : Bool) (x y z : MV) (s3 : Store) : Out MV := slice fl fh x y z s3
@[simp] theorem r_sl (C : Cx) (fl fh : Bool) (a lo hi : ME) (env : Env) (st : Store) : evE C (.sl fl fh a lo hi) env st = (evE C a env st).bind (kSl1 C fl fh lo hi env) := by simp only [evE]; rfl
@[simp] theorem q_sl1 (C : Cx) (fl fh : Bool) (lo hi : ME) (env : Env) (x : MV) (s : Store) : kSl1 C fl fh lo hi env x s = (evE C lo env s).bind (kSl2 C fl fh hi env x) := nr rfl
@[simp] theorem q_sl2 (C : Cx) (fl fh : Bool) (hi : ME) (env : Env) (x y : MV) (s : Store) : kSl2 C fl fh hi env x y s = (evE C hi env s).bind (kSl3 fl fh x y) := nr rfl
@[simp] theorem q_sl3 (fl fh : Bool) (x y z : MV) (s : Store) : kSl3 fl fh x y z s = slice fl fh x y z s := nr rfl
/-! ### comprehensions -/
def kLcE (y : MV) (s4 : Store) : Out (Option MV) := .ok (some y) s4
def kLcT (C : Cx) (e : ME) (env2 : Env) (b : Bool) (s3 : Store) : Out (Option MV) := if b then (evE C e env2 s3).bind kLcE else .ok none s3
def lcTurn (C : Cx) (g : MG) (cs : List ME) (e : ME) (env : Env) (v : MV) (s : Store) : Out (Option MV) := match setG g v env with
      | none => .bad
      | some env2 => (tsts C cs env2 s).bind (kLcT C e env2)
def kLcS (C : Cx) (g : MG) (cs : List ME) (e : ME) (env : Env) (x : MV) (s1 : Store) : Out MV := (mkSeq x s1).bind fun J s2 => lcRun J (lcTurn C g cs e env) s2
def kLcJ (C : Cx) (g : MG) (cs : List ME) (e : ME) (env : Env) (J : Iter) (s2 : Store) : Out MV := lcRun J (lcTurn C g cs e env) s2
def kLcR (C : Cx) (g : MG) (cs : List ME) (e : ME) (env : Env) (x : MV) (s1 : Store) : Out MV := (mkR1 x s1).bind fun J s2 => lcRun J (lcTurn C g cs e env) s2
def kLcQ (C : Cx) (b : ME) (g : MG) (cs : List ME) (e : ME) (env : Env) (x : MV) (s0 : Store) : Out MV := (evE C b env s0).bind fun y s1 => (mkR2 x y s1).bind fun J s2 => lcRun J (lcTurn C g cs e env) s2
def kLcQ2 (C : Cx) (g : MG) (cs : List ME) (e : ME) (env : Env) (x y : MV) (s1 : Store) : Out MV := (mkR2 x y s1).bind fun J s2 => lcRun J (lcTurn C g cs e env) s2
theorem lcTurn_ok {C : Cx} {g : MG} {cs : List ME} {e : ME} {env env2 : Env} {v : MV} {s : Store} (h : setG g v env = some env2) : lcTurn C g cs e env v s = (tsts C cs env2 s).bind (kLcT C e env2) := by simp only [lcTurn, h]
@[simp] theorem lcTurn_nm (C : Cx) (i : Nat) (cs : List ME) (e : ME) (env : Env) (v : MV) (s : Store) : lcTurn C (.nm i) cs e env v s = (tsts C cs (env.set i (some v)) s).bind (kLcT C e (env.set i (some v))) := nr rfl
@[simp] theorem r_lcS (C : Cx) (g : MG) (it : ME) (cs : List ME) (e : ME) (env : Env) (st : Store) : evE C (.lcS g it cs e) env st = (evE C it env st).bind (kLcS C g cs e env) := by simp only [evE]; rfl
@[simp] theorem r_lcR1 (C : Cx) (g : MG) (n : ME) (cs : List ME) (e : ME) (env : Env) (st : Store) : evE C (.lcR1 g n cs e) env st = (evE C n env st).bind (kLcR C g cs e env) := by simp only [evE]; rfl
@[simp] theorem r_lcR2 (C : Cx) (g : MG) (a b : ME) (cs : List ME) (e : ME) (env : Env) (st : Store) : evE C (.lcR2 g a b cs e) env st = (evE C a env st).bind (kLcQ C b g cs e env) := by simp only [evE]; rfl
@[simp] theorem q_lcS (C : Cx) (g : MG) (cs : List ME) (e : ME) (env : Env) (x : MV) (s : Store) : kLcS C g cs e env x s = (mkSeq x s).bind (kLcJ C g cs e env) := nr rfl
@[simp] theorem q_lcR (C : Cx) (g : MG) (cs : List ME) (e : ME) (env : Env) (x : MV) (s : Store) : kLcR C g cs e env x s = (mkR1 x s).bind (kLcJ C g cs e env) := nr rfl
@[simp] theorem q_lcQ (C : Cx) (b : ME) (g : MG) (cs : List ME) (e : ME) (env : Env) (x : MV) (s : Store) : kLcQ C b g cs e env x s = (evE C b env s).bind (kLcQ2 C g cs e env x) := nr rfl
@[simp] theorem q_lcQ2 (C : Cx) (g : MG) (cs : List ME) (e : ME) (env : Env) (x y : MV) (s : Store) : kLcQ2 C g cs e env x y s = (mkR2 x y s).bind (kLcJ C g cs e env) := nr rfl
@[simp] theorem q_lcJ (C : Cx) (g : MG) (cs : List ME) (e : ME) (env : Env) (J : Iter) (s : Store) : kLcJ C g cs e env J s = lcRun J (lcTurn C g cs e env) s := nr rfl
@[simp] theorem q_lcT (C : Cx) (e : ME) (env : Env) (b : Bool) (s : Store) : kLcT C e env b s = if b = true then (evE C e env s).bind kLcE else .ok none s := nr rfl
@[simp] theorem q_lcE (y : MV) (s : Store) : kLcE y s = .ok (some y) s := nr rfl
/-! ### lists of expressions -/
def kEs (C : Cx) (l : List ME) (env : Env) (x : MV) (s1 : Store) : Out (List MV) := (evEs C l env s1).bind fun xs s2 => .ok (x :: xs) s2
def kEs2 (x : MV) (xs : List MV) (s2 : Store) : Out (List MV) := .ok (x :: xs) s2
@[simp] theorem r_es0 (C : Cx) (env : Env) (st : Store) : evEs C [] env st = .ok [] st := by simp only [evEs]
@[simp] theorem r_es (C : Cx) (a : ME) (l : List ME) (env : Env) (st : Store) : evEs C (a :: l) env st = (evE C a env st).bind (kEs C l env) := by simp only [evEs]; rfl
@[simp] theorem q_es (C : Cx) (l : List ME) (env : Env) (x : MV) (s : Store) : kEs C l env x s = (evEs C l env s).bind (kEs2 x) := nr rfl
@[simp] theorem q_es2 (x : MV) (xs : List MV) (s : Store) : kEs2 x xs s = .ok (x :: xs) s := nr rfl
/-! ### tests -/
def kTAnd (C : Cx) (b : ME) (env : Env) (k : Bool) (s1 : Store) : Out Bool := if k then tst C b env s1 else .ok false s1
def kTOr (C : Cx) (b : ME) (env : Env) (k : Bool) (s1 : Store) : Out Bool := if k then .ok true s1 else tst C b env s1
def kTNot (k : Bool) (s1 : Store) : Out Bool := .ok (!k) s1
def kTr (z : MV) (s3 : Store) : Out Bool := truth s3 z
@[simp] theorem t_and (C : Cx) (a b : ME) (env : Env) (st : Store) : tst C (.and a b) env st = (tst C a env st).bind (kTAnd C b env) := by simp only [tst]; rfl
@[simp] theorem t_or (C : Cx) (a b : ME) (env : Env) (st : Store) : tst C (.or a b) env st = (tst C a env st).bind (kTOr C b env) := by simp only [tst]; rfl
@[simp] theorem t_nt (C : Cx) (a : ME) (env : Env) (st : Store) : tst C (.nt a) env st = (tst C a env st).bind kTNot := by simp only [tst]; rfl
@[simp] theorem q_tand (C : Cx) (b : ME) (env : Env) (k : Bool) (s : Store) : kTAnd C b env k s = if k = true then tst C b env s else .ok false s := nr rfl
@[simp] theorem q_tor (C : Cx) (b : ME) (env : Env) (k : Bool) (s : Store) : kTOr C b env k s = if k = true then .ok true s else tst C b env s := nr rfl
@[simp] theorem q_tnot (k : Bool) (s : Store) : kTNot k s = .ok (!k) s := nr rfl
@[simp] theorem q_tr (z : MV) (s : Store) : kTr z s = truth s z := nr rfl
def kTO1 (C : Cx) (o : Op2) (b : ME) (env : Env) (x : MV) (s1 : Store) : Out Bool := (evE C b env s1).bind fun y s2 => (op2 o x y s2).bind fun z s3 => truth s3 z
def kTO2 (o : Op2) (x y : MV) (s2 : Store) : Out Bool := (op2 o x y s2).bind fun z s3 => truth s3 z
@[simp] theorem t_op2 (C : Cx) (o : Op2) (a b : ME) (env : Env) (st : Store) : tst C (.op2 o a b) env st = (evE C a env st).bind (kTO1 C o b env) := by simp only [tst]; rfl
@[simp] theorem q_to1 (C : Cx) (o : Op2) (b : ME) (env : Env) (x : MV) (s : Store) : kTO1 C o b env x s = (evE C b env s).bind (kTO2 o x) := nr rfl
@[simp] theorem q_to2 (o : Op2) (x y : MV) (s : Store) : kTO2 o x y s = (op2 o x y s).bind kTr := nr rfl
def kTC1 (C : Cx) (o p : Op2) (b c : ME) (env : Env) (x : MV) (s1 : Store) : Out Bool := (evE C b env s1).bind fun y s2 => (op2 o x y s2).bind fun z s3 => (asB z s3).bind fun k s4 =>
      if k then (evE C c env s4).bind fun w s5 => (op2 p y w s5).bind fun u s6 => asB u s6 else .ok false s4
def kTC2 (C : Cx) (o p : Op2) (c : ME) (env : Env) (x y : MV) (s2 : Store) : Out Bool := (op2 o x y s2).bind fun z s3 => (asB z s3).bind fun k s4 =>
      if k then (evE C c env s4).bind fun w s5 => (op2 p y w s5).bind fun u s6 => asB u s6 else .ok false s4
def kAsB (z : MV) (s : Store) : Out Bool := asB z s
def kTC3 (C : Cx) (p : Op2) (c : ME) (env : Env) (y z : MV) (s3 : Store) : Out Bool := (asB z s3).bind fun k s4 =>
      if k then (evE C c env s4).bind fun w s5 => (op2 p y w s5).bind fun u s6 => asB u s6 else .ok false s4
def kTC4 (p : Op2) (y w : MV) (s5 : Store) : Out Bool := (op2 p y w s5).bind fun u s6 => asB u s6
@[simp] theorem t_chain (C : Cx) (o p : Op2) (a b c : ME) (env : Env) (st : Store) : tst C (.chain o p a b c) env st = (evE C a env st).bind (kTC1 C o p b c env) := by simp only [tst]; rfl
@[simp] theorem q_tc1 (C : Cx) (o p : Op2) (b c : ME) (env : Env) (x : MV) (s : Store) : kTC1 C o p b c env x s = (evE C b env s).bind (kTC2 C o p c env x) := nr rfl
@[simp] theorem q_tc2 (C : Cx) (o p : Op2) (c : ME) (env : Env) (x y : MV) (s : Store) : kTC2 C o p c env x y s = (op2 o x y s).bind (kTC3 C p c env y) := nr rfl
@[simp] theorem q_tc3 (C : Cx) (p : Op2) (c : ME) (env : Env) (y : MV) (b : Bool) (s : Store) : kTC3 C p c env y (.bl b) s = if b = true then (evE C c env s).bind (kTC4 p y) else .ok false s := nr rfl
@[simp] theorem q_tc4 (p : Op2) (y w : MV) (s : Store) : kTC4 p y w s = (op2 p y w s).bind kAsB := nr rfl
@[simp] theorem q_asb (b : Bool) (s : Store) : kAsB (.bl b) s = .ok b s := nr rfl
def vt : Option (Option MV) → Store → Out Bool
  | some (some v), st => truth st v
  | _, _ => .bad
@[simp] theorem vt_some (v : MV) (st : Store) : vt (some (some v)) st = truth st v := nr rfl
@[simp] theorem t_var (C : Cx) (i : Nat) (env : Env) (st : Store) : tst C (.var i) env st = vt env[i]? st := by
  simp only [tst]
  rcases env[i]? with _ | _ | v <;> rfl
def kTCall (C : Cx) (f : Nat) (vs : List MV) (s1 : Store) : Out Bool := (C.call f vs s1).bind fun z s2 => truth s2 z
@[simp] theorem t_call (C : Cx) (f : Nat) (l : List ME) (env : Env) (st : Store) : tst C (.call f l) env st = (evEs C l env st).bind (kTCall C f) := by simp only [tst]; rfl
@[simp] theorem q_tcall (C : Cx) (f : Nat) (vs : List MV) (s : Store) : kTCall C f vs s = (C.call f vs s).bind kTr := nr rfl
def kTPrim (C : Cx) (p : Prim) (vs : List MV) (s1 : Store) : Out Bool := (prim C p vs s1).bind fun z s2 => truth s2 z
@[simp] theorem t_prim (C : Cx) (p : Prim) (l : List ME) (env : Env) (st : Store) : tst C (.prim p l) env st = (evEs C l env st).bind (kTPrim C p) := by simp only [tst]; rfl
@[simp] theorem q_tprim (C : Cx) (p : Prim) (vs : List MV) (s : Store) : kTPrim C p vs s = (prim C p vs s).bind kTr := nr rfl
@[simp] theorem t_s0 (C : Cx) (env : Env) (st : Store) : tsts C [] env st = .ok true st := by simp only [tsts]
@[simp] theorem t_s1 (C : Cx) (c : ME) (env : Env) (st : Store) : tsts C [c] env st = tst C c env st := by simp only [tsts]
/-! ### values -/
@[simp] theorem u_non (st : Store) : truth st .non = .ok false st := nr rfl
@[simp] theorem u_bl (b : Bool) (st : Store) : truth st (.bl b) = .ok b st := nr rfl
@[simp] theorem u_int (i : Int) (st : Store) : truth st (.int i) = .ok (i != 0) st := nr rfl
@[simp] theorem u_tup (l : List MV) (st : Store) : truth st (.tup l) = .ok (!l.isEmpty) st := nr rfl
def trL : Option (List MV) → Store → Out Bool
  | some l, st => .ok (!l.isEmpty) st
  | none, _ => .bad
@[simp] theorem trL_some (l : List MV) (st : Store) : trL (some l) st = .ok (!l.isEmpty) st := nr rfl
@[simp] theorem u_loc (n : Nat) (st : Store) : truth st (.loc n) = trL (getL st n) st := by
  simp only [truth]
  rcases getL st n with _ | _ <;> rfl
@[simp] theorem o_add (i j : Int) (st : Store) : op2 .add (.int i) (.int j) st = .ok (.int (i + j)) st := nr rfl
@[simp] theorem o_sub (i j : Int) (st : Store) : op2 .sub (.int i) (.int j) st = .ok (.int (i - j)) st := nr rfl
theorem o_mul {i j : Int} {st : Store} (h : i.natAbs.log2 + j.natAbs.log2 < 1000000) : op2 .mul (.int i) (.int j) st = .ok (.int (i * j)) st := by simp only [op2, opMul, if_pos h]
theorem o_fdiv {i j : Int} {st : Store} (h : 0 < j) (h2 : j.natAbs.log2 < 9000) : op2 .fdiv (.int i) (.int j) st = .ok (.int (i / j)) st := by simp only [op2, if_pos (And.intro h h2)]
theorem o_mod {i j : Int} {st : Store} (h : 0 < j) : op2 .mod (.int i) (.int j) st = .ok (.int (i % j)) st := by simp only [op2, if_pos h]
theorem o_pow {i j : Int} {st : Store} (h : 0 ≤ j ∧ j ≤ 1000000 ∧ i.natAbs < 2 ^ 64) : op2 .pow (.int i) (.int j) st = .ok (.int (i ^ j.toNat)) st := by simp only [op2, if_pos h]
@[simp] theorem o_lt (i j : Int) (st : Store) : op2 .lt (.int i) (.int j) st = .ok (.bl (decide (i < j))) st := nr rfl
@[simp] theorem o_le (i j : Int) (st : Store) : op2 .le (.int i) (.int j) st = .ok (.bl (decide (i ≤ j))) st := nr rfl
@[simp] theorem o_gt (i j : Int) (st : Store) : op2 .gt (.int i) (.int j) st = .ok (.bl (decide (j < i))) st := nr rfl
@[simp] theorem o_ge (i j : Int) (st : Store) : op2 .ge (.int i) (.int j) st = .ok (.bl (decide (j ≤ i))) st := nr rfl
@[simp] theorem o_eqI (i j : Int) (st : Store) : op2 .eq (.int i) (.int j) st = .ok (.bl (decide (i = j))) st := nr rfl
@[simp] theorem o_neI (i j : Int) (st : Store) : op2 .ne (.int i) (.int j) st = .ok (.bl (!decide (i = j))) st := nr rfl
@[simp] theorem o_eqB (i j : Bool) (st : Store) : op2 .eq (.bl i) (.bl j) st = .ok (.bl (decide (i = j))) st := nr rfl
@[simp] theorem o_neB (i j : Bool) (st : Store) : op2 .ne (.bl i) (.bl j) st = .ok (.bl (!decide (i = j))) st := nr rfl
@[simp] theorem o_eqS (i j : Txt) (st : Store) : op2 .eq (.str i) (.str j) st = .ok (.bl (decide (i = j))) st := nr rfl
@[simp] theorem o_neS (i j : Txt) (st : Store) : op2 .ne (.str i) (.str j) st = .ok (.bl (!decide (i = j))) st := nr rfl
@[simp] theorem o_eqNI (j : Int) (st : Store) : op2 .eq .non (.int j) st = .ok (.bl false) st := nr rfl
@[simp] theorem o_eqIN (j : Int) (st : Store) : op2 .eq (.int j) .non st = .ok (.bl false) st := nr rfl
@[simp] theorem o_eqNN (st : Store) : op2 .eq .non .non st = .ok (.bl true) st := nr rfl
@[simp] theorem o_isNN (st : Store) : op2 .isN .non .non st = .ok (.bl true) st := nr rfl
@[simp] theorem o_isNI (i : Int) (st : Store) : op2 .isN (.int i) .non st = .ok (.bl false) st := nr rfl
@[simp] theorem o_isNL (n : Nat) (st : Store) : op2 .isN (.loc n) .non st = .ok (.bl false) st := nr rfl
@[simp] theorem o_isNT (l : List MV) (st : Store) : op2 .isN (.tup l) .non st = .ok (.bl false) st := nr rfl
@[simp] theorem o_noNN (st : Store) : op2 .notN .non .non st = .ok (.bl false) st := nr rfl
@[simp] theorem o_noNI (i : Int) (st : Store) : op2 .notN (.int i) .non st = .ok (.bl true) st := nr rfl
@[simp] theorem o_noNL (n : Nat) (st : Store) : op2 .notN (.loc n) .non st = .ok (.bl true) st := nr rfl
@[simp] theorem o_noNT (l : List MV) (st : Store) : op2 .notN (.tup l) .non st = .ok (.bl true) st := nr rfl
/-- a value that was looked up -/
def vo : Option MV → Store → Out MV
  | some v, st => .ok v st
  | none, _ => .bad
@[simp] theorem vo_some (v : MV) (st : Store) : vo (some v) st = .ok v st := nr rfl
def ixV : Option (List MV) → Int → Store → Out MV
  | some l, i, st => vo (atI l i) st
  | none, _, _ => .bad
@[simp] theorem ixV_some (l : List MV) (i : Int) (st : Store) : ixV (some l) i st = vo (atI l i) st := nr rfl
@[simp] theorem o_ixL (n : Nat) (i : Int) (st : Store) : op2 .ix (.loc n) (.int i) st = ixV (getL st n) i st := by
  simp only [op2, opIx]
  rcases getL st n with _ | l
  · rfl
  · simp only [ixV]
    rcases atI l i with _ | _ <;> rfl
@[simp] theorem o_ixT (l : List MV) (i : Int) (st : Store) : op2 .ix (.tup l) (.int i) st = vo (atI l i) st := by
  simp only [op2, opIx]
  rcases atI l i with _ | _ <;> rfl
@[simp] theorem o_addT (a b : List MV) (st : Store) : op2 .add (.tup a) (.tup b) st = if a.length + b.length ≤ 1000 then .ok (.tup (a ++ b)) st else .bad := nr rfl
theorem o_addL {n m : Nat} {a b : List MV} {st : Store} (h : cel st n = some (.lst a)) (g : cel st m = some (.lst b)) : op2 .add (.loc n) (.loc m) st = newL (a ++ b) st := by
  unfold cel at h g
  simp only [op2, opAdd, h, g]
@[simp] theorem atI_nat (l : List MV) (n : Nat) : atI l (n : Int) = l[n]? := by
  unfold atI ixN
  rw [if_pos (by omega)]
  by_cases h : n < l.length
  · rw [if_pos (by omega)]
    simp
  · rw [if_neg (by omega)]
    simp only [Option.bind_none]
    exact (List.getElem?_eq_none (by omega)).symm
@[simp] theorem atI_lit (l : List MV) (n : Nat) : atI l (no_index (OfNat.ofNat n : Int)) = l[(OfNat.ofNat n : Nat)]? := atI_nat l n
theorem atI_pos {l : List MV} {i : Int} (h : 0 ≤ i) : atI l i = l[i.toNat]? := by
  obtain ⟨n, rfl⟩ := Int.eq_ofNat_of_zero_le h
  rw [atI_nat]
  rfl
theorem atI_neg {l : List MV} {i : Int} (h : i < 0) (h2 : -(l.length : Int) ≤ i) : atI l i = l[(i + l.length).toNat]? := by
  unfold atI ixN
  rw [if_neg (by omega), if_pos h2]
  rfl
@[simp] theorem o_powL (b n : Nat) (st : Store) (h : n ≤ 1000000) (hb : b < 18446744073709551616) : op2 .pow (.int (no_index (OfNat.ofNat b : Int))) (.int (no_index (OfNat.ofNat n : Int))) st = .ok (.int ((OfNat.ofNat b : Int) ^ (OfNat.ofNat n : Nat))) st := by
  have h2 : (n : Int) ≤ 1000000 := by
    have : n ≤ 1000000 := h
    omega
  have h3 : (b : Int).natAbs < 2 ^ 64 := by
    have : b < 18446744073709551616 := hb
    omega
  exact o_pow (i := (b : Int)) (j := (n : Int)) ⟨by omega, h2, h3⟩
@[simp] theorem o_modL (i : Int) (n : Nat) (st : Store) (h : 0 < n) : op2 .mod (.int i) (.int (no_index (OfNat.ofNat n : Int))) st = .ok (.int (i % (OfNat.ofNat n : Int))) st := by
  have : 0 < n := h
  exact o_mod (j := (n : Int)) (by omega)
@[simp] theorem o_fdivL (i : Int) (n : Nat) (st : Store) (h : 0 < n) (hb : n < 18446744073709551616) : op2 .fdiv (.int i) (.int (no_index (OfNat.ofNat n : Int))) st = .ok (.int (i / (OfNat.ofNat n : Int))) st := by
  have h1 : 0 < n := h
  have h2 : n < 18446744073709551616 := hb
  exact o_fdiv (j := (n : Int)) (by omega) (Nat.lt_of_lt_of_le (log2_lt (k := 64) (by omega) (by decide)) (by decide))
def adV : Option Cell → Option Cell → Store → Out MV
  | some (.lst a), some (.lst b), st => newL (a ++ b) st
  | _, _, _ => .bad
@[simp] theorem adV_some (a b : List MV) (st : Store) : adV (some (.lst a)) (some (.lst b)) st = newL (a ++ b) st := nr rfl
@[simp] theorem o_addLL (n m : Nat) (st : Store) : op2 .add (.loc n) (.loc m) st = adV (cel st n) (cel st m) st := by
  unfold cel
  simp only [op2, opAdd]
  rcases st[n]? with _ | _ | _ <;> rcases st[m]? with _ | _ | _ <;> rfl
/-! ### builtins -/
@[simp] theorem p_neg (C : Cx) (i : Int) (st : Store) : prim C .neg [.int i] st = .ok (.int (-i)) st := nr rfl
@[simp] theorem p_abs (C : Cx) (i : Int) (st : Store) : prim C .abs [.int i] st = .ok (.int (if i < 0 then -i else i)) st := nr rfl
@[simp] theorem p_int (C : Cx) (i : Int) (st : Store) : prim C .int [.int i] st = .ok (.int i) st := nr rfl
@[simp] theorem p_intB (C : Cx) (b : Bool) (st : Store) : prim C .int [.bl b] st = .ok (.int (if b then 1 else 0)) st := nr rfl
@[simp] theorem p_max2 (C : Cx) (i j : Int) (st : Store) : prim C .max2 [.int i, .int j] st = .ok (.int (if j > i then j else i)) st := nr rfl
@[simp] theorem p_min2 (C : Cx) (i j : Int) (st : Store) : prim C .min2 [.int i, .int j] st = .ok (.int (if j < i then j else i)) st := nr rfl
def lenV : Option (List MV) → Store → Out MV
  | some l, st => .ok (.int l.length) st
  | none, _ => .bad
@[simp] theorem lenV_some (l : List MV) (st : Store) : lenV (some l) st = .ok (.int l.length) st := nr rfl
@[simp] theorem p_len (C : Cx) (n : Nat) (st : Store) : prim C .len [.loc n] st = lenV (getL st n) st := by
  simp only [prim]
  rcases getL st n with _ | _ <;> rfl
@[simp] theorem p_lenT (C : Cx) (l : List MV) (st : Store) : prim C .len [.tup l] st = .ok (.int l.length) st := nr rfl
def lstV : Option (List MV) → Store → Out MV
  | some l, st => newL l st
  | none, _ => .bad
@[simp] theorem lstV_some (l : List MV) (st : Store) : lstV (some l) st = newL l st := nr rfl
@[simp] theorem p_list (C : Cx) (n : Nat) (st : Store) : prim C .list [.loc n] st = lstV (getL st n) st := by
  simp only [prim]
  rcases getL st n with _ | _ <;> rfl
@[simp] theorem p_listT (C : Cx) (l : List MV) (st : Store) : prim C .list [.tup l] st = newL l st := nr rfl
@[simp] theorem p_isIntI (C : Cx) (i : Int) (st : Store) : prim C .isInt [.int i] st = .ok (.bl true) st := nr rfl
@[simp] theorem p_isIntB (C : Cx) (i : Bool) (st : Store) : prim C .isInt [.bl i] st = .ok (.bl true) st := nr rfl
@[simp] theorem p_isIntN (C : Cx) (st : Store) : prim C .isInt [.non] st = .ok (.bl false) st := nr rfl
@[simp] theorem p_isIntT (C : Cx) (l : List MV) (st : Store) : prim C .isInt [.tup l] st = .ok (.bl false) st := nr rfl
@[simp] theorem p_isBoolI (C : Cx) (i : Int) (st : Store) : prim C .isBool [.int i] st = .ok (.bl false) st := nr rfl
@[simp] theorem p_isBoolB (C : Cx) (i : Bool) (st : Store) : prim C .isBool [.bl i] st = .ok (.bl true) st := nr rfl
@[simp] theorem p_isBoolN (C : Cx) (st : Store) : prim C .isBool [.non] st = .ok (.bl false) st := nr rfl
@[simp] theorem p_isTupleT (C : Cx) (l : List MV) (st : Store) : prim C .isTuple [.tup l] st = .ok (.bl true) st := nr rfl
@[simp] theorem p_isTupleI (C : Cx) (i : Int) (st : Store) : prim C .isTuple [.int i] st = .ok (.bl false) st := nr rfl
@[simp] theorem p_isTupleN (C : Cx) (st : Store) : prim C .isTuple [.non] st = .ok (.bl false) st := nr rfl
@[simp] theorem p_isListI (C : Cx) (i : Int) (st : Store) : prim C .isList [.int i] st = .ok (.bl false) st := nr rfl
@[simp] theorem p_isListT (C : Cx) (l : List MV) (st : Store) : prim C .isList [.tup l] st = .ok (.bl false) st := nr rfl
@[simp] theorem p_isListN (C : Cx) (st : Store) : prim C .isList [.non] st = .ok (.bl false) st := nr rfl
theorem p_isListL {C : Cx} {n : Nat} {l : List MV} {st : Store} (h : getL st n = some l) : prim C .isList [.loc n] st = .ok (.bl true) st := by simp only [prim, h]
theorem p_repr {C : Cx} {n : Nat} {l : List MV} {st : Store} (h : getL st n = some l) (h2 : l.all okInt = true) (h3 : l.length ≤ 1000) : prim C .repr [.loc n] st = .ok (.str (C.repr (.lst l))) st := by simp only [prim, h, if_pos (And.intro h2 h3)]
def isV (b : Bool) : Option (List MV) → Store → Out MV
  | some _, st => .ok (.bl b) st
  | none, _ => .bad
@[simp] theorem isV_some (b : Bool) (l : List MV) (st : Store) : isV b (some l) st = .ok (.bl b) st := nr rfl
@[simp] theorem p_isTupleLoc (C : Cx) (n : Nat) (st : Store) : prim C .isTuple [.loc n] st = isV false (getL st n) st := by
  simp only [prim]
  rcases getL st n with _ | _ <;> rfl
@[simp] theorem p_isIntLoc (C : Cx) (n : Nat) (st : Store) : prim C .isInt [.loc n] st = isV false (getL st n) st := by
  simp only [prim]
  rcases getL st n with _ | _ <;> rfl
@[simp] theorem p_isBoolLoc (C : Cx) (n : Nat) (st : Store) : prim C .isBool [.loc n] st = isV false (getL st n) st := by
  simp only [prim]
  rcases getL st n with _ | _ <;> rfl
@[simp] theorem p_isListLoc (C : Cx) (n : Nat) (st : Store) : prim C .isList [.loc n] st = isV true (getL st n) st := by
  simp only [prim]
  rcases getL st n with _ | _ <;> rfl
@[simp] theorem p_isTupleB (C : Cx) (b : Bool) (st : Store) : prim C .isTuple [.bl b] st = .ok (.bl false) st := nr rfl
@[simp] theorem p_isListB (C : Cx) (b : Bool) (st : Store) : prim C .isList [.bl b] st = .ok (.bl false) st := nr rfl
@[simp] theorem p_isStrI (C : Cx) (i : Int) (st : Store) : prim C .isStr [.int i] st = .ok (.bl false) st := nr rfl
@[simp] theorem p_isStrB (C : Cx) (i : Bool) (st : Store) : prim C .isStr [.bl i] st = .ok (.bl false) st := nr rfl
@[simp] theorem p_isStrN (C : Cx) (st : Store) : prim C .isStr [.non] st = .ok (.bl false) st := nr rfl
@[simp] theorem p_isStrT (C : Cx) (l : List MV) (st : Store) : prim C .isStr [.tup l] st = .ok (.bl false) st := nr rfl
@[simp] theorem p_isBoolT (C : Cx) (l : List MV) (st : Store) : prim C .isBool [.tup l] st = .ok (.bl false) st := nr rfl
@[simp] theorem p_isStrLoc (C : Cx) (n : Nat) (st : Store) : prim C .isStr [.loc n] st = isV false (getL st n) st := by
  simp only [prim]
  rcases getL st n with _ | _ <;> rfl
@[simp] theorem o_isNB (b : Bool) (st : Store) : op2 .isN (.bl b) .non st = .ok (.bl false) st := nr rfl
@[simp] theorem o_noNB (b : Bool) (st : Store) : op2 .notN (.bl b) .non st = .ok (.bl true) st := nr rfl
def celL : Option Cell → Option (List MV)
  | some (.lst l) => some l
  | some (.ro l) => some l
  | none => none
@[simp] theorem celL_lst (l : List MV) : celL (some (.lst l)) = some l := nr rfl
@[simp] theorem celL_ro (l : List MV) : celL (some (.ro l)) = some l := nr rfl
@[simp] theorem getL_eq (st : Store) (n : Nat) : getL st n = celL (cel st n) := by
  unfold getL cel
  rcases st[n]? with _ | _ | _ <;> rfl
def rvV : Option (List MV) → Store → Out MV
  | some l, s => .ok (.loc s.length) (s ++ [.lst l.reverse])
  | none, _ => .bad
@[simp] theorem rvV_some (l : List MV) (s : Store) : rvV (some l) s = .ok (.loc s.length) (s ++ [.lst l.reverse]) := nr rfl
@[simp] theorem q_revL (n : Nat) (s : Store) : kRev (.loc n) s = rvV (celL (cel s n)) s := by
  rw [← getL_eq]
  simp only [kRev]
  rcases getL s n with _ | _ <;> rfl
@[simp] theorem atI_m1 (l : List MV) : atI l (-1) = l.getLast? := by
  cases l with
  | nil => rfl
  | cons a r =>
    rw [atI_neg (by omega) (by simp; omega), List.getLast?_eq_getElem?]
    congr 1
    simp
    omega
/-! ### iterables -/
@[simp] theorem i_seq (C : Cx) (e : ME) (env : Env) (st : Store) : evI C (.seq e) env st = (evE C e env st).bind mkSeq := nr rfl
@[simp] theorem i_rng1 (C : Cx) (e : ME) (env : Env) (st : Store) : evI C (.rng1 e) env st = (evE C e env st).bind mkR1 := nr rfl
@[simp] theorem i_enm (C : Cx) (e : ME) (env : Env) (st : Store) : evI C (.enm e) env st = (evE C e env st).bind mkEn := nr rfl
def kR2 (C : Cx) (b : ME) (env : Env) (x : MV) (s1 : Store) : Out Iter := (evE C b env s1).bind fun y s2 => mkR2 x y s2
def kR2b (x y : MV) (s : Store) : Out Iter := mkR2 x y s
def kDn (C : Cx) (b : ME) (env : Env) (x : MV) (s1 : Store) : Out Iter := (evE C b env s1).bind fun y s2 => mkDn x y s2
def kDnb (x y : MV) (s : Store) : Out Iter := mkDn x y s
@[simp] theorem i_rng2 (C : Cx) (a b : ME) (env : Env) (st : Store) : evI C (.rng2 a b) env st = (evE C a env st).bind (kR2 C b env) := nr rfl
@[simp] theorem q_r2 (C : Cx) (b : ME) (env : Env) (x : MV) (s : Store) : kR2 C b env x s = (evE C b env s).bind (kR2b x) := nr rfl
@[simp] theorem q_r2b (x y : MV) (s : Store) : kR2b x y s = mkR2 x y s := nr rfl
@[simp] theorem i_down (C : Cx) (a b : ME) (env : Env) (st : Store) : evI C (.down a b) env st = (evE C a env st).bind (kDn C b env) := nr rfl
@[simp] theorem q_dn (C : Cx) (b : ME) (env : Env) (x : MV) (s : Store) : kDn C b env x s = (evE C b env s).bind (kDnb x) := nr rfl
@[simp] theorem q_dnb (x y : MV) (s : Store) : kDnb x y s = mkDn x y s := nr rfl
def sqV : Option (List MV) → Nat → Store → Out Iter
  | some _, n, st => .ok (.lst n) st
  | none, _, _ => .bad
@[simp] theorem sqV_some (l : List MV) (n : Nat) (st : Store) : sqV (some l) n st = .ok (.lst n) st := nr rfl
@[simp] theorem mk_loc (n : Nat) (st : Store) : mkSeq (.loc n) st = sqV (getL st n) n st := by
  simp only [mkSeq]
  rcases getL st n with _ | _ <;> rfl
@[simp] theorem mk_tup (l : List MV) (st : Store) : mkSeq (.tup l) st = .ok (.itm l) st := nr rfl
def enV : Option (List MV) → Nat → Store → Out Iter
  | some _, n, st => .ok (.enm n) st
  | none, _, _ => .bad
@[simp] theorem enV_some (l : List MV) (n : Nat) (st : Store) : enV (some l) n st = .ok (.enm n) st := nr rfl
@[simp] theorem mk_en (n : Nat) (st : Store) : mkEn (.loc n) st = enV (getL st n) n st := by
  simp only [mkEn]
  rcases getL st n with _ | _ <;> rfl
theorem mk_r1 {j : Int} {st : Store} (h : -(2 ^ 62) ≤ j) (h2 : j < 2 ^ 62) : mkR1 (.int j) st = .ok (.rng 0 1 j.toNat) st := by
  have : rngOk j = true := by simp only [rngOk, Bool.and_eq_true, decide_eq_true_eq]; exact ⟨h, h2⟩
  simp only [mkR1, this, if_true]
theorem mk_r2 {i j : Int} {st : Store} (g : -(2 ^ 62) ≤ i) (g2 : i < 2 ^ 62) (h : -(2 ^ 62) ≤ j) (h2 : j < 2 ^ 62) : mkR2 (.int i) (.int j) st = .ok (.rng i 1 (j - i).toNat) st := by
  have a : rngOk j = true := by simp only [rngOk, Bool.and_eq_true, decide_eq_true_eq]; exact ⟨h, h2⟩
  have b : rngOk i = true := by simp only [rngOk, Bool.and_eq_true, decide_eq_true_eq]; exact ⟨g, g2⟩
  simp only [mkR2, a, b, Bool.and_self, if_true]
theorem mk_dn {i j : Int} {st : Store} (g : -(2 ^ 62) ≤ i) (g2 : i < 2 ^ 62) (h : -(2 ^ 62) ≤ j) (h2 : j < 2 ^ 62) : mkDn (.int i) (.int j) st = .ok (.rng i (-1) (i - j).toNat) st := by
  have a : rngOk j = true := by simp only [rngOk, Bool.and_eq_true, decide_eq_true_eq]; exact ⟨h, h2⟩
  have b : rngOk i = true := by simp only [rngOk, Bool.and_eq_true, decide_eq_true_eq]; exact ⟨g, g2⟩
  simp only [mkDn, a, b, Bool.and_self, if_true]
@[simp] theorem cnt_rng (lo c : Int) (n : Nat) (st : Store) : Iter.cnt (.rng lo c n) st = n := nr rfl
@[simp] theorem cnt_itm (l : List MV) (st : Store) : Iter.cnt (.itm l) st = l.length := nr rfl
def lenN : Option (List MV) → Nat
  | some l => l.length
  | none => 0
@[simp] theorem lenN_some (l : List MV) : lenN (some l) = l.length := nr rfl
@[simp] theorem cnt_lst (n : Nat) (st : Store) : Iter.cnt (.lst n) st = lenN (getL st n) := by
  simp only [Iter.cnt]
  rcases getL st n with _ | _ <;> rfl
@[simp] theorem cnt_enm (n : Nat) (st : Store) : Iter.cnt (.enm n) st = lenN (getL st n) := by
  simp only [Iter.cnt]
  rcases getL st n with _ | _ <;> rfl
/-! ### statements -/
def kAsg (g : MG) (env : Env) (x : MV) (s1 : Store) : Out Ctl := match setG g x env with
      | some env2 => .ok (.next env2) s1
      | none => .bad
@[simp] theorem s_asg (C : Cx) (g : MG) (e : ME) (env : Env) (st : Store) : evS C (.asg g e) env st = (evE C e env st).bind (kAsg g env) := by simp only [evS]; rfl
@[simp] theorem q_asg (i : Nat) (env : Env) (x : MV) (s : Store) : kAsg (.nm i) env x s = .ok (.next (env.set i (some x))) s := nr rfl
def tpE (is : List Nat) (l : List MV) (env : Env) : Env := (is.zip l).foldl (fun e p => e.set p.1 (some p.2)) env
@[simp] theorem q_asg2 (a b : Nat) (x y : MV) (env : Env) (s : Store) : kAsg (.tp [a, b]) env (.tup [x, y]) s = .ok (.next ((env.set a (some x)).set b (some y))) s := nr rfl
@[simp] theorem q_asg3 (a b c : Nat) (x y z : MV) (env : Env) (s : Store) : kAsg (.tp [a, b, c]) env (.tup [x, y, z]) s = .ok (.next (((env.set a (some x)).set b (some y)).set c (some z))) s := nr rfl
@[simp] theorem sl_tup1 (x y z : MV) (s : Store) : slice true false (.tup [x, y, z]) (.int 1) .non s = .ok (.tup [y, z]) s := nr rfl
theorem q_asgT {is : List Nat} {l : List MV} {env : Env} {s : Store} (h : is.length = l.length) : kAsg (.tp is) env (.tup l) s = .ok (.next (tpE is l env)) s := by
  simp only [Out.bind_ok, kAsg, setG, if_pos h]
  rfl
def kSet1 (C : Cx) (o i : ME) (env : Env) (v : MV) (s1 : Store) : Out Ctl := (evE C o env s1).bind fun x s2 => (evE C i env s2).bind fun k s3 => (setAt x k v s3).bind fun _ s4 => .ok (.next env) s4
def kSet2 (C : Cx) (i : ME) (env : Env) (v x : MV) (s2 : Store) : Out Ctl := (evE C i env s2).bind fun k s3 => (setAt x k v s3).bind fun _ s4 => .ok (.next env) s4
def kSet3 (env : Env) (v x k : MV) (s3 : Store) : Out Ctl := (setAt x k v s3).bind fun _ s4 => .ok (.next env) s4
def kSet4 (env : Env) (u : Unit) (s4 : Store) : Out Ctl := .ok (.next env) s4
@[simp] theorem s_set (C : Cx) (o i e : ME) (env : Env) (st : Store) : evS C (.setIx o i e) env st = (evE C e env st).bind (kSet1 C o i env) := by simp only [evS]; rfl
@[simp] theorem q_set1 (C : Cx) (o i : ME) (env : Env) (v : MV) (s : Store) : kSet1 C o i env v s = (evE C o env s).bind (kSet2 C i env v) := nr rfl
@[simp] theorem q_set2 (C : Cx) (i : ME) (env : Env) (v x : MV) (s : Store) : kSet2 C i env v x s = (evE C i env s).bind (kSet3 env v x) := nr rfl
@[simp] theorem q_set3 (env : Env) (v x k : MV) (s : Store) : kSet3 env v x k s = (setAt x k v s).bind (kSet4 env) := nr rfl
@[simp] theorem q_set4 (env : Env) (u : Unit) (s : Store) : kSet4 env u s = .ok (.next env) s := nr rfl
def stJ : Option Nat → List MV → Nat → MV → Store → Out Unit
  | some j, l, n, v, st => .ok () (st.set n (.lst (l.set j v)))
  | none, _, _, _, _ => .bad
@[simp] theorem stJ_some (j : Nat) (l : List MV) (n : Nat) (v : MV) (st : Store) : stJ (some j) l n v st = .ok () (st.set n (.lst (l.set j v))) := nr rfl
def stV : Option Cell → Nat → Int → MV → Store → Out Unit
  | some (.lst l), n, k, v, st => stJ (ixN l.length k) l n v st
  | _, _, _, _, _ => .bad
@[simp] theorem stV_some (l : List MV) (n : Nat) (k : Int) (v : MV) (st : Store) : stV (some (.lst l)) n k v st = stJ (ixN l.length k) l n v st := nr rfl
@[simp] theorem setAt_eq (n : Nat) (k : Int) (v : MV) (st : Store) : setAt (.loc n) (.int k) v st = stV (cel st n) n k v st := by
  unfold cel
  simp only [setAt]
  rcases st[n]? with _ | l | l
  · rfl
  · simp only [stV]
    rcases ixN l.length k with _ | _ <;> rfl
  · rfl
theorem ixN_nat {m n : Nat} (h : n < m) : ixN m (n : Int) = some n := by
  unfold ixN
  rw [if_pos (by omega), if_pos (by omega)]
  simp
theorem ixN_lit {m n : Nat} (h : n < m) : ixN m (no_index (OfNat.ofNat n : Int)) = some (OfNat.ofNat n : Nat) := ixN_nat h
theorem ixN_pos {m : Nat} {i : Int} (h0 : 0 ≤ i) (h : i < m) : ixN m i = some i.toNat := by
  unfold ixN
  rw [if_pos h0, if_pos h]
def kAug1 (o : Op2) (i : Nat) (env : Env) (x y : MV) (s1 : Store) : Out Ctl := (augI o x y s1).bind fun z s2 => .ok (.next (env.set i (some z))) s2
def kAug2 (i : Nat) (env : Env) (z : MV) (s2 : Store) : Out Ctl := .ok (.next (env.set i (some z))) s2
def agV (C : Cx) (o : Op2) (i : Nat) (e : ME) (env : Env) (st : Store) : Option (Option MV) → Out Ctl
  | some (some x) => (evE C e env st).bind (kAug1 o i env x)
  | _ => .bad
@[simp] theorem agV_some (C : Cx) (o : Op2) (i : Nat) (e : ME) (env : Env) (st : Store) (x : MV) : agV C o i e env st (some (some x)) = (evE C e env st).bind (kAug1 o i env x) := nr rfl
@[simp] theorem s_aug (C : Cx) (o : Op2) (i : Nat) (e : ME) (env : Env) (st : Store) : evS C (.aug o i e) env st = agV C o i e env st env[i]? := by
  simp only [evS]
  rcases env[i]? with _ | _ | v <;> rfl
@[simp] theorem q_augA (i : Nat) (env : Env) (x y : Int) (s : Store) : kAug1 .add i env (.int x) (.int y) s = .ok (.next (env.set i (some (.int (x + y))))) s := nr rfl
@[simp] theorem q_augS (i : Nat) (env : Env) (x y : Int) (s : Store) : kAug1 .sub i env (.int x) (.int y) s = .ok (.next (env.set i (some (.int (x - y))))) s := nr rfl
def kExp (env : Env) (x : MV) (s1 : Store) : Out Ctl := .ok (.next env) s1
@[simp] theorem s_exp (C : Cx) (e : ME) (env : Env) (st : Store) : evS C (.expr e) env st = (evE C e env st).bind (kExp env) := by simp only [evS]; rfl
@[simp] theorem q_exp (env : Env) (x : MV) (s : Store) : kExp env x s = .ok (.next env) s := nr rfl
def kRet (x : MV) (s1 : Store) : Out Ctl := .ok (.ret x) s1
@[simp] theorem s_ret (C : Cx) (e : ME) (env : Env) (st : Store) : evS C (.ret e) env st = (evE C e env st).bind kRet := by simp only [evS]; rfl
@[simp] theorem q_ret (x : MV) (s : Store) : kRet x s = .ok (.ret x) s := nr rfl
@[simp] theorem s_retN (C : Cx) (env : Env) (st : Store) : evS C .retN env st = .ok (.ret .non) st := by simp only [evS]
@[simp] theorem s_pass (C : Cx) (env : Env) (st : Store) : evS C .pass env st = .ok (.next env) st := by simp only [evS]
@[simp] theorem s_brk (C : Cx) (env : Env) (st : Store) : evS C .brk env st = .ok (.brk env) st := by simp only [evS]
@[simp] theorem s_cont (C : Cx) (env : Env) (st : Store) : evS C .cont env st = .ok (.cont env) st := by simp only [evS]
@[simp] theorem s_kill (C : Cx) (ks : List Nat) (env : Env) (st : Store) : evS C (.kill ks) env st = .ok (.next (killAll ks env)) st := by simp only [evS]
@[simp] theorem kill0 (env : Env) : killAll [] env = env := nr rfl
@[simp] theorem kill1 (k : Nat) (ks : List Nat) (env : Env) : killAll (k :: ks) env = killAll ks (env.set k none) := nr rfl
def kIf (C : Cx) (a b : List MS) (env : Env) (k : Bool) (s1 : Store) : Out Ctl := if k then evSs C a env s1 else evSs C b env s1
@[simp] theorem s_ite (C : Cx) (c : ME) (a b : List MS) (env : Env) (st : Store) : evS C (.ite c a b) env st = (tst C c env st).bind (kIf C a b env) := by simp only [evS]; rfl
@[simp] theorem q_if (C : Cx) (a b : List MS) (env : Env) (k : Bool) (s : Store) : kIf C a b env k s = if k = true then evSs C a env s else evSs C b env s := nr rfl
def kKill (ks : List Nat) (c : Ctl) (s2 : Store) : Out Ctl := .ok (c.mapEnv (killAll ks)) s2
def lpTurn (C : Cx) (g : MG) (body : List MS) (ks : List Nat) (x : MV) (e : Env) (s : Store) : Out Ctl := match setG g x e with
      | none => .bad
      | some e2 => (evSs C body e2 s).bind (kKill ks)
def kLoop (C : Cx) (g : MG) (body : List MS) (ks : List Nat) (env : Env) (J : Iter) (s1 : Store) : Out Ctl := forLoop J (lpTurn C g body ks) (J.cnt s1) 0 (killAll ks env) s1
@[simp] theorem s_loop (C : Cx) (g : MG) (it : MI) (body : List MS) (ks : List Nat) (env : Env) (st : Store) : evS C (.loop g it body ks) env st = (evI C it env st).bind (kLoop C g body ks env) := by simp only [evS]; rfl
@[simp] theorem q_loop (C : Cx) (g : MG) (body : List MS) (ks : List Nat) (env : Env) (J : Iter) (s : Store) : kLoop C g body ks env J s = forLoop J (lpTurn C g body ks) (J.cnt s) 0 (killAll ks env) s := nr rfl
@[simp] theorem lpTurn_nm (C : Cx) (i : Nat) (body : List MS) (ks : List Nat) (x : MV) (e : Env) (s : Store) : lpTurn C (.nm i) body ks x e s = (evSs C body (e.set i (some x)) s).bind (kKill ks) := nr rfl
@[simp] theorem lpTurn_tp2 (C : Cx) (a b : Nat) (body : List MS) (ks : List Nat) (x y : MV) (e : Env) (s : Store) : lpTurn C (.tp [a, b]) body ks (.tup [x, y]) e s = (evSs C body ((e.set a (some x)).set b (some y)) s).bind (kKill ks) := nr rfl
theorem lpTurn_tp {C : Cx} {is : List Nat} {body : List MS} {ks : List Nat} {l : List MV} {e : Env} {s : Store} (h : is.length = l.length) : lpTurn C (.tp is) body ks (.tup l) e s = (evSs C body (tpE is l e) s).bind (kKill ks) := by
  simp only [lpTurn, setG, if_pos h]
  rfl
@[simp] theorem q_killN (ks : List Nat) (e : Env) (s : Store) : kKill ks (.next e) s = .ok (.next (killAll ks e)) s := nr rfl
@[simp] theorem q_killC (ks : List Nat) (e : Env) (s : Store) : kKill ks (.cont e) s = .ok (.cont (killAll ks e)) s := nr rfl
@[simp] theorem q_killB (ks : List Nat) (e : Env) (s : Store) : kKill ks (.brk e) s = .ok (.brk (killAll ks e)) s := nr rfl
@[simp] theorem q_killR (ks : List Nat) (v : MV) (s : Store) : kKill ks (.ret v) s = .ok (.ret v) s := nr rfl
def whTurn (C : Cx) (body : List MS) (ks : List Nat) (e : Env) (s : Store) : Out Ctl := (evSs C body e s).bind (kKill ks)
@[simp] theorem s_whl (C : Cx) (c : ME) (body : List MS) (ks : List Nat) (env : Env) (st : Store) : evS C (.whl c body ks) env st = whlLoop (tst C c) (whTurn C body ks) C.wf (killAll ks env) st := by simp only [evS]; rfl
def kSs (C : Cx) (l : List MS) (c : Ctl) (s1 : Store) : Out Ctl := match c with
      | .next e => evSs C l e s1
      | .ret v => .ok (.ret v) s1
      | .brk e => .ok (.brk e) s1
      | .cont e => .ok (.cont e) s1
@[simp] theorem s_s0 (C : Cx) (env : Env) (st : Store) : evSs C [] env st = .ok (.next env) st := by simp only [evSs]
@[simp] theorem s_ss (C : Cx) (a : MS) (l : List MS) (env : Env) (st : Store) : evSs C (a :: l) env st = (evS C a env st).bind (kSs C l) := by simp only [evSs]; rfl
@[simp] theorem q_ssN (C : Cx) (l : List MS) (e : Env) (s : Store) : kSs C l (.next e) s = evSs C l e s := nr rfl
@[simp] theorem q_ssR (C : Cx) (l : List MS) (v : MV) (s : Store) : kSs C l (.ret v) s = .ok (.ret v) s := nr rfl
@[simp] theorem q_ssB (C : Cx) (l : List MS) (e : Env) (s : Store) : kSs C l (.brk e) s = .ok (.brk e) s := nr rfl
@[simp] theorem q_ssC (C : Cx) (l : List MS) (e : Env) (s : Store) : kSs C l (.cont e) s = .ok (.cont e) s := nr rfl
@[simp] theorem q_endR (v : MV) (s : Store) : endC (.ret v) s = .ok v s := nr rfl
@[simp] theorem q_endN (e : Env) (s : Store) : endC (.next e) s = .ok .non s := nr rfl
/-- both ways of a test -/
theorem bind_ite {α β : Type} {c : Prop} [Decidable c] (a b : Out α) (f : α → Store → Out β) : (if c then a else b).bind f = if c then a.bind f else b.bind f := by
  by_cases h : c
  · rw [if_pos h, if_pos h]
  · rw [if_neg h, if_neg h]
end Mini
namespace Mini
/-! ### ends of a run -/
def OkQ {α : Type} (Q : α → Store → Prop) : Out α → Prop
  | .ok a s => Q a s
  | _ => False
@[simp] theorem okQ_ok {α : Type} (Q : α → Store → Prop) (a : α) (s : Store) : OkQ Q (.ok a s) = Q a s := nr rfl
theorem OkQ.ex {α β : Type} (f : β → α) {P : β → Store → Prop} {o : Out α} (h : ∀ Q : α → Store → Prop, (∀ b s, P b s → Q (f b) s) → OkQ Q o) : ∃ b s, o = .ok (f b) s ∧ P b s := by
  have := h (fun a s => ∃ b, a = f b ∧ P b s) (fun b s hb => ⟨b, rfl, hb⟩)
  match o, this with
  | .ok a s, ⟨b, hb, hp⟩ => exact ⟨b, s, by rw [hb], hp⟩
theorem Keep.setNew {w : List Nat} {st s : Store} (h : Keep w st s) {n : Nat} (hn : st.length ≤ n) {c : Cell} : Keep w st (s.set n c) := ⟨by simpa using h.len, fun m d hm e => by
  have : m < st.length := (List.getElem?_eq_some_iff.mp e).1
  rw [List.getElem?_set_ne (by omega)]
  exact h.get m d hm e⟩
theorem Keep.app {w : List Nat} {st s t : Store} (h : Keep w st s) : Keep w st (s ++ t) := h.trans Keep.new.weak
/-- a comprehension without a filter: one value each turn -/
theorem lcRun_map {J : Iter} {turn : MV → Store → Out (Option MV)} {l : List MV} {st : Store} (hc : J.cnt st = l.length) (hl : l.length ≤ sizeMax) (I : Nat → Store → Prop) (R : MV → MV → Prop)
    (hg : ∀ i s, I i s → i < l.length → J.get s i = l[i]?) (hs : ∀ s, I l.length s → J.stop s l.length = true) (h0 : I 0 (st ++ [.lst []])) (hset : ∀ i s c, I i s → I i (s.set st.length c))
    (ht : ∀ i x s, l[i]? = some x → I i s → ∃ y s', turn x s = .ok (some y) s' ∧ R x y ∧ (∀ c, cel s st.length = some c → cel s' st.length = some c) ∧ I (i + 1) s') :
    ∃ acc st', lcRun J turn st = .ok (.loc st.length) st' ∧ cel st' st.length = some (.lst acc) ∧ acc.length = l.length ∧ (∀ y, y ∈ acc → ∃ x, x ∈ l ∧ R x y) ∧ I l.length st' := by
  obtain ⟨acc, st', h1, h2, h3, h4, h5⟩ := lcRun_go hc (fun i acc s => I i s ∧ acc.length = i ∧ ∀ y, y ∈ acc → ∃ x, x ∈ l ∧ R x y) (fun i acc s h hi => hg i s h.1 hi) (fun acc s h => hs s h.1) (fun i x acc s hx hD h => by
    obtain ⟨y, s', g1, g2, g3, g4⟩ := ht i x s hx h.1
    have hi : i < l.length := (List.getElem?_eq_some_iff.mp hx).1
    refine ⟨some y, s', g1, g3 _ hD, by rw [h.2.1]; omega, hset _ _ _ g4, by simp [h.2.1], ?_⟩
    intro z hz
    rcases List.mem_append.mp hz with hz | hz
    · exact h.2.2 z hz
    · exact ⟨x, List.mem_of_getElem? hx, by rw [List.mem_singleton.mp hz]; exact g2⟩) ⟨h0, rfl, by simp⟩
  exact ⟨acc, st', h1, h2, h4, h5, h3⟩
theorem cel_app_old {st t : Store} {n : Nat} {c : Cell} (h : cel st n = some c) : cel (st ++ t) n = some c := by rw [cel_old _ _ _ (cel_lt h)]; exact h
theorem get_rng {lo c : Int} {n i : Nat} {s : Store} (h : i < n) : Iter.get (.rng lo c n) s i = (rngL lo c n)[i]? := by
  simp [Iter.get, rngL, h]
theorem rngL_len {lo c : Int} {n : Nat} : (rngL lo c n).length = n := by simp [rngL]
theorem rngL_get {lo c : Int} {n i : Nat} {x : MV} (h : (rngL lo c n)[i]? = some x) : i < n ∧ x = .int (lo + (i : Int) * c) := by
  have hi : i < n := by rw [← rngL_len (lo := lo) (c := c) (n := n)]; exact (List.getElem?_eq_some_iff.mp h).1
  refine ⟨hi, ?_⟩
  simp [rngL, hi] at h
  exact h.symm
theorem stop_rng {lo c : Int} {n : Nat} {s : Store} : Iter.stop (.rng lo c n) s n = true := by simp [Iter.stop]
theorem get_lst {m i : Nat} {s : Store} {l : List MV} (h : celL (cel s m) = some l) : Iter.get (.lst m) s i = l[i]? := by
  show (getL s m).bind _ = _
  rw [getL_eq, h]
  rfl
theorem stop_lst {m : Nat} {s : Store} {l : List MV} (h : celL (cel s m) = some l) : Iter.stop (.lst m) s l.length = true := by
  have : getL s m = some l := by rw [getL_eq, h]
  simp only [Iter.stop, this, Nat.le_refl, decide_true]
end Mini
namespace Mini
theorem okQ_bind {α β : Type} (Q : β → Store → Prop) (o : Out α) (f : α → Store → Out β) : OkQ Q (o.bind f) = OkQ (fun a s => OkQ Q (f a s)) o := by
  rcases o with ⟨a, s⟩ | ⟨x, s⟩ | _ <;> rfl
theorem okQ_back {α β : Type} (Q : β → Store → Prop) (o : Out α) (f : α → Store → Out β) : OkQ (fun a s => OkQ Q (f a s)) o = OkQ Q (o.bind f) := (okQ_bind Q o f).symm
theorem OkQ.mono {α : Type} {Q R : α → Store → Prop} {o : Out α} (h : OkQ Q o) (hi : ∀ a s, Q a s → R a s) : OkQ R o := by
  rcases o with ⟨a, s⟩ | ⟨x, s⟩ | _
  · exact hi a s h
  · exact h
  · exact h
theorem OkQ.get {α : Type} {Q : α → Store → Prop} {o : Out α} (h : OkQ Q o) : ∃ a s, o = .ok a s ∧ Q a s := by
  match o, h with
  | .ok a s, h => exact ⟨a, s, rfl, h⟩
/-- the end of a turn -/
def TurnQ (P : Nat → Env → Store → Prop) (Q : Ctl → Store → Prop) (i : Nat) : Ctl → Store → Prop
  | .next e, s => P (i + 1) e s
  | .cont e, s => P (i + 1) e s
  | .brk e, s => Q (.next e) s
  | .ret v, s => Q (.ret v) s
@[simp] theorem turnQ_next (P : Nat → Env → Store → Prop) (Q : Ctl → Store → Prop) (i : Nat) (e : Env) (s : Store) : TurnQ P Q i (.next e) s = P (i + 1) e s := nr rfl
@[simp] theorem turnQ_cont (P : Nat → Env → Store → Prop) (Q : Ctl → Store → Prop) (i : Nat) (e : Env) (s : Store) : TurnQ P Q i (.cont e) s = P (i + 1) e s := nr rfl
@[simp] theorem turnQ_brk (P : Nat → Env → Store → Prop) (Q : Ctl → Store → Prop) (i : Nat) (e : Env) (s : Store) : TurnQ P Q i (.brk e) s = Q (.next e) s := nr rfl
@[simp] theorem turnQ_ret (P : Nat → Env → Store → Prop) (Q : Ctl → Store → Prop) (i : Nat) (v : MV) (s : Store) : TurnQ P Q i (.ret v) s = Q (.ret v) s := nr rfl
theorem okQ_for {J : Iter} {turn : MV → Env → Store → Out Ctl} {l : List MV} {Q : Ctl → Store → Prop} (P : Nat → Env → Store → Prop) (hg : ∀ i env st, P i env st → i < l.length → J.get st i = l[i]?) (hs : ∀ env st, P l.length env st → J.stop st l.length = true)
    (ht : ∀ i x env st, l[i]? = some x → P i env st → OkQ (TurnQ P Q i) (turn x env st)) (he : ∀ env st, P l.length env st → Q (.next env) st) :
    ∀ (n i : Nat) (env : Env) (st : Store), i + n = l.length → P i env st → OkQ Q (forLoop J turn n i env st)
  | 0, i, env, st, hn, h => by
    have e : i = l.length := by omega
    subst e
    simp only [forLoop, hs env st h, if_true]
    exact he env st h
  | n + 1, i, env, st, hn, h => by
    have hi : i < l.length := by omega
    have hx : l[i]? = some l[i] := List.getElem?_eq_getElem hi
    have h1 := ht i l[i] env st hx h
    simp only [forLoop, hg i env st h hi, hx]
    rw [okQ_bind]
    refine h1.mono fun c s hc => ?_
    rcases c with e | v | e | e
    · exact okQ_for P hg hs ht he n (i + 1) e s (by omega) hc
    · exact hc
    · exact hc
    · exact okQ_for P hg hs ht he n (i + 1) e s (by omega) hc
theorem okQ_rng {lo c : Int} {n : Nat} {turn : MV → Env → Store → Out Ctl} {Q : Ctl → Store → Prop} {env : Env} {st : Store} (P : Nat → Env → Store → Prop) (h0 : P 0 env st)
    (ht : ∀ i env st, i < n → P i env st → OkQ (TurnQ P Q i) (turn (.int (lo + (i : Int) * c)) env st)) (he : ∀ env st, P n env st → Q (.next env) st) : OkQ Q (forLoop (.rng lo c n) turn n 0 env st) := by
  have hl : (rngL lo c n).length = n := rngL_len
  exact okQ_for (l := rngL lo c n) P (fun i env st _ hi => get_rng (by rw [hl] at hi; exact hi)) (fun env st _ => by rw [hl]; exact stop_rng) (fun i x env st hx hp => by
    obtain ⟨hi, e⟩ := rngL_get hx
    rw [e]
    exact ht i env st hi hp) (fun env st h => he env st (by rw [hl] at h; exact h)) n 0 env st (by omega) h0
theorem okQ_lst {m n : Nat} {l : List MV} {turn : MV → Env → Store → Out Ctl} {Q : Ctl → Store → Prop} {env : Env} {st : Store} (hn : n = l.length) (P : Nat → Env → Store → Prop) (h0 : P 0 env st) (hl : ∀ i env st, P i env st → celL (cel st m) = some l)
    (ht : ∀ i x env st, l[i]? = some x → P i env st → OkQ (TurnQ P Q i) (turn x env st)) (he : ∀ env st, P l.length env st → Q (.next env) st) : OkQ Q (forLoop (.lst m) turn n 0 env st) :=
  okQ_for (l := l) P (fun i env st hp _ => get_lst (hl i env st hp)) (fun env st hp => stop_lst (hl _ env st hp)) ht he n 0 env st (by omega) h0
theorem okQ_itm {n : Nat} {l : List MV} {turn : MV → Env → Store → Out Ctl} {Q : Ctl → Store → Prop} {env : Env} {st : Store} (hn : n = l.length) (P : Nat → Env → Store → Prop) (h0 : P 0 env st)
    (ht : ∀ i x env st, l[i]? = some x → P i env st → OkQ (TurnQ P Q i) (turn x env st)) (he : ∀ env st, P l.length env st → Q (.next env) st) : OkQ Q (forLoop (.itm l) turn n 0 env st) :=
  okQ_for (l := l) P (fun i env st hp _ => rfl) (fun env st hp => by simp [Iter.stop]) ht he n 0 env st (by omega) h0
/-- the end of a comprehension's turn: one value -/
def MapQ (R : MV → Prop) (I : Store → Prop) (D : Nat) (s0 : Store) : Option MV → Store → Prop
  | some y, s => R y ∧ (∀ c, cel s0 D = some c → cel s D = some c) ∧ I s
  | none, _ => False
@[simp] theorem mapQ_some (R : MV → Prop) (I : Store → Prop) (D : Nat) (s0 : Store) (y : MV) (s : Store) : MapQ R I D s0 (some y) s = (R y ∧ (∀ c, cel s0 D = some c → cel s D = some c) ∧ I s) := nr rfl
theorem okQ_lcRng {lo c : Int} {n : Nat} {turn : MV → Store → Out (Option MV)} {Q : MV → Store → Prop} {st : Store} (hn : n ≤ sizeMax) (I : Nat → Store → Prop) (R : MV → Prop) (h0 : I 0 (st ++ [.lst []])) (hset : ∀ i s c, I i s → I i (s.set st.length c))
    (ht : ∀ i s, i < n → I i s → OkQ (MapQ R (I (i + 1)) st.length s) (turn (.int (lo + (i : Int) * c)) s)) (he : ∀ acc s, cel s st.length = some (.lst acc) → acc.length = n → (∀ y, y ∈ acc → R y) → I n s → Q (.loc st.length) s) : OkQ Q (lcRun (.rng lo c n) turn st) := by
  have hl : (rngL lo c n).length = n := rngL_len
  obtain ⟨acc, s, h1, h2, h3, h4, h5⟩ := lcRun_map (J := .rng lo c n) (turn := turn) (l := rngL lo c n) (st := st) (by rw [hl]; rfl) (by rw [hl]; exact hn) I (fun _ y => R y) (fun i s _ hi => get_rng (by rw [hl] at hi; exact hi)) (fun s _ => by rw [hl]; exact stop_rng) h0 hset (fun i x s hx hI => by
    obtain ⟨hi, e⟩ := rngL_get hx
    rw [e]
    obtain ⟨o, s', g1, g2⟩ := (ht i s hi hI).get
    match o, g2 with
    | some y, g2 => exact ⟨y, s', g1, g2⟩)
  rw [h1]
  refine he acc s h2 (by rw [h3, hl]) (fun y hy => ?_) (by rw [hl] at h5; exact h5)
  obtain ⟨x, _, h⟩ := h4 y hy
  exact h
theorem okQ_lcLst {m : Nat} {l : List MV} {turn : MV → Store → Out (Option MV)} {Q : MV → Store → Prop} {st : Store} (hm : celL (cel st m) = some l) (hn : l.length ≤ sizeMax) (I : Nat → Store → Prop) (R : MV → Prop) (hl : ∀ i s, I i s → celL (cel s m) = some l) (h0 : I 0 (st ++ [.lst []])) (hset : ∀ i s c, I i s → I i (s.set st.length c))
    (ht : ∀ i x s, l[i]? = some x → I i s → OkQ (MapQ R (I (i + 1)) st.length s) (turn x s)) (he : ∀ acc s, cel s st.length = some (.lst acc) → acc.length = l.length → (∀ y, y ∈ acc → R y) → I l.length s → Q (.loc st.length) s) : OkQ Q (lcRun (.lst m) turn st) := by
  obtain ⟨acc, s, h1, h2, h3, h4, h5⟩ := lcRun_map (J := .lst m) (turn := turn) (l := l) (st := st) (by simp [hm]) hn I (fun _ y => R y) (fun i s hI hi => get_lst (hl i s hI)) (fun s hI => stop_lst (hl _ s hI)) h0 hset (fun i x s hx hI => by
    obtain ⟨o, s', g1, g2⟩ := (ht i x s hx hI).get
    match o, g2 with
    | some y, g2 => exact ⟨y, s', g1, g2⟩)
  rw [h1]
  refine he acc s h2 h3 (fun y hy => ?_) h5
  obtain ⟨x, _, h⟩ := h4 y hy
  exact h
theorem OkQ.eq {α : Type} {a : α} {s : Store} {o : Out α} (h : ∀ Q : α → Store → Prop, Q a s → OkQ Q o) : o = .ok a s := by
  have := h (fun x t => x = a ∧ t = s) ⟨rfl, rfl⟩
  match o, this with
  | .ok x t, ⟨h1, h2⟩ => rw [h1, h2]
/-- a comprehension whose filter lets nothing by -/
theorem okQ_lcNone {m : Nat} {l : List MV} {turn : MV → Store → Out (Option MV)} {Q : MV → Store → Prop} {st : Store} (hm : celL (cel st m) = some l) (I : Nat → Store → Prop) (hl : ∀ i s, I i s → celL (cel s m) = some l) (h0 : I 0 (st ++ [.lst []]))
    (ht : ∀ i x s, l[i]? = some x → I i s → OkQ (fun o s' => o = none ∧ (∀ c, cel s st.length = some c → cel s' st.length = some c) ∧ I (i + 1) s') (turn x s)) (he : ∀ s, cel s st.length = some (.lst []) → I l.length s → Q (.loc st.length) s) : OkQ Q (lcRun (.lst m) turn st) := by
  obtain ⟨acc, s, h1, h2, h3, h4⟩ := lcRun_go (J := .lst m) (turn := turn) (l := l) (st := st) (by simp [hm]) (fun i acc s => I i s ∧ acc = []) (fun i acc s h hi => get_lst (hl i s h.1)) (fun acc s h => stop_lst (hl _ s h.1)) (fun i x acc s hx hD h => by
    obtain ⟨o, s', g1, g2, g3, g4⟩ := (ht i x s hx h.1).get
    subst g2
    exact ⟨none, s', g1, g3 _ hD, by rw [h.2]; decide, g4, h.2⟩) ⟨h0, rfl⟩
  subst h4
  rw [h1]
  exact he s h2 h3
def enmL (l : List MV) : List MV := l.zipIdx.map fun p => .tup [.int p.2, p.1]
theorem enmL_len (l : List MV) : (enmL l).length = l.length := by simp [enmL]
theorem enmL_get (l : List MV) (i : Nat) : (enmL l)[i]? = l[i]?.map fun x => .tup [.int i, x] := by
  simp only [enmL, List.getElem?_map, List.getElem?_zipIdx, Option.map_map]
  cases l[i]? <;> simp
theorem okQ_enm {m n : Nat} {l : List MV} {turn : MV → Env → Store → Out Ctl} {Q : Ctl → Store → Prop} {env : Env} {st : Store} (hn : n = l.length) (P : Nat → Env → Store → Prop) (h0 : P 0 env st) (hl : ∀ i env st, P i env st → celL (cel st m) = some l)
    (ht : ∀ i x env st, l[i]? = some x → P i env st → OkQ (TurnQ P Q i) (turn (.tup [.int i, x]) env st)) (he : ∀ env st, P l.length env st → Q (.next env) st) : OkQ Q (forLoop (.enm m) turn n 0 env st) := by
  refine okQ_for (l := enmL l) P (fun i env st hp hi => ?_) (fun env st hp => ?_) (fun i x env st hx hp => ?_) (fun env st hp => he env st (by rw [enmL_len] at hp; exact hp)) n 0 env st (by rw [enmL_len]; omega) h0
  · have : getL st m = some l := by rw [getL_eq, hl i env st hp]
    rw [enmL_get]
    simp only [Iter.get, this, Option.bind_some]
  · have : getL st m = some l := by rw [getL_eq, hl _ env st hp]
    rw [enmL_len]
    simp only [Iter.stop, this, Nat.le_refl, decide_true]
  · rw [enmL_get] at hx
    cases e : l[i]? with
    | none =>
      rw [e] at hx
      cases hx
    | some y =>
      rw [e] at hx
      cases hx
      exact ht i y env st e hp
end Mini
end

section
set_option linter.all false
set_option maxRecDepth 100000
set_option maxHeartbeats 2000000
namespace Mini
-- 0 clip: 0:value 1:band
def d_clip : MDef := ⟨2, 2,
  [
    .ret (.prim .max2 [(.prim .neg [(.var 1)]), (.prim .min2 [(.var 1), (.var 0)])])]⟩
-- 1 forward: 0:start 1:votes 2:toggle 3:counter 4:told 5:vote
def d_forward : MDef := ⟨3, 6,
  [
    .asg (.nm 3) (.ite (.var 0) (.var 2) (.prim .neg [(.var 2)])),
    .asg (.nm 4) (.lst []),
    .loop (.nm 5) (.seq (.var 1))
      [
        .expr (.meth .append (.var 4) [(.op2 .add (.var 3) (.var 5))]),
        .asg (.nm 3) (.call 0 [(.op2 .add (.var 3) (.var 5)), (.var 2)])] [5],
    .ret (.var 4)]⟩
-- 2 backward: 0:votes 1:toggle 2:last 3:told 4:vote
def d_backward : MDef := ⟨3, 5,
  [
    .asg (.nm 3) (.lst [(.var 2)]),
    .loop (.nm 4) (.seq (.rev (.var 0)))
      [
        .expr (.meth .append (.var 3) [(.call 0 [(.op2 .add (.op2 .ix (.var 3) (.prim .neg [(.con (.int 1))])) (.var 4)), (.var 1)])])] [4],
    .ret (.rev (.var 3))]⟩
-- 3 counter_sums: 0:start 1:votes 2:toggle 3:last 4:ahead 5:behind 6:index
def d_counter_sums : MDef := ⟨4, 7,
  [
    .asg (.nm 4) (.call 1 [(.var 0), (.var 1), (.var 2)]),
    .asg (.nm 5) (.call 2 [(.var 1), (.var 2), (.var 3)]),
    .ret (.lcR1 (.nm 6) (.prim .len [(.var 4)]) [] (.op2 .add (.op2 .ix (.var 4) (.var 6)) (.op2 .ix (.var 5) (.op2 .add (.var 6) (.con (.int 1))))))]⟩
-- 4 row_between: 0:start 1:votes 2:toggle 3:last 4:total
def d_row_between : MDef := ⟨4, 5,
  [
    .ret (.lcS (.nm 4) (.call 3 [(.var 0), (.var 1), (.var 2), (.var 3)]) [] (.op2 .gt (.var 4) (.con (.int 0))))]⟩
-- 5 least_row: 0:start 1:votes 2:toggle
def d_least_row : MDef := ⟨3, 3,
  [
    .ret (.call 4 [(.var 0), (.var 1), (.var 2), (.con (.int 0))])]⟩
-- 6 greatest_row: 0:start 1:votes 2:toggle 3:total
def d_greatest_row : MDef := ⟨3, 4,
  [
    .ret (.lcS (.nm 3) (.call 3 [(.var 0), (.var 1), (.var 2), (.con (.int 0))]) [] (.op2 .ge (.var 3) (.con (.int 0))))]⟩
-- 7 _law_source: 0:_law_script 1:_law_place 2:_law_cell
def d__law_source : MDef := ⟨2, 3,
  [
    .asg (.nm 2) (.ite (.op2 .lt (.var 1) (.prim .len [(.var 0)])) (.prim .abs [(.prim .int [(.op2 .ix (.var 0) (.var 1))])]) (.op2 .add (.op2 .add (.con (.int 7)) (.op2 .mul (.con (.int 31)) (.var 1))) (.op2 .mul (.con (.int 1009)) (.prim .len [(.var 0)])))),
    .ret (.lst [(.var 2), (.ite (.op2 .ge (.var 2) (.op2 .pow (.con (.int 10)) (.con (.int 18)))) (.var 2) (.con (.int 0))), (.con (.int 0))])]⟩
-- 8 _law_draw: 0:_law_source_here 1:_law_many 2:_law_told 3:_law_mixed
def d__law_draw : MDef := ⟨2, 4,
  [
    .setIx (.var 0) (.con (.int 2)) (.op2 .add (.op2 .ix (.var 0) (.con (.int 2))) (.con (.int 1))),
    .ite (.op2 .gt (.op2 .ix (.var 0) (.con (.int 1))) (.con (.int 0)))
      [
        .asg (.nm 2) (.op2 .mod (.prim .int [(.op2 .ix (.var 0) (.con (.int 1)))]) (.var 1)),
        .setIx (.var 0) (.con (.int 1)) (.op2 .fdiv (.op2 .ix (.var 0) (.con (.int 1))) (.var 1)),
        .ret (.var 2)]
      [],
    .asg (.nm 3) (.op2 .mod (.prim .int [(.op2 .add (.op2 .add (.op2 .ix (.var 0) (.con (.int 0))) (.op2 .mul (.con (.int 7919)) (.op2 .ix (.var 0) (.con (.int 2))))) (.con (.int 13)))]) (.con (.int 2147483647))),
    .asg (.nm 3) (.op2 .mod (.prim .int [(.op2 .mul (.var 3) (.op2 .add (.var 3) (.con (.int 48271))))]) (.con (.int 2147483629))),
    .asg (.nm 3) (.op2 .mod (.prim .int [(.op2 .add (.op2 .mul (.var 3) (.op2 .add (.var 3) (.con (.int 69621)))) (.op2 .mul (.con (.int 31)) (.op2 .ix (.var 0) (.con (.int 2)))))]) (.con (.int 2147483647))),
    .ret (.op2 .mod (.prim .int [(.op2 .fdiv (.var 3) (.con (.int 9)))]) (.var 1))]⟩
-- 9 _law_price: 0:_law_source_here 1:_law_kind
def d__law_price : MDef := ⟨1, 2,
  [
    .asg (.nm 1) (.call 8 [(.var 0), (.con (.int 6))]),
    .ite (.op2 .eq (.var 1) (.con (.int 0)))
      [
        .ret (.con (.int 0))]
      [],
    .ite (.op2 .eq (.var 1) (.con (.int 1)))
      [
        .ret (.call 8 [(.var 0), (.op2 .add (.op2 .pow (.con (.int 10)) (.con (.int 12))) (.con (.int 1)))])]
      [],
    .ite (.op2 .eq (.var 1) (.con (.int 2)))
      [
        .ret (.call 8 [(.var 0), (.con (.int 61))])]
      [],
    .ret (.call 8 [(.var 0), (.con (.int 13))])]⟩
-- 10 _law_vote: 0:_law_source_here 1:_law_kind 2:_law_sign
def d__law_vote : MDef := ⟨1, 3,
  [
    .asg (.nm 1) (.call 8 [(.var 0), (.con (.int 12))]),
    .asg (.nm 2) (.op2 .sub (.con (.int 1)) (.op2 .mul (.con (.int 2)) (.call 8 [(.var 0), (.con (.int 2))]))),
    .ite (.op2 .lt (.var 1) (.con (.int 2)))
      [
        .ret (.con (.int 0))]
      [],
    .ite (.op2 .eq (.var 1) (.con (.int 2)))
      [
        .ret (.op2 .mul (.var 2) (.call 8 [(.var 0), (.op2 .add (.op2 .pow (.con (.int 10)) (.con (.int 30))) (.con (.int 1000)))]))]
      [],
    .ite (.op2 .lt (.var 1) (.con (.int 5)))
      [
        .ret (.op2 .mul (.var 2) (.op2 .add (.con (.int 1)) (.call 8 [(.var 0), (.con (.int 60))])))]
      [],
    .ret (.op2 .mul (.var 2) (.op2 .add (.con (.int 1)) (.call 8 [(.var 0), (.con (.int 4))])))]⟩
-- 11 _law_sides: 0:_law_thing 1:_law_due 2:_law_place
def d__law_sides : MDef := ⟨2, 3,
  [
    .ite (.or (.nt (.prim .isList [(.var 0)])) (.op2 .ne (.prim .len [(.var 0)]) (.prim .len [(.var 1)])))
      [
        .ret (.con (.bl false))]
      [],
    .loop (.nm 2) (.rng1 (.prim .len [(.var 1)]))
      [
        .ite (.or (.nt (.prim .isBool [(.op2 .ix (.var 0) (.var 2))])) (.op2 .ne (.op2 .ix (.var 0) (.var 2)) (.op2 .ix (.var 1) (.var 2))))
          [
            .ret (.con (.bl false))]
          []] [2],
    .ret (.con (.bl true))]⟩
-- 12 _law_solo: 0:_law_start 1:_law_weights 2:_law_price_here 3:_law_off 4:_law_on_side 5:_law_weight 6:_law_after_off 7:_law_after_on
def d__law_solo : MDef := ⟨3, 8,
  [
    .asg (.nm 3) (.ite (.var 0) (.var 2) (.con (.int 0))),
    .asg (.nm 4) (.ite (.var 0) (.con (.int 0)) (.var 2)),
    .loop (.nm 5) (.seq (.var 1))
      [
        .asg (.nm 6) (.op2 .add (.prim .min2 [(.var 3), (.op2 .add (.var 4) (.var 2))]) (.prim .max2 [(.con (.int 0)), (.var 5)])),
        .asg (.nm 7) (.op2 .add (.prim .min2 [(.var 4), (.op2 .add (.var 3) (.var 2))]) (.prim .max2 [(.con (.int 0)), (.op2 .sub (.con (.int 0)) (.var 5))])),
        .asg (.nm 3) (.var 6),
        .asg (.nm 4) (.var 7)] [5, 6, 7],
    .ret (.prim .min2 [(.var 3), (.var 4)])]⟩
-- 13 _law_gaps: 0:_law_start 1:_law_weights 2:_law_price_here 3:_law_low 4:_law_top 5:_law_ahead 6:_law_weight 7:_law_after_low 8:_law_after_top 9:_law_gaps_here 10:_law_place
def d__law_gaps : MDef := ⟨3, 11,
  [
    .asg (.nm 3) (.ite (.var 0) (.var 2) (.con (.int 0))),
    .asg (.nm 4) (.ite (.var 0) (.con (.int 0)) (.var 2)),
    .asg (.nm 5) (.lst []),
    .loop (.nm 6) (.seq (.var 1))
      [
        .asg (.nm 7) (.op2 .add (.prim .min2 [(.var 3), (.op2 .add (.var 4) (.var 2))]) (.prim .max2 [(.con (.int 0)), (.var 6)])),
        .asg (.nm 8) (.op2 .add (.prim .min2 [(.var 4), (.op2 .add (.var 3) (.var 2))]) (.prim .max2 [(.con (.int 0)), (.op2 .sub (.con (.int 0)) (.var 6))])),
        .asg (.nm 3) (.var 7),
        .asg (.nm 4) (.var 8),
        .expr (.meth .append (.var 5) [(.op2 .sub (.var 3) (.var 4))])] [6, 7, 8],
    .asg (.nm 3) (.con (.int 0)),
    .asg (.nm 4) (.con (.int 0)),
    .asg (.nm 9) (.lst []),
    .loop (.nm 10) (.down (.op2 .sub (.prim .len [(.var 1)]) (.con (.int 1))) (.prim .neg [(.con (.int 1))]))
      [
        .expr (.meth .append (.var 9) [(.op2 .sub (.op2 .add (.op2 .ix (.var 5) (.var 10)) (.var 3)) (.var 4))]),
        .asg (.nm 7) (.op2 .add (.var 3) (.prim .max2 [(.con (.int 0)), (.op2 .ix (.var 1) (.var 10))])),
        .asg (.nm 8) (.op2 .add (.var 4) (.prim .max2 [(.con (.int 0)), (.op2 .sub (.con (.int 0)) (.op2 .ix (.var 1) (.var 10)))])),
        .asg (.nm 3) (.prim .min2 [(.var 7), (.op2 .add (.var 8) (.var 2))]),
        .asg (.nm 4) (.prim .min2 [(.var 8), (.op2 .add (.var 7) (.var 2))])] [7, 8, 10],
    .ret (.rev (.var 9))]⟩
-- 14 _law_some: 0:_law_source_here 1:_law_unit
def d__law_some : MDef := ⟨2, 2,
  [
    .ite (.op2 .eq (.var 1) (.con (.int 0)))
      [
        .ret (.call 10 [(.var 0)])]
      [],
    .ret (.op2 .mul (.var 1) (.op2 .sub (.call 8 [(.var 0), (.con (.int 7))]) (.con (.int 3))))]⟩
-- 15 _law_cost_of_row: 0:_law_start 1:_law_weights 2:_law_price_here 3:_law_row 4:_law_cost 5:_law_here 6:_law_place
def d__law_cost_of_row : MDef := ⟨4, 7,
  [
    .asg (.nm 4) (.con (.int 0)),
    .asg (.nm 5) (.var 0),
    .loop (.nm 6) (.rng1 (.prim .len [(.var 1)]))
      [
        .ite (.op2 .ne (.op2 .ix (.var 3) (.var 6)) (.var 5))
          [
            .asg (.nm 4) (.op2 .add (.var 4) (.var 2))]
          [],
        .asg (.nm 5) (.op2 .ix (.var 3) (.var 6)),
        .asg (.nm 4) (.op2 .add (.var 4) (.ite (.var 5) (.prim .max2 [(.con (.int 0)), (.op2 .sub (.con (.int 0)) (.op2 .ix (.var 1) (.var 6)))]) (.prim .max2 [(.con (.int 0)), (.op2 .ix (.var 1) (.var 6))])))] [6],
    .ret (.var 4)]⟩
-- 16 _law_longer: 0:_law_entry 1:_law_side 2:_law_start 3:_law_weight 4:_law_price_here 5:_law_here 6:_law_against
def d__law_longer : MDef := ⟨5, 7,
  [
    .asg (.nm 5) (.ite (.op2 .gt (.prim .len [(.op2 .ix (.var 0) (.con (.int 0)))]) (.con (.int 0))) (.op2 .ix (.op2 .ix (.var 0) (.con (.int 0))) (.op2 .sub (.prim .len [(.op2 .ix (.var 0) (.con (.int 0)))]) (.con (.int 1)))) (.var 2)),
    .asg (.nm 6) (.ite (.var 1) (.prim .max2 [(.con (.int 0)), (.op2 .sub (.con (.int 0)) (.var 3))]) (.prim .max2 [(.con (.int 0)), (.var 3)])),
    .ret (.lst [(.op2 .add (.op2 .ix (.var 0) (.con (.int 0))) (.lst [(.var 1)])), (.op2 .add (.op2 .add (.op2 .ix (.var 0) (.con (.int 1))) (.ite (.op2 .eq (.var 1) (.var 5)) (.con (.int 0)) (.var 4))) (.var 6))])]⟩
-- 17 _law_rows: 0:_law_start 1:_law_weights 2:_law_price_here 3:_law_rows_here 4:_law_weight 5:_law_shorter 6:_law_entry
def d__law_rows : MDef := ⟨3, 7,
  [
    .asg (.nm 3) (.lst [(.lst [(.lst []), (.con (.int 0))])]),
    .loop (.nm 4) (.seq (.var 1))
      [
        .asg (.nm 5) (.var 3),
        .asg (.nm 3) (.lcS (.nm 6) (.var 5) [] (.call 16 [(.var 6), (.con (.bl false)), (.var 0), (.var 4), (.var 2)])),
        .asg (.nm 3) (.op2 .add (.var 3) (.lcS (.nm 6) (.var 5) [] (.call 16 [(.var 6), (.con (.bl true)), (.var 0), (.var 4), (.var 2)])))] [4, 5],
    .ret (.var 3)]⟩
-- 18 _law_short: 0:_law_start 1:_law_weights 2:_law_price_here 3:_law_rows_here 4:_law_least 5:_law_entry 6:_law_best 7:_law_every 8:_law_row 9:_law_place 10:_law_some_here
def d__law_short : MDef := ⟨3, 11,
  [
    .asg (.nm 3) (.call 17 [(.var 0), (.var 1), (.var 2)]),
    .asg (.nm 4) (.prim .min1 [(.lcS (.nm 5) (.var 3) [] (.op2 .ix (.var 5) (.con (.int 1))))]),
    .asg (.nm 6) (.lcS (.nm 5) (.var 3) [(.op2 .eq (.op2 .ix (.var 5) (.con (.int 1))) (.var 4))] (.op2 .ix (.var 5) (.con (.int 0)))),
    .asg (.nm 7) (.lcR1 (.nm 9) (.prim .len [(.var 1)]) [] (.op2 .eq (.prim .len [(.lcS (.nm 8) (.var 6) [(.nt (.op2 .ix (.var 8) (.var 9)))] (.var 8))]) (.con (.int 0)))),
    .asg (.nm 10) (.lcR1 (.nm 9) (.prim .len [(.var 1)]) [] (.op2 .gt (.prim .len [(.lcS (.nm 8) (.var 6) [(.op2 .ix (.var 8) (.var 9))] (.var 8))]) (.con (.int 0)))),
    .ret (.lst [(.var 4), (.var 7), (.var 10)])]⟩
-- 19 _law_long: 0:_law_start 1:_law_weights 2:_law_price_here 3:_law_gaps_here 4:_law_gap
def d__law_long : MDef := ⟨3, 5,
  [
    .asg (.nm 3) (.call 13 [(.var 0), (.var 1), (.var 2)]),
    .ret (.lst [(.call 12 [(.var 0), (.var 1), (.var 2)]), (.lcS (.nm 4) (.var 3) [] (.op2 .gt (.var 4) (.con (.int 0)))), (.lcS (.nm 4) (.var 3) [] (.op2 .ge (.var 4) (.con (.int 0))))])]⟩
-- 20 _law_right: 0:_law_start 1:_law_weights 2:_law_price_here 3:_law_due 4:_law_mine 5:_law_low 6:_law_top 7:_law_row
def d__law_right : MDef := ⟨4, 8,
  [
    .asg (.nm 4) (.prim .list [(.var 1)]),
    .asg (.nm 5) (.call 5 [(.var 0), (.var 4), (.var 2)]),
    .asg (.nm 6) (.call 6 [(.var 0), (.var 4), (.var 2)]),
    .ite (.or (.nt (.call 11 [(.var 5), (.op2 .ix (.var 3) (.con (.int 1)))])) (.nt (.call 11 [(.var 6), (.op2 .ix (.var 3) (.con (.int 2)))])))
      [
        .ret (.con (.bl false))]
      [],
    .loop (.nm 7) (.seq (.lst [(.var 5), (.var 6)]))
      [
        .ite (.op2 .ne (.call 15 [(.var 0), (.var 1), (.var 2), (.var 7)]) (.op2 .ix (.var 3) (.con (.int 0))))
          [
            .ret (.con (.bl false))]
          []] [7],
    .expr (.meth .append (.var 5) [(.con (.bl true))]),
    .expr (.meth .append (.var 6) [(.con (.bl false))]),
    .setIx (.var 5) (.con (.int 0)) (.nt (.op2 .ix (.var 5) (.con (.int 0)))),
    .setIx (.var 6) (.con (.int 0)) (.nt (.op2 .ix (.var 6) (.con (.int 0)))),
    .ite (.nt (.call 11 [(.call 5 [(.var 0), (.var 4), (.var 2)]), (.op2 .ix (.var 3) (.con (.int 1)))]))
      [
        .ret (.con (.bl false))]
      [],
    .ret (.and (.call 11 [(.call 6 [(.var 0), (.var 4), (.var 2)]), (.op2 .ix (.var 3) (.con (.int 2)))]) (.op2 .eq (.prim .repr [(.var 4)]) (.prim .repr [(.var 1)])))]⟩
-- 21 law: 0:_law_script 1:_law_source_here 2:_law_start 3:_law_unit 4:_law_price_here 5:_law_draws 6:_law_short_here 7:_law_turn 8:_law_long_here 9:_law_further 10:_law_begin
def d_law : MDef := ⟨1, 11,
  [
    .asg (.nm 1) (.call 7 [(.var 0), (.con (.int 0))]),
    .asg (.nm 2) (.op2 .eq (.call 8 [(.var 1), (.con (.int 2))]) (.con (.int 1))),
    .asg (.nm 3) (.op2 .ix (.lst [(.con (.int 0)), (.con (.int 0)), (.con (.int 0)), (.con (.int 1)), (.con (.int 2)), (.op2 .pow (.con (.int 10)) (.con (.int 11)))]) (.call 8 [(.var 1), (.con (.int 6))])),
    .asg (.nm 4) (.ite (.op2 .gt (.var 3) (.con (.int 0))) (.op2 .mul (.var 3) (.call 8 [(.var 1), (.con (.int 7))])) (.call 9 [(.var 1)])),
    .asg (.nm 5) (.call 7 [(.var 0), (.con (.int 1))]),
    .asg (.nm 6) (.lcR1 (.nm 7) (.call 8 [(.var 5), (.con (.int 9))]) [] (.call 14 [(.var 5), (.var 3)])),
    .asg (.nm 5) (.call 7 [(.var 0), (.con (.int 2))]),
    .asg (.nm 8) (.lcR1 (.nm 7) (.call 8 [(.var 5), (.con (.int 21))]) [] (.call 14 [(.var 5), (.var 3)])),
    .loop (.nm 9) (.rng2 (.con (.int 3)) (.prim .min2 [(.prim .len [(.var 0)]), (.con (.int 23))]))
      [
        .expr (.meth .append (.var 8) [(.call 14 [(.call 7 [(.var 0), (.var 9)]), (.var 3)])])] [9],
    .loop (.nm 10) (.seq (.lst [(.var 2), (.nt (.var 2))]))
      [
        .ite (.nt (.call 20 [(.var 10), (.var 6), (.var 4), (.call 18 [(.var 10), (.var 6), (.var 4)])]))
          [
            .ret (.con (.bl false))]
          [],
        .ite (.nt (.call 20 [(.var 10), (.var 8), (.var 4), (.call 19 [(.var 10), (.var 8), (.var 4)])]))
          [
            .ret (.con (.bl false))]
          [],
        .ite (.nt (.call 20 [(.var 10), (.lst []), (.var 4), (.lst [(.con (.int 0)), (.lst []), (.lst [])])]))
          [
            .ret (.con (.bl false))]
          []] [10],
    .ret (.con (.bl true))]⟩
def defs : List MDef := [d_clip, d_forward, d_backward, d_counter_sums, d_row_between, d_least_row, d_greatest_row, d__law_source, d__law_draw, d__law_price, d__law_vote, d__law_sides, d__law_solo, d__law_gaps, d__law_some, d__law_cost_of_row, d__law_longer, d__law_rows, d__law_short, d__law_long, d__law_right, d_law]
def Wd (r : MV → Txt) : World := ⟨defs, r, 100000⟩
theorem g_clip (r : MV → Txt) : (Wd r).defs[0]? = some d_clip := rfl
theorem g_forward (r : MV → Txt) : (Wd r).defs[1]? = some d_forward := rfl
theorem g_backward (r : MV → Txt) : (Wd r).defs[2]? = some d_backward := rfl
theorem g_counter_sums (r : MV → Txt) : (Wd r).defs[3]? = some d_counter_sums := rfl
theorem g_row_between (r : MV → Txt) : (Wd r).defs[4]? = some d_row_between := rfl
theorem g_least_row (r : MV → Txt) : (Wd r).defs[5]? = some d_least_row := rfl
theorem g_greatest_row (r : MV → Txt) : (Wd r).defs[6]? = some d_greatest_row := rfl
theorem g__law_source (r : MV → Txt) : (Wd r).defs[7]? = some d__law_source := rfl
theorem g__law_draw (r : MV → Txt) : (Wd r).defs[8]? = some d__law_draw := rfl
theorem g__law_price (r : MV → Txt) : (Wd r).defs[9]? = some d__law_price := rfl
theorem g__law_vote (r : MV → Txt) : (Wd r).defs[10]? = some d__law_vote := rfl
theorem g__law_sides (r : MV → Txt) : (Wd r).defs[11]? = some d__law_sides := rfl
theorem g__law_solo (r : MV → Txt) : (Wd r).defs[12]? = some d__law_solo := rfl
theorem g__law_gaps (r : MV → Txt) : (Wd r).defs[13]? = some d__law_gaps := rfl
theorem g__law_some (r : MV → Txt) : (Wd r).defs[14]? = some d__law_some := rfl
theorem g__law_cost_of_row (r : MV → Txt) : (Wd r).defs[15]? = some d__law_cost_of_row := rfl
theorem g__law_longer (r : MV → Txt) : (Wd r).defs[16]? = some d__law_longer := rfl
theorem g__law_rows (r : MV → Txt) : (Wd r).defs[17]? = some d__law_rows := rfl
theorem g__law_short (r : MV → Txt) : (Wd r).defs[18]? = some d__law_short := rfl
theorem g__law_long (r : MV → Txt) : (Wd r).defs[19]? = some d__law_long := rfl
theorem g__law_right (r : MV → Txt) : (Wd r).defs[20]? = some d__law_right := rfl
theorem g_law (r : MV → Txt) : (Wd r).defs[21]? = some d_law := rfl
end Mini
namespace Mini
theorem wf_W (r : MV → Txt) : (Wd r).wf = 100000 := rfl
/-- a row of draws stands at s; at most b were taken -/
def Src (st : Store) (s b : Nat) : Prop := ∃ (c q : Int) (n : Nat), cel st s = some (.lst [.int c, .int q, .int n]) ∧ n ≤ b
theorem Src.keep {st st' : Store} {s b : Nat} {w : List Nat} (h : Src st s b) (k : Keep w st st') (hs : s ∉ w) : Src st' s b := by
  obtain ⟨c, q, n, h1, h2⟩ := h
  exact ⟨c, q, n, cel_keep k h1 hs, h2⟩
theorem mulS {i j : Int} {st : Store} (a b : Nat) (hi : i.natAbs < 2 ^ a) (hj : j.natAbs < 2 ^ b) (ha : 0 < a := by decide) (hb : 0 < b := by decide) (h : a + b ≤ 1000000 := by decide) : op2 .mul (.int i) (.int j) st = .ok (.int (i * j)) st := o_mul (mulOk hi hj ha hb h)
theorem mulM {x d : Int} {e : Int} {st : Store} (hd : 0 < d) (hd2 : d < 2 ^ 40) (he : 0 ≤ e) (he2 : e < 2 ^ 40) : op2 .mul (.int (x % d)) (.int (x % d + e)) st = .ok (.int (x % d * (x % d + e))) st := by
  have h0 := Int.emod_nonneg x (show d ≠ 0 by omega)
  have h1 := Int.emod_lt_of_pos x hd
  exact mulS 40 42 (by omega) (by omega)
theorem draw_ok {r : MV → Txt} {K s b : Nat} {m : Int} {st : Store} (hK : 1 ≤ K) (h : Src st s b) (hb : b ≤ 1000000) (hm : 0 < m) (hm2 : m < 10 ^ 40) : ∃ (v : Int) (st' : Store), callK (Wd r) K 8 [.loc s, .int m] st = .ok (.int v) st' ∧ 0 ≤ v ∧ v < m ∧ Src st' s (b + 1) ∧ Keep [s] st st' := by
  obtain ⟨k, rfl⟩ : ∃ k, K = k + 1 := ⟨K - 1, by omega⟩
  obtain ⟨c, q, n, h1, h2⟩ := h
  refine OkQ.ex MV.int fun Q hQ => ?_
  rw [callK_eq (g__law_draw r) rfl]
  have hlt := cel_lt h1
  have hml : m.natAbs.log2 < 9000 := Nat.lt_of_lt_of_le (log2_lt (k := 140) (by omega) (by decide)) (by decide)
  have hmul1 : ∀ s, op2 .mul (.int 7919) (.int ((n : Int) + 1)) s = .ok (.int (7919 * ((n : Int) + 1))) s := fun s => mulS 40 40 (by omega) (by omega)
  have hmul2 : ∀ s, op2 .mul (.int 31) (.int ((n : Int) + 1)) s = .ok (.int (31 * ((n : Int) + 1))) s := fun s => mulS 40 40 (by omega) (by omega)
  by_cases hq : 0 < q
  · simp [d__law_draw, h1, cel_set, hlt, ixN_lit, hq, o_mod hm, o_fdiv hm hml]
    refine hQ _ _ ⟨Int.emod_nonneg _ (by omega), Int.emod_lt_of_pos _ hm, ⟨_, _, n + 1, cel_set _ _ _ (by simpa using hlt), by omega⟩, ?_⟩
    exact Keep.set
  · simp [d__law_draw, h1, cel_set, hlt, ixN_lit, hq, o_mod hm, mulM, hmul1, hmul2]
    refine hQ _ _ ⟨Int.emod_nonneg _ (by omega), Int.emod_lt_of_pos _ hm, ⟨_, _, n + 1, cel_set _ _ _ (by simpa using hlt), by omega⟩, ?_⟩
    exact Keep.set
theorem Src.mono {st : Store} {s b b' : Nat} (h : Src st s b) (hb : b ≤ b') : Src st s b' := by
  obtain ⟨c, q, n, h1, h2⟩ := h
  exact ⟨c, q, n, h1, by omega⟩
theorem Src.set {st : Store} {s b n : Nat} {c : Cell} (h : Src st s b) (hn : n ≠ s) : Src (st.set n c) s b := by
  obtain ⟨c, q, m, h1, h2⟩ := h
  exact ⟨c, q, m, by rw [cel_set_ne _ _ _ _ hn]; exact h1, h2⟩
theorem Src.app {st t : Store} {s b : Nat} (h : Src st s b) : Src (st ++ t) s b := by
  obtain ⟨c, q, m, h1, h2⟩ := h
  exact ⟨c, q, m, cel_app_old h1, h2⟩
theorem Src.lt {st : Store} {s b : Nat} (h : Src st s b) : s < st.length := by
  obtain ⟨c, q, m, h1, h2⟩ := h
  exact cel_lt h1
theorem source_ok {r : MV → Txt} {K p : Nat} {ns : List Int} {j : Int} {st : Store} (hK : 1 ≤ K) (hp : cel st p = some (.ro (ns.map .int))) (hn : ns.length ≤ 1000) (hj : 0 ≤ j) (hj2 : j ≤ 1000000) : ∃ (n : Nat) (st' : Store), callK (Wd r) K 7 [.loc p, .int j] st = .ok (.loc n) st' ∧ st.length ≤ n ∧ Src st' n 0 ∧ Keep [] st st' := by
  obtain ⟨k, rfl⟩ : ∃ k, K = k + 1 := ⟨K - 1, by omega⟩
  refine OkQ.ex MV.loc fun Q hQ => ?_
  rw [callK_eq (g__law_source r) rfl]
  obtain ⟨i, rfl⟩ := Int.eq_ofNat_of_zero_le hj
  have m0 : ∀ s, op2 .mul (.int 31) (.int i) s = .ok (.int (31 * i)) s := fun s => mulS 40 40 (by omega) (by omega)
  have m1 : ∀ s, op2 .mul (.int 1009) (.int ns.length) s = .ok (.int (1009 * ns.length)) s := fun s => mulS 40 40 (by omega) (by omega)
  by_cases c0 : i < ns.length
  · simp [d__law_source, hp, c0]
    by_cases c1 : (1000000000000000000 : Int) ≤ (if ns[i] < 0 then -ns[i] else ns[i])
    · simp [c1, newL_ok, sizeMax]
      exact hQ _ _ ⟨Nat.le_refl _, ⟨_, _, 0, cel_new _ _, by omega⟩, Keep.new⟩
    · simp [c1, newL_ok, sizeMax]
      exact hQ _ _ ⟨Nat.le_refl _, ⟨_, _, 0, cel_new _ _, by omega⟩, Keep.new⟩
  · simp [d__law_source, hp, c0, m0, m1]
    by_cases c1 : (1000000000000000000 : Int) ≤ 7 + 31 * i + 1009 * ns.length
    · simp [c1, newL_ok, sizeMax]
      exact hQ _ _ ⟨Nat.le_refl _, ⟨_, _, 0, cel_new _ _, by omega⟩, Keep.new⟩
    · simp [c1, newL_ok, sizeMax]
      exact hQ _ _ ⟨Nat.le_refl _, ⟨_, _, 0, cel_new _ _, by omega⟩, Keep.new⟩
theorem ints_of {acc : List MV} {R : Int → Prop} (h : ∀ y, y ∈ acc → ∃ i, y = .int i ∧ R i) : ∃ l : List Int, acc = l.map .int ∧ ∀ i, i ∈ l → R i := by
  induction acc with
  | nil => exact ⟨[], rfl, by simp⟩
  | cons y r ih =>
    obtain ⟨l, e, g⟩ := ih fun z hz => h z (by simp [hz])
    obtain ⟨i, hi, hR⟩ := h y (by simp)
    refine ⟨i :: l, by rw [hi, e]; rfl, ?_⟩
    intro x hx
    rcases List.mem_cons.mp hx with rfl | hx
    · exact hR
    · exact g x hx
theorem bls_of {acc : List MV} (h : ∀ y, y ∈ acc → ∃ i, y = .bl i) : ∃ l : List Bool, acc = l.map .bl := by
  induction acc with
  | nil => exact ⟨[], rfl⟩
  | cons y r ih =>
    obtain ⟨l, e⟩ := ih fun z hz => h z (by simp [hz])
    obtain ⟨i, hi⟩ := h y (by simp)
    exact ⟨i :: l, by rw [hi, e]; rfl⟩
def IsB (y : MV) : Prop := ∃ b, y = .bl b
theorem isB_bl (b : Bool) : IsB (.bl b) := ⟨b, rfl⟩
end Mini
namespace Mini
theorem price_ok {r : MV → Txt} {K s b : Nat} {st : Store} (hK : 2 ≤ K) (h : Src st s b) (hb : b ≤ 100000) : ∃ (v : Int) (st' : Store), callK (Wd r) K 9 [.loc s] st = .ok (.int v) st' ∧ 0 ≤ v ∧ v ≤ 10 ^ 12 ∧ Src st' s (b + 2) ∧ Keep [s] st st' := by
  obtain ⟨k, rfl⟩ : ∃ k, K = k + 1 := ⟨K - 1, by omega⟩
  refine OkQ.ex MV.int fun Q hQ => ?_
  rw [callK_eq (g__law_price r) rfl]
  obtain ⟨v1, st1, e1, p1, q1, s1, k1⟩ := draw_ok (r := r) (K := k) (m := 6) (by omega) h (by omega) (by omega) (by omega)
  obtain ⟨v2, st2, e2, p2, q2, s2, k2⟩ := draw_ok (r := r) (K := k) (m := 1000000000001) (by omega) s1 (by omega) (by omega) (by omega)
  obtain ⟨v3, st3, e3, p3, q3, s3, k3⟩ := draw_ok (r := r) (K := k) (m := 61) (by omega) s1 (by omega) (by omega) (by omega)
  obtain ⟨v4, st4, e4, p4, q4, s4, k4⟩ := draw_ok (r := r) (K := k) (m := 13) (by omega) s1 (by omega) (by omega) (by omega)
  by_cases c0 : v1 = 0
  · simp [d__law_price, e1, e2, e3, e4, c0]
    exact hQ _ _ ⟨by omega, by omega, s1.mono (by omega), k1⟩
  by_cases c1 : v1 = 1
  · simp [d__law_price, e1, e2, e3, e4, c1]
    exact hQ _ _ ⟨by omega, by omega, s2, k1.trans k2⟩
  by_cases c2 : v1 = 2
  · simp [d__law_price, e1, e2, e3, e4, c2]
    exact hQ _ _ ⟨by omega, by omega, s3, k1.trans k3⟩
  · simp [d__law_price, e1, e2, e3, e4, c0, c1, c2]
    exact hQ _ _ ⟨by omega, by omega, s4, k1.trans k4⟩
theorem vote_ok {r : MV → Txt} {K s b : Nat} {st : Store} (hK : 2 ≤ K) (h : Src st s b) (hb : b ≤ 100000) : ∃ (v : Int) (st' : Store), callK (Wd r) K 10 [.loc s] st = .ok (.int v) st' ∧ v.natAbs < 10 ^ 31 ∧ Src st' s (b + 3) ∧ Keep [s] st st' := by
  obtain ⟨k, rfl⟩ : ∃ k, K = k + 1 := ⟨K - 1, by omega⟩
  refine OkQ.ex MV.int fun Q hQ => ?_
  rw [callK_eq (g__law_vote r) rfl]
  obtain ⟨v1, st1, e1, p1, q1, s1, k1⟩ := draw_ok (r := r) (K := k) (m := 12) (by omega) h (by omega) (by omega) (by omega)
  obtain ⟨v5, st5, e5, p5, q5, s5, k5⟩ := draw_ok (r := r) (K := k) (m := 2) (by omega) s1 (by omega) (by omega) (by omega)
  obtain ⟨v2, st2, e2, p2, q2, s2, k2⟩ := draw_ok (r := r) (K := k) (m := 1000000000000000000000000001000) (by omega) s5 (by omega) (by omega) (by omega)
  obtain ⟨v3, st3, e3, p3, q3, s3, k3⟩ := draw_ok (r := r) (K := k) (m := 60) (by omega) s5 (by omega) (by omega) (by omega)
  obtain ⟨v4, st4, e4, p4, q4, s4, k4⟩ := draw_ok (r := r) (K := k) (m := 4) (by omega) s5 (by omega) (by omega) (by omega)
  have m0 : ∀ s, op2 .mul (.int 2) (.int v5) s = .ok (.int (2 * v5)) s := fun s => mulS 40 40 (by omega) (by omega)
  have m1 : ∀ s, op2 .mul (.int (1 - 2 * v5)) (.int v2) s = .ok (.int ((1 - 2 * v5) * v2)) s := fun s => mulS 40 140 (by omega) (by omega)
  have m2 : ∀ s, op2 .mul (.int (1 - 2 * v5)) (.int (1 + v3)) s = .ok (.int ((1 - 2 * v5) * (1 + v3))) s := fun s => mulS 40 140 (by omega) (by omega)
  have m3 : ∀ s, op2 .mul (.int (1 - 2 * v5)) (.int (1 + v4)) s = .ok (.int ((1 - 2 * v5) * (1 + v4))) s := fun s => mulS 40 140 (by omega) (by omega)
  have hs : v5 = 0 ∨ v5 = 1 := by omega
  by_cases c0 : v1 < 2
  · simp [d__law_vote, e1, e2, e3, e4, e5, m0, m1, m2, m3, c0]
    exact hQ _ _ ⟨by omega, s5.mono (by omega), k1.trans k5⟩
  by_cases c1 : v1 = 2
  · simp [d__law_vote, e1, e2, e3, e4, e5, m0, m1, m2, m3, c1]
    refine hQ _ _ ⟨?_, s2, (k1.trans k5).trans k2⟩
    rcases hs with hs | hs <;> subst hs <;> omega
  by_cases c2 : v1 < 5
  · simp [d__law_vote, e1, e2, e3, e4, e5, m0, m1, m2, m3, c0, c1, c2]
    refine hQ _ _ ⟨?_, s3, (k1.trans k5).trans k3⟩
    rcases hs with hs | hs <;> subst hs <;> omega
  · simp [d__law_vote, e1, e2, e3, e4, e5, m0, m1, m2, m3, c0, c1, c2]
    refine hQ _ _ ⟨?_, s4, (k1.trans k5).trans k4⟩
    rcases hs with hs | hs <;> subst hs <;> omega
end Mini
namespace Mini
/-- clip, as the code counts it -/
def clipI (v b : Int) : Int := if -b < (if v < b then v else b) then (if v < b then v else b) else -b
end Mini
namespace Mini
theorem clip_ok {r : MV → Txt} {K : Nat} (hK : 1 ≤ K) (v b : Int) (s : Store) : callK (Wd r) K 0 [.int v, .int b] s = .ok (.int (clipI v b)) s := by
  obtain ⟨k, rfl⟩ : ∃ k, K = k + 1 := ⟨K - 1, by omega⟩
  rw [callK_eq (g_clip r) rfl]
  simp [d_clip, clipI]
end Mini
namespace Mini
def cntAt (vs : List Int) (start : Bool) (tg : Int) : Nat → Int
  | 0 => if start = true then tg else -tg
  | i + 1 => clipI (cntAt vs start tg i + vs[i]?.getD 0) tg
def fwP (vs : List Int) (start : Bool) (tg : Int) : Nat → List Int
  | 0 => []
  | i + 1 => fwP vs start tg i ++ [cntAt vs start tg i + vs[i]?.getD 0]
theorem fwP_len (vs : List Int) (start : Bool) (tg : Int) : ∀ i, (fwP vs start tg i).length = i
  | 0 => rfl
  | i + 1 => by rw [fwP, List.length_append, fwP_len vs start tg i]; rfl
theorem fwP_get (vs : List Int) (start : Bool) (tg : Int) : ∀ n i, i < n → (fwP vs start tg n)[i]? = some (cntAt vs start tg i + vs[i]?.getD 0)
  | 0, i, h => by omega
  | n + 1, i, h => by
    rw [fwP]
    by_cases hi : i < n
    · rw [List.getElem?_append_left (by rw [fwP_len]; exact hi), fwP_get vs start tg n i hi]
    · have e : i = n := by omega
      subst e
      rw [List.getElem?_append_right (by rw [fwP_len]; exact Nat.le_refl _), fwP_len, Nat.sub_self]
      rfl
theorem cnt_in (vs : List Int) (start : Bool) {tg : Int} (h : 0 ≤ tg) (i : Nat) : -tg ≤ cntAt vs start tg i ∧ cntAt vs start tg i ≤ tg := by
  cases i with
  | zero => unfold cntAt; split <;> omega
  | succ i => unfold cntAt clipI; split <;> split <;> omega
theorem forward_ok {r : MV → Txt} {K p1 : Nat} {vs : List Int} {start : Bool} {tg : Int} {st : Store} (hK : 2 ≤ K) (h1 : cel st p1 = some (.lst (vs.map .int))) (hb : vs.length ≤ 100000) :
    ∃ (n : Nat) (st' : Store), callK (Wd r) K 1 [.bl start, .loc p1, .int tg] st = .ok (.loc n) st' ∧ st.length ≤ n ∧ cel st' n = some (.lst ((fwP vs start tg vs.length).map .int)) ∧ Keep [] st st' := by
  obtain ⟨k, rfl⟩ : ∃ k, K = k + 1 := ⟨K - 1, by omega⟩
  refine OkQ.ex MV.loc fun Q hQ => ?_
  rw [callK_eq (g_forward r) rfl]
  have hi : (if start = true then Out.ok (MV.int tg) st else Out.ok (MV.int (-tg)) st) = Out.ok (MV.int (if start = true then tg else -tg)) st := by split <;> rfl
  simp [d_forward, hi, newL_ok, cel_app_old h1]
  simp only [okQ_bind]
  refine okQ_lst (l := vs.map .int) (by simp) (fun i env s => env = [some (.bl start), some (.loc p1), some (.int tg), some (.int (cntAt vs start tg i)), some (.loc st.length), none] ∧ Keep [] st s ∧ cel s st.length = some (.lst ((fwP vs start tg i).map .int))) ⟨rfl, Keep.new, cel_new _ _⟩ (fun i env s h => by rw [cel_keep h.2.1 h1 (by simp)]; rfl) (fun i x env s hx hp => ?_) (fun env s hp => ?_)
  · obtain ⟨rfl, kk, cc⟩ := hp
    have hi2 : i < vs.length := by
      have := (List.getElem?_eq_some_iff.mp hx).1
      simpa using this
    rw [List.getElem?_map, List.getElem?_eq_getElem hi2] at hx
    cases hx
    have hl : i < 16000000 := by omega
    have hcl := cel_lt cc
    simp [cc, appV_ok, fwP_len, hl, clip_ok (r := r) (K := k) (by omega), cntAt, hi2, cel_set, hcl, fwP]
    exact kk.setNew (Nat.le_refl _)
  · obtain ⟨rfl, kk, cc⟩ := hp
    simp
    exact hQ _ _ ⟨Nat.le_refl _, by rw [List.length_map] at cc; exact cc, kk⟩
end Mini
namespace Mini
/-- the number behind the first i votes from the end -/
def bkAt (us : List Int) (tg last : Int) : Nat → Int
  | 0 => last
  | i + 1 => clipI (bkAt us tg last i + us[i]?.getD 0) tg
def bkP (us : List Int) (tg last : Int) : Nat → List Int
  | 0 => [last]
  | i + 1 => bkP us tg last i ++ [bkAt us tg last (i + 1)]
theorem bkP_len (us : List Int) (tg last : Int) : ∀ i, (bkP us tg last i).length = i + 1
  | 0 => rfl
  | i + 1 => by rw [bkP, List.length_append, bkP_len us tg last i]; rfl
theorem bkP_last (us : List Int) (tg last : Int) : ∀ i, (bkP us tg last i).getLast? = some (bkAt us tg last i)
  | 0 => rfl
  | i + 1 => by rw [bkP]; simp
theorem bk_in (us : List Int) {tg last : Int} (h : 0 ≤ tg) (h1 : -tg ≤ last) (h2 : last ≤ tg) (i : Nat) : -tg ≤ bkAt us tg last i ∧ bkAt us tg last i ≤ tg := by
  cases i with
  | zero => exact ⟨h1, h2⟩
  | succ i => unfold bkAt clipI; split <;> split <;> omega
theorem bkP_in (us : List Int) {tg last : Int} (h : 0 ≤ tg) (h1 : -tg ≤ last) (h2 : last ≤ tg) : ∀ i x, x ∈ bkP us tg last i → -tg ≤ x ∧ x ≤ tg
  | 0, x, hx => by
    rw [bkP, List.mem_singleton] at hx
    rw [hx]
    exact ⟨h1, h2⟩
  | i + 1, x, hx => by
    rw [bkP] at hx
    rcases List.mem_append.mp hx with hx | hx
    · exact bkP_in us h h1 h2 i x hx
    · rw [List.mem_singleton.mp hx]
      exact bk_in us h h1 h2 (i + 1)
/-- what backward tells -/
def bwL (vs : List Int) (tg last : Int) : List Int := (bkP vs.reverse tg last vs.length).reverse
theorem bwL_len (vs : List Int) (tg last : Int) : (bwL vs tg last).length = vs.length + 1 := by rw [bwL, List.length_reverse, bkP_len]
theorem backward_ok {r : MV → Txt} {K p1 : Nat} {vs : List Int} {last : Int} {tg : Int} {st : Store} (hK : 2 ≤ K) (h1 : cel st p1 = some (.lst (vs.map .int))) (hb : vs.length ≤ 100000) :
    ∃ (n : Nat) (st' : Store), callK (Wd r) K 2 [.loc p1, .int tg, .int last] st = .ok (.loc n) st' ∧ st.length ≤ n ∧ cel st' n = some (.lst ((bwL vs tg last).map .int)) ∧ Keep [] st st' := by
  obtain ⟨k, rfl⟩ : ∃ k, K = k + 1 := ⟨K - 1, by omega⟩
  refine OkQ.ex MV.loc fun Q hQ => ?_
  rw [callK_eq (g_backward r) rfl]
  simp [d_backward, newL_ok, cel_app_old h1]
  simp only [okQ_bind]
  refine okQ_lst (l := (vs.map .int).reverse) (by simp) (fun i env s => env = [some (.loc p1), some (.int tg), some (.int last), some (.loc st.length), none] ∧ Keep [] st s ∧ cel s (st.length + 1) = some (.lst (vs.map .int).reverse) ∧ cel s st.length = some (.lst ((bkP vs.reverse tg last i).map .int))) ⟨rfl, Keep.new, by simp, by simp [bkP]⟩ (fun i env s h => by rw [h.2.2.1]; rfl) (fun i x env s hx hp => ?_) (fun env s hp => ?_)
  · obtain ⟨rfl, kk, cu, cc⟩ := hp
    have hi2 : i < vs.length := by
      have := (List.getElem?_eq_some_iff.mp hx).1
      simpa using this
    rw [← List.map_reverse, List.getElem?_map, List.getElem?_eq_getElem (by simpa using hi2)] at hx
    cases hx
    have hl : i + 1 < 16000000 := by omega
    have hcl := cel_lt cc
    simp [cc, cu, appV_ok, bkP_len, hl, clip_ok (r := r) (K := k) (by omega), bkAt, hi2, cel_set, cel_set_ne, hcl, bkP, bkP_last]
    exact kk.setNew (Nat.le_refl _)
  · obtain ⟨rfl, kk, cu, cc⟩ := hp
    simp at cc
    simp [cc]
    refine hQ _ _ ⟨?_, ?_, kk.app⟩
    · have := cel_lt cc
      omega
    · rw [cel_new]
      simp [bwL]
end Mini
namespace Mini
/-! ### the mathematics: costs still to come (a, b), costs so far (off, on), counters -/
def mn (i j : Int) : Int := if j < i then j else i
def mx0 (j : Int) : Int := if j > 0 then j else 0
def abL (t : Int) : List Int → Int × Int
  | [] => (0, 0)
  | v :: r => (mn (mx0 v + (abL t r).1) (mx0 (-v) + (abL t r).2 + t), mn (mx0 (-v) + (abL t r).2) (mx0 v + (abL t r).1 + t))
def stepD (t v : Int) (x : Int × Int) : Int × Int := (mn x.1 (x.2 + t) + mx0 v, mn x.2 (x.1 + t) + mx0 (-v))
def dpL (t : Int) : List Int → Int × Int → Int × Int
  | [], x => x
  | v :: r, x => dpL t r (stepD t v x)
def cL (t : Int) : List Int → Int → Int
  | [], c => c
  | v :: r, c => cL t r (clipI (c + v) t)
theorem dpL_snoc (t v : Int) : ∀ (l : List Int) (x : Int × Int), dpL t (l ++ [v]) x = stepD t v (dpL t l x)
  | [], x => rfl
  | w :: l, x => dpL_snoc t v l _
theorem cL_snoc (t v : Int) : ∀ (l : List Int) (c : Int), cL t (l ++ [v]) c = clipI (cL t l c + v) t
  | [], x => rfl
  | w :: l, x => cL_snoc t v l _
theorem ab_in {t : Int} (h : 0 ≤ t) : ∀ l, (abL t l).1 - (abL t l).2 ≤ t ∧ (abL t l).2 - (abL t l).1 ≤ t
  | [] => by simp [abL, h]
  | v :: r => by
    simp only [abL, mn]
    split <;> split <;> omega
theorem ab_u {t v : Int} (h : 0 ≤ t) (r : List Int) : (abL t (v :: r)).1 - (abL t (v :: r)).2 = clipI ((abL t r).1 - (abL t r).2 + v) t := by
  simp only [abL, mn, mx0, clipI]
  repeat' split
  all_goals omega
theorem ab_b {t v : Int} (h : 0 ≤ t) (r : List Int) : (abL t (v :: r)).2 = (abL t r).2 + (if v ≤ 0 then ((abL t r).1 - (abL t r).2) - ((abL t (v :: r)).1 - (abL t (v :: r)).2) else 0) := by
  have := ab_in h r
  simp only [abL, mn, mx0]
  repeat' split
  all_goals omega
theorem dp_ab {t : Int} : ∀ (l : List Int) (x : Int × Int), mn (dpL t l x).1 (dpL t l x).2 = mn (x.1 + (abL t l).1) (x.2 + (abL t l).2)
  | [], x => by simp [dpL, abL]
  | v :: r, x => by
    rw [dpL, dp_ab r]
    simp only [abL, stepD, mn]
    repeat' split
    all_goals omega
def oD (t : Int) (x : Int × Int) : Int := mn x.1 (x.2 + t)
def pD (t : Int) (x : Int × Int) : Int := mn x.2 (x.1 + t)
theorem cL_dp {t : Int} (h : 0 ≤ t) : ∀ (l : List Int) (x : Int × Int), cL t l (oD t x - pD t x) = oD t (dpL t l x) - pD t (dpL t l x)
  | [], x => rfl
  | v :: r, x => by
    rw [cL, dpL, ← cL_dp h r]
    congr 1
    simp only [oD, pD, stepD, mn, mx0, clipI]
    repeat' split
    all_goals omega
def x0 (start : Bool) (t : Int) : Int × Int := if start = true then (t, 0) else (0, t)
def soloV (vs : List Int) (start : Bool) (t : Int) : Int := mn (dpL t vs (x0 start t)).1 (dpL t vs (x0 start t)).2
def cntV (vs : List Int) (start : Bool) (t : Int) : Int := cL t vs (if start = true then t else -t)
def oV (vs : List Int) (start : Bool) (t : Int) : Int := oD t (dpL t vs (x0 start t))
def pV (vs : List Int) (start : Bool) (t : Int) : Int := pD t (dpL t vs (x0 start t))
theorem solo_ab {t : Int} (h : 0 ≤ t) (vs : List Int) (start : Bool) : soloV vs start t = (if start = true then (abL t vs).2 else (abL t vs).1) := by
  have := ab_in h vs
  rw [soloV, dp_ab]
  cases start <;> simp only [x0, mn] <;> repeat' split
  all_goals simp_all
  all_goals omega
theorem cnt_op {t : Int} (h : 0 ≤ t) (vs : List Int) (start : Bool) : cntV vs start t = oV vs start t - pV vs start t := by
  rw [cntV, oV, pV, ← cL_dp h]
  congr 1
  cases start <;> simp only [x0, oD, pD, mn] <;> repeat' split
  all_goals simp_all
  all_goals omega
theorem o_eq {t : Int} (h : 0 ≤ t) (vs : List Int) (start : Bool) : soloV vs start t + mx0 (cntV vs start t) = oV vs start t := by
  rw [cnt_op h]
  simp only [soloV, oV, pV, oD, pD, mn, mx0]
  repeat' split
  all_goals omega
theorem p_eq {t : Int} (h : 0 ≤ t) (vs : List Int) (start : Bool) : soloV vs start t + mx0 (-(cntV vs start t)) = pV vs start t := by
  rw [cnt_op h]
  simp only [soloV, oV, pV, oD, pD, mn, mx0]
  repeat' split
  all_goals omega
theorem mn_op {t : Int} (h : 0 ≤ t) (vs : List Int) (start : Bool) : mn (oV vs start t) (pV vs start t) = soloV vs start t := by
  simp only [soloV, oV, pV, oD, pD, mn]
  repeat' split
  all_goals omega
theorem dp_neg (t : Int) : ∀ (l : List Int) (x y : Int), dpL t (l.map fun v => -v) (y, x) = ((dpL t l (x, y)).2, (dpL t l (x, y)).1)
  | [], x, y => rfl
  | v :: r, x, y => by
    rw [List.map_cons, dpL, dpL]
    simp only [stepD, Int.neg_neg]
    rw [dp_neg t r]
theorem dp_neg0 (t : Int) (vs : List Int) (start : Bool) : dpL t (vs.map fun v => -v) (x0 (!start) t) = ((dpL t vs (x0 start t)).2, (dpL t vs (x0 start t)).1) := by
  cases start <;> exact dp_neg t vs _ _
theorem solo_neg (t : Int) (vs : List Int) (start : Bool) : soloV (vs.map fun v => -v) (!start) t = soloV vs start t := by
  simp only [soloV, dp_neg0, mn]
  repeat' split
  all_goals omega
theorem o_neg (t : Int) (vs : List Int) (start : Bool) : oV (vs.map fun v => -v) (!start) t = pV vs start t := by
  simp only [oV, pV, oD, pD, dp_neg0]
theorem p_neg2 (t : Int) (vs : List Int) (start : Bool) : pV (vs.map fun v => -v) (!start) t = oV vs start t := by
  simp only [oV, pV, oD, pD, dp_neg0]
end Mini
namespace Mini
/-! ### the runs -/
theorem rng_of {n : Nat} (h : n ≤ 1000000) (s : Store) : mkR1 (.int n) s = .ok (.rng 0 1 n) s := by
  rw [mk_r1 (by omega) (by omega)]
  simp
theorem take_snoc {vs : List Int} {i : Nat} (h : i < vs.length) : vs.take (i + 1) = vs.take i ++ [vs[i]] := by
  rw [List.take_add_one, List.getElem?_eq_getElem h]
  rfl
theorem dp_take {vs : List Int} {i : Nat} (h : i < vs.length) (t : Int) (x : Int × Int) : dpL t (vs.take (i + 1)) x = stepD t vs[i] (dpL t (vs.take i) x) := by rw [take_snoc h, dpL_snoc]
theorem cL_take {vs : List Int} {i : Nat} (h : i < vs.length) (t c : Int) : cL t (vs.take (i + 1)) c = clipI (cL t (vs.take i) c + vs[i]) t := by rw [take_snoc h, cL_snoc]
theorem item {vs : List Int} {i : Nat} {x : MV} (h : (vs.map MV.int)[i]? = some x) : ∃ hi : i < vs.length, x = .int vs[i] := by
  have hi : i < vs.length := by
    have := (List.getElem?_eq_some_iff.mp h).1
    simpa using this
  rw [List.getElem?_map, List.getElem?_eq_getElem hi] at h
  cases h
  exact ⟨hi, rfl⟩
end Mini
namespace Mini
theorem lsolo_ok {r : MV → Txt} {K p1 : Nat} {vs : List Int} {start : Bool} {tg : Int} {st : Store} (hK : 1 ≤ K) (h1 : cel st p1 = some (.lst (vs.map .int))) (hb : vs.length ≤ 100000) :
    callK (Wd r) K 12 [.bl start, .loc p1, .int tg] st = .ok (.int (soloV vs start tg)) st := by
  obtain ⟨k, rfl⟩ : ∃ k, K = k + 1 := ⟨K - 1, by omega⟩
  refine OkQ.eq fun Q hQ => ?_
  rw [callK_eq (g__law_solo r) rfl]
  have i1 : (if start = true then Out.ok (MV.int tg) st else Out.ok (MV.int 0) st) = Out.ok (MV.int (x0 start tg).1) st := by cases start <;> rfl
  have i2 : (if start = true then Out.ok (MV.int 0) st else Out.ok (MV.int tg) st) = Out.ok (MV.int (x0 start tg).2) st := by cases start <;> rfl
  simp [d__law_solo, h1, i1, i2]
  simp only [okQ_bind]
  refine okQ_lst (l := vs.map .int) (by simp) (fun i env s => env = [some (.bl start), some (.loc p1), some (.int tg), some (.int (dpL tg (vs.take i) (x0 start tg)).1), some (.int (dpL tg (vs.take i) (x0 start tg)).2), none, none, none] ∧ s = st) ⟨rfl, rfl⟩ (fun i env s h => by rw [h.2, h1]; rfl) (fun i x env s hx hp => ?_) (fun env s hp => ?_)
  · obtain ⟨rfl, rfl⟩ := hp
    obtain ⟨hi, rfl⟩ := item hx
    simp [dp_take hi, stepD, mn, mx0]
  · obtain ⟨rfl, rfl⟩ := hp
    rw [List.length_map, List.take_length]
    simp
    exact hQ
end Mini
namespace Mini
/-- told[j] is the difference of the costs still to come -/
theorem bkP_get (us : List Int) (tg last : Int) : ∀ m i, i ≤ m → (bkP us tg last m)[i]? = some (bkAt us tg last i)
  | 0, i, h => by
    have : i = 0 := by omega
    subst this
    rfl
  | m + 1, i, h => by
    rw [bkP]
    by_cases hi : i ≤ m
    · rw [List.getElem?_append_left (by rw [bkP_len]; omega), bkP_get us tg last m i hi]
    · have e : i = m + 1 := by omega
      subst e
      rw [List.getElem?_append_right (by rw [bkP_len]; exact Nat.le_refl _), bkP_len, Nat.sub_self]
      rfl
theorem bk_u {t : Int} (h : 0 ≤ t) (vs : List Int) : ∀ i, i ≤ vs.length → bkAt vs.reverse t 0 i = (abL t (vs.drop (vs.length - i))).1 - (abL t (vs.drop (vs.length - i))).2
  | 0, _ => by simp [bkAt, abL]
  | i + 1, hi => by
    have hj : vs.length - (i + 1) < vs.length := by omega
    have e : vs.length - i = vs.length - (i + 1) + 1 := by omega
    rw [bkAt, bk_u h vs i (by omega), e, List.drop_eq_getElem_cons hj, ab_u h]
    congr 2
    rw [List.getElem?_reverse (by omega)]
    have e2 : vs.length - 1 - i = vs.length - (i + 1) := by omega
    rw [e2, List.getElem?_eq_getElem hj]
    rfl
theorem bw_get {t : Int} (h : 0 ≤ t) (vs : List Int) (j : Nat) (hj : j ≤ vs.length) : (bwL vs t 0)[j]? = some ((abL t (vs.drop j)).1 - (abL t (vs.drop j)).2) := by
  rw [bwL, List.getElem?_reverse (by rw [bkP_len]; omega), bkP_len, bkP_get _ _ _ _ _ (by omega), bk_u h vs _ (by omega)]
  have e : vs.length - (vs.length + 1 - 1 - j) = j := by omega
  rw [e]
end Mini
namespace Mini
/-- a comprehension that maps -/
theorem okQ_lcMap {m : Nat} {l : List MV} {turn : MV → Store → Out (Option MV)} {Q : MV → Store → Prop} {st : Store} (f : MV → MV) (hm : celL (cel st m) = some l) (hn : l.length ≤ sizeMax) (I : Nat → Store → Prop) (hl : ∀ i s, I i s → celL (cel s m) = some l) (h0 : I 0 (st ++ [.lst []])) (hset : ∀ i s c, I i s → I i (s.set st.length c))
    (ht : ∀ i x s, l[i]? = some x → I i s → OkQ (MapQ (fun y => y = f x) (I (i + 1)) st.length s) (turn x s)) (he : ∀ s, cel s st.length = some (.lst (l.map f)) → I l.length s → Q (.loc st.length) s) : OkQ Q (lcRun (.lst m) turn st) := by
  obtain ⟨acc, s, h1, h2, h3, h4⟩ := lcRun_go (J := .lst m) (turn := turn) (l := l) (st := st) (by simp [hm]) (fun i acc s => I i s ∧ acc = (l.take i).map f) (fun i acc s h hi => get_lst (hl i s h.1)) (fun acc s h => stop_lst (hl _ s h.1)) (fun i x acc s hx hD h => by
    obtain ⟨o, s', g1, g2⟩ := (ht i x s hx h.1).get
    have hi : i < l.length := (List.getElem?_eq_some_iff.mp hx).1
    match o, g2 with
    | some y, ⟨g3, g4, g5⟩ =>
      refine ⟨some y, s', g1, g4 _ hD, ?_, hset _ _ _ g5, ?_⟩
      · rw [h.2, List.length_map, List.length_take]
        exact Nat.lt_of_lt_of_le (by omega) hn
      · rw [h.2, g3, List.take_add_one, hx, List.map_append]
        rfl) ⟨h0, rfl⟩
  subst h4
  rw [List.take_length] at h2
  rw [h1]
  exact he s h2 h3
end Mini
namespace Mini
def FltQ (I : List MV → Store → Prop) (D : Nat) (acc : List MV) : Option MV → Store → Prop
  | none, s => cel s D = some (.lst acc) ∧ I acc s
  | some y, s => cel s D = some (.lst acc) ∧ I (acc ++ [y]) (s.set D (.lst (acc ++ [y])))
@[simp] theorem fltQ_none (I : List MV → Store → Prop) (D : Nat) (acc : List MV) (s : Store) : FltQ I D acc none s = (cel s D = some (.lst acc) ∧ I acc s) := nr rfl
@[simp] theorem fltQ_some (I : List MV → Store → Prop) (D : Nat) (acc : List MV) (y : MV) (s : Store) : FltQ I D acc (some y) s = (cel s D = some (.lst acc) ∧ I (acc ++ [y]) (s.set D (.lst (acc ++ [y])))) := nr rfl
/-- a comprehension over a range, with or without a filter -/
theorem okQ_lcRngF {lo c : Int} {n : Nat} {turn : MV → Store → Out (Option MV)} {Q : MV → Store → Prop} {st : Store} (I : Nat → List MV → Store → Prop) (hlen : ∀ i acc s, i < n → I i acc s → acc.length < sizeMax) (h0 : I 0 [] (st ++ [.lst []]))
    (ht : ∀ i acc s, i < n → cel s st.length = some (.lst acc) → I i acc s → OkQ (FltQ (I (i + 1)) st.length acc) (turn (.int (lo + (i : Int) * c)) s)) (he : ∀ acc s, cel s st.length = some (.lst acc) → I n acc s → Q (.loc st.length) s) : OkQ Q (lcRun (.rng lo c n) turn st) := by
  have hl : (rngL lo c n).length = n := rngL_len
  obtain ⟨acc, s, h1, h2, h3⟩ := lcRun_go (J := .rng lo c n) (turn := turn) (l := rngL lo c n) (st := st) (by rw [hl]; rfl) I (fun i acc s _ hi => get_rng (by rw [hl] at hi; exact hi)) (fun acc s _ => by rw [hl]; exact stop_rng) (fun i x acc s hx hD hI => by
    obtain ⟨hi, e⟩ := rngL_get hx
    rw [e]
    obtain ⟨o, s', g1, g2⟩ := (ht i acc s hi hD hI).get
    match o, g2 with
    | some y, g2 => exact ⟨some y, s', g1, g2.1, hlen _ _ _ hi hI, g2.2⟩
    | none, g2 => exact ⟨none, s', g1, g2.1, hlen _ _ _ hi hI, g2.2⟩) h0
  rw [hl] at h3
  rw [h1]
  exact he acc s h2 h3
/-- a comprehension over a list, with or without a filter -/
theorem okQ_lcLstF {m : Nat} {l : List MV} {turn : MV → Store → Out (Option MV)} {Q : MV → Store → Prop} {st : Store} (hm : celL (cel st m) = some l) (I : Nat → List MV → Store → Prop) (hl : ∀ i acc s, I i acc s → celL (cel s m) = some l) (hlen : ∀ i acc s, i < l.length → I i acc s → acc.length < sizeMax) (h0 : I 0 [] (st ++ [.lst []]))
    (ht : ∀ i x acc s, l[i]? = some x → cel s st.length = some (.lst acc) → I i acc s → OkQ (FltQ (I (i + 1)) st.length acc) (turn x s)) (he : ∀ acc s, cel s st.length = some (.lst acc) → I l.length acc s → Q (.loc st.length) s) : OkQ Q (lcRun (.lst m) turn st) := by
  obtain ⟨acc, s, h1, h2, h3⟩ := lcRun_go (J := .lst m) (turn := turn) (l := l) (st := st) (by simp [hm]) I (fun i acc s h hi => get_lst (hl i acc s h)) (fun acc s h => stop_lst (hl _ acc s h)) (fun i x acc s hx hD hI => by
    have hi : i < l.length := (List.getElem?_eq_some_iff.mp hx).1
    obtain ⟨o, s', g1, g2⟩ := (ht i x acc s hx hD hI).get
    match o, g2 with
    | some y, g2 => exact ⟨some y, s', g1, g2.1, hlen _ _ _ hi hI, g2.2⟩
    | none, g2 => exact ⟨none, s', g1, g2.1, hlen _ _ _ hi hI, g2.2⟩) h0
  rw [h1]
  exact he acc s h2 h3
/-- a comprehension over a range that maps -/
theorem okQ_lcRngM {lo c : Int} {n : Nat} {turn : MV → Store → Out (Option MV)} {Q : MV → Store → Prop} {st : Store} (f : Nat → MV) (hn : n ≤ 16000000) (I : Nat → Store → Prop) (h0 : I 0 (st ++ [.lst []])) (hset : ∀ i s c, I i s → I i (s.set st.length c))
    (ht : ∀ i s, i < n → I i s → OkQ (MapQ (fun y => y = f i) (I (i + 1)) st.length s) (turn (.int (lo + (i : Int) * c)) s)) (he : ∀ s, cel s st.length = some (.lst ((List.range n).map f)) → I n s → Q (.loc st.length) s) : OkQ Q (lcRun (.rng lo c n) turn st) := by
  refine okQ_lcRngF (fun i acc s => I i s ∧ acc = (List.range i).map f) (fun i acc s hi h => by rw [h.2, List.length_map, List.length_range]; unfold sizeMax; omega) ⟨h0, rfl⟩ (fun i acc s hi hD h => ?_) (fun acc s hD h => ?_)
  · obtain ⟨o, s', g1, g2⟩ := (ht i s hi h.1).get
    rw [g1]
    match o, g2 with
    | some y, ⟨g3, g4, g5⟩ =>
      refine ⟨g4 _ hD, hset _ _ _ g5, ?_⟩
      rw [h.2, g3, List.range_succ, List.map_append]
      rfl
  · rw [h.2] at hD
    exact he s hD h.1
end Mini
namespace Mini
/-! ### best rows -/
def agn (b : Bool) (v : Int) : Int := if b = true then mx0 (-v) else mx0 v
def rowC (t : Int) : Bool → List Int → List Bool → Int
  | s, v :: vs, b :: bs => (if b = s then 0 else t) + agn b v + rowC t b vs bs
  | _, _, _ => 0
def sdP (b : Bool) (x : Int × Int) : Int := if b = true then x.2 else x.1
/-- on where that is strictly better (e = 1), or no worse (e = 0) -/
def optRow (e t : Int) : List Int → Int × Int → List Bool
  | [], _ => []
  | v :: r, x => decide (e ≤ (stepD t v x).1 + (abL t r).1 - ((stepD t v x).2 + (abL t r).2)) :: optRow e t r (stepD t v x)
theorem opt_len (e t : Int) : ∀ (l : List Int) (x : Int × Int), (optRow e t l x).length = l.length
  | [], _ => rfl
  | v :: r, x => by rw [optRow, List.length_cons, opt_len e t r, List.length_cons]
theorem opt_step {e t v f0 f1 g0 g1 : Int} (ht : 0 ≤ t) (he : 0 ≤ e) (he1 : e ≤ 1) (b c : Bool)
    (hb : b = decide (e ≤ f0 + mn (mx0 v + g0) (mx0 (-v) + g1 + t) - (f1 + mn (mx0 (-v) + g1) (mx0 v + g0 + t))))
    (hc : c = decide (e ≤ mn f0 (f1 + t) + mx0 v + g0 - (mn f1 (f0 + t) + mx0 (-v) + g1))) :
    (if c = b then 0 else t) + agn c v + (if c = true then g1 else g0) = (if b = true then mn (mx0 (-v) + g1) (mx0 v + g0 + t) else mn (mx0 v + g0) (mx0 (-v) + g1 + t)) := by
  simp only [agn]
  cases b <;> cases c <;> simp at hb hc ⊢ <;> simp only [mn, mx0] at * <;> (repeat' split) <;> (repeat' split at *) <;> omega
theorem opt_start {e t v g0 g1 : Int} (ht : 0 ≤ t) (he : 0 ≤ e) (he1 : e ≤ 1) (b c : Bool)
    (hc : c = decide (e ≤ mn (x0 b t).1 ((x0 b t).2 + t) + mx0 v + g0 - (mn (x0 b t).2 ((x0 b t).1 + t) + mx0 (-v) + g1))) :
    (if c = b then 0 else t) + agn c v + (if c = true then g1 else g0) = (if b = true then mn (mx0 (-v) + g1) (mx0 v + g0 + t) else mn (mx0 v + g0) (mx0 (-v) + g1 + t)) := by
  simp only [agn, x0] at *
  cases b <;> cases c <;> simp at hc ⊢ <;> simp only [mn, mx0] at * <;> (repeat' split) <;> (repeat' split at *) <;> omega
theorem opt_go {e t : Int} (ht : 0 ≤ t) (he : 0 ≤ e) (he1 : e ≤ 1) : ∀ (l : List Int) (x : Int × Int) (b : Bool), b = decide (e ≤ x.1 + (abL t l).1 - (x.2 + (abL t l).2)) → rowC t b l (optRow e t l x) = if b = true then (abL t l).2 else (abL t l).1
  | [], x, b, _ => by simp [rowC, optRow, abL]
  | v :: r, x, b, h => by
    rw [optRow, rowC]
    generalize hc : decide (e ≤ (stepD t v x).1 + (abL t r).1 - ((stepD t v x).2 + (abL t r).2)) = c
    rw [opt_go ht he he1 r (stepD t v x) c hc.symm]
    exact opt_step (f0 := x.1) (f1 := x.2) ht he he1 b c h hc.symm
theorem opt_cost {e t : Int} (ht : 0 ≤ t) (he : 0 ≤ e) (he1 : e ≤ 1) (s : Bool) (l : List Int) : rowC t s l (optRow e t l (x0 s t)) = soloV l s t := by
  rw [solo_ab ht]
  cases l with
  | nil => simp [rowC, optRow, abL]
  | cons v r =>
    rw [optRow, rowC]
    generalize hc : decide (e ≤ (stepD t v (x0 s t)).1 + (abL t r).1 - ((stepD t v (x0 s t)).2 + (abL t r).2)) = c
    rw [opt_go ht he he1 r (stepD t v (x0 s t)) c hc.symm]
    exact opt_start ht he he1 s c hc.symm
/-- the sum at a place -/
def gapAt (t : Int) (l : List Int) (s : Bool) (i : Nat) : Int := (dpL t (l.take (i + 1)) (x0 s t)).1 + (abL t (l.drop (i + 1))).1 - ((dpL t (l.take (i + 1)) (x0 s t)).2 + (abL t (l.drop (i + 1))).2)
theorem opt_get (e t : Int) : ∀ (l : List Int) (x : Int × Int) (i : Nat), i < l.length → (optRow e t l x)[i]? = some (decide (e ≤ (dpL t (l.take (i + 1)) x).1 + (abL t (l.drop (i + 1))).1 - ((dpL t (l.take (i + 1)) x).2 + (abL t (l.drop (i + 1))).2)))
  | [], _, i, h => by simp at h
  | v :: r, x, 0, _ => by simp [optRow, dpL]
  | v :: r, x, i + 1, h => by
    rw [optRow, List.getElem?_cons_succ, opt_get e t r _ i (by simpa using h), List.take_succ_cons, List.drop_succ_cons, dpL]
theorem ab_le {t : Int} (ht : 0 ≤ t) : ∀ (l : List Int) (b : Bool) (bs : List Bool), bs.length = l.length → sdP b (abL t l) ≤ rowC t b l bs
  | [], b, bs, _ => by cases b <;> simp [rowC, abL, sdP]
  | v :: r, b, [], h => by simp at h
  | v :: r, b, c :: cs, h => by
    have ih := ab_le ht r c cs (by simpa using h)
    rw [rowC]
    generalize rowC t c r cs = z at *
    simp only [sdP, abL, agn, mn, mx0] at *
    cases b <;> cases c <;> simp at ih ⊢ <;> (repeat' split) <;> omega
theorem row_ge {t : Int} (ht : 0 ≤ t) : ∀ (l : List Int) (bs : List Bool) (x : Int × Int) (s : Bool) (c : Int) (i : Nat), sdP s x ≤ c → bs.length = l.length → (h : i < bs.length) → sdP bs[i] (dpL t (l.take (i + 1)) x) + sdP bs[i] (abL t (l.drop (i + 1))) ≤ c + rowC t s l bs
  | [], [], x, s, c, i, _, _, h => by simp at h
  | [], _ :: _, x, s, c, i, _, h, _ => by simp at h
  | _ :: _, [], x, s, c, i, _, h, _ => by simp at h
  | v :: r, b :: bs, x, s, c, 0, hc, hl, _ => by
    have ih := ab_le ht r b bs (by simpa using hl)
    rw [rowC]
    generalize rowC t b r bs = z at *
    simp only [List.getElem_cons_zero, List.take_succ_cons, List.take_zero, dpL, List.drop_succ_cons, List.drop_zero]
    simp only [sdP, stepD, agn, mn, mx0] at *
    cases b <;> cases s <;> simp at ih hc ⊢ <;> (repeat' split) <;> omega
  | v :: r, b :: bs, x, s, c, i + 1, hc, hl, h => by
    have hy : sdP b (stepD t v x) ≤ c + ((if b = s then 0 else t) + agn b v) := by
      simp only [sdP, stepD, agn, mn, mx0] at *
      cases b <;> cases s <;> simp at hc ⊢ <;> (repeat' split) <;> omega
    have ih := row_ge ht r bs (stepD t v x) b _ i hy (by simpa using hl) (by simpa using h)
    rw [rowC]
    simp only [List.getElem_cons_succ, List.take_succ_cons, dpL, List.drop_succ_cons]
    omega
theorem row_ge0 {t : Int} (ht : 0 ≤ t) (l : List Int) (bs : List Bool) (s : Bool) (i : Nat) (hl : bs.length = l.length) (h : i < bs.length) : sdP bs[i] (dpL t (l.take (i + 1)) (x0 s t)) + sdP bs[i] (abL t (l.drop (i + 1))) ≤ rowC t s l bs := by
  have := row_ge ht l bs (x0 s t) s 0 i (by cases s <;> simp [sdP, x0]) hl h
  omega
theorem solo_le {t : Int} (ht : 0 ≤ t) (l : List Int) (bs : List Bool) (s : Bool) (hl : bs.length = l.length) : soloV l s t ≤ rowC t s l bs := by
  have := ab_le ht l s bs hl
  rw [solo_ab ht]
  simpa [sdP] using this
/-- at each place the best row through it -/
theorem solo_at {t : Int} (l : List Int) (s : Bool) (i : Nat) : soloV l s t = mn ((dpL t (l.take (i + 1)) (x0 s t)).1 + (abL t (l.drop (i + 1))).1) ((dpL t (l.take (i + 1)) (x0 s t)).2 + (abL t (l.drop (i + 1))).2) := by
  rw [← dp_ab, soloV]
  have e : ∀ (a b : List Int) (x : Int × Int), dpL t (a ++ b) x = dpL t b (dpL t a x) := by
    intro a
    induction a with
    | nil => intro b x; rfl
    | cons v a ih => intro b x; exact ih b _
  rw [← e, List.take_append_drop]
/-- every best row is on there -/
theorem every_on {t : Int} (ht : 0 ≤ t) (l : List Int) (s : Bool) (i : Nat) (hi : i < l.length) : (1 ≤ gapAt t l s i) ↔ ∀ bs : List Bool, bs.length = l.length → rowC t s l bs = soloV l s t → bs[i]?.getD false = true := by
  constructor
  · intro h bs hl hc
    have h2 := row_ge0 ht l bs s i hl (by omega)
    have h3 := solo_at (t := t) l s i
    rw [List.getElem?_eq_getElem (by omega)]
    rw [hc] at h2
    rw [gapAt] at h
    cases hb : bs[i]
    · rw [hb] at h2
      simp only [sdP, mn] at h2 h3
      simp at h2
      split at h3 <;> omega
    · rfl
  · intro h
    have h2 := h _ (opt_len 1 t l (x0 s t)) (opt_cost ht (by omega) (by omega) s l)
    rw [opt_get 1 t l _ i hi] at h2
    simpa [gapAt] using h2
/-- some best row is on there -/
theorem some_on {t : Int} (ht : 0 ≤ t) (l : List Int) (s : Bool) (i : Nat) (hi : i < l.length) : (0 ≤ gapAt t l s i) ↔ ∃ bs : List Bool, bs.length = l.length ∧ rowC t s l bs = soloV l s t ∧ bs[i]?.getD false = true := by
  constructor
  · intro h
    refine ⟨_, opt_len 0 t l (x0 s t), opt_cost ht (by omega) (by omega) s l, ?_⟩
    rw [opt_get 0 t l _ i hi]
    simpa [gapAt] using h
  · rintro ⟨bs, hl, hc, hb⟩
    have h2 := row_ge0 ht l bs s i hl (by omega)
    have h3 := solo_at (t := t) l s i
    rw [List.getElem?_eq_getElem (by omega)] at hb
    have hb2 : bs[i] = true := hb
    rw [hc, hb2] at h2
    rw [gapAt]
    simp only [sdP, mn] at h2 h3
    simp at h2
    split at h3 <;> omega
end Mini
namespace Mini
/-! ### the program's sums are the gaps -/
theorem cntAt_cL (vs : List Int) (s : Bool) (t : Int) : ∀ i, i ≤ vs.length → cntAt vs s t i = cL t (vs.take i) (if s = true then t else -t)
  | 0, _ => rfl
  | i + 1, h => by
    have hi : i < vs.length := h
    rw [cntAt, cntAt_cL vs s t i (by omega), cL_take hi, List.getElem?_eq_getElem hi]
    rfl
theorem gap_step {t : Int} (x : Int × Int) (v : Int) : (stepD t v x).1 - (stepD t v x).2 = oD t x - pD t x + v := by
  simp only [stepD, oD, pD, mx0]
  repeat' split
  all_goals omega
theorem gap_sum {t : Int} (ht : 0 ≤ t) (vs : List Int) (s : Bool) (i : Nat) (hi : i < vs.length) : cntAt vs s t i + vs[i] + ((abL t (vs.drop (i + 1))).1 - (abL t (vs.drop (i + 1))).2) = gapAt t vs s i := by
  have h := cnt_op ht (vs.take i) s
  rw [cntV] at h
  rw [cntAt_cL vs s t i (by omega), h, gapAt, dp_take hi, oV, pV]
  have := gap_step (t := t) (dpL t (vs.take i) (x0 s t)) vs[i]
  omega
def gapL (t : Int) (vs : List Int) (s : Bool) : List Int := (List.range vs.length).map (gapAt t vs s)
theorem gapL_len (t : Int) (vs : List Int) (s : Bool) : (gapL t vs s).length = vs.length := by simp [gapL]
theorem gapL_get {t : Int} {vs : List Int} {s : Bool} {i : Nat} (hi : i < vs.length) : (gapL t vs s)[i]? = some (gapAt t vs s i) := by
  simp [gapL, hi]
theorem opt_gap (e t : Int) (vs : List Int) (s : Bool) : optRow e t vs (x0 s t) = (gapL t vs s).map fun g => decide (e ≤ g) := by
  refine List.ext_getElem? fun i => ?_
  by_cases hi : i < vs.length
  · rw [opt_get e t vs _ i hi, List.getElem?_map, gapL_get hi]
    rfl
  · rw [List.getElem?_eq_none (by rw [opt_len]; omega), List.getElem?_eq_none (by rw [List.length_map, gapL_len]; omega)]
theorem sums_ok {r : MV → Txt} {K p : Nat} {vs : List Int} {s : Bool} {t : Int} {st : Store} (hK : 3 ≤ K) (hp : cel st p = some (.lst (vs.map .int))) (hb : vs.length ≤ 1000) (ht : 0 ≤ t) :
    ∃ (n : Nat) (st' : Store), callK (Wd r) K 3 [.bl s, .loc p, .int t, .int 0] st = .ok (.loc n) st' ∧ st.length ≤ n ∧ cel st' n = some (.lst ((gapL t vs s).map .int)) ∧ Keep [] st st' := by
  obtain ⟨k, rfl⟩ : ∃ k, K = k + 1 := ⟨K - 1, by omega⟩
  refine OkQ.ex MV.loc fun Q hQ => ?_
  rw [callK_eq (g_counter_sums r) rfl]
  obtain ⟨n1, st1, e1, l1, c1, k1⟩ := forward_ok (r := r) (K := k) (start := s) (tg := t) (by omega) hp (by omega)
  obtain ⟨n2, st2, e2, l2, c2, k2⟩ := backward_ok (r := r) (K := k) (tg := t) (last := 0) (by omega) (cel_keep k1 hp (by simp)) (by omega)
  have c12 := cel_keep k2 c1 (by simp)
  simp [d_counter_sums, e1, e2, c12, fwP_len, rng_of (n := vs.length) (by omega)]
  simp only [okQ_bind]
  refine okQ_lcRngM (fun i => .int (gapAt t vs s i)) (by omega) (fun i u => Keep [] st2 u) Keep.new (fun i u c h => h.setNew (Nat.le_refl _)) (fun i u hi h => ?_) (fun u hc hI => ?_)
  · have a1 := cel_keep h c12 (by simp)
    have a2 := cel_keep h c2 (by simp)
    have g1 := fwP_get vs s t vs.length i hi
    have g2 := bw_get ht vs (i + 1) (by omega)
    have g3 := gap_sum ht vs s i hi
    have hix : atI ((bwL vs t 0).map MV.int) ((i : Int) + 1) = some (.int ((abL t (vs.drop (i + 1))).1 - (abL t (vs.drop (i + 1))).2)) := by
      have : ((i : Int) + 1) = ((i + 1 : Nat) : Int) := by omega
      rw [this, atI_nat, List.getElem?_map, g2]
      rfl
    rw [List.getElem?_eq_getElem hi, Option.getD_some] at g1
    simp [a1, a2, g1, hix]
    exact ⟨g3, h⟩
  · simp only [okQ_back]
    simp
    refine hQ _ _ ⟨by have := (k1.trans k2).len; omega, ?_, (k1.trans k2).trans hI⟩
    rw [hc, gapL, List.map_map]
    rfl
theorem between_ok {r : MV → Txt} {K p : Nat} {vs : List Int} {s : Bool} {t : Int} {st : Store} (hK : 4 ≤ K) (hp : cel st p = some (.lst (vs.map .int))) (hb : vs.length ≤ 1000) (ht : 0 ≤ t) :
    ∃ (n : Nat) (st' : Store), callK (Wd r) K 4 [.bl s, .loc p, .int t, .int 0] st = .ok (.loc n) st' ∧ st.length ≤ n ∧ cel st' n = some (.lst ((optRow 1 t vs (x0 s t)).map .bl)) ∧ Keep [] st st' := by
  obtain ⟨k, rfl⟩ : ∃ k, K = k + 1 := ⟨K - 1, by omega⟩
  refine OkQ.ex MV.loc fun Q hQ => ?_
  rw [callK_eq (g_row_between r) rfl]
  obtain ⟨n1, st1, e1, l1, c1, k1⟩ := sums_ok (r := r) (K := k) (s := s) (t := t) (by omega) hp hb ht
  simp [d_row_between, e1, c1]
  simp only [okQ_bind]
  refine okQ_lcMap (fun x => match x with | .int a => .bl (decide (1 ≤ a)) | y => y) (by rw [c1]; rfl) (by rw [List.length_map, gapL_len]; unfold sizeMax; omega) (fun i u => Keep [] st1 u) (fun i u h => by rw [cel_keep h c1 (by simp)]; rfl) Keep.new (fun i u c h => h.setNew (Nat.le_refl _)) (fun i x u hx h => ?_) (fun u hc hI => ?_)
  · obtain ⟨a, _, rfl⟩ := List.mem_map.mp (List.mem_of_getElem? hx)
    have e : decide (0 < a) = decide (1 ≤ a) := by congr 1
    simp [h]
    omega
  · simp only [okQ_back]
    simp
    refine hQ _ _ ⟨k1.len, ?_, k1.trans hI⟩
    rw [hc, opt_gap, List.map_map, List.map_map]
    rfl
theorem least_ok {r : MV → Txt} {K p : Nat} {vs : List Int} {s : Bool} {t : Int} {st : Store} (hK : 5 ≤ K) (hp : cel st p = some (.lst (vs.map .int))) (hb : vs.length ≤ 1000) (ht : 0 ≤ t) :
    ∃ (n : Nat) (st' : Store), callK (Wd r) K 5 [.bl s, .loc p, .int t] st = .ok (.loc n) st' ∧ st.length ≤ n ∧ cel st' n = some (.lst ((optRow 1 t vs (x0 s t)).map .bl)) ∧ Keep [] st st' := by
  obtain ⟨k, rfl⟩ : ∃ k, K = k + 1 := ⟨K - 1, by omega⟩
  refine OkQ.ex MV.loc fun Q hQ => ?_
  rw [callK_eq (g_least_row r) rfl]
  obtain ⟨n1, st1, e1, l1, c1, k1⟩ := between_ok (r := r) (K := k) (s := s) (t := t) (by omega) hp hb ht
  simp [d_least_row, e1]
  exact hQ _ _ ⟨l1, c1, k1⟩
theorem greatest_ok {r : MV → Txt} {K p : Nat} {vs : List Int} {s : Bool} {t : Int} {st : Store} (hK : 4 ≤ K) (hp : cel st p = some (.lst (vs.map .int))) (hb : vs.length ≤ 1000) (ht : 0 ≤ t) :
    ∃ (n : Nat) (st' : Store), callK (Wd r) K 6 [.bl s, .loc p, .int t] st = .ok (.loc n) st' ∧ st.length ≤ n ∧ cel st' n = some (.lst ((optRow 0 t vs (x0 s t)).map .bl)) ∧ Keep [] st st' := by
  obtain ⟨k, rfl⟩ : ∃ k, K = k + 1 := ⟨K - 1, by omega⟩
  refine OkQ.ex MV.loc fun Q hQ => ?_
  rw [callK_eq (g_greatest_row r) rfl]
  obtain ⟨n1, st1, e1, l1, c1, k1⟩ := sums_ok (r := r) (K := k) (s := s) (t := t) (by omega) hp hb ht
  simp [d_greatest_row, e1, c1]
  simp only [okQ_bind]
  refine okQ_lcMap (fun x => match x with | .int a => .bl (decide (0 ≤ a)) | y => y) (by rw [c1]; rfl) (by rw [List.length_map, gapL_len]; unfold sizeMax; omega) (fun i u => Keep [] st1 u) (fun i u h => by rw [cel_keep h c1 (by simp)]; rfl) Keep.new (fun i u c h => h.setNew (Nat.le_refl _)) (fun i x u hx h => ?_) (fun u hc hI => ?_)
  · obtain ⟨a, _, rfl⟩ := List.mem_map.mp (List.mem_of_getElem? hx)
    simp [h]
  · simp only [okQ_back]
    simp
    refine hQ _ _ ⟨k1.len, ?_, k1.trans hI⟩
    rw [hc, opt_gap, List.map_map, List.map_map]
    rfl
theorem sides_ok {r : MV → Txt} {K p1 p2 : Nat} {l : List Bool} {st : Store} (hK : 1 ≤ K) (h1 : cel st p1 = some (.lst (l.map .bl))) (h2 : cel st p2 = some (.lst (l.map .bl))) (hb : l.length ≤ 100000) :
    callK (Wd r) K 11 [.loc p1, .loc p2] st = .ok (.bl true) st := by
  obtain ⟨k, rfl⟩ : ∃ k, K = k + 1 := ⟨K - 1, by omega⟩
  refine OkQ.eq fun Q hQ => ?_
  rw [callK_eq (g__law_sides r) rfl]
  simp [d__law_sides, h1, h2, rng_of (n := l.length) (by omega)]
  simp only [okQ_bind]
  refine okQ_rng (fun i env s => env = [some (.loc p1), some (.loc p2), none] ∧ s = st) ⟨rfl, rfl⟩ (fun i env s hi hp => ?_) (fun env s hp => ?_)
  · obtain ⟨rfl, rfl⟩ := hp
    simp [h1, h2, hi]
  · obtain ⟨rfl, rfl⟩ := hp
    simp
    exact hQ
theorem rcost_ok {r : MV → Txt} {K p q : Nat} {vs : List Int} {bs : List Bool} {s : Bool} {t : Int} {st : Store} (hK : 1 ≤ K) (hp : cel st p = some (.lst (vs.map .int))) (hq : cel st q = some (.lst (bs.map .bl))) (hl : bs.length = vs.length) (hb : vs.length ≤ 1000) :
    callK (Wd r) K 15 [.bl s, .loc p, .int t, .loc q] st = .ok (.int (rowC t s vs bs)) st := by
  obtain ⟨k, rfl⟩ : ∃ k, K = k + 1 := ⟨K - 1, by omega⟩
  refine OkQ.eq fun Q hQ => ?_
  rw [callK_eq (g__law_cost_of_row r) rfl]
  simp [d__law_cost_of_row, hp, rng_of (n := vs.length) (by omega)]
  simp only [okQ_bind]
  refine okQ_rng (fun i env u => ∃ (c : Int) (b : Bool), env = [some (.bl s), some (.loc p), some (.int t), some (.loc q), some (.int c), some (.bl b), none] ∧ u = st ∧ c + rowC t b (vs.drop i) (bs.drop i) = rowC t s vs bs) ⟨0, s, rfl, rfl, by simp⟩ (fun i env u hi hp2 => ?_) (fun env u hp2 => ?_)
  · obtain ⟨c, b, rfl, rfl, hc⟩ := hp2
    have h2 : i < bs.length := by omega
    rw [List.drop_eq_getElem_cons hi, List.drop_eq_getElem_cons h2, rowC] at hc
    rw [← hc]
    simp only [agn, mx0]
    cases e1 : bs[i] <;> cases b <;> simp [hp, hq, hi, h2, e1] <;> omega
  · obtain ⟨c, b, rfl, rfl, hc⟩ := hp2
    rw [List.drop_length] at hc
    have : c = rowC t s vs bs := by
      rw [← hc]
      simp [rowC]
    rw [this]
    simp
    exact hQ
def ahD (t : Int) (vs : List Int) (s : Bool) (j : Nat) : Int := (dpL t (vs.take (j + 1)) (x0 s t)).1 - (dpL t (vs.take (j + 1)) (x0 s t)).2
def ahL (t : Int) (vs : List Int) (s : Bool) : Nat → List Int
  | 0 => []
  | i + 1 => ahL t vs s i ++ [ahD t vs s i]
theorem ahL_len (t : Int) (vs : List Int) (s : Bool) : ∀ i, (ahL t vs s i).length = i
  | 0 => rfl
  | i + 1 => by rw [ahL, List.length_append, ahL_len t vs s i]; rfl
theorem ahL_get (t : Int) (vs : List Int) (s : Bool) : ∀ n i, i < n → (ahL t vs s n)[i]? = some (ahD t vs s i)
  | 0, i, h => by omega
  | n + 1, i, h => by
    rw [ahL]
    by_cases hi : i < n
    · rw [List.getElem?_append_left (by rw [ahL_len]; exact hi), ahL_get t vs s n i hi]
    · have e : i = n := by omega
      subst e
      rw [List.getElem?_append_right (by rw [ahL_len]; exact Nat.le_refl _), ahL_len, Nat.sub_self]
      rfl
def bkG (t : Int) (vs : List Int) (s : Bool) : Nat → List Int
  | 0 => []
  | i + 1 => bkG t vs s i ++ [gapAt t vs s (vs.length - 1 - i)]
theorem bkG_len (t : Int) (vs : List Int) (s : Bool) : ∀ i, (bkG t vs s i).length = i
  | 0 => rfl
  | i + 1 => by rw [bkG, List.length_append, bkG_len t vs s i]; rfl
theorem bkG_get (t : Int) (vs : List Int) (s : Bool) : ∀ n i, i < n → (bkG t vs s n)[i]? = some (gapAt t vs s (vs.length - 1 - i))
  | 0, i, h => by omega
  | n + 1, i, h => by
    rw [bkG]
    by_cases hi : i < n
    · rw [List.getElem?_append_left (by rw [bkG_len]; exact hi), bkG_get t vs s n i hi]
    · have e : i = n := by omega
      subst e
      rw [List.getElem?_append_right (by rw [bkG_len]; exact Nat.le_refl _), bkG_len, Nat.sub_self]
      rfl
theorem bkG_rev (t : Int) (vs : List Int) (s : Bool) : (bkG t vs s vs.length).reverse = gapL t vs s := by
  refine List.ext_getElem? fun i => ?_
  by_cases hi : i < vs.length
  · rw [List.getElem?_reverse (by rw [bkG_len]; exact hi), bkG_len, bkG_get _ _ _ _ _ (by omega), gapL_get hi]
    have : vs.length - 1 - (vs.length - 1 - i) = i := by omega
    rw [this]
  · rw [List.getElem?_eq_none (by rw [List.length_reverse, bkG_len]; omega), List.getElem?_eq_none (by rw [gapL_len]; omega)]
theorem ah_step {t : Int} {vs : List Int} {s : Bool} {i : Nat} (hi : i < vs.length) : ahD t vs s i = (stepD t vs[i] (dpL t (vs.take i) (x0 s t))).1 - (stepD t vs[i] (dpL t (vs.take i) (x0 s t))).2 := by rw [ahD, dp_take hi]
theorem gap_ah (t : Int) (vs : List Int) (s : Bool) (j : Nat) : gapAt t vs s j = ahD t vs s j + (abL t (vs.drop (j + 1))).1 - (abL t (vs.drop (j + 1))).2 := by
  rw [gapAt, ahD]
  omega
theorem gaps_ok {r : MV → Txt} {K p : Nat} {vs : List Int} {s : Bool} {t : Int} {st : Store} (hK : 1 ≤ K) (hp : cel st p = some (.lst (vs.map .int))) (hb : vs.length ≤ 1000) :
    ∃ (n : Nat) (st' : Store), callK (Wd r) K 13 [.bl s, .loc p, .int t] st = .ok (.loc n) st' ∧ st.length ≤ n ∧ cel st' n = some (.lst ((gapL t vs s).map .int)) ∧ Keep [] st st' := by
  obtain ⟨k, rfl⟩ : ∃ k, K = k + 1 := ⟨K - 1, by omega⟩
  refine OkQ.ex MV.loc fun Q hQ => ?_
  rw [callK_eq (g__law_gaps r) rfl]
  have i1 : (if s = true then Out.ok (MV.int t) st else Out.ok (MV.int 0) st) = Out.ok (MV.int (x0 s t).1) st := by cases s <;> rfl
  have i2 : (if s = true then Out.ok (MV.int 0) st else Out.ok (MV.int t) st) = Out.ok (MV.int (x0 s t).2) st := by cases s <;> rfl
  simp [d__law_gaps, i1, i2, newL_ok, cel_app_old hp]
  simp only [okQ_bind]
  refine okQ_lst (l := vs.map .int) (by simp) (fun i env u => env = [some (.bl s), some (.loc p), some (.int t), some (.int (dpL t (vs.take i) (x0 s t)).1), some (.int (dpL t (vs.take i) (x0 s t)).2), some (.loc st.length), none, none, none, none, none] ∧ Keep [] st u ∧ cel u st.length = some (.lst ((ahL t vs s i).map .int))) ⟨rfl, Keep.new, cel_new _ _⟩ (fun i env u h => by rw [cel_keep h.2.1 hp (by simp)]; rfl) (fun i x env u hx h => ?_) (fun env u h => ?_)
  · obtain ⟨rfl, kk, cc⟩ := h
    obtain ⟨hi, rfl⟩ := item hx
    have hcl := cel_lt cc
    have hl : i < 16000000 := by omega
    simp [cc, appV_ok, hl, ahL, ahL_len, ah_step hi, dp_take hi, stepD, mn, mx0, cel_set, hcl]
    exact kk.setNew (Nat.le_refl _)
  obtain ⟨rfl, kk, cc⟩ := h
  have hp2 := cel_keep kk hp (by simp)
  rw [List.length_map] at cc
  simp only [okQ_back]
  have dn : ∀ u, mkDn (.int ((vs.length : Int) - 1)) (.int (-1)) u = .ok (.rng ((vs.length : Int) - 1) (-1) vs.length) u := fun u => by
    have r1 : rngOk ((vs.length : Int) - 1) = true := by simp [rngOk]; omega
    have r2 : rngOk (-1) = true := by decide
    simp only [mkDn, r1, r2]
    have : ((vs.length : Int) - 1 - -1).toNat = vs.length := by omega
    rw [this]
    rfl
  have hlA := cel_lt cc
  simp [newL_ok, cel_app_old hp2, dn]
  simp only [okQ_bind]
  have cu := cel_new u [.lst []]
  have ku : Keep [] u (u ++ [.lst []]) := Keep.new
  generalize hw : u.length = w at *
  generalize u ++ [.lst []] = u2 at *
  refine okQ_rng (fun i env v => ∃ (a b : MV), env = [some (.bl s), some (.loc p), some (.int t), some (.int (abL t (vs.drop (vs.length - i))).1), some (.int (abL t (vs.drop (vs.length - i))).2), some (.loc st.length), none, none, none, some (.loc w), none] ∧ Keep [] u v ∧ cel v w = some (.lst ((bkG t vs s i).map .int))) ⟨.non, .non, by simp [abL], ku, cu⟩ (fun i env v hi h => ?_) (fun env v h => ?_)
  · obtain ⟨_, _, rfl, kk2, cw⟩ := h
    have a1 := cel_keep kk2 cc (by simp)
    have a2 := cel_keep kk2 hp2 (by simp)
    have hj : vs.length - 1 - i < vs.length := by omega
    have e1 : vs.length - i = vs.length - 1 - i + 1 := by omega
    have e2 : vs.length - (i + 1) = vs.length - 1 - i := by omega
    have e3 : (vs.length : Int) - 1 + (i : Int) * -1 = ((vs.length - 1 - i : Nat) : Int) := by omega
    have e4 : (vs.length : Int) - 1 + -(i : Int) = ((vs.length - 1 - i : Nat) : Int) := by omega
    have e5 : (vs.length : Int) - 1 - (i : Int) = ((vs.length - 1 - i : Nat) : Int) := by omega
    have hcl := cel_lt cw
    have hl : i < 16000000 := by omega
    have hwne : w ≠ st.length := by omega
    have hpw : w ≠ p := by
      have := cel_lt hp2
      omega
    have hab := List.drop_eq_getElem_cons hj
    have hg := gap_ah t vs s (vs.length - 1 - i)
    have hgj : ((ahL t vs s vs.length).map MV.int)[vs.length - 1 - i]? = some (.int (ahD t vs s (vs.length - 1 - i))) := by rw [List.getElem?_map, ahL_get _ _ _ _ _ hj]; rfl
    have hbk : bkG t vs s (i + 1) = bkG t vs s i ++ [gapAt t vs s (vs.length - 1 - i)] := rfl
    have hst : abL t (vs.drop (vs.length - (i + 1))) = (mn (mx0 vs[vs.length - 1 - i] + (abL t (vs.drop (vs.length - i))).1) (mx0 (-vs[vs.length - 1 - i]) + (abL t (vs.drop (vs.length - i))).2 + t), mn (mx0 (-vs[vs.length - 1 - i]) + (abL t (vs.drop (vs.length - i))).2) (mx0 vs[vs.length - 1 - i] + (abL t (vs.drop (vs.length - i))).1 + t)) := by
      rw [e2, hab, abL, e1]
    rw [← e1] at hg
    generalize abL t (vs.drop (vs.length - i)) = B at *
    generalize hjj : vs.length - 1 - i = j at *
    generalize hwv : vs[j] = wv at *
    have hgv : (vs.map MV.int)[j]? = some (.int wv) := by rw [List.getElem?_map, List.getElem?_eq_getElem hj, hwv]; rfl
    generalize ahL t vs s vs.length = A at *
    generalize ahD t vs s j = X at *
    generalize gapAt t vs s j = Y at *
    generalize hG1 : bkG t vs s i = G1 at *
    have hG1l : G1.length < 16000000 := by rw [← hG1, bkG_len]; exact hl
    subst hg
    generalize A.map MV.int = A2 at *
    generalize vs.map MV.int = V2 at *
    simp [e3, e4, e5, a1, a2, hgj, cw, appV_ok, hG1l, hgv, cel_set_ne, hwne, hpw, cel_set, hcl, mn, mx0]
    rw [hst, hbk, List.map_append]
    refine ⟨⟨?_, ?_⟩, (kk2.setNew (by omega)), rfl⟩
    · simp only [mn, mx0]
      repeat' split
      all_goals omega
    · simp only [mn, mx0]
      repeat' split
      all_goals omega
  obtain ⟨_, _, rfl, kk2, cw⟩ := h
  simp only [okQ_back]
  simp [cw]
  refine hQ _ _ ⟨by have := (kk.trans kk2).len; omega, ?_, (kk.trans kk2).trans Keep.new⟩
  rw [← bkG_rev, List.map_reverse]
  exact cel_new _ _
theorem long_ok {r : MV → Txt} {K p : Nat} {vs : List Int} {s : Bool} {t : Int} {st : Store} (hK : 2 ≤ K) (hp : cel st p = some (.lst (vs.map .int))) (hb : vs.length ≤ 1000) :
    ∃ (n : Nat) (st' : Store), callK (Wd r) K 19 [.bl s, .loc p, .int t] st = .ok (.loc n) st' ∧ (∃ a b : Nat, cel st' n = some (.lst [.int (soloV vs s t), .loc a, .loc b]) ∧ cel st' a = some (.lst ((optRow 1 t vs (x0 s t)).map .bl)) ∧ cel st' b = some (.lst ((optRow 0 t vs (x0 s t)).map .bl))) ∧ Keep [] st st' := by
  obtain ⟨k, rfl⟩ : ∃ k, K = k + 1 := ⟨K - 1, by omega⟩
  refine OkQ.ex MV.loc fun Q hQ => ?_
  rw [callK_eq (g__law_long r) rfl]
  obtain ⟨n1, st1, e1, l1, c1, k1⟩ := gaps_ok (r := r) (K := k) (s := s) (t := t) (by omega) hp hb
  have e2 := lsolo_ok (r := r) (K := k) (start := s) (tg := t) (by omega) (cel_keep k1 hp (by simp)) (by omega)
  have dm : ∀ e : Int, ((gapL t vs s).map MV.int).map (fun x => match x with | .int a => MV.bl (decide (e ≤ a)) | y => y) = (optRow e t vs (x0 s t)).map .bl := fun e => by
    rw [opt_gap, List.map_map, List.map_map]
    rfl
  simp [d__law_long, e1, e2, c1]
  simp only [okQ_bind]
  refine okQ_lcMap (fun x => match x with | .int a => .bl (decide (1 ≤ a)) | y => y) (by rw [c1]; rfl) (by rw [List.length_map, gapL_len]; unfold sizeMax; omega) (fun i u => Keep [] st1 u) (fun i u h => by rw [cel_keep h c1 (by simp)]; rfl) Keep.new (fun i u c h => h.setNew (Nat.le_refl _)) (fun i x u hx h => ?_) (fun u hc hI => ?_)
  · obtain ⟨a, _, rfl⟩ := List.mem_map.mp (List.mem_of_getElem? hx)
    simp [h]
    omega
  simp only [okQ_back]
  rw [dm] at hc
  have c2 := cel_keep hI c1 (by simp)
  simp [c2]
  simp only [okQ_bind]
  refine okQ_lcMap (fun x => match x with | .int a => .bl (decide (0 ≤ a)) | y => y) (by rw [c2]; rfl) (by rw [List.length_map, gapL_len]; unfold sizeMax; omega) (fun i v => Keep [] u v) (fun i v h => by rw [cel_keep h c2 (by simp)]; rfl) Keep.new (fun i v c h => h.setNew (Nat.le_refl _)) (fun i x v hx h => ?_) (fun v hc2 hI2 => ?_)
  · obtain ⟨a, _, rfl⟩ := List.mem_map.mp (List.mem_of_getElem? hx)
    simp [h]
  simp only [okQ_back]
  rw [dm] at hc2
  have hc3 := cel_keep hI2 hc (by simp)
  simp [newL_ok]
  exact hQ _ _ ⟨⟨_, _, cel_new _ _, cel_app_old hc3, cel_app_old hc2⟩, ((k1.trans hI).trans hI2).trans Keep.new⟩
/-! ### all rows -/
def lastB (s : Bool) (bs : List Bool) : Bool := bs.getLast?.getD s
theorem rowC_snoc (t v : Int) (b : Bool) : ∀ (vs : List Int) (s : Bool) (bs : List Bool), bs.length = vs.length → rowC t s (vs ++ [v]) (bs ++ [b]) = rowC t s vs bs + (if b = lastB s bs then 0 else t) + agn b v
  | [], s, [], _ => by
    by_cases h : b = s <;> simp [rowC, lastB, h]
  | [], s, _ :: _, h => by simp at h
  | _ :: _, s, [], h => by simp at h
  | w :: vs, s, c :: cs, h => by
    rw [List.cons_append, List.cons_append, rowC, rowC_snoc t v b vs c cs (by simpa using h), rowC]
    have e : lastB s (c :: cs) = lastB c cs := by
      rw [lastB, lastB, List.getLast?_cons]
      rfl
    rw [e]
    omega
def allRows : Nat → List (List Bool)
  | 0 => [[]]
  | n + 1 => (allRows n).map (fun row => row ++ [false]) ++ (allRows n).map (fun row => row ++ [true])
theorem all_len : ∀ n row, row ∈ allRows n → row.length = n
  | 0, row, h => by
    simp [allRows] at h
    simp [h]
  | n + 1, row, h => by
    rw [allRows, List.mem_append, List.mem_map, List.mem_map] at h
    rcases h with ⟨a, ha, rfl⟩ | ⟨a, ha, rfl⟩ <;> simp [all_len n a ha]
theorem all_mem : ∀ n (row : List Bool), row.length = n → row ∈ allRows n
  | 0, row, h => by
    have : row = [] := List.length_eq_zero_iff.mp h
    simp [allRows, this]
  | n + 1, row, h => by
    have hne : row ≠ [] := fun e => by simp [e] at h
    have e := (List.dropLast_concat_getLast hne).symm
    have hm := all_mem n row.dropLast (by simp [h])
    rw [e, allRows, List.mem_append, List.mem_map, List.mem_map]
    cases row.getLast hne
    · exact Or.inl ⟨_, hm, rfl⟩
    · exact Or.inr ⟨_, hm, rfl⟩
theorem all_count : ∀ n, (allRows n).length = 2 ^ n
  | 0 => rfl
  | n + 1 => by
    rw [allRows, List.length_append, List.length_map, List.length_map, all_count n, Nat.pow_succ]
    omega
/-- an entry of the law's list: a row and its cost, at places from w on -/
def Entr (w : Nat) (t : Int) (s : Bool) (vs : List Int) (st : Store) (m : MV) (row : List Bool) : Prop := ∃ e q : Nat, m = .loc e ∧ w ≤ e ∧ w ≤ q ∧ cel st e = some (.lst [.loc q, .int (rowC t s vs row)]) ∧ cel st q = some (.lst (row.map .bl))
theorem Entr.keep {w : Nat} {t : Int} {s : Bool} {vs : List Int} {st st' : Store} {m : MV} {row : List Bool} (h : Entr w t s vs st m row) (k : Keep [] st st') : Entr w t s vs st' m row := by
  obtain ⟨e, q, h1, h2, h3, h4, h5⟩ := h
  exact ⟨e, q, h1, h2, h3, cel_keep k h4 (by simp), cel_keep k h5 (by simp)⟩
theorem Entr.mono {w w' : Nat} {t : Int} {s : Bool} {vs : List Int} {st : Store} {m : MV} {row : List Bool} (h : Entr w t s vs st m row) (k : w' ≤ w) : Entr w' t s vs st m row := by
  obtain ⟨e, q, h1, h2, h3, h4, h5⟩ := h
  exact ⟨e, q, h1, by omega, by omega, h4, h5⟩
theorem Entr.set {w d : Nat} {t : Int} {s : Bool} {vs : List Int} {st : Store} {m : MV} {row : List Bool} {c : Cell} (h : Entr w t s vs st m row) (k : d < w) : Entr w t s vs (st.set d c) m row := by
  obtain ⟨e, q, h1, h2, h3, h4, h5⟩ := h
  exact ⟨e, q, h1, h2, h3, by rw [cel_set_ne _ _ _ _ (by omega)]; exact h4, by rw [cel_set_ne _ _ _ _ (by omega)]; exact h5⟩
theorem longer_ok {r : MV → Txt} {K w : Nat} {vs : List Int} {v : Int} {s b : Bool} {t : Int} {m : MV} {row : List Bool} {st : Store} (hK : 1 ≤ K) (h : Entr w t s vs st m row) (hl : row.length = vs.length) (hb : row.length ≤ 1000) :
    ∃ (n : Nat) (st' : Store), callK (Wd r) K 16 [m, .bl b, .bl s, .int v, .int t] st = .ok (.loc n) st' ∧ Entr st.length t s (vs ++ [v]) st' (.loc n) (row ++ [b]) ∧ Keep [] st st' := by
  obtain ⟨k, rfl⟩ : ∃ k, K = k + 1 := ⟨K - 1, by omega⟩
  refine OkQ.ex MV.loc fun Q hQ => ?_
  rw [callK_eq (g__law_longer r) rfl]
  obtain ⟨e, q, rfl, w1, w2, c1, c2⟩ := h
  have hlast : (if 0 < row.length then vo (atI (row.map MV.bl) ((row.length : Int) - 1)) st else Out.ok (MV.bl s) st) = Out.ok (MV.bl (lastB s row)) st := by
    split
    · rename_i h0
      have e1 : ((row.length : Int) - 1) = ((row.length - 1 : Nat) : Int) := by omega
      have hlt : row.length - 1 < row.length := by omega
      rw [e1, atI_nat, List.getElem?_map, List.getElem?_eq_getElem hlt, lastB, List.getLast?_eq_getElem?, List.getElem?_eq_getElem hlt]
      rfl
    · rename_i h0
      have : row = [] := List.length_eq_zero_iff.mp (by omega)
      subst this
      rfl
  have hsn := rowC_snoc t v b vs s row hl
  have hn : row.length + 1 ≤ 16000000 := by omega
  have fin : ∀ c : Int, c = rowC t s (vs ++ [v]) (row ++ [b]) → Q (.loc (st.length + 2)) (st ++ [.lst [.bl b], .lst (row.map .bl ++ [.bl b]), .lst [.loc (st.length + 1), .int c]]) := fun c hc => by
    refine hQ _ _ ⟨⟨_, st.length + 1, rfl, by omega, by omega, ?_, ?_⟩, Keep.new⟩
    · rw [← hc]
      simp
    · simp
  rw [hsn] at fin
  cases b <;> cases hlb : lastB s row <;> simp [hlb, agn, mx0] at fin <;> simp [d__law_longer, c1, c2, hlast, hlb, newL_ok, hn, cel_app_old c1, cel_app_old c2]
  all_goals exact fin
def All2 {α β : Type} (R : α → β → Prop) : List α → List β → Prop
  | [], [] => True
  | a :: as, b :: bs => R a b ∧ All2 R as bs
  | _, _ => False
theorem All2.app {α β : Type} {R : α → β → Prop} : ∀ {as : List α} {bs : List β} {cs : List α} {ds : List β}, All2 R as bs → All2 R cs ds → All2 R (as ++ cs) (bs ++ ds)
  | [], [], _, _, _, h => h
  | _ :: _, _ :: _, _, _, h, g => ⟨h.1, All2.app h.2 g⟩
theorem All2.imp {α β : Type} {R S : α → β → Prop} (f : ∀ a b, R a b → S a b) : ∀ {as : List α} {bs : List β}, All2 R as bs → All2 S as bs
  | [], [], _ => trivial
  | _ :: _, _ :: _, h => ⟨f _ _ h.1, All2.imp f h.2⟩
theorem All2.len {α β : Type} {R : α → β → Prop} : ∀ {as : List α} {bs : List β}, All2 R as bs → as.length = bs.length
  | [], [], _ => rfl
  | _ :: _, _ :: _, h => by rw [List.length_cons, List.length_cons, All2.len h.2]
theorem All2.get {α β : Type} {R : α → β → Prop} : ∀ {as : List α} {bs : List β} {i : Nat} {a : α}, All2 R as bs → as[i]? = some a → ∃ b, bs[i]? = some b ∧ R a b
  | [], [], _, _, _, h => by simp at h
  | _ :: _, b :: _, 0, _, h, g => by
    rw [List.getElem?_cons_zero] at g
    cases g
    exact ⟨b, rfl, h.1⟩
  | _ :: _, _ :: _, i + 1, _, h, g => by
    rw [List.getElem?_cons_succ] at g ⊢
    exact All2.get h.2 g
theorem take_snocA {α : Type} {l : List α} {i : Nat} {x : α} (h : l[i]? = some x) : l.take (i + 1) = l.take i ++ [x] := by
  rw [List.take_add_one, h]
  rfl
def AccI (w : Nat) (t : Int) (s : Bool) (vs : List Int) (rows : List (List Bool)) (b : Bool) (acc : List MV) (st : Store) (j : Nat) : Prop := All2 (Entr w t s vs st) acc ((rows.take j).map fun row => row ++ [b])
theorem rows_ok {r : MV → Txt} {K p : Nat} {vs : List Int} {s : Bool} {t : Int} {st : Store} (hK : 2 ≤ K) (hp : cel st p = some (.lst (vs.map .int))) (hb : vs.length ≤ 8) :
    ∃ (n : Nat) (st' : Store), callK (Wd r) K 17 [.bl s, .loc p, .int t] st = .ok (.loc n) st' ∧ (∃ ms, cel st' n = some (.lst ms) ∧ All2 (Entr 0 t s vs st') ms (allRows vs.length)) ∧ Keep [] st st' := by
  obtain ⟨k, rfl⟩ : ∃ k, K = k + 1 := ⟨K - 1, by omega⟩
  refine OkQ.ex MV.loc fun Q hQ => ?_
  rw [callK_eq (g__law_rows r) rfl]
  have cnt : ∀ i, i ≤ 8 → (allRows i).length ≤ 256 := fun i hi => by
    rw [all_count]
    exact Nat.pow_le_pow_right (n := 2) (by omega) hi
  have c0 : ∀ t2 : Store, cel (st ++ t2) p = some (.lst (vs.map .int)) := fun t2 => cel_app_old hp
  simp [d__law_rows, newL_ok, c0]
  simp only [okQ_bind]
  refine okQ_lst (l := vs.map .int) (by simp [c0]) (fun i env u => ∃ n ms, env = [some (.bl s), some (.loc p), some (.int t), some (.loc n), none, none, none] ∧ Keep [] st u ∧ cel u n = some (.lst ms) ∧ All2 (Entr 0 t s (vs.take i) u) ms (allRows i)) ⟨st.length + 2, [.loc (st.length + 1)], rfl, Keep.new, by simp, ⟨st.length + 1, st.length, rfl, by omega, by omega, by simp [rowC], by simp⟩, trivial⟩ (fun i env u h => by obtain ⟨_, _, _, h, _⟩ := h; rw [cel_keep h hp (by simp)]; rfl) (fun i x env u hx h => ?_) (fun env u h => ?_)
  · obtain ⟨n, ms, rfl, kk, cn, ha⟩ := h
    obtain ⟨hi, rfl⟩ := item hx
    have hml := ha.len
    have hc8 := cnt i (by omega)
    have htl : ∀ row, row ∈ allRows i → row.length = (vs.take i).length := fun row h => by rw [all_len i row h, List.length_take]; omega
    simp [cn]
    simp only [okQ_bind]
    refine okQ_lcLstF (l := ms) (by rw [cn]; rfl) (fun j acc v => Keep [] u v ∧ AccI (u.length + 1) t s (vs.take (i + 1)) (allRows i) false acc v j) (fun j acc v h => by rw [cel_keep h.1 cn (by simp)]; rfl) (fun j acc v hj h => by
      have := h.2.len
      rw [List.length_map, List.length_take] at this
      unfold sizeMax
      omega) ⟨Keep.new, trivial⟩ (fun j x acc v hx hD h => ?_) (fun acc v hD h => ?_)
    · obtain ⟨row, hr, he⟩ := ha.get hx
      have hrl := htl row (List.mem_of_getElem? hr)
      have hrl2 := all_len i row (List.mem_of_getElem? hr)
      obtain ⟨n2, v2, e2, he2, k2⟩ := longer_ok (r := r) (K := k) (v := vs[i]) (b := false) (by omega) (he.keep h.1) hrl (by omega)
      have hDl := cel_lt hD
      simp [e2]
      refine ⟨cel_keep k2 hD (by simp), (h.1.trans k2).setNew (Nat.le_refl _), ?_⟩
      rw [← take_snoc hi] at he2
      unfold AccI
      rw [take_snocA hr, List.map_append]
      exact All2.app (h.2.imp fun a b hh => (hh.keep k2).set (by omega)) ⟨(he2.mono (by omega)).set (by omega), trivial⟩
    obtain ⟨k1, ha1⟩ := h
    simp only [okQ_back]
    have cn1 := cel_keep k1 cn (by simp)
    have hul : u.length ≤ v.length := k1.len
    have hlt := cel_lt hD
    simp [cn1]
    simp only [okQ_bind]
    refine okQ_lcLstF (l := ms) (by rw [cn1]; rfl) (fun j acc w => Keep [] v w ∧ AccI (v.length + 1) t s (vs.take (i + 1)) (allRows i) true acc w j) (fun j acc w h => by rw [cel_keep h.1 cn1 (by simp)]; rfl) (fun j acc w hj h => by
      have := h.2.len
      rw [List.length_map, List.length_take] at this
      unfold sizeMax
      omega) ⟨Keep.new, trivial⟩ (fun j x acc w hx hD h => ?_) (fun acc2 w hD2 h => ?_)
    · obtain ⟨row, hr, he⟩ := ha.get hx
      have hrl := htl row (List.mem_of_getElem? hr)
      have hrl2 := all_len i row (List.mem_of_getElem? hr)
      obtain ⟨n2, v2, e2, he2, k2⟩ := longer_ok (r := r) (K := k) (v := vs[i]) (b := true) (by omega) ((he.keep k1).keep h.1) hrl (by omega)
      have hDl := cel_lt hD
      simp [e2]
      refine ⟨cel_keep k2 hD (by simp), (h.1.trans k2).setNew (Nat.le_refl _), ?_⟩
      rw [← take_snoc hi] at he2
      unfold AccI
      rw [take_snocA hr, List.map_append]
      exact All2.app (h.2.imp fun a b hh => (hh.keep k2).set (by omega)) ⟨(he2.mono (by omega)).set (by omega), trivial⟩
    obtain ⟨k2, ha2⟩ := h
    simp only [okQ_back]
    unfold AccI at ha1 ha2
    rw [hml, List.take_length] at ha1 ha2
    have hD3 := cel_keep k2 hD (by simp)
    have hal : acc.length + acc2.length ≤ 16000000 := by
      rw [ha1.len, ha2.len, List.length_map, List.length_map]
      omega
    have hfin : All2 (Entr 0 t s (vs.take (i + 1)) (w ++ [.lst (acc ++ acc2)])) (acc ++ acc2) (allRows (i + 1)) := by
      rw [allRows]
      exact All2.app (ha1.imp fun a b hh => (((hh.mono (by omega)).keep k2).keep Keep.new)) (ha2.imp fun a b hh => ((hh.mono (by omega)).keep Keep.new))
    simp [hD3, hD2, newL_ok, hal]
    exact ⟨((kk.trans k1).trans k2).trans Keep.new, hfin⟩
  · obtain ⟨n, ms, rfl, kk, cn, ha⟩ := h
    rw [List.length_map, List.take_length] at ha
    simp
    exact hQ _ _ ⟨⟨ms, cn, ha⟩, kk⟩
/-! ### the best of all rows -/
theorem allInts_map : ∀ l : List Int, allInts (l.map .int) = some l
  | [] => rfl
  | x :: l => by
    rw [List.map_cons, allInts, allInts_map l]
    rfl
theorem minL_spec : ∀ (l : List Int) (m : Int), minL m l ≤ m ∧ (∀ x, x ∈ l → minL m l ≤ x) ∧ (minL m l = m ∨ minL m l ∈ l)
  | [], m => ⟨Int.le_refl _, by simp, Or.inl rfl⟩
  | y :: l, m => by
    rw [minL]
    by_cases h : y < m
    · rw [if_pos h]
      obtain ⟨a, b, c⟩ := minL_spec l y
      refine ⟨by omega, fun x hx => ?_, ?_⟩
      · rcases List.mem_cons.mp hx with rfl | hx
        · exact a
        · exact b x hx
      · rcases c with c | c
        · exact Or.inr (by rw [c]; simp)
        · exact Or.inr (List.mem_cons_of_mem _ c)
    · rw [if_neg h]
      obtain ⟨a, b, c⟩ := minL_spec l m
      refine ⟨a, fun x hx => ?_, ?_⟩
      · rcases List.mem_cons.mp hx with rfl | hx
        · omega
        · exact b x hx
      · rcases c with c | c
        · exact Or.inl c
        · exact Or.inr (List.mem_cons_of_mem _ c)
theorem min1_ok {n : Nat} {l : List Int} {m : Int} {st : Store} (h : cel st n = some (.lst (l.map .int))) (hm : m ∈ l) (hle : ∀ x, x ∈ l → m ≤ x) (C : Cx) : prim C .min1 [.loc n] st = .ok (.int m) st := by
  unfold cel at h
  have e : getL st n = some (l.map .int) := by simp only [getL, h]
  cases l with
  | nil => simp at hm
  | cons y l =>
    simp only [prim, e, Option.bind_some, allInts_map]
    obtain ⟨a, b, c⟩ := minL_spec l y
    have : minL y l = m := by
      have h1 : m ≤ minL y l := by
        rcases c with c | c
        · rw [c]
          exact hle y (by simp)
        · exact hle _ (List.mem_cons_of_mem _ c)
      rcases List.mem_cons.mp hm with rfl | hm
      · omega
      · have := b m hm
        omega
    rw [this]
def RefR (st : Store) (m : MV) (row : List Bool) : Prop := ∃ q : Nat, m = .loc q ∧ cel st q = some (.lst (row.map .bl))
def BestI (st : Store) (c : List Bool → Bool) (rows : List (List Bool)) (acc : List MV) (j : Nat) : Prop := All2 (RefR st) acc ((rows.take j).filter c)
def CntI (c : List Bool → Bool) (rows : List (List Bool)) (acc : List MV) (j : Nat) : Prop := acc.length = ((rows.take j).filter c).length
/-- one of the two lists: how many best rows have something at a place -/
theorem short_ok {r : MV → Txt} {K p : Nat} {vs : List Int} {s : Bool} {t : Int} {st : Store} (hK : 3 ≤ K) (hp : cel st p = some (.lst (vs.map .int))) (hb : vs.length ≤ 8) (ht : 0 ≤ t) :
    ∃ (n : Nat) (st' : Store), callK (Wd r) K 18 [.bl s, .loc p, .int t] st = .ok (.loc n) st' ∧ (∃ a b : Nat, cel st' n = some (.lst [.int (soloV vs s t), .loc a, .loc b]) ∧ cel st' a = some (.lst ((optRow 1 t vs (x0 s t)).map .bl)) ∧ cel st' b = some (.lst ((optRow 0 t vs (x0 s t)).map .bl))) ∧ Keep [] st st' := by
  obtain ⟨k, rfl⟩ : ∃ k, K = k + 1 := ⟨K - 1, by omega⟩
  refine OkQ.ex MV.loc fun Q hQ => ?_
  rw [callK_eq (g__law_short r) rfl]
  obtain ⟨n1, st1, e1, ⟨ms, c1, ha⟩, k1⟩ := rows_ok (r := r) (K := k) (s := s) (t := t) (by omega) hp hb
  have hp1 := cel_keep k1 hp (by simp)
  have hcnt : (allRows vs.length).length ≤ 256 := by
    rw [all_count]
    exact Nat.pow_le_pow_right (n := 2) (by omega) hb
  have hml := ha.len
  have hlen := all_len vs.length
  have hmem := all_mem vs.length
  generalize allRows vs.length = rows at *
  simp [d__law_short, e1, c1]
  simp only [okQ_bind]
  refine okQ_lcLstF (l := ms) (by rw [c1]; rfl) (fun j acc v => Keep [] st1 v ∧ acc = (rows.take j).map fun row => .int (rowC t s vs row)) (fun j acc v h => by rw [cel_keep h.1 c1 (by simp)]; rfl) (fun j acc v hj h => by
    rw [h.2, List.length_map, List.length_take]
    unfold sizeMax
    omega) ⟨Keep.new, rfl⟩ (fun j x acc v hx hD h => ?_) (fun acc v hD h => ?_)
  · obtain ⟨row, hr, he⟩ := ha.get hx
    have he2 := he.keep h.1
    obtain ⟨e, q, rfl, _, _, f1, f2⟩ := he2
    simp [f1]
    refine ⟨hD, h.1.setNew (Nat.le_refl _), ?_⟩
    rw [h.2, ← List.map_take, take_snocA hr, List.map_append]
    rfl
  simp only [okQ_back]
  obtain ⟨k2, rfl⟩ := h
  rw [hml, List.take_length] at hD
  have hmin := min1_ok (l := rows.map fun row => rowC t s vs row) (m := soloV vs s t) (n := st1.length) (st := v) (by rw [hD, List.map_map]; rfl) (List.mem_map.mpr ⟨_, hmem _ (opt_len 0 t vs (x0 s t)), opt_cost ht (by omega) (by omega) s vs⟩) (fun x hx => by
    obtain ⟨row, hr, rfl⟩ := List.mem_map.mp hx
    exact solo_le ht vs row s (hlen row hr))
  have c2 := cel_keep k2 c1 (by simp)
  generalize hsv : soloV vs s t = sv at *
  simp [hmin, c2]
  simp only [okQ_bind]
  refine okQ_lcLstF (l := ms) (by rw [c2]; rfl) (fun j acc w => Keep [] v w ∧ BestI st1 (fun row => decide (rowC t s vs row = sv)) rows acc j) (fun j acc w h => by rw [cel_keep h.1 c2 (by simp)]; rfl) (fun j acc w hj h => by
    have h1 := h.2.len
    have h2 := List.length_filter_le (fun row => decide (rowC t s vs row = sv)) (rows.take j)
    rw [List.length_take] at h2
    unfold sizeMax
    omega) ⟨Keep.new, trivial⟩ (fun j x acc w hx hD2 h => ?_) (fun best w hD2 h => ?_)
  · obtain ⟨row, hr, he⟩ := ha.get hx
    have he2 := (he.keep k2).keep h.1
    obtain ⟨e, q, rfl, _, _, f1, f2⟩ := he2
    obtain ⟨e', q', e3, _, _, f3, f4⟩ := he
    cases e3
    have f5 := cel_keep (k2.trans h.1) f3 (by simp)
    have eq : q' = q := by
      rw [f1] at f5
      simpa using f5.symm
    subst eq
    have hh := h.2
    unfold BestI at hh
    by_cases hc : rowC t s vs row = sv
    · simp [f1, hc]
      refine ⟨hD2, h.1.setNew (Nat.le_refl _), ?_⟩
      unfold BestI
      rw [take_snocA hr, List.filter_append]
      refine All2.app hh ?_
      simp only [List.filter_cons, hc, decide_true, List.filter_nil]
      exact ⟨⟨_, rfl, f4⟩, trivial⟩
    · simp [f1, hc]
      refine ⟨hD2, h.1, ?_⟩
      unfold BestI
      rw [take_snocA hr, List.filter_append]
      simp only [List.filter_cons, hc, decide_false, List.filter_nil]
      simpa using hh
  obtain ⟨k3, hbest⟩ := h
  simp only [okQ_back]
  unfold BestI at hbest
  rw [hml, List.take_length] at hbest
  have hb2 : ∀ row, row ∈ rows.filter (fun row => decide (rowC t s vs row = sv)) ↔ (row.length = vs.length ∧ rowC t s vs row = sv) := fun row => by
    rw [List.mem_filter]
    constructor
    · rintro ⟨h1, h2⟩
      exact ⟨hlen row h1, of_decide_eq_true h2⟩
    · rintro ⟨h1, h2⟩
      exact ⟨hmem row h1, decide_eq_true h2⟩
  have hbl : (rows.filter (fun row => decide (rowC t s vs row = sv))).length ≤ 256 := by
    have h2 := List.length_filter_le (fun row => decide (rowC t s vs row = sv)) rows
    omega
  generalize rows.filter (fun row => decide (rowC t s vs row = sv)) = bs at *
  have hbsl := hbest.len
  have p3 := cel_keep (k2.trans k3) hp1 (by simp)
  have hE : ∀ i, i < vs.length → ((bs.filter fun row => !(row[i]?.getD false)).length = 0 ↔ 1 ≤ gapAt t vs s i) := fun i hi => by
    rw [every_on ht vs s i hi, hsv, List.length_eq_zero_iff, List.filter_eq_nil_iff]
    constructor
    · intro h row h1 h2
      have := h row ((hb2 row).mpr ⟨h1, h2⟩)
      simpa using this
    · intro h row hr
      have := h row ((hb2 row).mp hr).1 ((hb2 row).mp hr).2
      simp [this]
  have hS : ∀ i, i < vs.length → (0 < (bs.filter fun row => row[i]?.getD false).length ↔ 0 ≤ gapAt t vs s i) := fun i hi => by
    rw [some_on ht vs s i hi, hsv, List.length_pos_iff_exists_mem]
    constructor
    · rintro ⟨row, hr⟩
      rw [List.mem_filter] at hr
      exact ⟨row, ((hb2 row).mp hr.1).1, ((hb2 row).mp hr.1).2, hr.2⟩
    · rintro ⟨row, h1, h2, h3⟩
      exact ⟨row, List.mem_filter.mpr ⟨(hb2 row).mpr ⟨h1, h2⟩, h3⟩⟩
  have optE : (List.range vs.length).map (fun i => MV.bl (decide ((bs.filter fun row => !(row[i]?.getD false)).length = 0))) = (optRow 1 t vs (x0 s t)).map .bl := by
    rw [opt_gap, gapL, List.map_map, List.map_map]
    refine List.map_congr_left fun i hi => ?_
    have := hE i (List.mem_range.mp hi)
    simp only [Function.comp_apply]
    congr 1
    exact decide_eq_decide.mpr this
  have optS : (List.range vs.length).map (fun i => MV.bl (decide (0 < (bs.filter fun row => row[i]?.getD false).length))) = (optRow 0 t vs (x0 s t)).map .bl := by
    rw [opt_gap, gapL, List.map_map, List.map_map]
    refine List.map_congr_left fun i hi => ?_
    have := hS i (List.mem_range.mp hi)
    simp only [Function.comp_apply]
    congr 1
    exact decide_eq_decide.mpr this
  have hrow : ∀ row, row ∈ bs → row.length = vs.length := fun row h => ((hb2 row).mp h).1
  generalize hbp : v.length = bp at *
  simp [p3, rng_of (n := vs.length) (by omega)]
  simp only [okQ_bind]
  refine okQ_lcRngM (fun i => MV.bl (decide ((bs.filter fun row => !(row[i]?.getD false)).length = 0))) (by omega) (fun i u => Keep [] w u) Keep.new (fun i u c h => h.setNew (Nat.le_refl _)) (fun i u hi h => ?_) (fun u hc hI => ?_)
  · have b1 := cel_keep h hD2 (by simp)
    simp [b1]
    simp only [okQ_bind]
    refine okQ_lcLstF (l := best) (by rw [b1]; rfl) (fun j acc z => Keep [] u z ∧ CntI (fun row => !(row[i]?.getD false)) bs acc j) (fun j acc z h => by rw [cel_keep h.1 b1 (by simp)]; rfl) (fun j acc z hj h => by
      have h1 := h.2
      unfold CntI at h1
      have h2 := List.length_filter_le (fun row => !(row[i]?.getD false)) (bs.take j)
      rw [List.length_take] at h2
      unfold sizeMax
      omega) ⟨Keep.new, rfl⟩ (fun j x acc z hx hDz h2 => ?_) (fun acc z hDz h2 => ?_)
    · obtain ⟨row, hr, ⟨q, rfl, f1⟩⟩ := hbest.get hx
      have f2 := cel_keep (((k2.trans k3).trans h).trans h2.1) f1 (by simp)
      have hi2 : i < row.length := by rw [hrow row (List.mem_of_getElem? hr)]; exact hi
      have hh := h2.2
      unfold CntI at hh
      cases hv : row[i]
      · simp [f2, hi2, hv]
        refine ⟨hDz, h2.1.setNew (Nat.le_refl _), ?_⟩
        unfold CntI
        rw [take_snocA hr, List.filter_append, List.length_append, List.length_append, hh]
        simp [hi2, hv]
      · simp [f2, hi2, hv]
        refine ⟨hDz, h2.1, ?_⟩
        unfold CntI
        rw [take_snocA hr, List.filter_append, List.length_append, hh]
        simp [hi2, hv]
    · obtain ⟨k4, h3⟩ := h2
      unfold CntI at h3
      rw [hbsl, List.take_length] at h3
      simp only [okQ_back]
      simp [hDz, h3]
      exact ⟨fun c hc => cel_keep k4 hc (by simp), h.trans k4⟩
  simp only [okQ_back]
  rw [optE] at hc
  have p4 := cel_keep hI p3 (by simp)
  have b4 := cel_keep hI hD2 (by simp)
  simp [p4, rng_of (n := vs.length) (by omega)]
  simp only [okQ_bind]
  refine okQ_lcRngM (fun i => MV.bl (decide (0 < (bs.filter fun row => row[i]?.getD false).length))) (by omega) (fun i y => Keep [] u y) Keep.new (fun i y c h => h.setNew (Nat.le_refl _)) (fun i y hi h => ?_) (fun y hc5 hI5 => ?_)
  · have b1 := cel_keep h b4 (by simp)
    simp [b1]
    simp only [okQ_bind]
    refine okQ_lcLstF (l := best) (by rw [b1]; rfl) (fun j acc z => Keep [] y z ∧ CntI (fun row => row[i]?.getD false) bs acc j) (fun j acc z h => by rw [cel_keep h.1 b1 (by simp)]; rfl) (fun j acc z hj h => by
      have h1 := h.2
      unfold CntI at h1
      have h2 := List.length_filter_le (fun row => row[i]?.getD false) (bs.take j)
      rw [List.length_take] at h2
      unfold sizeMax
      omega) ⟨Keep.new, rfl⟩ (fun j x acc z hx hDz h2 => ?_) (fun acc z hDz h2 => ?_)
    · obtain ⟨row, hr, ⟨q, rfl, f1⟩⟩ := hbest.get hx
      have f2 := cel_keep ((((k2.trans k3).trans hI).trans h).trans h2.1) f1 (by simp)
      have hi2 : i < row.length := by rw [hrow row (List.mem_of_getElem? hr)]; exact hi
      have hh := h2.2
      unfold CntI at hh
      cases hv : row[i]
      · simp [f2, hi2, hv]
        refine ⟨hDz, h2.1, ?_⟩
        unfold CntI
        rw [take_snocA hr, List.filter_append, List.length_append, hh]
        simp [hi2, hv]
      · simp [f2, hi2, hv]
        refine ⟨hDz, h2.1.setNew (Nat.le_refl _), ?_⟩
        unfold CntI
        rw [take_snocA hr, List.filter_append, List.length_append, List.length_append, hh]
        simp [hi2, hv]
    · obtain ⟨k4, h3⟩ := h2
      unfold CntI at h3
      rw [hbsl, List.take_length] at h3
      simp only [okQ_back]
      simp [hDz, h3]
      exact ⟨fun c hc => cel_keep k4 hc (by simp), h.trans k4⟩
  simp only [okQ_back]
  rw [optS] at hc5
  have hc6 := cel_keep hI5 hc (by simp)
  simp [newL_ok]
  exact hQ _ _ ⟨⟨_, _, cel_new _ _, cel_app_old hc6, cel_app_old hc5⟩, ((((k1.trans k2).trans k3).trans hI).trans hI5).trans Keep.new⟩
theorem headB (l : List Bool) (b : Bool) : ∃ b0 l0, l.map MV.bl ++ [MV.bl b] = MV.bl b0 :: l0 := by
  cases l with
  | nil => exact ⟨b, [], rfl⟩
  | cons a l => exact ⟨a, l.map MV.bl ++ [MV.bl b], rfl⟩
theorem right_ok {r : MV → Txt} {K p d a b : Nat} {vs : List Int} {s : Bool} {t : Int} {st : Store} (hK : 6 ≤ K) (hp : cel st p = some (.lst (vs.map .int))) (hb : vs.length ≤ 1000) (ht : 0 ≤ t) (hv : ∀ v, v ∈ vs → v.natAbs < 10 ^ 60)
    (hd : cel st d = some (.lst [.int (soloV vs s t), .loc a, .loc b])) (ha : cel st a = some (.lst ((optRow 1 t vs (x0 s t)).map .bl))) (hbb : cel st b = some (.lst ((optRow 0 t vs (x0 s t)).map .bl))) :
    ∃ (u : Unit) (st' : Store), callK (Wd r) K 20 [.bl s, .loc p, .int t, .loc d] st = .ok (.bl true) st' ∧ Keep [] st st' := by
  obtain ⟨k, rfl⟩ : ∃ k, K = k + 1 := ⟨K - 1, by omega⟩
  refine OkQ.ex (fun _ => MV.bl true) fun Q hQ => ?_
  rw [callK_eq (g__law_right r) rfl]
  have hm0 : cel (st ++ [.lst (vs.map .int)]) st.length = some (.lst (vs.map .int)) := cel_new _ _
  obtain ⟨n1, st1, e1, l1, c1, k1⟩ := least_ok (r := r) (K := k) (s := s) (t := t) (by omega) hm0 hb ht
  obtain ⟨n2, st2, e2, l2, c2, k2⟩ := greatest_ok (r := r) (K := k) (s := s) (t := t) (by omega) (cel_keep k1 hm0 (by simp)) hb ht
  have kk2 : Keep [] st st2 := Keep.new.trans (k1.trans k2)
  have d2 := cel_keep kk2 hd (by simp)
  have a2 := cel_keep kk2 ha (by simp)
  have b2 := cel_keep kk2 hbb (by simp)
  have p2 := cel_keep kk2 hp (by simp)
  have m2 := cel_keep (k1.trans k2) hm0 (by simp)
  have c12 := cel_keep k2 c1 (by simp)
  have s1 := sides_ok (r := r) (K := k) (by omega) c12 a2 (by rw [opt_len]; omega)
  have s2 := sides_ok (r := r) (K := k) (by omega) c2 b2 (by rw [opt_len]; omega)
  have hl : vs.length ≤ 16000000 := by omega
  have hc1l := cel_lt c1
  have hdl := cel_lt hd
  have hal := cel_lt ha
  have hbl := cel_lt hbb
  have hpl := cel_lt hp
  simp at l1
  simp [d__law_right, hp, newL_ok, hl, e1, e2, d2, s1, s2]
  simp only [okQ_bind]
  refine okQ_lst (l := [.loc n1, .loc n2]) rfl (fun i env u => env = [some (.bl s), some (.loc p), some (.int t), some (.loc d), some (.loc st.length), some (.loc n1), some (.loc n2), none] ∧ u = st2 ++ [.lst [.loc n1, .loc n2]]) ⟨rfl, rfl⟩ (fun i env u h => by rw [h.2, cel_new]; rfl) (fun i x env u hx h => ?_) (fun env u h => ?_)
  · obtain ⟨rfl, rfl⟩ := h
    have q1 := rcost_ok (r := r) (K := k) (s := s) (t := t) (st := st2 ++ [.lst [.loc n1, .loc n2]]) (by omega) (cel_app_old p2) (cel_app_old c12) (opt_len _ _ _ _) (by omega)
    have q2 := rcost_ok (r := r) (K := k) (s := s) (t := t) (st := st2 ++ [.lst [.loc n1, .loc n2]]) (by omega) (cel_app_old p2) (cel_app_old c2) (opt_len _ _ _ _) (by omega)
    rw [opt_cost ht (by omega) (by omega)] at q1 q2
    have : x = .loc n1 ∨ x = .loc n2 := by
      have := List.mem_of_getElem? hx
      simpa using this
    rcases this with rfl | rfl
    · simp [q1, cel_app_old d2]
    · simp [q2, cel_app_old d2]
  obtain ⟨rfl, rfl⟩ := h
  simp only [okQ_back]
  have c13 : cel (st2 ++ [.lst [.loc n1, .loc n2]]) n1 = some (.lst ((optRow 1 t vs (x0 s t)).map .bl)) := cel_app_old c12
  have c23 : cel (st2 ++ [.lst [.loc n1, .loc n2]]) n2 = some (.lst ((optRow 0 t vs (x0 s t)).map .bl)) := cel_app_old c2
  have kk3 : Keep [] st (st2 ++ [.lst [.loc n1, .loc n2]]) := kk2.trans Keep.new
  have m3 : cel (st2 ++ [.lst [.loc n1, .loc n2]]) st.length = some (.lst (vs.map .int)) := cel_app_old m2
  generalize st2 ++ [.lst [.loc n1, .loc n2]] = u0 at *
  have hne : n1 ≠ n2 := by omega
  have hne2 : n2 ≠ n1 := by omega
  have hx1 := cel_lt c13
  have hx2 := cel_lt c23
  have hl2 : vs.length < 16000000 := by omega
  obtain ⟨h1, t1, hh1⟩ := headB (optRow 1 t vs (x0 s t)) true
  obtain ⟨h2, t2, hh2⟩ := headB (optRow 0 t vs (x0 s t)) false
  have y1 : 0 < t1.length + 1 := by omega
  have y2 : 0 < t2.length + 1 := by omega
  have z1 : ixN (t1.length + 1) 0 = some 0 := ixN_lit y1
  have z2 : ixN (t2.length + 1) 0 = some 0 := ixN_lit y2
  simp [c13, c23, appV_ok, opt_len, hl2, hh1, hh2, cel_set, cel_set_ne, hne, hne2, hx1, hx2, z1, z2]
  generalize hS : List.set (List.set (List.set (List.set u0 n1 _) n2 _) n1 _) n2 _ = u4
  have k4 : Keep [n1, n2] u0 u4 := by
    rw [← hS]
    refine ⟨by simp, fun m c hm e => ?_⟩
    simp at hm
    rw [show (_ : List Cell)[m]? = cel _ m from rfl]
    rw [cel_set_ne _ _ _ _ (fun e => hm.2 e.symm), cel_set_ne _ _ _ _ (fun e => hm.1 e.symm), cel_set_ne _ _ _ _ (fun e => hm.2 e.symm), cel_set_ne _ _ _ _ (fun e => hm.1 e.symm)]
    exact e
  have kk4 : Keep [n1, n2] st u4 := kk3.weak.trans k4
  have m4 := cel_keep k4 m3 (by simp; omega)
  obtain ⟨n5, st5, e5, l5, c5, k5⟩ := least_ok (r := r) (K := k) (s := s) (t := t) (by omega) m4 hb ht
  obtain ⟨n6, st6, e6, l6, c6, k6⟩ := greatest_ok (r := r) (K := k) (s := s) (t := t) (by omega) (cel_keep k5 m4 (by simp)) hb ht
  have d4 := cel_keep kk4 hd (by simp; omega)
  have d5 := cel_keep k5 d4 (by simp)
  have d6 := cel_keep k6 d5 (by simp)
  have a5 := cel_keep k5 (cel_keep kk4 ha (by simp; omega)) (by simp)
  have b6 := cel_keep (k5.trans k6) (cel_keep kk4 hbb (by simp; omega)) (by simp)
  have s5 := sides_ok (r := r) (K := k) (by omega) c5 a5 (by rw [opt_len]; omega)
  have s6 := sides_ok (r := r) (K := k) (by omega) c6 b6 (by rw [opt_len]; omega)
  have p6 := cel_keep (k5.trans k6) (cel_keep kk4 hp (by simp; omega)) (by simp)
  have m6 := cel_keep (k5.trans k6) m4 (by simp)
  have o1 : (vs.map MV.int).all okInt = true := by
    rw [List.all_eq_true]
    intro x hx
    obtain ⟨v, hv2, rfl⟩ := List.mem_map.mp hx
    exact decide_eq_true (hv v hv2)
  have q1 : ∀ (C : Cx) n s, cel s n = some (.lst (vs.map .int)) → prim C .repr [.loc n] s = .ok (.str (C.repr (.lst (vs.map .int)))) s := fun C n s h => p_repr (by rw [getL_eq, h]; rfl) o1 (by rw [List.length_map]; omega)
  simp [e5, d5, s5, e6, d6, s6, q1 _ _ _ p6, q1 _ _ _ m6]
  exact hQ () _ ((((kk4.trans (k5.weak)).trans k6.weak).forget (by omega)).forget (by omega))
/-! ### the law -/
theorem some_ok {r : MV → Txt} {K q b : Nat} {u : Int} {st : Store} (hK : 3 ≤ K) (h : Src st q b) (hb : b ≤ 100000) (h0 : 0 ≤ u) (h1 : u ≤ 10 ^ 12) :
    ∃ (v : Int) (st' : Store), callK (Wd r) K 14 [.loc q, .int u] st = .ok (.int v) st' ∧ v.natAbs < 10 ^ 60 ∧ Src st' q (b + 3) ∧ Keep [q] st st' := by
  obtain ⟨k, rfl⟩ : ∃ k, K = k + 1 := ⟨K - 1, by omega⟩
  refine OkQ.ex MV.int fun Q hQ => ?_
  rw [callK_eq (g__law_some r) rfl]
  by_cases hu : u = 0
  · obtain ⟨v, st1, e1, w1, s1, k1⟩ := vote_ok (r := r) (K := k) (by omega) h hb
    simp [d__law_some, hu, e1]
    exact hQ _ _ ⟨by omega, s1, k1⟩
  · obtain ⟨v, st1, e1, p1, q1, s1, k1⟩ := draw_ok (r := r) (K := k) (m := 7) (by omega) h (by omega) (by omega) (by omega)
    have m0 : ∀ s, op2 .mul (.int u) (.int (v - 3)) s = .ok (.int (u * (v - 3))) s := fun s => mulS 60 40 (by omega) (by omega)
    simp [d__law_some, hu, e1, m0]
    refine hQ _ _ ⟨?_, s1.mono (by omega), k1⟩
    rw [Int.natAbs_mul]
    have a1 : u.natAbs ≤ 10 ^ 12 := by omega
    have a2 : (v - 3).natAbs ≤ 10 := by omega
    have := Nat.mul_le_mul a1 a2
    omega
def IntB (y : MV) : Prop := ∃ i : Int, y = .int i ∧ i.natAbs < 10 ^ 60
theorem intsB {acc : List MV} (h : ∀ y, y ∈ acc → IntB y) : ∃ l : List Int, acc = l.map .int ∧ ∀ i, i ∈ l → i.natAbs < 10 ^ 60 := ints_of h
theorem solo_nil {t : Int} (ht : 0 ≤ t) (b : Bool) : soloV [] b t = 0 := by
  cases b <;> simp only [soloV, dpL, x0, mn] <;> simp <;> omega
theorem law_rest {r : MV → Txt} {k p q : Nat} {ns : List Int} {b0 : Bool} {u t : Int} {st : Store} {Q : MV → Store → Prop} (hK : 7 ≤ k) (hp : cel st p = some (.ro (ns.map .int))) (hn : ns.length ≤ 1000) (hu : 0 ≤ u) (hu2 : u ≤ 10 ^ 12) (ht : 0 ≤ t) (hQ : ∀ s', Q (.bl true) s') :
    True ∧ OkQ Q ((evSs ⟨callK (Wd r) k, (Wd r).repr, (Wd r).wf⟩ (d_law.body.drop 4) [some (.loc p), some (.loc q), some (.bl b0), some (.int u), some (.int t), none, none, none, none, none, none] st).bind endC) := by
  refine ⟨trivial, ?_⟩
  obtain ⟨s2, st1, e1, n1, s1, k1⟩ := source_ok (r := r) (K := k) (j := 1) (by omega) hp hn (by omega) (by omega)
  obtain ⟨v, st2, e2, p2, q2, g2, k2⟩ := draw_ok (r := r) (K := k) (m := 9) (by omega) s1 (by omega) (by omega) (by omega)
  have hpl := cel_lt hp
  have hps2 : p ≠ s2 := by omega
  have kk2 : Keep [] st st2 := (k1.weak.trans k2).forget n1
  have hp2 := cel_keep kk2 hp (by simp)
  have r1 : ∀ st, mkR1 (.int v) st = .ok (.rng 0 1 v.toNat) st := fun st => mk_r1 (by omega) (by omega)
  simp [d_law, e1, e2, r1]
  simp only [okQ_bind]
  refine okQ_lcRng (by unfold sizeMax; omega) (fun i s' => Keep [s2] st2 s' ∧ Src s' s2 (1 + 3 * i)) IntB ⟨Keep.new.weak, g2.app⟩ (fun i s' c h => ⟨h.1.setNew (Nat.le_refl _), h.2.set (by have := g2.lt; omega)⟩) (fun i s' hi h => ?_) (fun acc s' ha hl hR hI => ?_)
  · obtain ⟨w, s3, e3, b3, g3, k3⟩ := some_ok (r := r) (K := k) (by omega) h.2 (by omega) hu hu2
    simp [e3]
    exact ⟨⟨w, rfl, b3⟩, fun c hc => cel_keep k3 hc (by have := g2.lt; simp; omega), h.1.trans k3, g3⟩
  simp only [okQ_back]
  obtain ⟨vs, rfl, hvs⟩ := intsB hR
  rw [List.length_map] at hl
  have hvl : vs.length ≤ 8 := by omega
  have hp3 := cel_keep hI.1 hp2 (by simpa using hps2)
  generalize hw : st2.length = w at *
  have hpw : p < w := by
    have := kk2.len
    omega
  obtain ⟨s4, st4, e4, n4, g4, k4⟩ := source_ok (r := r) (K := k) (j := 2) (by omega) hp3 hn (by omega) (by omega)
  obtain ⟨v5, st5, e5, p5, q5, g5, k5⟩ := draw_ok (r := r) (K := k) (m := 21) (by omega) g4 (by omega) (by omega) (by omega)
  have hwl := cel_lt ha
  have hws4 : w ≠ s4 := by omega
  have hps4 : p ≠ s4 := by omega
  have kk5 : Keep [] s' st5 := (k4.weak.trans k5).forget n4
  have hp5 := cel_keep kk5 hp3 (by simp)
  have ha5 := cel_keep kk5 ha (by simp)
  have r5 : ∀ st, mkR1 (.int v5) st = .ok (.rng 0 1 v5.toNat) st := fun st => mk_r1 (by omega) (by omega)
  simp [e4, e5, r5]
  simp only [okQ_bind]
  refine okQ_lcRng (by unfold sizeMax; omega) (fun i s' => Keep [s4] st5 s' ∧ Src s' s4 (1 + 3 * i)) IntB ⟨Keep.new.weak, g5.app⟩ (fun i s' c h => ⟨h.1.setNew (Nat.le_refl _), h.2.set (by have := g5.lt; omega)⟩) (fun i s' hi h => ?_) (fun acc s6 ha6 hl6 hR6 hI6 => ?_)
  · obtain ⟨w, s3, e3, b3, g3, k3⟩ := some_ok (r := r) (K := k) (by omega) h.2 (by omega) hu hu2
    simp [e3]
    exact ⟨⟨w, rfl, b3⟩, fun c hc => cel_keep k3 hc (by have := g5.lt; simp; omega), h.1.trans k3, g3⟩
  simp only [okQ_back]
  obtain ⟨us, rfl, hus⟩ := intsB hR6
  rw [List.length_map] at hl6
  have hul : us.length ≤ 20 := by omega
  have hp6 := cel_keep hI6.1 hp5 (by simpa using hps4)
  have ha7 := cel_keep hI6.1 ha5 (by simpa using hws4)
  have hw2 : w < st5.length := cel_lt ha5
  generalize hw2 : st5.length = w2 at *
  have r2 : ∀ st e, 0 ≤ e → e ≤ 2000 → mkR2 (.int 3) (.int e) st = .ok (.rng 3 1 (e - 3).toNat) st := fun st e h1 h2 => mk_r2 (by omega) (by omega) (by omega) (by omega)
  simp [hp6]
  rw [r2 _ _ (by split <;> omega) (by split <;> omega)]
  simp
  simp only [okQ_bind]
  refine okQ_rng (fun i env s3 => env = [some (.loc p), some (.loc q), some (.bl b0), some (.int u), some (.int t), some (.loc s4), some (.loc w), none, some (.loc w2), none, none] ∧ Keep [w2] s6 s3 ∧ ∃ l : List Int, cel s3 w2 = some (.lst (l.map .int)) ∧ l.length ≤ 20 + i ∧ ∀ v, v ∈ l → v.natAbs < 10 ^ 60) ⟨rfl, Keep.refl, us, ha6, by omega, hus⟩ (fun i env s3 hi h => ?_) (fun env s3 h => ?_)
  · obtain ⟨rfl, kk, l3, c3, d3, b3⟩ := h
    have hi20 : i ≤ 20 := by
      have : ((if (23 : Int) < (ns.length : Int) then (23 : Int) else (ns.length : Int)) - 3).toNat ≤ 20 := by split <;> omega
      omega
    have hp7 := cel_keep kk hp6 (by simp; omega)
    obtain ⟨s8, st8, e8, n8, g8, k8⟩ := source_ok (r := r) (K := k) (j := 3 + i) (by omega) hp7 hn (by omega) (by omega)
    obtain ⟨x, st9, e9, b9, g9, k9⟩ := some_ok (r := r) (K := k) (by omega) g8 (by omega) hu hu2
    have hlt3 := cel_lt c3
    have c9 := cel_keep k9 (cel_keep k8 c3 (by simp)) (by simp; omega)
    have hl3 : l3.length < 16000000 := by omega
    simp [e8, e9, c9, appV_ok, hl3]
    refine ⟨(kk.trans ((k8.weak.trans k9).forget n8).weak).trans Keep.set, l3 ++ [x], ?_, by simp; omega, fun v hv => ?_⟩
    · rw [cel_set _ _ _ (cel_lt c9)]
      simp
    · rcases List.mem_append.mp hv with hv | hv
      · exact b3 v hv
      · rw [List.mem_singleton.mp hv]
        exact b9
  obtain ⟨rfl, kk, ls, cw, dw, hls⟩ := h
  simp only [okQ_back]
  have hll : ls.length ≤ 40 := by
    have : ((if (23 : Int) < (ns.length : Int) then (23 : Int) else (ns.length : Int)) - 3).toNat ≤ 20 := by split <;> omega
    omega
  have ha8 := cel_keep kk ha7 (by simp; omega)
  simp [newL_ok]
  simp only [okQ_bind]
  refine okQ_lst rfl (fun i env z => env = [some (.loc p), some (.loc q), some (.bl b0), some (.int u), some (.int t), some (.loc s4), some (.loc w), none, some (.loc w2), none, none] ∧ Keep [] (s3 ++ [.lst [.bl b0, .bl (!b0)]]) z) ⟨rfl, Keep.refl⟩ (fun i env z h => by rw [cel_keep h.2 (cel_new _ _) (by simp)]; rfl) (fun i x env z hx h => ?_) (fun env z h => ?_)
  · obtain ⟨rfl, ho⟩ := h
    obtain ⟨b, rfl⟩ : ∃ b, x = .bl b := by
      have := List.mem_of_getElem? hx
      simp at this
      rcases this with rfl | rfl
      · exact ⟨_, rfl⟩
      · exact ⟨_, rfl⟩
    have wz := cel_keep (Keep.new.trans ho) ha8 (by simp)
    have w2z := cel_keep (Keep.new.trans ho) cw (by simp)
    obtain ⟨d1, y1, f1, ⟨a1, a2, x1, x2, x3⟩, j1⟩ := short_ok (r := r) (K := k) (s := b) (t := t) (by omega) wz hvl ht
    obtain ⟨_, y2, f2, j2⟩ := right_ok (r := r) (K := k) (s := b) (t := t) (by omega) (cel_keep j1 wz (by simp)) (by omega) ht hvs x1 x2 x3
    have w2y := cel_keep (j1.trans j2) w2z (by simp)
    obtain ⟨d3, y3, f3, ⟨a3, a4, x4, x5, x6⟩, j3⟩ := long_ok (r := r) (K := k) (s := b) (t := t) (by omega) w2y (by omega)
    obtain ⟨_, y4, f4, j4⟩ := right_ok (r := r) (K := k) (s := b) (t := t) (by omega) (cel_keep j3 w2y (by simp)) (by omega) ht hls x4 x5 x6
    have v1 : cel (y4 ++ [.lst [], .lst [], .lst [], .lst [.int 0, .loc (y4.length + 1), .loc (y4.length + 2)]]) y4.length = some (.lst (([] : List Int).map .int)) := by simp
    have v2 : cel (y4 ++ [.lst [], .lst [], .lst [], .lst [.int 0, .loc (y4.length + 1), .loc (y4.length + 2)]]) (y4.length + 3) = some (.lst [.int (soloV [] b t), .loc (y4.length + 1), .loc (y4.length + 2)]) := by rw [solo_nil ht]; simp
    have v3 : cel (y4 ++ [.lst [], .lst [], .lst [], .lst [.int 0, .loc (y4.length + 1), .loc (y4.length + 2)]]) (y4.length + 1) = some (.lst ((optRow 1 t [] (x0 b t)).map .bl)) := by simp [optRow]
    have v4 : cel (y4 ++ [.lst [], .lst [], .lst [], .lst [.int 0, .loc (y4.length + 1), .loc (y4.length + 2)]]) (y4.length + 2) = some (.lst ((optRow 0 t [] (x0 b t)).map .bl)) := by simp [optRow]
    obtain ⟨_, y5, f5, j5⟩ := right_ok (r := r) (K := k) (s := b) (t := t) (by omega) v1 (by simp) ht (by simp) v2 v3 v4
    simp [f1, f2, f3, f4, newL_ok, f5]
    exact ((((ho.trans j1).trans j2).trans j3).trans j4).trans (Keep.new.trans j5)
  · obtain ⟨rfl, ho⟩ := h
    simp only [okQ_back]
    simp
    exact hQ _
theorem law_ok {r : MV → Txt} {K p : Nat} {ns : List Int} {st : Store} (hK : 8 ≤ K) (hp : cel st p = some (.ro (ns.map .int))) (hn : ns.length ≤ 1000) : ∃ (u : Unit) (st' : Store), callK (Wd r) K 21 [.loc p] st = .ok (.bl true) st' ∧ True := by
  obtain ⟨k, rfl⟩ : ∃ k, K = k + 1 := ⟨K - 1, by omega⟩
  refine OkQ.ex (fun _ => MV.bl true) fun Q hQ => ?_
  rw [callK_eq (g_law r) rfl]
  obtain ⟨s, st1, e1, n1, s1, k1⟩ := source_ok (r := r) (K := k) (j := 0) (by omega) hp hn (by omega) (by omega)
  obtain ⟨v2, st2, e2, p2, q2, s2, k2⟩ := draw_ok (r := r) (K := k) (m := 2) (by omega) s1 (by omega) (by omega) (by omega)
  have s2b : Src (st2 ++ [.lst [.int 0, .int 0, .int 0, .int 1, .int 2, .int 100000000000]]) s (0 + 1 + 1) := (s2.mono (by omega)).app
  obtain ⟨v3, st3, e3, p3, q3, s3, k3⟩ := draw_ok (r := r) (K := k) (m := 6) (by omega) s2b (by omega) (by omega) (by omega)
  have hsl := s2.lt
  have hL := cel_keep k3 (cel_new st2 [.lst [.int 0, .int 0, .int 0, .int 1, .int 2, .int 100000000000]]) (by simp; omega)
  obtain ⟨u, hu, hu2⟩ : ∃ u : Int, atI [.int 0, .int 0, .int 0, .int 1, .int 2, .int 100000000000] v3 = some (.int u) ∧ (0 ≤ u ∧ u ≤ 10 ^ 11) := by
    have : v3 = 0 ∨ v3 = 1 ∨ v3 = 2 ∨ v3 = 3 ∨ v3 = 4 ∨ v3 = 5 := by omega
    rcases this with rfl | rfl | rfl | rfl | rfl | rfl
    · exact ⟨0, rfl, by omega, by omega⟩
    · exact ⟨0, rfl, by omega, by omega⟩
    · exact ⟨0, rfl, by omega, by omega⟩
    · exact ⟨1, rfl, by omega, by omega⟩
    · exact ⟨2, rfl, by omega, by omega⟩
    · exact ⟨100000000000, rfl, by omega, by omega⟩
  have hQ2 : ∀ s', Q (.bl true) s' := fun s' => hQ () s' trivial
  have kk3 : Keep [] st st3 := ((k1.weak.trans k2).trans (Keep.new.weak.trans k3)).forget n1
  by_cases c : 0 < u
  · obtain ⟨v4, st4, e4, p4, q4, s4, k4⟩ := draw_ok (r := r) (K := k) (m := 7) (by omega) s3 (by omega) (by omega) (by omega)
    have m0 : ∀ s, op2 .mul (.int u) (.int v4) s = .ok (.int (u * v4)) s := fun s => mulS 60 40 (by omega) (by omega)
    have kk4 : Keep [] st st4 := (kk3.weak.trans k4).forget n1
    obtain ⟨_, z⟩ := law_rest (r := r) (k := k) (p := p) (q := s) (b0 := decide (v2 = 1)) (u := u) (t := u * v4) (Q := Q) (by omega) (cel_keep kk4 hp (by simp)) hn (by omega) (by omega) (Int.mul_nonneg (by omega) p4) hQ2
    simp [d_law] at z
    simp [d_law, e1, e2, newL_ok, e3, hL, hu, c, e4, m0]
    assumption
  · obtain ⟨v4, st4, e4, p4, q4, s4, k4⟩ := price_ok (r := r) (K := k) (by omega) s3 (by omega)
    have kk4 : Keep [] st st4 := (kk3.weak.trans k4).forget n1
    obtain ⟨_, z⟩ := law_rest (r := r) (k := k) (p := p) (q := s) (b0 := decide (v2 = 1)) (u := u) (t := v4) (Q := Q) (by omega) (cel_keep kk4 hp (by simp)) hn (by omega) (by omega) p4 hQ2
    simp [d_law] at z
    simp [d_law, e1, e2, newL_ok, e3, hL, hu, c, e4]
    assumption
theorem law_run {r : MV → Txt} (ns : List Int) (h : ns.length ≤ 63) : ∃ st, callK (Wd r) 12 21 [.loc 0] [.ro (ns.map .int)] = .ok (.bl true) st := by
  obtain ⟨_, st, e, _⟩ := law_ok (r := r) (K := 12) (p := 0) (ns := ns) (st := [.ro (ns.map .int)]) (by decide) rfl (by omega)
  exact ⟨st, e⟩
end Mini
end

section
set_option maxRecDepth 100000
set_option maxHeartbeats 8000000
namespace Glue
open PySem PySem.Spec PyProof.Rows L2 DS
open Mini (MV)
def topS (i : Nat) : Stmt := PySem.Challenge.pw_livecopy_k32_whole_best_rows.main.body.getD i (.Pass ⟨0, 0, 0, 0⟩)
def T : Tab := ⟨["clip", "forward", "backward", "counter_sums", "row_between", "least_row", "greatest_row", "_law_source", "_law_draw", "_law_price", "_law_vote", "_law_sides", "_law_solo", "_law_gaps", "_law_some", "_law_cost_of_row", "_law_longer", "_law_rows", "_law_short", "_law_long", "_law_right", "law"], ["abs", "bool", "int", "isinstance", "len", "list", "max", "min", "range", "repr"], [(0, []), (1, []), (10, []), (11, []), (12, []), (13, []), (14, []), (15, []), (16, []), (17, []), (18, []), (19, []), (20, []), (3, []), (4, []), (5, []), (6, []), (7, []), (8, []), (9, [])], [(2, 2, ["last"], [none])]⟩
abbrev s_clip : Stmt := topS 1
theorem sc_clip : FnScope ["value", "band"] ["value", "band"] (defScope s_clip) := ⟨rfl, rfl, rfl, by decide +kernel, rfl, by decide +kernel, by decide +kernel⟩
theorem ck_clip : chkSs T 60 ⟨["value", "band"], defScope s_clip, ["value", "band"]⟩ (defBody s_clip) Mini.d_clip.body = true := by decide +kernel
abbrev s_forward : Stmt := topS 3
theorem sc_forward : FnScope ["start", "votes", "toggle", "counter", "told", "vote"] ["start", "votes", "toggle"] (defScope s_forward) := ⟨rfl, rfl, rfl, by decide +kernel, rfl, by decide +kernel, by decide +kernel⟩
theorem ck_forward : chkSs T 60 ⟨["start", "votes", "toggle", "counter", "told", "vote"], defScope s_forward, ["start", "votes", "toggle", "counter", "told", "vote"]⟩ (defBody s_forward) Mini.d_forward.body = true := by decide +kernel
abbrev s_backward : Stmt := topS 4
theorem sc_backward : FnScope ["votes", "toggle", "last", "told", "vote"] ["votes", "toggle", "last"] (defScope s_backward) := ⟨rfl, rfl, rfl, by decide +kernel, rfl, by decide +kernel, by decide +kernel⟩
theorem ck_backward : chkSs T 60 ⟨["votes", "toggle", "last", "told", "vote"], defScope s_backward, ["votes", "toggle", "last", "told", "vote"]⟩ (defBody s_backward) Mini.d_backward.body = true := by decide +kernel
abbrev s_counter_sums : Stmt := topS 5
theorem sc_counter_sums : FnScope ["start", "votes", "toggle", "last", "ahead", "behind", "index"] ["start", "votes", "toggle", "last"] (defScope s_counter_sums) := ⟨rfl, rfl, rfl, by decide +kernel, rfl, by decide +kernel, by decide +kernel⟩
theorem ck_counter_sums : chkSs T 60 ⟨["start", "votes", "toggle", "last", "ahead", "behind", "index"], defScope s_counter_sums, ["start", "votes", "toggle", "last", "ahead", "behind", "index"]⟩ (defBody s_counter_sums) Mini.d_counter_sums.body = true := by decide +kernel
abbrev s_row_between : Stmt := topS 6
theorem sc_row_between : FnScope ["start", "votes", "toggle", "last", "total"] ["start", "votes", "toggle", "last"] (defScope s_row_between) := ⟨rfl, rfl, rfl, by decide +kernel, rfl, by decide +kernel, by decide +kernel⟩
theorem ck_row_between : chkSs T 60 ⟨["start", "votes", "toggle", "last", "total"], defScope s_row_between, ["start", "votes", "toggle", "last", "total"]⟩ (defBody s_row_between) Mini.d_row_between.body = true := by decide +kernel
abbrev s_least_row : Stmt := topS 7
theorem sc_least_row : FnScope ["start", "votes", "toggle"] ["start", "votes", "toggle"] (defScope s_least_row) := ⟨rfl, rfl, rfl, by decide +kernel, rfl, by decide +kernel, by decide +kernel⟩
theorem ck_least_row : chkSs T 60 ⟨["start", "votes", "toggle"], defScope s_least_row, ["start", "votes", "toggle"]⟩ (defBody s_least_row) Mini.d_least_row.body = true := by decide +kernel
abbrev s_greatest_row : Stmt := topS 8
theorem sc_greatest_row : FnScope ["start", "votes", "toggle", "total"] ["start", "votes", "toggle"] (defScope s_greatest_row) := ⟨rfl, rfl, rfl, by decide +kernel, rfl, by decide +kernel, by decide +kernel⟩
theorem ck_greatest_row : chkSs T 60 ⟨["start", "votes", "toggle", "total"], defScope s_greatest_row, ["start", "votes", "toggle", "total"]⟩ (defBody s_greatest_row) Mini.d_greatest_row.body = true := by decide +kernel
abbrev s__law_source : Stmt := topS 10
theorem sc__law_source : FnScope ["_law_script", "_law_place", "_law_cell"] ["_law_script", "_law_place"] (defScope s__law_source) := ⟨rfl, rfl, rfl, by decide +kernel, rfl, by decide +kernel, by decide +kernel⟩
theorem ck__law_source : chkSs T 60 ⟨["_law_script", "_law_place", "_law_cell"], defScope s__law_source, ["_law_script", "_law_place", "_law_cell"]⟩ (defBody s__law_source) Mini.d__law_source.body = true := by decide +kernel
abbrev s__law_draw : Stmt := topS 11
theorem sc__law_draw : FnScope ["_law_source_here", "_law_many", "_law_told", "_law_mixed"] ["_law_source_here", "_law_many"] (defScope s__law_draw) := ⟨rfl, rfl, rfl, by decide +kernel, rfl, by decide +kernel, by decide +kernel⟩
theorem ck__law_draw : chkSs T 60 ⟨["_law_source_here", "_law_many", "_law_told", "_law_mixed"], defScope s__law_draw, ["_law_source_here", "_law_many", "_law_told", "_law_mixed"]⟩ (defBody s__law_draw) Mini.d__law_draw.body = true := by decide +kernel
abbrev s__law_price : Stmt := topS 12
theorem sc__law_price : FnScope ["_law_source_here", "_law_kind"] ["_law_source_here"] (defScope s__law_price) := ⟨rfl, rfl, rfl, by decide +kernel, rfl, by decide +kernel, by decide +kernel⟩
theorem ck__law_price : chkSs T 60 ⟨["_law_source_here", "_law_kind"], defScope s__law_price, ["_law_source_here", "_law_kind"]⟩ (defBody s__law_price) Mini.d__law_price.body = true := by decide +kernel
abbrev s__law_vote : Stmt := topS 13
theorem sc__law_vote : FnScope ["_law_source_here", "_law_kind", "_law_sign"] ["_law_source_here"] (defScope s__law_vote) := ⟨rfl, rfl, rfl, by decide +kernel, rfl, by decide +kernel, by decide +kernel⟩
theorem ck__law_vote : chkSs T 60 ⟨["_law_source_here", "_law_kind", "_law_sign"], defScope s__law_vote, ["_law_source_here", "_law_kind", "_law_sign"]⟩ (defBody s__law_vote) Mini.d__law_vote.body = true := by decide +kernel
abbrev s__law_sides : Stmt := topS 14
theorem sc__law_sides : FnScope ["_law_thing", "_law_due", "_law_place"] ["_law_thing", "_law_due"] (defScope s__law_sides) := ⟨rfl, rfl, rfl, by decide +kernel, rfl, by decide +kernel, by decide +kernel⟩
theorem ck__law_sides : chkSs T 60 ⟨["_law_thing", "_law_due", "_law_place"], defScope s__law_sides, ["_law_thing", "_law_due", "_law_place"]⟩ (defBody s__law_sides) Mini.d__law_sides.body = true := by decide +kernel
abbrev s__law_solo : Stmt := topS 15
theorem sc__law_solo : FnScope ["_law_start", "_law_weights", "_law_price_here", "_law_off", "_law_on_side", "_law_weight", "_law_after_off", "_law_after_on"] ["_law_start", "_law_weights", "_law_price_here"] (defScope s__law_solo) := ⟨rfl, rfl, rfl, by decide +kernel, rfl, by decide +kernel, by decide +kernel⟩
theorem ck__law_solo : chkSs T 60 ⟨["_law_start", "_law_weights", "_law_price_here", "_law_off", "_law_on_side", "_law_weight", "_law_after_off", "_law_after_on"], defScope s__law_solo, ["_law_start", "_law_weights", "_law_price_here", "_law_off", "_law_on_side", "_law_weight", "_law_after_off", "_law_after_on"]⟩ (defBody s__law_solo) Mini.d__law_solo.body = true := by decide +kernel
abbrev s__law_gaps : Stmt := topS 16
theorem sc__law_gaps : FnScope ["_law_start", "_law_weights", "_law_price_here", "_law_low", "_law_top", "_law_ahead", "_law_weight", "_law_after_low", "_law_after_top", "_law_gaps_here", "_law_place"] ["_law_start", "_law_weights", "_law_price_here"] (defScope s__law_gaps) := ⟨rfl, rfl, rfl, by decide +kernel, rfl, by decide +kernel, by decide +kernel⟩
theorem ck__law_gaps : chkSs T 60 ⟨["_law_start", "_law_weights", "_law_price_here", "_law_low", "_law_top", "_law_ahead", "_law_weight", "_law_after_low", "_law_after_top", "_law_gaps_here", "_law_place"], defScope s__law_gaps, ["_law_start", "_law_weights", "_law_price_here", "_law_low", "_law_top", "_law_ahead", "_law_weight", "_law_after_low", "_law_after_top", "_law_gaps_here", "_law_place"]⟩ (defBody s__law_gaps) Mini.d__law_gaps.body = true := by decide +kernel
abbrev s__law_some : Stmt := topS 17
theorem sc__law_some : FnScope ["_law_source_here", "_law_unit"] ["_law_source_here", "_law_unit"] (defScope s__law_some) := ⟨rfl, rfl, rfl, by decide +kernel, rfl, by decide +kernel, by decide +kernel⟩
theorem ck__law_some : chkSs T 60 ⟨["_law_source_here", "_law_unit"], defScope s__law_some, ["_law_source_here", "_law_unit"]⟩ (defBody s__law_some) Mini.d__law_some.body = true := by decide +kernel
abbrev s__law_cost_of_row : Stmt := topS 18
theorem sc__law_cost_of_row : FnScope ["_law_start", "_law_weights", "_law_price_here", "_law_row", "_law_cost", "_law_here", "_law_place"] ["_law_start", "_law_weights", "_law_price_here", "_law_row"] (defScope s__law_cost_of_row) := ⟨rfl, rfl, rfl, by decide +kernel, rfl, by decide +kernel, by decide +kernel⟩
theorem ck__law_cost_of_row : chkSs T 60 ⟨["_law_start", "_law_weights", "_law_price_here", "_law_row", "_law_cost", "_law_here", "_law_place"], defScope s__law_cost_of_row, ["_law_start", "_law_weights", "_law_price_here", "_law_row", "_law_cost", "_law_here", "_law_place"]⟩ (defBody s__law_cost_of_row) Mini.d__law_cost_of_row.body = true := by decide +kernel
abbrev s__law_longer : Stmt := topS 19
theorem sc__law_longer : FnScope ["_law_entry", "_law_side", "_law_start", "_law_weight", "_law_price_here", "_law_here", "_law_against"] ["_law_entry", "_law_side", "_law_start", "_law_weight", "_law_price_here"] (defScope s__law_longer) := ⟨rfl, rfl, rfl, by decide +kernel, rfl, by decide +kernel, by decide +kernel⟩
theorem ck__law_longer : chkSs T 60 ⟨["_law_entry", "_law_side", "_law_start", "_law_weight", "_law_price_here", "_law_here", "_law_against"], defScope s__law_longer, ["_law_entry", "_law_side", "_law_start", "_law_weight", "_law_price_here", "_law_here", "_law_against"]⟩ (defBody s__law_longer) Mini.d__law_longer.body = true := by decide +kernel
abbrev s__law_rows : Stmt := topS 20
theorem sc__law_rows : FnScope ["_law_start", "_law_weights", "_law_price_here", "_law_rows_here", "_law_weight", "_law_shorter", "_law_entry"] ["_law_start", "_law_weights", "_law_price_here"] (defScope s__law_rows) := ⟨rfl, rfl, rfl, by decide +kernel, rfl, by decide +kernel, by decide +kernel⟩
theorem ck__law_rows : chkSs T 60 ⟨["_law_start", "_law_weights", "_law_price_here", "_law_rows_here", "_law_weight", "_law_shorter", "_law_entry"], defScope s__law_rows, ["_law_start", "_law_weights", "_law_price_here", "_law_rows_here", "_law_weight", "_law_shorter", "_law_entry"]⟩ (defBody s__law_rows) Mini.d__law_rows.body = true := by decide +kernel
abbrev s__law_short : Stmt := topS 21
theorem sc__law_short : FnScope ["_law_start", "_law_weights", "_law_price_here", "_law_rows_here", "_law_least", "_law_entry", "_law_best", "_law_every", "_law_row", "_law_place", "_law_some_here"] ["_law_start", "_law_weights", "_law_price_here"] (defScope s__law_short) := ⟨rfl, rfl, rfl, by decide +kernel, rfl, by decide +kernel, by decide +kernel⟩
theorem ck__law_short : chkSs T 60 ⟨["_law_start", "_law_weights", "_law_price_here", "_law_rows_here", "_law_least", "_law_entry", "_law_best", "_law_every", "_law_row", "_law_place", "_law_some_here"], defScope s__law_short, ["_law_start", "_law_weights", "_law_price_here", "_law_rows_here", "_law_least", "_law_entry", "_law_best", "_law_every", "_law_row", "_law_place", "_law_some_here"]⟩ (defBody s__law_short) Mini.d__law_short.body = true := by decide +kernel
abbrev s__law_long : Stmt := topS 22
theorem sc__law_long : FnScope ["_law_start", "_law_weights", "_law_price_here", "_law_gaps_here", "_law_gap"] ["_law_start", "_law_weights", "_law_price_here"] (defScope s__law_long) := ⟨rfl, rfl, rfl, by decide +kernel, rfl, by decide +kernel, by decide +kernel⟩
theorem ck__law_long : chkSs T 60 ⟨["_law_start", "_law_weights", "_law_price_here", "_law_gaps_here", "_law_gap"], defScope s__law_long, ["_law_start", "_law_weights", "_law_price_here", "_law_gaps_here", "_law_gap"]⟩ (defBody s__law_long) Mini.d__law_long.body = true := by decide +kernel
abbrev s__law_right : Stmt := topS 23
theorem sc__law_right : FnScope ["_law_start", "_law_weights", "_law_price_here", "_law_due", "_law_mine", "_law_low", "_law_top", "_law_row"] ["_law_start", "_law_weights", "_law_price_here", "_law_due"] (defScope s__law_right) := ⟨rfl, rfl, rfl, by decide +kernel, rfl, by decide +kernel, by decide +kernel⟩
theorem ck__law_right : chkSs T 60 ⟨["_law_start", "_law_weights", "_law_price_here", "_law_due", "_law_mine", "_law_low", "_law_top", "_law_row"], defScope s__law_right, ["_law_start", "_law_weights", "_law_price_here", "_law_due", "_law_mine", "_law_low", "_law_top", "_law_row"]⟩ (defBody s__law_right) Mini.d__law_right.body = true := by decide +kernel
abbrev s_law : Stmt := topS 24
theorem sc_law : FnScope ["_law_script", "_law_source_here", "_law_start", "_law_unit", "_law_price_here", "_law_draws", "_law_short_here", "_law_turn", "_law_long_here", "_law_further", "_law_begin"] ["_law_script"] (defScope s_law) := ⟨rfl, rfl, rfl, by decide +kernel, rfl, by decide +kernel, by decide +kernel⟩
theorem ck_law : chkSs T 60 ⟨["_law_script", "_law_source_here", "_law_start", "_law_unit", "_law_price_here", "_law_draws", "_law_short_here", "_law_turn", "_law_long_here", "_law_further", "_law_begin"], defScope s_law, ["_law_script", "_law_source_here", "_law_start", "_law_unit", "_law_price_here", "_law_draws", "_law_short_here", "_law_turn", "_law_long_here", "_law_further", "_law_begin"]⟩ (defBody s_law) Mini.d_law.body = true := by decide +kernel
theorem all_mk {l : PySem.W.OpenLaw} {w : World} {K : PySem.W.Frag} {h : Heap} {mg : Str → Option Value} {fa : Addr} (X : K.In h) (G : h.Ns mainGlobals mg) (hfa : mg "law" = some (.ref fa))
    {f0 : Addr} {od0 an0 : Option Addr} {sl0 : Array (Option Value)} {oc0 kV0 dc0 pm0 cd0 ct0 : Value} (a0 : PySem.W.nsIn K mainGlobals "clip" = some (some (.ref f0))) (l0 : K.lookup f0 = some ⟨oc0, od0, .func (PySem.W.fnOf "clip" "clip" (defArgs s_clip) (defBody s_clip) (defScope s_clip) .none kV0 dc0 pm0 an0 cd0 ct0), sl0⟩) (c0 : PySem.W.codeIn K cd0 "clip" = true) (k0 : PySem.W.keepIn K (.ref f0) = true)
    {f1 : Addr} {od1 an1 : Option Addr} {sl1 : Array (Option Value)} {oc1 kV1 dc1 pm1 cd1 ct1 : Value} (a1 : PySem.W.nsIn K mainGlobals "forward" = some (some (.ref f1))) (l1 : K.lookup f1 = some ⟨oc1, od1, .func (PySem.W.fnOf "forward" "forward" (defArgs s_forward) (defBody s_forward) (defScope s_forward) .none kV1 dc1 pm1 an1 cd1 ct1), sl1⟩) (c1 : PySem.W.codeIn K cd1 "forward" = true) (k1 : PySem.W.keepIn K (.ref f1) = true)
    {f2 : Addr} {D2 : Addr} {tk2_last : Tok} {od2 an2 : Option Addr} {sl2 : Array (Option Value)} {oc2 dc2 pm2 cd2 ct2 : Value} (a2 : PySem.W.nsIn K mainGlobals "backward" = some (some (.ref f2))) (l2 : K.lookup f2 = some ⟨oc2, od2, .func (PySem.W.fnOf "backward" "backward" (defArgs s_backward) (defBody s_backward) (defScope s_backward) .none (.ref D2) dc2 pm2 an2 cd2 ct2), sl2⟩) (c2 : PySem.W.codeIn K cd2 "backward" = true) (k2 : PySem.W.keepIn K (.ref f2) = true) (q2_last : PySem.W.nsIn K D2 "last" = some (some (.int (0) tk2_last)))
    {f3 : Addr} {od3 an3 : Option Addr} {sl3 : Array (Option Value)} {oc3 kV3 dc3 pm3 cd3 ct3 : Value} (a3 : PySem.W.nsIn K mainGlobals "counter_sums" = some (some (.ref f3))) (l3 : K.lookup f3 = some ⟨oc3, od3, .func (PySem.W.fnOf "counter_sums" "counter_sums" (defArgs s_counter_sums) (defBody s_counter_sums) (defScope s_counter_sums) .none kV3 dc3 pm3 an3 cd3 ct3), sl3⟩) (c3 : PySem.W.codeIn K cd3 "counter_sums" = true) (k3 : PySem.W.keepIn K (.ref f3) = true)
    {f4 : Addr} {od4 an4 : Option Addr} {sl4 : Array (Option Value)} {oc4 kV4 dc4 pm4 cd4 ct4 : Value} (a4 : PySem.W.nsIn K mainGlobals "row_between" = some (some (.ref f4))) (l4 : K.lookup f4 = some ⟨oc4, od4, .func (PySem.W.fnOf "row_between" "row_between" (defArgs s_row_between) (defBody s_row_between) (defScope s_row_between) .none kV4 dc4 pm4 an4 cd4 ct4), sl4⟩) (c4 : PySem.W.codeIn K cd4 "row_between" = true) (k4 : PySem.W.keepIn K (.ref f4) = true)
    {f5 : Addr} {od5 an5 : Option Addr} {sl5 : Array (Option Value)} {oc5 kV5 dc5 pm5 cd5 ct5 : Value} (a5 : PySem.W.nsIn K mainGlobals "least_row" = some (some (.ref f5))) (l5 : K.lookup f5 = some ⟨oc5, od5, .func (PySem.W.fnOf "least_row" "least_row" (defArgs s_least_row) (defBody s_least_row) (defScope s_least_row) .none kV5 dc5 pm5 an5 cd5 ct5), sl5⟩) (c5 : PySem.W.codeIn K cd5 "least_row" = true) (k5 : PySem.W.keepIn K (.ref f5) = true)
    {f6 : Addr} {od6 an6 : Option Addr} {sl6 : Array (Option Value)} {oc6 kV6 dc6 pm6 cd6 ct6 : Value} (a6 : PySem.W.nsIn K mainGlobals "greatest_row" = some (some (.ref f6))) (l6 : K.lookup f6 = some ⟨oc6, od6, .func (PySem.W.fnOf "greatest_row" "greatest_row" (defArgs s_greatest_row) (defBody s_greatest_row) (defScope s_greatest_row) .none kV6 dc6 pm6 an6 cd6 ct6), sl6⟩) (c6 : PySem.W.codeIn K cd6 "greatest_row" = true) (k6 : PySem.W.keepIn K (.ref f6) = true)
    {f7 : Addr} {od7 an7 : Option Addr} {sl7 : Array (Option Value)} {oc7 kV7 dc7 pm7 cd7 ct7 : Value} (a7 : PySem.W.nsIn K mainGlobals "_law_source" = some (some (.ref f7))) (l7 : K.lookup f7 = some ⟨oc7, od7, .func (PySem.W.fnOf "_law_source" "_law_source" (defArgs s__law_source) (defBody s__law_source) (defScope s__law_source) .none kV7 dc7 pm7 an7 cd7 ct7), sl7⟩) (c7 : PySem.W.codeIn K cd7 "_law_source" = true) (k7 : PySem.W.keepIn K (.ref f7) = true)
    {f8 : Addr} {od8 an8 : Option Addr} {sl8 : Array (Option Value)} {oc8 kV8 dc8 pm8 cd8 ct8 : Value} (a8 : PySem.W.nsIn K mainGlobals "_law_draw" = some (some (.ref f8))) (l8 : K.lookup f8 = some ⟨oc8, od8, .func (PySem.W.fnOf "_law_draw" "_law_draw" (defArgs s__law_draw) (defBody s__law_draw) (defScope s__law_draw) .none kV8 dc8 pm8 an8 cd8 ct8), sl8⟩) (c8 : PySem.W.codeIn K cd8 "_law_draw" = true) (k8 : PySem.W.keepIn K (.ref f8) = true)
    {f9 : Addr} {od9 an9 : Option Addr} {sl9 : Array (Option Value)} {oc9 kV9 dc9 pm9 cd9 ct9 : Value} (a9 : PySem.W.nsIn K mainGlobals "_law_price" = some (some (.ref f9))) (l9 : K.lookup f9 = some ⟨oc9, od9, .func (PySem.W.fnOf "_law_price" "_law_price" (defArgs s__law_price) (defBody s__law_price) (defScope s__law_price) .none kV9 dc9 pm9 an9 cd9 ct9), sl9⟩) (c9 : PySem.W.codeIn K cd9 "_law_price" = true) (k9 : PySem.W.keepIn K (.ref f9) = true)
    {f10 : Addr} {od10 an10 : Option Addr} {sl10 : Array (Option Value)} {oc10 kV10 dc10 pm10 cd10 ct10 : Value} (a10 : PySem.W.nsIn K mainGlobals "_law_vote" = some (some (.ref f10))) (l10 : K.lookup f10 = some ⟨oc10, od10, .func (PySem.W.fnOf "_law_vote" "_law_vote" (defArgs s__law_vote) (defBody s__law_vote) (defScope s__law_vote) .none kV10 dc10 pm10 an10 cd10 ct10), sl10⟩) (c10 : PySem.W.codeIn K cd10 "_law_vote" = true) (k10 : PySem.W.keepIn K (.ref f10) = true)
    {f11 : Addr} {od11 an11 : Option Addr} {sl11 : Array (Option Value)} {oc11 kV11 dc11 pm11 cd11 ct11 : Value} (a11 : PySem.W.nsIn K mainGlobals "_law_sides" = some (some (.ref f11))) (l11 : K.lookup f11 = some ⟨oc11, od11, .func (PySem.W.fnOf "_law_sides" "_law_sides" (defArgs s__law_sides) (defBody s__law_sides) (defScope s__law_sides) .none kV11 dc11 pm11 an11 cd11 ct11), sl11⟩) (c11 : PySem.W.codeIn K cd11 "_law_sides" = true) (k11 : PySem.W.keepIn K (.ref f11) = true)
    {f12 : Addr} {od12 an12 : Option Addr} {sl12 : Array (Option Value)} {oc12 kV12 dc12 pm12 cd12 ct12 : Value} (a12 : PySem.W.nsIn K mainGlobals "_law_solo" = some (some (.ref f12))) (l12 : K.lookup f12 = some ⟨oc12, od12, .func (PySem.W.fnOf "_law_solo" "_law_solo" (defArgs s__law_solo) (defBody s__law_solo) (defScope s__law_solo) .none kV12 dc12 pm12 an12 cd12 ct12), sl12⟩) (c12 : PySem.W.codeIn K cd12 "_law_solo" = true) (k12 : PySem.W.keepIn K (.ref f12) = true)
    {f13 : Addr} {od13 an13 : Option Addr} {sl13 : Array (Option Value)} {oc13 kV13 dc13 pm13 cd13 ct13 : Value} (a13 : PySem.W.nsIn K mainGlobals "_law_gaps" = some (some (.ref f13))) (l13 : K.lookup f13 = some ⟨oc13, od13, .func (PySem.W.fnOf "_law_gaps" "_law_gaps" (defArgs s__law_gaps) (defBody s__law_gaps) (defScope s__law_gaps) .none kV13 dc13 pm13 an13 cd13 ct13), sl13⟩) (c13 : PySem.W.codeIn K cd13 "_law_gaps" = true) (k13 : PySem.W.keepIn K (.ref f13) = true)
    {f14 : Addr} {od14 an14 : Option Addr} {sl14 : Array (Option Value)} {oc14 kV14 dc14 pm14 cd14 ct14 : Value} (a14 : PySem.W.nsIn K mainGlobals "_law_some" = some (some (.ref f14))) (l14 : K.lookup f14 = some ⟨oc14, od14, .func (PySem.W.fnOf "_law_some" "_law_some" (defArgs s__law_some) (defBody s__law_some) (defScope s__law_some) .none kV14 dc14 pm14 an14 cd14 ct14), sl14⟩) (c14 : PySem.W.codeIn K cd14 "_law_some" = true) (k14 : PySem.W.keepIn K (.ref f14) = true)
    {f15 : Addr} {od15 an15 : Option Addr} {sl15 : Array (Option Value)} {oc15 kV15 dc15 pm15 cd15 ct15 : Value} (a15 : PySem.W.nsIn K mainGlobals "_law_cost_of_row" = some (some (.ref f15))) (l15 : K.lookup f15 = some ⟨oc15, od15, .func (PySem.W.fnOf "_law_cost_of_row" "_law_cost_of_row" (defArgs s__law_cost_of_row) (defBody s__law_cost_of_row) (defScope s__law_cost_of_row) .none kV15 dc15 pm15 an15 cd15 ct15), sl15⟩) (c15 : PySem.W.codeIn K cd15 "_law_cost_of_row" = true) (k15 : PySem.W.keepIn K (.ref f15) = true)
    {f16 : Addr} {od16 an16 : Option Addr} {sl16 : Array (Option Value)} {oc16 kV16 dc16 pm16 cd16 ct16 : Value} (a16 : PySem.W.nsIn K mainGlobals "_law_longer" = some (some (.ref f16))) (l16 : K.lookup f16 = some ⟨oc16, od16, .func (PySem.W.fnOf "_law_longer" "_law_longer" (defArgs s__law_longer) (defBody s__law_longer) (defScope s__law_longer) .none kV16 dc16 pm16 an16 cd16 ct16), sl16⟩) (c16 : PySem.W.codeIn K cd16 "_law_longer" = true) (k16 : PySem.W.keepIn K (.ref f16) = true)
    {f17 : Addr} {od17 an17 : Option Addr} {sl17 : Array (Option Value)} {oc17 kV17 dc17 pm17 cd17 ct17 : Value} (a17 : PySem.W.nsIn K mainGlobals "_law_rows" = some (some (.ref f17))) (l17 : K.lookup f17 = some ⟨oc17, od17, .func (PySem.W.fnOf "_law_rows" "_law_rows" (defArgs s__law_rows) (defBody s__law_rows) (defScope s__law_rows) .none kV17 dc17 pm17 an17 cd17 ct17), sl17⟩) (c17 : PySem.W.codeIn K cd17 "_law_rows" = true) (k17 : PySem.W.keepIn K (.ref f17) = true)
    {f18 : Addr} {od18 an18 : Option Addr} {sl18 : Array (Option Value)} {oc18 kV18 dc18 pm18 cd18 ct18 : Value} (a18 : PySem.W.nsIn K mainGlobals "_law_short" = some (some (.ref f18))) (l18 : K.lookup f18 = some ⟨oc18, od18, .func (PySem.W.fnOf "_law_short" "_law_short" (defArgs s__law_short) (defBody s__law_short) (defScope s__law_short) .none kV18 dc18 pm18 an18 cd18 ct18), sl18⟩) (c18 : PySem.W.codeIn K cd18 "_law_short" = true) (k18 : PySem.W.keepIn K (.ref f18) = true)
    {f19 : Addr} {od19 an19 : Option Addr} {sl19 : Array (Option Value)} {oc19 kV19 dc19 pm19 cd19 ct19 : Value} (a19 : PySem.W.nsIn K mainGlobals "_law_long" = some (some (.ref f19))) (l19 : K.lookup f19 = some ⟨oc19, od19, .func (PySem.W.fnOf "_law_long" "_law_long" (defArgs s__law_long) (defBody s__law_long) (defScope s__law_long) .none kV19 dc19 pm19 an19 cd19 ct19), sl19⟩) (c19 : PySem.W.codeIn K cd19 "_law_long" = true) (k19 : PySem.W.keepIn K (.ref f19) = true)
    {f20 : Addr} {od20 an20 : Option Addr} {sl20 : Array (Option Value)} {oc20 kV20 dc20 pm20 cd20 ct20 : Value} (a20 : PySem.W.nsIn K mainGlobals "_law_right" = some (some (.ref f20))) (l20 : K.lookup f20 = some ⟨oc20, od20, .func (PySem.W.fnOf "_law_right" "_law_right" (defArgs s__law_right) (defBody s__law_right) (defScope s__law_right) .none kV20 dc20 pm20 an20 cd20 ct20), sl20⟩) (c20 : PySem.W.codeIn K cd20 "_law_right" = true) (k20 : PySem.W.keepIn K (.ref f20) = true)
    {f21 : Addr} {od21 an21 : Option Addr} {sl21 : Array (Option Value)} {oc21 kV21 dc21 pm21 cd21 ct21 : Value} (a21 : PySem.W.nsIn K mainGlobals "law" = some (some (.ref f21))) (l21 : K.lookup f21 = some ⟨oc21, od21, .func (PySem.W.fnOf "law" "law" (defArgs s_law) (defBody s_law) (defScope s_law) .none kV21 dc21 pm21 an21 cd21 ct21), sl21⟩) (c21 : PySem.W.codeIn K cd21 "law" = true) (k21 : PySem.W.keepIn K (.ref f21) = true)
    (z0 : PySem.W.nsIn K mainGlobals "abs" = some none)
    (z1 : PySem.W.nsIn K mainGlobals "bool" = some none)
    (z2 : PySem.W.nsIn K mainGlobals "int" = some none)
    (z3 : PySem.W.nsIn K mainGlobals "isinstance" = some none)
    (z4 : PySem.W.nsIn K mainGlobals "len" = some none)
    (z5 : PySem.W.nsIn K mainGlobals "list" = some none)
    (z6 : PySem.W.nsIn K mainGlobals "max" = some none)
    (z7 : PySem.W.nsIn K mainGlobals "min" = some none)
    (z8 : PySem.W.nsIn K mainGlobals "range" = some none)
    (z9 : PySem.W.nsIn K mainGlobals "repr" = some none) :
    ∃ fd : FuncData, (∀ (s : Shared) (v : Value), BindsTo s fd ⟨[v], []⟩ [("_law_script", v)]) ∧ ∀ base : Heap, K.In base → base.Ns mainGlobals mg → FnG l.prog w K mg base 12 fa fd ["_law_script"] (spD K (Mini.Wd reprPy) 12 21) := by
  have e := hfa.symm.trans (PySem.W.mg_of X G a21)
  cases e
  have F0 := fun_mk (st := s_clip) l0 c0 k0
  have F1 := fun_mk (st := s_forward) l1 c1 k1
  have F2 : FunD K "backward" "backward" (defArgs s_backward) (defBody s_backward) (defScope s_backward) [] [("last", .int (0))] f2 _ := ⟨⟨_, _, .none, .ref D2, _, _, _, _, _, _, rfl, l2, c2, .inl ⟨rfl, rfl⟩, .inr ⟨D2, rfl, fun q hq => by
    simp only [List.mem_cons, List.not_mem_nil, or_false] at hq
    rcases hq with rfl
    · exact ⟨_, q2_last, ⟨_, rfl⟩⟩⟩⟩, k2⟩
  have F3 := fun_mk (st := s_counter_sums) l3 c3 k3
  have F4 := fun_mk (st := s_row_between) l4 c4 k4
  have F5 := fun_mk (st := s_least_row) l5 c5 k5
  have F6 := fun_mk (st := s_greatest_row) l6 c6 k6
  have F7 := fun_mk (st := s__law_source) l7 c7 k7
  have F8 := fun_mk (st := s__law_draw) l8 c8 k8
  have F9 := fun_mk (st := s__law_price) l9 c9 k9
  have F10 := fun_mk (st := s__law_vote) l10 c10 k10
  have F11 := fun_mk (st := s__law_sides) l11 c11 k11
  have F12 := fun_mk (st := s__law_solo) l12 c12 k12
  have F13 := fun_mk (st := s__law_gaps) l13 c13 k13
  have F14 := fun_mk (st := s__law_some) l14 c14 k14
  have F15 := fun_mk (st := s__law_cost_of_row) l15 c15 k15
  have F16 := fun_mk (st := s__law_longer) l16 c16 k16
  have F17 := fun_mk (st := s__law_rows) l17 c17 k17
  have F18 := fun_mk (st := s__law_short) l18 c18 k18
  have F19 := fun_mk (st := s__law_long) l19 c19 k19
  have F20 := fun_mk (st := s__law_right) l20 c20 k20
  have F21 := fun_mk (st := s_law) l21 c21 k21
  have hz : ∀ x, x ∈ T.blts → mg x = none := fun x hx => by
    simp only [T, List.mem_cons, List.not_mem_nil, or_false] at hx
    rcases hx with rfl | rfl | rfl | rfl | rfl | rfl | rfl | rfl | rfl | rfl
    · exact PySem.W.mg_none_of X G z0
    · exact PySem.W.mg_none_of X G z1
    · exact PySem.W.mg_none_of X G z2
    · exact PySem.W.mg_none_of X G z3
    · exact PySem.W.mg_none_of X G z4
    · exact PySem.W.mg_none_of X G z5
    · exact PySem.W.mg_none_of X G z6
    · exact PySem.W.mg_none_of X G z7
    · exact PySem.W.mg_none_of X G z8
    · exact PySem.W.mg_none_of X G z9
  have hE : ∀ (f : Nat) (x : Str) (dl : List MV), T.fns[f]? = some x → (f, dl) ∈ T.modes → Ent T (Mini.Wd reprPy) K mg f x dl := fun f x dl h1 h2 => by
    simp only [T, List.mem_cons, List.not_mem_nil, or_false] at h2
    rcases h2 with h2 | h2 | h2 | h2 | h2 | h2 | h2 | h2 | h2 | h2 | h2 | h2 | h2 | h2 | h2 | h2 | h2 | h2 | h2 | h2
    · cases h2
      cases h1
      exact ⟨⟨f0, _, ["value", "band"], _, [], [], s_clip, 60, Mini.d_clip, PySem.W.mg_of X G a0, .of F0, F0.binds (ps := ["value", "band"]) (fun _ _ _ _ _ _ us hl => match us, hl with | [_, _], _ => rfl), .nil, .nil, sc_clip, rfl, rfl, rfl, ck_clip⟩⟩
    · cases h2
      cases h1
      exact ⟨⟨f1, _, ["start", "votes", "toggle"], _, [], [], s_forward, 60, Mini.d_forward, PySem.W.mg_of X G a1, .of F1, F1.binds (ps := ["start", "votes", "toggle"]) (fun _ _ _ _ _ _ us hl => match us, hl with | [_, _, _], _ => rfl), .nil, .nil, sc_forward, rfl, rfl, rfl, ck_forward⟩⟩
    · cases h2
      cases h1
      exact ⟨⟨f10, _, ["_law_source_here"], _, [], [], s__law_vote, 60, Mini.d__law_vote, PySem.W.mg_of X G a10, .of F10, F10.binds (ps := ["_law_source_here"]) (fun _ _ _ _ _ _ us hl => match us, hl with | [_], _ => rfl), .nil, .nil, sc__law_vote, rfl, rfl, rfl, ck__law_vote⟩⟩
    · cases h2
      cases h1
      exact ⟨⟨f11, _, ["_law_thing", "_law_due"], _, [], [], s__law_sides, 60, Mini.d__law_sides, PySem.W.mg_of X G a11, .of F11, F11.binds (ps := ["_law_thing", "_law_due"]) (fun _ _ _ _ _ _ us hl => match us, hl with | [_, _], _ => rfl), .nil, .nil, sc__law_sides, rfl, rfl, rfl, ck__law_sides⟩⟩
    · cases h2
      cases h1
      exact ⟨⟨f12, _, ["_law_start", "_law_weights", "_law_price_here"], _, [], [], s__law_solo, 60, Mini.d__law_solo, PySem.W.mg_of X G a12, .of F12, F12.binds (ps := ["_law_start", "_law_weights", "_law_price_here"]) (fun _ _ _ _ _ _ us hl => match us, hl with | [_, _, _], _ => rfl), .nil, .nil, sc__law_solo, rfl, rfl, rfl, ck__law_solo⟩⟩
    · cases h2
      cases h1
      exact ⟨⟨f13, _, ["_law_start", "_law_weights", "_law_price_here"], _, [], [], s__law_gaps, 60, Mini.d__law_gaps, PySem.W.mg_of X G a13, .of F13, F13.binds (ps := ["_law_start", "_law_weights", "_law_price_here"]) (fun _ _ _ _ _ _ us hl => match us, hl with | [_, _, _], _ => rfl), .nil, .nil, sc__law_gaps, rfl, rfl, rfl, ck__law_gaps⟩⟩
    · cases h2
      cases h1
      exact ⟨⟨f14, _, ["_law_source_here", "_law_unit"], _, [], [], s__law_some, 60, Mini.d__law_some, PySem.W.mg_of X G a14, .of F14, F14.binds (ps := ["_law_source_here", "_law_unit"]) (fun _ _ _ _ _ _ us hl => match us, hl with | [_, _], _ => rfl), .nil, .nil, sc__law_some, rfl, rfl, rfl, ck__law_some⟩⟩
    · cases h2
      cases h1
      exact ⟨⟨f15, _, ["_law_start", "_law_weights", "_law_price_here", "_law_row"], _, [], [], s__law_cost_of_row, 60, Mini.d__law_cost_of_row, PySem.W.mg_of X G a15, .of F15, F15.binds (ps := ["_law_start", "_law_weights", "_law_price_here", "_law_row"]) (fun _ _ _ _ _ _ us hl => match us, hl with | [_, _, _, _], _ => rfl), .nil, .nil, sc__law_cost_of_row, rfl, rfl, rfl, ck__law_cost_of_row⟩⟩
    · cases h2
      cases h1
      exact ⟨⟨f16, _, ["_law_entry", "_law_side", "_law_start", "_law_weight", "_law_price_here"], _, [], [], s__law_longer, 60, Mini.d__law_longer, PySem.W.mg_of X G a16, .of F16, F16.binds (ps := ["_law_entry", "_law_side", "_law_start", "_law_weight", "_law_price_here"]) (fun _ _ _ _ _ _ us hl => match us, hl with | [_, _, _, _, _], _ => rfl), .nil, .nil, sc__law_longer, rfl, rfl, rfl, ck__law_longer⟩⟩
    · cases h2
      cases h1
      exact ⟨⟨f17, _, ["_law_start", "_law_weights", "_law_price_here"], _, [], [], s__law_rows, 60, Mini.d__law_rows, PySem.W.mg_of X G a17, .of F17, F17.binds (ps := ["_law_start", "_law_weights", "_law_price_here"]) (fun _ _ _ _ _ _ us hl => match us, hl with | [_, _, _], _ => rfl), .nil, .nil, sc__law_rows, rfl, rfl, rfl, ck__law_rows⟩⟩
    · cases h2
      cases h1
      exact ⟨⟨f18, _, ["_law_start", "_law_weights", "_law_price_here"], _, [], [], s__law_short, 60, Mini.d__law_short, PySem.W.mg_of X G a18, .of F18, F18.binds (ps := ["_law_start", "_law_weights", "_law_price_here"]) (fun _ _ _ _ _ _ us hl => match us, hl with | [_, _, _], _ => rfl), .nil, .nil, sc__law_short, rfl, rfl, rfl, ck__law_short⟩⟩
    · cases h2
      cases h1
      exact ⟨⟨f19, _, ["_law_start", "_law_weights", "_law_price_here"], _, [], [], s__law_long, 60, Mini.d__law_long, PySem.W.mg_of X G a19, .of F19, F19.binds (ps := ["_law_start", "_law_weights", "_law_price_here"]) (fun _ _ _ _ _ _ us hl => match us, hl with | [_, _, _], _ => rfl), .nil, .nil, sc__law_long, rfl, rfl, rfl, ck__law_long⟩⟩
    · cases h2
      cases h1
      exact ⟨⟨f20, _, ["_law_start", "_law_weights", "_law_price_here", "_law_due"], _, [], [], s__law_right, 60, Mini.d__law_right, PySem.W.mg_of X G a20, .of F20, F20.binds (ps := ["_law_start", "_law_weights", "_law_price_here", "_law_due"]) (fun _ _ _ _ _ _ us hl => match us, hl with | [_, _, _, _], _ => rfl), .nil, .nil, sc__law_right, rfl, rfl, rfl, ck__law_right⟩⟩
    · cases h2
      cases h1
      exact ⟨⟨f3, _, ["start", "votes", "toggle", "last"], _, [], [], s_counter_sums, 60, Mini.d_counter_sums, PySem.W.mg_of X G a3, .of F3, F3.binds (ps := ["start", "votes", "toggle", "last"]) (fun _ _ _ _ _ _ us hl => match us, hl with | [_, _, _, _], _ => rfl), .nil, .nil, sc_counter_sums, rfl, rfl, rfl, ck_counter_sums⟩⟩
    · cases h2
      cases h1
      exact ⟨⟨f4, _, ["start", "votes", "toggle", "last"], _, [], [], s_row_between, 60, Mini.d_row_between, PySem.W.mg_of X G a4, .of F4, F4.binds (ps := ["start", "votes", "toggle", "last"]) (fun _ _ _ _ _ _ us hl => match us, hl with | [_, _, _, _], _ => rfl), .nil, .nil, sc_row_between, rfl, rfl, rfl, ck_row_between⟩⟩
    · cases h2
      cases h1
      exact ⟨⟨f5, _, ["start", "votes", "toggle"], _, [], [], s_least_row, 60, Mini.d_least_row, PySem.W.mg_of X G a5, .of F5, F5.binds (ps := ["start", "votes", "toggle"]) (fun _ _ _ _ _ _ us hl => match us, hl with | [_, _, _], _ => rfl), .nil, .nil, sc_least_row, rfl, rfl, rfl, ck_least_row⟩⟩
    · cases h2
      cases h1
      exact ⟨⟨f6, _, ["start", "votes", "toggle"], _, [], [], s_greatest_row, 60, Mini.d_greatest_row, PySem.W.mg_of X G a6, .of F6, F6.binds (ps := ["start", "votes", "toggle"]) (fun _ _ _ _ _ _ us hl => match us, hl with | [_, _, _], _ => rfl), .nil, .nil, sc_greatest_row, rfl, rfl, rfl, ck_greatest_row⟩⟩
    · cases h2
      cases h1
      exact ⟨⟨f7, _, ["_law_script", "_law_place"], _, [], [], s__law_source, 60, Mini.d__law_source, PySem.W.mg_of X G a7, .of F7, F7.binds (ps := ["_law_script", "_law_place"]) (fun _ _ _ _ _ _ us hl => match us, hl with | [_, _], _ => rfl), .nil, .nil, sc__law_source, rfl, rfl, rfl, ck__law_source⟩⟩
    · cases h2
      cases h1
      exact ⟨⟨f8, _, ["_law_source_here", "_law_many"], _, [], [], s__law_draw, 60, Mini.d__law_draw, PySem.W.mg_of X G a8, .of F8, F8.binds (ps := ["_law_source_here", "_law_many"]) (fun _ _ _ _ _ _ us hl => match us, hl with | [_, _], _ => rfl), .nil, .nil, sc__law_draw, rfl, rfl, rfl, ck__law_draw⟩⟩
    · cases h2
      cases h1
      exact ⟨⟨f9, _, ["_law_source_here"], _, [], [], s__law_price, 60, Mini.d__law_price, PySem.W.mg_of X G a9, .of F9, F9.binds (ps := ["_law_source_here"]) (fun _ _ _ _ _ _ us hl => match us, hl with | [_], _ => rfl), .nil, .nil, sc__law_price, rfl, rfl, rfl, ck__law_price⟩⟩
  have hK : ∀ (f n : Nat) (x : Str) (ks : List Str) (fl : List (Option MV)), T.fns[f]? = some x → (f, n, ks, fl) ∈ T.kmodes → KEnt T (Mini.Wd reprPy) K mg f n x ks fl := fun f n x ks fl h1 h2 => by
    simp only [T, List.mem_cons, List.not_mem_nil, or_false] at h2
    · cases h2
      cases h1
      obtain ⟨g, hb⟩ := kb_of (ps := ["votes", "toggle", "last"]) F2 2 ["last"] [] [true] (by simp) (by simp) fun _ _ _ _ _ _ us mv ws hu hm hw => match us, mv, ws, hu, hm, hw with | [_, _], [], [_], _, _, _ => rfl
      exact ⟨⟨f2, _, ["votes", "toggle", "last"], _, g, _, s_backward, 60, Mini.d_backward, PySem.W.mg_of X G a2, .ofD F2, hb, (.cons trivial .nil), sc_backward, rfl, rfl, rfl, ck_backward⟩⟩
  exact ⟨_, fun s v => .of_eq rfl, fun base _ _ => fn_sound rfl (.of F21) sc_law rfl rfl rfl ck_law (glob_of rfl hz hE hK 12 11 (by decide))⟩
end Glue
end
open PySem PySem.W PyProof.Rows
set_option maxHeartbeats 0 in
theorem PySem.Challenge.cw_livecopy_k32_whole_best_rows_holds : PySem.Challenge.rw_livecopy_k32_whole_best_rows.Holds := by
  w_on; o_law; k_head; (case hw => w_witness2)
  k_fill
  refine DS.walkG (l := PySem.Challenge.rw_livecopy_k32_whole_best_rows) (n := 63) (k := 12) (fi := 21) (W := Mini.Wd DS.reprPy) (x := "_law_script") rfl (by decide) rfl ⟨rfl, by decide, by decide⟩ (fun w h Y => PySem.W.kIn_of Y) ?F Mini.law_run
  case F =>
    intro w mg fa h KX G hmg
    refine' Glue.all_mk KX G hmg ?a0 ?l0 ?c0 ?k0 ?a1 ?l1 ?c1 ?k1 ?a2 ?l2 ?c2 ?k2 ?q2_last ?a3 ?l3 ?c3 ?k3 ?a4 ?l4 ?c4 ?k4 ?a5 ?l5 ?c5 ?k5 ?a6 ?l6 ?c6 ?k6 ?a7 ?l7 ?c7 ?k7 ?a8 ?l8 ?c8 ?k8 ?a9 ?l9 ?c9 ?k9 ?a10 ?l10 ?c10 ?k10 ?a11 ?l11 ?c11 ?k11 ?a12 ?l12 ?c12 ?k12 ?a13 ?l13 ?c13 ?k13 ?a14 ?l14 ?c14 ?k14 ?a15 ?l15 ?c15 ?k15 ?a16 ?l16 ?c16 ?k16 ?a17 ?l17 ?c17 ?k17 ?a18 ?l18 ?c18 ?k18 ?a19 ?l19 ?c19 ?k19 ?a20 ?l20 ?c20 ?k20 ?a21 ?l21 ?c21 ?k21 ?z0 ?z1 ?z2 ?z3 ?z4 ?z5 ?z6 ?z7 ?z8 ?z9
    (case a0 => k_is); (case l0 => k_is); (case c0 => k_is); (case k0 => k_is); (case a1 => k_is); (case l1 => k_is); (case c1 => k_is); (case k1 => k_is); (case a2 => k_is); (case l2 => k_is); (case c2 => k_is); (case k2 => k_is); (case q2_last => k_is); (case a3 => k_is); (case l3 => k_is); (case c3 => k_is); (case k3 => k_is); (case a4 => k_is); (case l4 => k_is); (case c4 => k_is); (case k4 => k_is); (case a5 => k_is); (case l5 => k_is); (case c5 => k_is); (case k5 => k_is); (case a6 => k_is); (case l6 => k_is); (case c6 => k_is); (case k6 => k_is); (case a7 => k_is); (case l7 => k_is); (case c7 => k_is); (case k7 => k_is); (case a8 => k_is); (case l8 => k_is); (case c8 => k_is); (case k8 => k_is); (case a9 => k_is); (case l9 => k_is); (case c9 => k_is); (case k9 => k_is); (case a10 => k_is); (case l10 => k_is); (case c10 => k_is); (case k10 => k_is); (case a11 => k_is); (case l11 => k_is); (case c11 => k_is); (case k11 => k_is); (case a12 => k_is); (case l12 => k_is); (case c12 => k_is); (case k12 => k_is); (case a13 => k_is); (case l13 => k_is); (case c13 => k_is); (case k13 => k_is); (case a14 => k_is); (case l14 => k_is); (case c14 => k_is); (case k14 => k_is); (case a15 => k_is); (case l15 => k_is); (case c15 => k_is); (case k15 => k_is); (case a16 => k_is); (case l16 => k_is); (case c16 => k_is); (case k16 => k_is); (case a17 => k_is); (case l17 => k_is); (case c17 => k_is); (case k17 => k_is); (case a18 => k_is); (case l18 => k_is); (case c18 => k_is); (case k18 => k_is); (case a19 => k_is); (case l19 => k_is); (case c19 => k_is); (case k19 => k_is); (case a20 => k_is); (case l20 => k_is); (case c20 => k_is); (case k20 => k_is); (case a21 => k_is); (case l21 => k_is); (case c21 => k_is); (case k21 => k_is); (case z0 => k_is); (case z1 => k_is); (case z2 => k_is); (case z3 => k_is); (case z4 => k_is); (case z5 => k_is); (case z6 => k_is); (case z7 => k_is); (case z8 => k_is); (case z9 => k_is)
